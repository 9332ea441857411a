import PyProof.Rows.All
import Wide.All
import OpenK.AllK
import Wide.FinOn
import HandS.ForMost
import HandS.IsInst
import HandS.Wide
import HandS.Deep
import HandS.Style
import HandS.SortInts
import HandS.Rev
import HandS.RevTup
import HandS.Conv
import KE.LtSeq
import HandS.More
import HandS.Strs
import HandS.DictTup
import HandS.ClsMeth
import HandS.Defaults
import HandS.TupSets
import KE.DataFind
import HandS.Finally
import KE.KDictCopyH
import HandS.ForExc
import HandS.ExcIs
import KE.RegKIsAll
import KE.OsRunLaw
import HandS.Text
import HandS.FStr
import HandS.Zip
import PySem.Challenge.RW_knotless_k37_town_read
set_option Elab.async false
set_option linter.all false
set_option maxRecDepth 100000
set_option maxHeartbeats 4000000
set_option synthInstance.maxSize 2000
local macro_rules | `(tactic| k_head) => `(tactic| k_headL)
open PySem PySem.W PyProof.Rows in
set_option maxHeartbeats 0 in
open_top head0 for PySem.Challenge.rw_knotless_k37_town_read
namespace Kn
open PySem L2
/-! data: what a value reads as -/
inductive D where
  | non | bl (b : Bool) | int (i : Int) | str (x : Str)
  | lst (ds : List D) | tup (ds : List D)
  | dic (kds : List (Key × D))
  | obj (c : Str) (ds : List D)
  | hnd (g : Nat)
  | scr (ns : List Int)
/-- shared heap and the objects by number -/
structure Wd where
  hs : Hp
  tp : Addr → Option (List V)
  rho : Nat → Option V
structure Wd.le (W W' : Wd) : Prop where
  hs : ∀ a o, W.hs a = some o → W'.hs a = some o
  tp : ∀ a o, W.tp a = some o → W'.tp a = some o
  rho : ∀ g v, W.rho g = some v → W'.rho g = some v
theorem Wd.le.refl (W : Wd) : W.le W := ⟨fun _ _ h => h, fun _ _ h => h, fun _ _ h => h⟩
theorem Wd.le.trans {A B C : Wd} (h : A.le B) (k : B.le C) : A.le C := ⟨fun a o e => k.1 a o (h.1 a o e), fun a o e => k.2 a o (h.2 a o e), fun g v e => k.3 g v (h.3 g v e)⟩
abbrev CT := Str → Option (Addr × List Str)
mutual
inductive Rep (K : PySem.W.Frag) (ct : CT) (W : Wd) : V → D → Prop
  | non : Rep K ct W .non .non
  | bl (b : Bool) : Rep K ct W (.bl b) (.bl b)
  | int (i : Int) : Rep K ct W (.int i) (.int i)
  | str (x : Str) : Rep K ct W (.str x) (.str x)
  | lst {a : Addr} {vs : List V} {ds : List D} : W.hs a = some (.lst vs) → RepL K ct W vs ds → Rep K ct W (.ref a) (.lst ds)
  | tup {a : Addr} {vs : List V} {ds : List D} : W.tp a = some vs → RepL K ct W vs ds → Rep K ct W (.ref a) (.tup ds)
  | dic {a : Addr} {kvs : List (Key × V)} {kds : List (Key × D)} : W.hs a = some (.dK kvs) → kvs.map (·.1) = kds.map (·.1) → RepL K ct W (kvs.map (·.2)) (kds.map (·.2)) → Rep K ct W (.ref a) (.dic kds)
  | obj {a C dx : Addr} {fs : List (Str × V)} {c : Str} {ns : List Str} {ds : List D} : W.hs a = some (.ins C dx fs) → ct c = some (C, ns) → fs.map (·.1) = ns.take ds.length → RepL K ct W (fs.map (·.2)) ds → Rep K ct W (.ref a) (.obj c ds)
  | hnd {g : Nat} {v : V} : W.rho g = some v → Rep K ct W v (.hnd g)
  | scr {a : Addr} {ns : List Int} : SqL K W.hs a (ns.map V.int) → Rep K ct W (.ref a) (.scr ns)
inductive RepL (K : PySem.W.Frag) (ct : CT) (W : Wd) : List V → List D → Prop
  | nil : RepL K ct W [] []
  | cons {v : V} {vs : List V} {d : D} {ds : List D} : Rep K ct W v d → RepL K ct W vs ds → RepL K ct W (v :: vs) (d :: ds)
end
section
variable {K : PySem.W.Frag} {ct : CT} {W W' : Wd}
theorem sq_mono {H H' : Hp} {a : Addr} {xs : List V} (e : ∀ a o, H a = some o → H' a = some o) (h : SqL K H a xs) : SqL K H' a xs := Same.seq (K := K) e h
mutual
theorem Rep.mono (l : W.le W') : ∀ {v : V} {d : D}, Rep K ct W v d → Rep K ct W' v d
  | _, _, .non => .non
  | _, _, .bl b => .bl b
  | _, _, .int i => .int i
  | _, _, .str x => .str x
  | _, _, .lst h r => .lst (l.1 _ _ h) (RepL.mono l r)
  | _, _, .scr h => .scr (sq_mono l.1 h)
  | _, _, .tup h r => .tup (l.2 _ _ h) (RepL.mono l r)
  | _, _, .dic h n r => .dic (l.1 _ _ h) n (RepL.mono l r)
  | _, _, .obj h c n r => .obj (l.1 _ _ h) c n (RepL.mono l r)
  | _, _, .hnd h => .hnd (l.3 _ _ h)
theorem RepL.mono (l : W.le W') : ∀ {vs : List V} {ds : List D}, RepL K ct W vs ds → RepL K ct W' vs ds
  | _, _, .nil => .nil
  | _, _, .cons h r => .cons (Rep.mono l h) (RepL.mono l r)
end
theorem RepL.length : ∀ {vs : List V} {ds : List D}, RepL K ct W vs ds → vs.length = ds.length
  | _, _, .nil => rfl
  | _, _, .cons _ r => congrArg (· + 1) (RepL.length r)
theorem RepL.get : ∀ {vs : List V} {ds : List D} {i : Nat} {d : D}, RepL K ct W vs ds → ds[i]? = some d → ∃ v, vs[i]? = some v ∧ Rep K ct W v d
  | _, _, _, _, .nil, e => by simp at e
  | _, _, 0, _, .cons h _, e => by simp at e; subst e; exact ⟨_, rfl, h⟩
  | _, _, i + 1, _, .cons _ r, e => RepL.get (i := i) r (by simpa using e)
theorem RepL.append : ∀ {vs ws : List V} {ds es : List D}, RepL K ct W vs ds → RepL K ct W ws es → RepL K ct W (vs ++ ws) (ds ++ es)
  | _, _, _, _, .nil, s => s
  | _, _, _, _, .cons h r, s => .cons h (RepL.append r s)
theorem RepL.take : ∀ {vs : List V} {ds : List D} (n : Nat), RepL K ct W vs ds → RepL K ct W (vs.take n) (ds.take n)
  | _, _, 0, _ => .nil
  | _, _, _ + 1, .nil => .nil
  | _, _, n + 1, .cons h r => .cons h (RepL.take n r)
theorem RepL.drop : ∀ {vs : List V} {ds : List D} (n : Nat), RepL K ct W vs ds → RepL K ct W (vs.drop n) (ds.drop n)
  | _, _, 0, r => r
  | _, _, _ + 1, .nil => .nil
  | _, _, n + 1, .cons _ r => RepL.drop n r
theorem RepL.set : ∀ {vs : List V} {ds : List D} {v : V} {d : D} (i : Nat), RepL K ct W vs ds → Rep K ct W v d → RepL K ct W (vs.set i v) (ds.set i d)
  | _, _, _, _, _, .nil, _ => .nil
  | _, _, _, _, 0, .cons _ r, h => .cons h r
  | _, _, _, _, i + 1, .cons g r, h => .cons g (RepL.set i r h)
theorem RepL.reverse {vs : List V} {ds : List D} (r : RepL K ct W vs ds) : RepL K ct W vs.reverse ds.reverse := by
  induction vs generalizing ds with
  | nil => cases r; exact .nil
  | cons v vs ih =>
    cases r with
    | cons h r =>
      rw [List.reverse_cons, List.reverse_cons]
      exact (ih r).append (.cons h .nil)
theorem RepL.rep {vs : List V} {ds : List D} (r : RepL K ct W vs ds) : ∀ k : Nat, RepL K ct W (List.replicate k vs).flatten (List.replicate k ds).flatten
  | 0 => .nil
  | k + 1 => by
    rw [List.replicate_succ, List.replicate_succ, List.flatten_cons, List.flatten_cons]
    exact r.append (RepL.rep r k)
theorem RepL.ints : ∀ {vs : List V} {ns : List Int}, RepL K ct W vs (ns.map D.int) → vs = ns.map V.int
  | _, [], .nil => rfl
  | _, n :: ns, .cons h r => by
    have e := RepL.ints (ns := ns) r
    cases h
    rw [e]; rfl
theorem RepL.strs : ∀ {vs : List V} {ns : List Str}, RepL K ct W vs (ns.map D.str) → vs = ns.map V.str
  | _, [], .nil => rfl
  | _, n :: ns, .cons h r => by
    have e := RepL.strs (ns := ns) r
    cases h
    rw [e]; rfl
theorem RepL.of_ints : ∀ ns : List Int, RepL K ct W (ns.map V.int) (ns.map D.int)
  | [] => .nil
  | n :: ns => .cons (.int n) (RepL.of_ints ns)
end
/-! the state -/
inductive Lab where
  | slot (i : Nat) | ob (g : Nat)
  deriving DecidableEq
inductive Slot where
  | no | sh (d : D) | ow (d : D) | o2 (dss : List (List D)) | me (a : Addr) (d : D) | exc (a : Addr)
/-- a kind of object of the store -/
structure Kd where
  P : PySem.W.Frag → CT → Wd → Hp → V → D → Prop
  mono : ∀ {K ct W W' F v d}, P K ct W F v d → W.le W' → P K ct W' F v d
abbrev Sto := List (Kd × D)
section
variable (K : PySem.W.Frag) (ct : CT)
/-- a list, a dict or an instance of one's own at a -/
inductive Cell (W : Wd) (H : Hp) (a : Addr) : D → Prop
  | lst {vs : List V} {ds : List D} : H a = some (.lst vs) → RepL K ct W vs ds → Cell W H a (.lst ds)
  | dic {kvs : List (Key × V)} {kds : List (Key × D)} : H a = some (.dK kvs) → kvs.map (·.1) = kds.map (·.1) → RepL K ct W (kvs.map (·.2)) (kds.map (·.2)) → Cell W H a (.dic kds)
  | obj {C dx : Addr} {fs : List (Str × V)} {c : Str} {ns : List Str} {ds : List D} : H a = some (.ins C dx fs) → ct c = some (C, ns) → fs.map (·.1) = ns.take ds.length → RepL K ct W (fs.map (·.2)) ds → Cell W H a (.obj c ds)
/-- rows of one's own -/
inductive Rows (W : Wd) (H : Hp) (L : Addr → Option Lab) (l : Lab) : List V → List (List D) → Prop
  | nil : Rows W H L l [] []
  | cons {a : Addr} {vs : List V} {ds : List D} {ws : List V} {dss : List (List D)} : H a = some (.lst vs) → L a = some l → RepL K ct W vs ds → V.ref a ∉ ws → Rows W H L l ws dss → Rows W H L l (.ref a :: ws) (ds :: dss)
def SlotOk (W : Wd) (L : Addr → Option Lab) (H : Hp) (σ : St) (i : Nat) : Slot → Prop
  | .no => True
  | .sh d => ∃ v, σ[i]? = some (some v) ∧ Rep K ct W v d
  | .ow d => ∃ a, σ[i]? = some (some (.ref a)) ∧ L a = some (.slot i) ∧ Cell K ct W H a d
  | .me a d => σ[i]? = some (some (.ref a)) ∧ L a = some (.slot i) ∧ Cell K ct W H a d
  | .exc a => σ[i]? = some (some (.ref a))
  | .o2 dss => ∃ a ws, σ[i]? = some (some (.ref a)) ∧ L a = some (.slot i) ∧ H a = some (.lst ws) ∧ V.ref a ∉ ws ∧ Rows K ct W H L (.slot i) ws dss
structure Rel (F : Hp) (W : Wd) (L : Addr → Option Lab) (env : List Slot) (st : Sto) (σ : St) (H : Hp) : Prop where
  fr : ∀ a o, F a = some o → H a = some o ∧ L a = none ∧ W.hs a = none
  hs : ∀ a o, W.hs a = some o → H a = some o ∧ L a = none
  tp : ∀ a vs, W.tp a = some vs → H a = some (.tup vs)
  ob : ∀ g κ d, st[g]? = some (κ, d) → ∃ v, W.rho g = some v ∧ κ.P K ct W (fun a => if L a = some (.ob g) then H a else none) v d
  rh : ∀ g v, W.rho g = some v → g < st.length
  len : σ.length = env.length
  sl : ∀ i s, env[i]? = some s → SlotOk K ct W L H σ i s
end
inductive R where
  | sh (d : D) | ow (d : D) | bw (i : Nat) (d : D)
def R.d : R → D
  | .sh d => d
  | .ow d => d
  | .bw _ d => d
/-- a thing just made is shared at once -/
def R.pin : R → R
  | .ow d => .sh d
  | r => r
section
variable (K : PySem.W.Frag) (ct : CT)
def RepR (F : Hp) (W : Wd) (L : Addr → Option Lab) (H : Hp) (env : List Slot) (σ : St) (v : V) : R → Prop
  | .sh d => Rep K ct W v d
  | .ow d => ∃ a, v = .ref a ∧ L a = none ∧ W.hs a = none ∧ F a = none ∧ Cell K ct W H a d
  | .bw i d => env[i]? = some (.ow d) ∧ σ[i]? = some (some v)
/-- what stays readable -/
def RdR (W : Wd) (env : List Slot) (σ : St) (v : V) : R → Prop
  | .sh d => Rep K ct W v d
  | .ow _ => False
  | .bw i d => env[i]? = some (.ow d) ∧ σ[i]? = some (some v)
/-- readable as the heap is now -/
def RdH (W : Wd) (H : Hp) (v : V) (d : D) : Prop := Rep K ct W v d ∨ ∃ a, v = .ref a ∧ Cell K ct W H a d
end
section
variable {K : PySem.W.Frag} {ct : CT} {F H H' : Hp} {W W' : Wd} {L L' : Addr → Option Lab} {env : List Slot} {st : Sto} {σ : St} {v : V} {d : D} {r : R} {a p : Addr} {o : HO}
theorem Cell.mono {W W' : Wd} {H H' : Hp} (c : Cell K ct W H a d) (l : W.le W') (e : ∀ o, H a = some o → H' a = some o) : Cell K ct W' H' a d := by
  cases c with
  | lst h q => exact .lst (e _ h) (q.mono l)
  | dic h n q => exact .dic (e _ h) n (q.mono l)
  | obj h c n q => exact .obj (e _ h) c n (q.mono l)
theorem Cell.there (c : Cell K ct W H a d) : ∃ o, H a = some o := by
  cases c with
  | lst h q => exact ⟨_, h⟩
  | dic h n q => exact ⟨_, h⟩
  | obj h c n q => exact ⟨_, h⟩
theorem Rows.mono {W W' : Wd} {H H' : Hp} {L L' : Addr → Option Lab} {l : Lab} (lw : W.le W') (e : ∀ a o, L a = some l → H a = some o → H' a = some o ∧ L' a = some l) : ∀ {ws : List V} {dss : List (List D)}, Rows K ct W H L l ws dss → Rows K ct W' H' L' l ws dss
  | _, _, .nil => .nil
  | _, _, .cons h hl q n r => .cons (e _ _ hl h).1 (e _ _ hl h).2 (q.mono lw) n (Rows.mono lw e r)
/-- more shared, labels of what is there kept, what is there kept -/
theorem SlotOk.mono {W W' : Wd} {H H' : Hp} {L L' : Addr → Option Lab} {σ : St} {i : Nat} (lw : W.le W') (e : ∀ a o, L a = some (.slot i) → H a = some o → H' a = some o ∧ L' a = some (.slot i)) : ∀ {s : Slot}, SlotOk K ct W L H σ i s → SlotOk K ct W' L' H' σ i s
  | .no, _ => trivial
  | .sh d, ⟨v, h, q⟩ => ⟨v, h, q.mono lw⟩
  | .ow d, ⟨a, h, hl, c⟩ => by
    obtain ⟨o, ho⟩ := c.there
    exact ⟨a, h, (e a o hl ho).2, c.mono lw fun o h => (e a o hl h).1⟩
  | .me a d, ⟨h, hl, c⟩ => by
    obtain ⟨o, ho⟩ := c.there
    exact ⟨h, (e a o hl ho).2, c.mono lw fun o h => (e a o hl h).1⟩
  | .exc a, h => h
  | .o2 dss, ⟨a, ws, h, hl, hc, n, rr⟩ => ⟨a, ws, h, (e a _ hl hc).2, (e a _ hl hc).1, n, rr.mono lw e⟩
/-- the heap grows, nothing that was tracked is changed -/
theorem Rel.grow (I : Rel K ct F W L env st σ H) (e : ∀ a o, H a = some o → H' a = some o) : Rel K ct F W (fun a => if (H a).isSome then L a else none) env st σ H' := by
  have lab : ∀ a o, H a = some o → (if (H a).isSome then L a else none) = L a := fun a o h => by rw [h]; rfl
  refine ⟨fun a o h => ?_, fun a o h => ?_, fun a vs h => e a _ (I.tp a vs h), fun g κ d h => ?_, I.rh, I.len, fun i s h => ?_⟩
  · obtain ⟨h1, h2, h3⟩ := I.fr a o h
    exact ⟨e a o h1, (lab a o h1).trans h2, h3⟩
  · obtain ⟨h1, h2⟩ := I.hs a o h
    exact ⟨e a o h1, (lab a o h1).trans h2⟩
  · obtain ⟨v, h1, h2⟩ := I.ob g κ d h
    refine ⟨v, h1, ?_⟩
    have q : (fun a => if (if (H a).isSome then L a else none) = some (Lab.ob g) then H' a else none) = fun a => if L a = some (.ob g) then H a else none := by
      funext a
      cases h : H a with
      | none => simp
      | some o => simp [e a o h]
    rw [q]; exact h2
  · exact (I.sl i s h).mono (Wd.le.refl W) fun a o hl ho => ⟨e a o ho, (lab a o ho).trans hl⟩
/-- an object that is nobody's is shared -/
def Wd.add (W : Wd) (p : Addr) (o : HO) : Wd := ⟨upd W.hs p o, W.tp, W.rho⟩
def Wd.addT (W : Wd) (p : Addr) (vs : List V) : Wd := ⟨W.hs, fun a => if a = p then some vs else W.tp a, W.rho⟩
theorem Rel.le_add (I : Rel K ct F W L env st σ H) (h : H p = some o) : W.le (W.add p o) := by
  refine ⟨fun a u e => ?_, fun _ _ e => e, fun _ _ e => e⟩
  by_cases hp : a = p
  · subst hp
    have := (I.hs a u e).1
    rw [h] at this; cases this
    exact upd_same
  · show upd W.hs p o a = some u
    rw [upd_ne hp]; exact e
theorem Rel.share (I : Rel K ct F W L env st σ H) (h : H p = some o) (hl : L p = none) (hf : F p = none) : Rel K ct F (W.add p o) L env st σ H := by
  have le := I.le_add h
  refine ⟨fun a u e => ?_, fun a u e => ?_, I.tp, fun g κ d e => ?_, I.rh, I.len, fun i s e => (I.sl i s e).mono le fun a o hl ho => ⟨ho, hl⟩⟩
  · obtain ⟨h1, h2, h3⟩ := I.fr a u e
    refine ⟨h1, h2, ?_⟩
    have : a ≠ p := by rintro rfl; rw [hf] at e; cases e
    show upd W.hs p o a = none
    rw [upd_ne this]; exact h3
  · by_cases hp : a = p
    · subst hp
      have e : upd W.hs a o a = some u := e
      rw [upd_same] at e; cases e
      exact ⟨h, hl⟩
    · have e : upd W.hs p o a = some u := e
      rw [upd_ne hp] at e
      exact I.hs a u e
  · obtain ⟨v, h1, h2⟩ := I.ob g κ d e
    exact ⟨v, h1, κ.mono h2 le⟩
/-- a tuple is shared -/
theorem Rel.shareT {vs : List V} (I : Rel K ct F W L env st σ H) (h : H p = some (.tup vs)) : W.le (W.addT p vs) ∧ Rel K ct F (W.addT p vs) L env st σ H ∧ (W.addT p vs).tp p = some vs := by
  have le : W.le (W.addT p vs) := by
    refine ⟨fun _ _ e => e, fun a u e => ?_, fun _ _ e => e⟩
    show (if a = p then some vs else W.tp a) = some u
    by_cases hp : a = p
    · subst hp
      have := I.tp a u e
      rw [h] at this; cases this
      exact if_pos rfl
    · rw [if_neg hp]; exact e
  refine ⟨le, ⟨I.fr, I.hs, fun a u e => ?_, fun g κ d e => ?_, I.rh, I.len, fun i s e => (I.sl i s e).mono le fun a o hl ho => ⟨ho, hl⟩⟩, if_pos rfl⟩
  · have e : (if a = p then some vs else W.tp a) = some u := e
    by_cases hp : a = p
    · rw [if_pos hp] at e; cases e; rw [hp]; exact h
    · rw [if_neg hp] at e; exact I.tp a u e
  · obtain ⟨v, h1, h2⟩ := I.ob g κ d e
    exact ⟨v, h1, κ.mono h2 le⟩
/-- a new object -/
theorem Rel.laid (I : Rel K ct F W L env st σ H) (hp : H p = none) : Rel K ct F W (fun a => if (H a).isSome then L a else none) env st σ (upd H p o) ∧ (if (H p).isSome then L p else none) = none ∧ W.hs p = none ∧ F p = none := by
  refine ⟨I.grow fun a u e => by rw [upd_ne (ne_of_none e hp)]; exact e, by rw [hp]; rfl, ?_, ?_⟩
  · cases q : W.hs p with
    | none => rfl
    | some u => have := (I.hs p u q).1; rw [hp] at this; cases this
  · cases q : F p with
    | none => rfl
    | some u => have := (I.fr p u q).1; rw [hp] at this; cases this
/-- what was just made is shared -/
theorem Rel.pin (I : Rel K ct F W L env st σ H) (h : RepR K ct F W L H env σ v r) : ∃ W', W.le W' ∧ Rel K ct F W' L env st σ H ∧ RdR K ct W' env σ v r.pin := by
  cases r with
  | sh d => exact ⟨W, .refl W, I, h⟩
  | bw i d => exact ⟨W, .refl W, I, h⟩
  | ow d =>
    obtain ⟨a, rfl, hl, hw, hf, c⟩ := h
    cases c with
    | lst e q =>
      have le := I.le_add e
      refine ⟨_, le, I.share e hl hf, .lst ?_ (q.mono le)⟩
      exact upd_same
    | dic e n q =>
      have le := I.le_add e
      refine ⟨_, le, I.share e hl hf, .dic ?_ n (q.mono le)⟩
      exact upd_same
    | obj e c n q =>
      have le := I.le_add e
      exact ⟨_, le, I.share e hl hf, Rep.obj (show (W.add a _).hs a = some _ from upd_same) c n (q.mono le)⟩
theorem RdR.mono {W W' : Wd} (h : RdR K ct W env σ v r) (l : W.le W') : RdR K ct W' env σ v r := by
  cases r with
  | sh d => exact Rep.mono l h
  | ow d => exact h
  | bw i d => exact h
theorem Rel.look (I : Rel K ct F W L env st σ H) (h : RdR K ct W env σ v r) : RdH K ct W H v r.d := by
  cases r with
  | sh d => exact .inl h
  | ow d => exact h.elim
  | bw i d =>
    obtain ⟨h1, h2⟩ := h
    obtain ⟨a, e, _, c⟩ := I.sl i _ h1
    rw [h2] at e; cases e
    exact .inr ⟨a, rfl, c⟩
theorem RdH.list {ds : List D} (h : RdH K ct W H v (.lst ds)) (I : Rel K ct F W L env st σ H) : ∃ a vs, v = .ref a ∧ H a = some (.lst vs) ∧ RepL K ct W vs ds := by
  rcases h with h | ⟨a, rfl, c⟩
  · cases h with
    | lst h q => exact ⟨_, _, rfl, (I.hs _ _ h).1, q⟩
  · cases c with
    | lst h q => exact ⟨a, _, rfl, h, q⟩
/-- the items of a list -/
def D.seqL : D → Option (List D)
  | .lst ds => some ds
  | .scr ns => some (ns.map D.int)
  | _ => none
theorem RdH.seqL {ds : List D} (h : RdH K ct W H v d) (e : d.seqL = some ds) (I : Rel K ct F W L env st σ H) : ∃ a vs, v = .ref a ∧ SqL K H a vs ∧ RepL K ct W vs ds := by
  cases d <;> simp only [D.seqL, Option.some.injEq, reduceCtorEq] at e
  · subst e
    obtain ⟨a, vs, e1, e2, e3⟩ := h.list I
    exact ⟨a, vs, e1, SqL.of e2, e3⟩
  · subst e
    rcases h with h | ⟨a, rfl, c⟩
    · cases h with
      | scr h => exact ⟨_, _, rfl, sq_mono (fun a o e => (I.hs a o e).1) h, RepL.of_ints _⟩
    · cases c
theorem RdH.tup {ds : List D} (h : RdH K ct W H v (.tup ds)) (I : Rel K ct F W L env st σ H) : ∃ a vs, v = .ref a ∧ H a = some (.tup vs) ∧ RepL K ct W vs ds := by
  rcases h with h | ⟨a, rfl, c⟩
  · cases h with
    | tup h q => exact ⟨_, _, rfl, I.tp _ _ h, q⟩
  · cases c
theorem RdH.int {i : Int} (h : RdH K ct W H v (.int i)) : v = .int i := by
  rcases h with h | ⟨a, rfl, c⟩
  · cases h; rfl
  · cases c
theorem RdH.bl {i : Bool} (h : RdH K ct W H v (.bl i)) : v = .bl i := by
  rcases h with h | ⟨a, rfl, c⟩
  · cases h; rfl
  · cases c
theorem RdH.str {i : Str} (h : RdH K ct W H v (.str i)) : v = .str i := by
  rcases h with h | ⟨a, rfl, c⟩
  · cases h; rfl
  · cases c
theorem RdH.non (h : RdH K ct W H v .non) : v = .non := by
  rcases h with h | ⟨a, rfl, c⟩
  · cases h; rfl
  · cases c
end
/-! readings by functions -/
abbrev Sem := List Slot → Sto → Option (R × Sto)
abbrev SemA := List Slot → Sto → Option (List R × Sto)
section
variable (K : PySem.W.Frag) (ct : CT)
def tE (e : Sem) : TE := fun σ H Q => ∃ F W L env st r st', Rel K ct F W L env st σ H ∧ e env st = some (r, st') ∧
  ∀ v H' W' L', W.le W' → Rel K ct F W' L' env st' σ H' → RepR K ct F W' L' H' env σ v r → Q v H'
def tT (e : Sem) : TT := fun σ H Q => ∃ F W L env st b st', Rel K ct F W L env st σ H ∧ e env st = some (.sh (.bl b), st') ∧
  ∀ H' W' L', W.le W' → Rel K ct F W' L' env st' σ H' → Q b H'
inductive RdRs (W : Wd) (env : List Slot) (σ : St) : List V → List R → Prop
  | nil : RdRs W env σ [] []
  | cons {v : V} {vs : List V} {r : R} {rs : List R} : RdR K ct W env σ v r → RdRs W env σ vs rs → RdRs W env σ (v :: vs) (r :: rs)
def tA (e : SemA) : TA := fun σ H Q => ∃ F W L env st rs st', Rel K ct F W L env st σ H ∧ e env st = some (rs, st') ∧
  ∀ vs H' W' L', W.le W' → Rel K ct F W' L' env st' σ H' → RdRs K ct W' env σ vs rs → Q vs H'
end
structure SE (X : Cx) (ct : CT) (x : Expr) (e : Sem) : Prop where
  pe : PE X x (tE X.K ct e)
structure ST (X : Cx) (ct : CT) (x : Expr) (e : Sem) : Prop where
  pt : PT X x (tT X.K ct e)
structure SW (X : Cx) (ct : CT) (x : Expr) (e : Sem) : Prop where
  pw : PW X x (tT X.K ct e)
structure SA (X : Cx) (ct : CT) (xs : List Expr) (e : SemA) : Prop where
  pa : PA X xs (tA X.K ct e)
theorem pe_mono {X : Cx} {x : Expr} {t t' : TE} (h : PE X x t) (k : ∀ σ H Q, t' σ H Q → t σ H Q) : PE X x t' := ⟨fun pins s σ H Q I q => h.run pins s σ H Q I (k σ H Q q)⟩
theorem pt_mono {X : Cx} {x : Expr} {t t' : TT} (h : PT X x t) (k : ∀ σ H Q, t' σ H Q → t σ H Q) : PT X x t' := ⟨fun pins s σ H Q I q => h.run pins s σ H Q I (k σ H Q q)⟩
theorem pw_mono {X : Cx} {x : Expr} {t t' : TT} (h : PW X x t) (k : ∀ σ H Q, t' σ H Q → t σ H Q) : PW X x t' := ⟨fun wh pins s σ H Q I q => h.run wh pins s σ H Q I (k σ H Q q)⟩
theorem pa_mono {X : Cx} {x : List Expr} {t t' : TA} (h : PA X x t) (k : ∀ σ H Q, t' σ H Q → t σ H Q) : PA X x t' := ⟨fun pos pins s σ H Q I q => h.run pos pins s σ H Q I (k σ H Q q)⟩
theorem RdRs.mono {K : PySem.W.Frag} {ct : CT} {W W' : Wd} {env : List Slot} {σ : St} (l : W.le W') : ∀ {vs : List V} {rs : List R}, RdRs K ct W env σ vs rs → RdRs K ct W' env σ vs rs
  | _, _, .nil => .nil
  | _, _, .cons h r => .cons (h.mono l) (RdRs.mono l r)
end Kn
namespace Kn
open PySem L2
section
variable {X : Cx} {ct : CT} {pos : Pos}
theorem R.pin_d (r : R) : r.pin.d = r.d := by cases r <;> rfl
/-! names and constants -/
def eVar (i : Nat) : Sem := fun env st => match env[i]? with
  | some (.sh d) => some (.sh d, st)
  | some (.ow d) => some (.bw i d, st)
  | _ => none
def eC (d : D) : Sem := fun _ st => some (.sh d, st)
theorem se_var (i : Nat) {x : Str} (hN : X.N[i]? = some x := by rfl) (hv : Vis X.env.scope x := by first | exact Or.inl rfl | exact Or.inr (Or.inl rfl) | exact Or.inr (Or.inr rfl)) (hd : (x == ("__debug__" : Str)) = false := by decide)
    (hcd : (x == ("__classdict__" : Str)) = false := by decide) : SE X ct (.Name x pos) (eVar i) := by
  refine ⟨pe_mono (pe_var hN hv hd hcd) fun σ H Q ⟨F, W, L, env, st, r, st', I, e, k⟩ => ?_⟩
  unfold eVar at e
  split at e
  · rename_i d he
    cases e
    obtain ⟨v, h1, h2⟩ := I.sl i _ he
    exact ⟨v, h1, k v H W L (.refl W) I h2⟩
  · rename_i d he
    cases e
    obtain ⟨a, h1, h2⟩ := I.sl i _ he
    exact ⟨_, h1, k _ H W L (.refl W) I ⟨he, h1⟩⟩
  · cases e
theorem se_const {x : Expr} {v : V} {d : D} (h : PE X x (tC v)) (r : ∀ W, Rep X.K ct W v d) : SE X ct x (eC d) := by
  refine ⟨pe_mono h fun σ H Q ⟨F, W, L, env, st, r', st', I, e, k⟩ => ?_⟩
  cases e
  exact k v H W L (.refl W) I (r W)
theorem se_int {i j} : SE X ct (.Constant (.int i) j pos) (eC (.int i)) := se_const pe_int fun _ => .int i
theorem se_bl {i j} : SE X ct (.Constant (.bool i) j pos) (eC (.bl i)) := se_const pe_bl fun _ => .bl i
theorem se_str {i j} : SE X ct (.Constant (.str i) j pos) (eC (.str i)) := se_const pe_str fun _ => .str i
/-! two operands -/
def e2 (f : D → D → Option R) (a b : Sem) : Sem := fun env st => (a env st).bind fun p => (b env p.2).bind fun q => (f p.1.d q.1.d).map fun r => (r, q.2)
def e1 (f : D → Option R) (a : Sem) : Sem := fun env st => (a env st).bind fun p => (f p.1.d).map fun r => (r, p.2)
def OpS (K : PySem.W.Frag) (ct : CT) (rr : R2) (f : D → D → Option R) : Prop := ∀ F W L env st σ H x y d1 d2 r Q, Rel K ct F W L env st σ H → RdH K ct W H x d1 → RdH K ct W H y d2 → f d1 d2 = some r →
  (∀ v H' W' L', W.le W' → Rel K ct F W' L' env st σ H' → RepR K ct F W' L' H' env σ v r → Q v H') → rr x y H Q
def UnS (K : PySem.W.Frag) (ct : CT) (rr : V → Hp → VK → Prop) (f : D → Option R) : Prop := ∀ F W L env st σ H x d1 r Q, Rel K ct F W L env st σ H → RdH K ct W H x d1 → f d1 = some r →
  (∀ v H' W' L', W.le W' → Rel K ct F W' L' env st σ H' → RepR K ct F W' L' H' env σ v r → Q v H') → rr x H Q
theorem bind2 {α β : Type} {o : Option α} {f : α → Option β} {b : β} (h : o.bind f = some b) : ∃ a, o = some a ∧ f a = some b := by
  cases o with
  | none => cases h
  | some a => exact ⟨a, rfl, h⟩
theorem map2 {α β : Type} {o : Option α} {f : α → β} {b : β} (h : o.map f = some b) : ∃ a, o = some a ∧ f a = b := by
  cases o with
  | none => cases h
  | some a => exact ⟨a, rfl, Option.some.inj h⟩
theorem tE_e2 {K : PySem.W.Frag} {rr : R2} {f : D → D → Option R} {a b : Sem} (os : OpS K ct rr f) {σ : St} {H : Hp} {Q : VK} (h : tE K ct (e2 f a b) σ H Q) : tOp rr (tE K ct a) (tE K ct b) σ H Q := by
  obtain ⟨F, W, L, env, st, r, st', I, e, k⟩ := h
  obtain ⟨⟨r1, st1⟩, h1, e⟩ := bind2 e
  obtain ⟨⟨r2, st2⟩, h2, e⟩ := bind2 e
  obtain ⟨r3, h3, e⟩ := map2 e
  cases e
  refine ⟨F, W, L, env, st, r1, st1, I, h1, fun x H1 W1 L1 l1 I1 p1 => ?_⟩
  obtain ⟨W1', m1, J1, q1⟩ := I1.pin p1
  refine ⟨F, W1', L1, env, st1, r2, st2, J1, h2, fun y H2 W2 L2 l2 I2 p2 => ?_⟩
  obtain ⟨W2', m2, J2, q2⟩ := I2.pin p2
  have q1' := J2.look (q1.mono (l2.trans m2))
  have q2' := J2.look q2
  rw [R.pin_d] at q1' q2'
  exact os F W2' L2 env st2 σ H2 x y _ _ _ Q J2 q1' q2' h3 fun v H' W' L' l' I' p' => k v H' W' L' (l1.trans (m1.trans (l2.trans (m2.trans l')))) I' p'
theorem tE_e1 {K : PySem.W.Frag} {rr : V → Hp → VK → Prop} {f : D → Option R} {a : Sem} (os : UnS K ct rr f) {σ : St} {H : Hp} {Q : VK} (h : tE K ct (e1 f a) σ H Q) : tUn rr (tE K ct a) σ H Q := by
  obtain ⟨F, W, L, env, st, r, st', I, e, k⟩ := h
  obtain ⟨⟨r1, st1⟩, h1, e⟩ := bind2 e
  obtain ⟨r3, h3, e⟩ := map2 e
  cases e
  refine ⟨F, W, L, env, st, r1, st1, I, h1, fun x H1 W1 L1 l1 I1 p1 => ?_⟩
  obtain ⟨W1', m1, J1, q1⟩ := I1.pin p1
  have q1' := J1.look q1
  rw [R.pin_d] at q1'
  exact os F W1' L1 env st1 σ H1 x _ _ Q J1 q1' h3 fun v H' W' L' l' I' p' => k v H' W' L' (l1.trans (m1.trans l')) I' p'
theorem se_op {op : Operator} {rr : R2} {f : D → D → Option R} {x y : Expr} {a b : Sem} (ho : OpR X (binaryOp op) rr) (os : OpS X.K ct rr f) (ha : SE X ct x a) (hb : SE X ct y b) : SE X ct (.BinOp x op y pos) (e2 f a b) :=
  ⟨pe_mono (pe_op ho ha.pe hb.pe) fun _ _ _ h => tE_e2 os h⟩
theorem tT_tE {K : PySem.W.Frag} {a : Sem} {σ : St} {H : Hp} {Q : Bool → Hp → Prop} (h : tT K ct a σ H Q) : tE K ct a σ H (fun x H' => ∃ k, x = .bl k ∧ Q k H') := by
  obtain ⟨F, W, L, env, st, b, st', I, e, k⟩ := h
  refine ⟨F, W, L, env, st, _, st', I, e, fun v H' W' L' l I' p => ⟨b, ?_, k H' W' L' l I'⟩⟩
  cases (show Rep K ct W' v (.bl b) from p)
  rfl
theorem st_cmp {op : CmpOp} {rr : R2} {f : D → D → Option R} {x y : Expr} {a b : Sem} (ho : OpR X (compareOp op) rr) (os : OpS X.K ct rr f) (hm : behindInMarks op y = false) (ha : SE X ct x a) (hb : SE X ct y b) : ST X ct (.Compare x [op] [y] pos) (e2 f a b) :=
  ⟨pt_mono (pt_cmpR ho ha.pe hb.pe hm) fun _ _ _ h => tE_e2 os (tT_tE h)⟩
/-- a truth as a test -/
theorem st_val {x : Expr} {a : Sem} (h : SE X ct x a) (he : ∀ whole, isTrue x X.env whole = (do let v ← whole; standAt x.pos; holding [v] (truthy v)) := by intro _; rfl) : ST X ct x a :=
  ⟨pt_mono (pt_val h.pe he) fun _ _ _ h => tT_tE h⟩
/-! chains: a op b op' c -/
def eChain (f g : D → D → Option R) (a b c : Sem) : Sem := fun env st => (a env st).bind fun p => (b env p.2).bind fun q => (f p.1.d q.1.d).bind fun r => match r with
  | .sh (.bl true) => (c env q.2).bind fun u => (g q.1.d u.1.d).map fun r => (r, u.2)
  | .sh (.bl false) => some (.sh (.bl false), q.2)
  | _ => none
theorem tE_chain {K : PySem.W.Frag} {rr rr' : R2} {f g : D → D → Option R} {a b c : Sem} (os : OpS K ct rr f) (os' : OpS K ct rr' g) {σ : St} {H : Hp} {Q : VK} (h : tE K ct (eChain f g a b c) σ H Q) : tChain rr rr' (tE K ct a) (tE K ct b) (tE K ct c) σ H Q := by
  obtain ⟨F, W, L, env, st, r, st', I, e, k⟩ := h
  obtain ⟨⟨r1, st1⟩, h1, e⟩ := bind2 e
  obtain ⟨⟨r2, st2⟩, h2, e⟩ := bind2 e
  obtain ⟨r3, h3, e⟩ := bind2 e
  refine ⟨F, W, L, env, st, r1, st1, I, h1, fun x H1 W1 L1 l1 I1 p1 => ?_⟩
  obtain ⟨W1', m1, J1, q1⟩ := I1.pin p1
  refine ⟨F, W1', L1, env, st1, r2, st2, J1, h2, fun y H2 W2 L2 l2 I2 p2 => ?_⟩
  obtain ⟨W2', m2, J2, q2⟩ := I2.pin p2
  have q1' := J2.look (q1.mono (l2.trans m2))
  have q2' := J2.look q2
  rw [R.pin_d] at q1' q2'
  refine os F W2' L2 env st2 σ H2 x y _ _ _ _ J2 q1' q2' h3 fun v H3 W3 L3 l3 I3 p3 => ?_
  have le3 := l1.trans (m1.trans (l2.trans (m2.trans l3)))
  cases r3 with
  | ow d => cases e
  | bw i d => cases e
  | sh d =>
    cases d with
    | bl b =>
      cases (show Rep K ct W3 v (.bl b) from p3)
      refine ⟨b, rfl, ?_⟩
      cases b with
      | false =>
        cases e
        exact iteF (k _ _ _ _ le3 I3 (.bl false))
      | true =>
        refine iteT ?_
        obtain ⟨⟨r4, st4⟩, h4, e⟩ := bind2 e
        obtain ⟨r5, h5, e⟩ := map2 e
        cases e
        refine ⟨F, W3, L3, env, st2, r4, st4, I3, h4, fun z H4 W4 L4 l4 I4 p4 => ?_⟩
        obtain ⟨W4', m4, J4, q4⟩ := I4.pin p4
        have q4' := J4.look q4
        have q2'' := J4.look (q2.mono (l3.trans (l4.trans m4)))
        rw [R.pin_d] at q4' q2''
        exact os' F W4' L4 env st4 σ H4 y z _ _ _ Q J4 q2'' q4' h5 fun v H' W' L' l' I' p' => k v H' W' L' (le3.trans (l4.trans (m4.trans l'))) I' p'
    | _ => cases e
theorem st_chain {op op' : CmpOp} {rr rr' : R2} {f g : D → D → Option R} {x y z : Expr} {a b c : Sem} (ho : OpR X (compareOp op) rr) (os : OpS X.K ct rr f) (ho' : OpR X (compareOp op') rr') (os' : OpS X.K ct rr' g) (ha : SE X ct x a) (hb : SE X ct y b) (hc : SE X ct z c)
    (hm : lastMarks [op, op'] [y, z] = false := by with_unfolding_all rfl) : ST X ct (.Compare x [op, op'] [y, z] pos) (eChain f g a b c) := ⟨pt_mono (pt_chain ho ho' ha.pe hb.pe hc.pe hm) fun _ _ _ h => tE_chain os os' (tT_tE h)⟩
/-! and, or, not, if-else -/
def eAnd (a b : Sem) : Sem := fun env st => (a env st).bind fun p => match p.1 with
  | .sh (.bl true) => b env p.2
  | .sh (.bl false) => some (.sh (.bl false), p.2)
  | _ => none
def eOr (a b : Sem) : Sem := fun env st => (a env st).bind fun p => match p.1 with
  | .sh (.bl false) => b env p.2
  | .sh (.bl true) => some (.sh (.bl true), p.2)
  | _ => none
def eNot (a : Sem) : Sem := fun env st => (a env st).bind fun p => match p.1 with
  | .sh (.bl b) => some (.sh (.bl (!b)), p.2)
  | _ => none
def eIf (c a b : Sem) : Sem := fun env st => (c env st).bind fun p => match p.1 with
  | .sh (.bl true) => a env p.2
  | .sh (.bl false) => b env p.2
  | _ => none
theorem eAnd_inv {a b : Sem} {env st r st'} (h : eAnd a b env st = some (r, st')) : (∃ st1, a env st = some (.sh (.bl true), st1) ∧ b env st1 = some (r, st')) ∨ (a env st = some (.sh (.bl false), st') ∧ r = .sh (.bl false)) := by
  obtain ⟨⟨r1, st1⟩, h1, h⟩ := bind2 h
  cases r1 with
  | sh d =>
    cases d with
    | bl b =>
      cases b with
      | true => exact .inl ⟨st1, h1, h⟩
      | false => cases h; exact .inr ⟨h1, rfl⟩
    | _ => cases h
  | _ => cases h
theorem eOr_inv {a b : Sem} {env st r st'} (h : eOr a b env st = some (r, st')) : (∃ st1, a env st = some (.sh (.bl false), st1) ∧ b env st1 = some (r, st')) ∨ (a env st = some (.sh (.bl true), st') ∧ r = .sh (.bl true)) := by
  obtain ⟨⟨r1, st1⟩, h1, h⟩ := bind2 h
  cases r1 with
  | sh d =>
    cases d with
    | bl b =>
      cases b with
      | false => exact .inl ⟨st1, h1, h⟩
      | true => cases h; exact .inr ⟨h1, rfl⟩
    | _ => cases h
  | _ => cases h
theorem eNot_inv {a : Sem} {env st r st'} (h : eNot a env st = some (r, st')) : ∃ k, a env st = some (.sh (.bl k), st') ∧ r = .sh (.bl (!k)) := by
  obtain ⟨⟨r1, st1⟩, h1, h⟩ := bind2 h
  cases r1 with
  | sh d =>
    cases d with
    | bl k => cases h; exact ⟨k, h1, rfl⟩
    | _ => cases h
  | _ => cases h
theorem st_not {x : Expr} {a : Sem} (h : ST X ct x a) : ST X ct (.UnaryOp .Not x pos) (eNot a) := by
  refine ⟨pt_mono (pt_not h.pt) fun σ H Q ⟨F, W, L, env, st, b, st', I, e, k⟩ => ?_⟩
  obtain ⟨k', h1, h2⟩ := eNot_inv e
  cases h2
  refine ⟨F, W, L, env, st, k', st', I, h1, fun H' W' L' l I' => ?_⟩
  exact k H' W' L' l I'
theorem se_not {x : Expr} {a : Sem} (h : SE X ct x a) : SE X ct (.UnaryOp .Not x pos) (eNot a) := by
  refine ⟨pe_mono (pe_not h.pe) fun σ H Q ⟨F, W, L, env, st, r, st', I, e, k⟩ => ?_⟩
  obtain ⟨k', h1, h2⟩ := eNot_inv e
  cases h2
  refine ⟨F, W, L, env, st, _, st', I, h1, fun v H' W' L' l I' p => ?_⟩
  cases (show Rep X.K ct W' v (.bl k') from p)
  exact ⟨k', rfl, k _ H' W' L' l I' (.bl _)⟩
variable {rest : List Expr} {x y : Expr} {a b c : Sem}
theorem sw_and1 (h : ST X ct x a) : SW X ct (.BoolOp .And [x] pos) a := ⟨pw_and1 h.pt⟩
theorem sw_or1 (h : ST X ct x a) : SW X ct (.BoolOp .Or [x] pos) a := ⟨pw_or1 h.pt⟩
theorem sw_and (h : ST X ct x a) (k : SW X ct (.BoolOp .And (y :: rest) pos) b) : SW X ct (.BoolOp .And (x :: y :: rest) pos) (eAnd a b) := by
  refine ⟨pw_mono (pw_and h.pt k.pw) fun σ H Q ⟨F, W, L, env, st, r, st', I, e, k⟩ => ?_⟩
  rcases eAnd_inv e with ⟨st1, h1, h2⟩ | ⟨h1, h2⟩
  · refine ⟨F, W, L, env, st, true, st1, I, h1, fun H' W' L' l I' => ?_⟩
    exact iteT ⟨F, W', L', env, st1, r, st', I', h2, fun H2 W2 L2 l2 I2 => k H2 W2 L2 (l.trans l2) I2⟩
  · cases h2
    refine ⟨F, W, L, env, st, false, st', I, h1, fun H' W' L' l I' => ?_⟩
    exact iteF (k H' W' L' l I')
theorem sw_or (h : ST X ct x a) (k : SW X ct (.BoolOp .Or (y :: rest) pos) b) : SW X ct (.BoolOp .Or (x :: y :: rest) pos) (eOr a b) := by
  refine ⟨pw_mono (pw_or h.pt k.pw) fun σ H Q ⟨F, W, L, env, st, r, st', I, e, k⟩ => ?_⟩
  rcases eOr_inv e with ⟨st1, h1, h2⟩ | ⟨h1, h2⟩
  · refine ⟨F, W, L, env, st, false, st1, I, h1, fun H' W' L' l I' => ?_⟩
    exact iteF ⟨F, W', L', env, st1, r, st', I', h2, fun H2 W2 L2 l2 I2 => k H2 W2 L2 (l.trans l2) I2⟩
  · cases h2
    refine ⟨F, W, L, env, st, true, st', I, h1, fun H' W' L' l I' => ?_⟩
    exact iteT (k H' W' L' l I')
theorem se_one {op} (h : SE X ct x a) : SE X ct (.BoolOp op [x] pos) a := ⟨pe_one h.pe⟩
theorem se_and (h : SE X ct x a) (k : SE X ct (.BoolOp .And (y :: rest) pos) b) : SE X ct (.BoolOp .And (x :: y :: rest) pos) (eAnd a b) := by
  refine ⟨pe_mono (pe_and h.pe k.pe) fun σ H Q ⟨F, W, L, env, st, r, st', I, e, k⟩ => ?_⟩
  rcases eAnd_inv e with ⟨st1, h1, h2⟩ | ⟨h1, h2⟩
  · refine ⟨F, W, L, env, st, _, st1, I, h1, fun v H' W' L' l I' p => ?_⟩
    cases (show Rep X.K ct W' v (.bl true) from p)
    exact ⟨true, rfl, iteT ⟨F, W', L', env, st1, r, st', I', h2, fun v H2 W2 L2 l2 I2 => k v H2 W2 L2 (l.trans l2) I2⟩⟩
  · cases h2
    refine ⟨F, W, L, env, st, _, st', I, h1, fun v H' W' L' l I' p => ?_⟩
    cases (show Rep X.K ct W' v (.bl false) from p)
    exact ⟨false, rfl, iteF (k _ H' W' L' l I' (.bl false))⟩
theorem SW.st (h : SW X ct x a) : ST X ct x a := ⟨h.pw.pt⟩
end
end Kn
namespace Kn
open PySem L2
/-! data as the library's -/
mutual
def D.py : D → PyData
  | .non => .none
  | .bl b => .bool b
  | .int i => .int i
  | .str x => .str x
  | .lst ds => .list (D.pyL ds)
  | .tup ds => .tuple (D.pyL ds)
  | .scr ns => .list (ns.map .int)
  | _ => .dict []
def D.pyL : List D → List PyData
  | [] => []
  | d :: ds => d.py :: D.pyL ds
end
theorem dp_ints (K : PySem.W.Frag) (H : Hp) : ∀ ns : List Int, DpAll K H (ns.map V.int) (ns.map PyData.int)
  | [] => .nil
  | n :: ns => .cons (.int n) (dp_ints K H ns)
section
variable {K : PySem.W.Frag} {ct : CT} {W : Wd} {H : Hp}
mutual
theorem Rep.dp (e : ∀ a o, W.hs a = some o → H a = some o) (e' : ∀ a vs, W.tp a = some vs → H a = some (.tup vs)) : ∀ {v : V} {d : D}, Rep K ct W v d → d.py.canLay0 = true → Dp K H v d.py
  | _, _, .non, _ => .non
  | _, _, .bl b, _ => .bl b
  | _, _, .int i, _ => .int i
  | _, _, .str x, _ => .str x
  | _, _, .lst h r, c => by
    rw [D.py] at c ⊢
    exact .lst (SqL.of (e _ _ h)) (RepL.dp e e' r (by simpa [PyData.canLay0] using c))
  | _, _, .tup h r, c => by
    rw [D.py] at c ⊢
    exact .tup (SqT.of (e' _ _ h)) (RepL.dp e e' r (by simpa [PyData.canLay0] using c))
  | _, _, .scr h, c => by
    rw [D.py]
    exact .lst (sq_mono e h) (dp_ints K H _)
  | _, _, .dic h _ r, c => by simp [D.py, PyData.canLay0] at c
  | _, _, .obj h _ _ r, c => by simp [D.py, PyData.canLay0] at c
  | _, _, .hnd h, c => by simp [D.py, PyData.canLay0] at c
theorem RepL.dp (e : ∀ a o, W.hs a = some o → H a = some o) (e' : ∀ a vs, W.tp a = some vs → H a = some (.tup vs)) : ∀ {vs : List V} {ds : List D}, RepL K ct W vs ds → PyData.canLayAll0 (D.pyL ds) = true → DpAll K H vs (D.pyL ds)
  | _, _, .nil, _ => by rw [D.pyL]; exact .nil
  | _, _, .cons h r, c => by
    rw [D.pyL] at c ⊢
    rw [PyData.canLayAll0, Bool.and_eq_true] at c
    exact .cons (Rep.dp e e' h c.1) (RepL.dp e e' r c.2)
end
theorem RdH.dp {F : Hp} {L : Addr → Option Lab} {env : List Slot} {st : Sto} {σ : St} {v : V} {d : D} (h : RdH K ct W H v d) (I : Rel K ct F W L env st σ H) (c : SeqAt.shaped d.py = true) : Dp K H v d.py := by
  have c := SeqAt.canLay_of_shaped c
  rcases h with h | ⟨a, rfl, cl⟩
  · exact h.dp (fun a o e => (I.hs a o e).1) I.tp c
  · cases cl with
    | lst h q =>
      rw [D.py] at c ⊢
      exact .lst (SqL.of h) (q.dp (fun a o e => (I.hs a o e).1) I.tp (by simpa [PyData.canLay0] using c))
    | dic h _ q => simp [D.py, PyData.canLay0] at c
    | obj h _ _ q => simp [D.py, PyData.canLay0] at c
end
/-! operators -/
section
variable {X : Cx} {ct : CT} {pos : Pos}
theorem fresh_out {K : PySem.W.Frag} {F H : Hp} {W : Wd} {L : Addr → Option Lab} {env : List Slot} {st : Sto} {σ : St} {Q : VK} {d : D} {o : HO} {p : Addr} (I : Rel K ct F W L env st σ H) (hp : H p = none) (c : Cell K ct W (upd H p o) p d)
    (k : ∀ v H' W' L', W.le W' → Rel K ct F W' L' env st σ H' → RepR K ct F W' L' H' env σ v (.ow d) → Q v H') : Q (.ref p) (upd H p o) := by
  obtain ⟨I', h1, h2, h3⟩ := I.laid (o := o) hp
  exact k _ _ W _ (.refl W) I' ⟨p, rfl, h1, h2, h3, c⟩
theorem tup_out {K : PySem.W.Frag} {F H : Hp} {W : Wd} {L : Addr → Option Lab} {env : List Slot} {st : Sto} {σ : St} {Q : VK} {ds : List D} {vs : List V} {p : Addr} (I : Rel K ct F W L env st σ H) (hp : H p = none) (r : RepL K ct W vs ds)
    (k : ∀ v H' W' L', W.le W' → Rel K ct F W' L' env st σ H' → RepR K ct F W' L' H' env σ v (.sh (.tup ds)) → Q v H') : Q (.ref p) (upd H p (.tup vs)) := by
  obtain ⟨I', _⟩ := I.laid (o := .tup vs) hp
  obtain ⟨le, J, e⟩ := I'.shareT (p := p) upd_same
  exact k _ _ _ _ le J (Rep.tup e (r.mono le))
def fAdd : D → D → Option R
  | .int i, .int j => some (.sh (.int (i + j)))
  | .str a, .str b => if a.length + b.length ≤ sizeLine then some (.sh (.str (a ++ b))) else none
  | .lst a, .lst b => if a.length + b.length ≤ sizeLine then some (.ow (.lst (a ++ b))) else none
  | .tup (a :: as), .tup (b :: bs) => if (a :: as).length + (b :: bs).length ≤ sizeLine then some (.sh (.tup ((a :: as) ++ (b :: bs)))) else none
  | _, _ => none
def rrAdd (K : PySem.W.Frag) : R2 := fun x y H Q => (rI0 fun i j => .int (i + j)) x y H Q ∨ (∃ i j, x = .str i ∧ y = .str j ∧ i.length + j.length ≤ sizeLine ∧ Q (.str (i ++ j)) H) ∨ rCat x y H Q ∨ rCatT K x y H Q
theorem op_addA : OpR X (binaryOp .Add) (rrAdd X.K) := OpR.or op_add (OpR.or op_add_str (OpR.or op_cat op_catT))
theorem os_add {K : PySem.W.Frag} : OpS K ct (rrAdd K) fAdd := by
  intro F W L env st σ H x y d1 d2 r Q I h1 h2 e k
  unfold fAdd at e
  split at e
  · cases e
    exact .inl ⟨_, _, h1.int, h2.int, k _ H W L (.refl W) I (.int _)⟩
  · split at e <;> cases e
    rename_i c
    exact .inr (.inl ⟨_, _, h1.str, h2.str, c, k _ H W L (.refl W) I (.str _)⟩)
  · split at e <;> cases e
    rename_i c
    obtain ⟨a, vs, rfl, g1, q1⟩ := h1.list I
    obtain ⟨b, ws, rfl, g2, q2⟩ := h2.list I
    refine .inr (.inr (.inl ⟨a, b, vs, ws, rfl, rfl, g1, g2, by rw [q1.length, q2.length]; exact c, fun p hp => ?_⟩))
    exact fresh_out I hp (.lst upd_same (q1.append q2)) k
  · split at e <;> cases e
    rename_i c
    obtain ⟨a, vs, rfl, g1, q1⟩ := h1.tup I
    obtain ⟨b, ws, rfl, g2, q2⟩ := h2.tup I
    refine .inr (.inr (.inr ⟨a, b, vs, ws, rfl, rfl, SqT.of g1, SqT.of g2, ?_, by rw [q1.length, q2.length]; exact c, ?_⟩))
    · rintro rfl; cases q1
    · refine ⟨?_, fun _ p hp => tup_out I hp (q1.append q2) k⟩
      rintro rfl; cases q2
  · cases e
theorem se_add {x y : Expr} {a b : Sem} (ha : SE X ct x a) (hb : SE X ct y b) : SE X ct (.BinOp x .Add y pos) (e2 fAdd a b) := se_op op_addA os_add ha hb
/-- a rule over two ints -/
def fI (g : Int → Int → Option Int) : D → D → Option R
  | .int i, .int j => (g i j).map fun k => .sh (.int k)
  | _, _ => none
theorem os_I {K : PySem.W.Frag} {C : Int → Int → Prop} {f : Int → Int → Int} {g : Int → Int → Option Int} (h : ∀ i j k, g i j = some k → C i j ∧ k = f i j) : OpS K ct (rI C fun i j => .int (f i j)) (fI g) := by
  intro F W L env st σ H x y d1 d2 r Q I h1 h2 e k
  unfold fI at e
  split at e
  · obtain ⟨m, e1, e2⟩ := map2 e
    subst e2
    obtain ⟨c, rfl⟩ := h _ _ _ e1
    exact ⟨_, _, h1.int, h2.int, c, k _ H W L (.refl W) I (.int _)⟩
  · cases e
def gSub' : Int → Int → Option Int := fun i j => some (i - j)
def gMul : Int → Int → Option Int := fun i j => if i.natAbs.log2 + j.natAbs.log2 < 1000000 then some (i * j) else none
def gDiv : Int → Int → Option Int := fun i j => if 0 < j ∧ j.natAbs.log2 < 9000 then some (i / j) else none
def gMod : Int → Int → Option Int := fun i j => if 0 < j then some (i % j) else none
def gPow : Int → Int → Option Int := fun i j => if 0 ≤ j ∧ j ≤ 1000000 ∧ i.natAbs < 2 ^ 64 then some (i ^ j.toNat) else none
variable {x y : Expr} {a b : Sem}
theorem ifs {α : Type} {c : Prop} [Decidable c] {v w : α} (h : (if c then some v else none) = some w) : c ∧ w = v := by
  split at h
  · exact ⟨by assumption, (Option.some.inj h).symm⟩
  · cases h
/-- a product of ints, or a list so many times -/
def fMul : D → D → Option R
  | .int i, .int j => (gMul i j).map fun k => .sh (.int k)
  | .lst ds, .int k => if -(2 ^ 63) ≤ k ∧ k < 2 ^ 63 ∧ ds.length * k.toNat ≤ sizeLine then some (.ow (.lst (List.replicate k.toNat ds).flatten)) else none
  | _, _ => none
theorem op_mulA : OpR X (binaryOp .Mult) (fun x y H Q => (rI CMulW fun i j => .int (i * j)) x y H Q ∨ rRep x y H Q) := OpR.or op_mulW op_rep
theorem os_mul {K : PySem.W.Frag} : OpS K ct (fun x y H Q => (rI CMulW fun i j => .int (i * j)) x y H Q ∨ rRep x y H Q) fMul := by
  intro F W L env st σ H x y d1 d2 r Q I h1 h2 e k
  unfold fMul at e
  split at e
  · obtain ⟨m, e1, e2⟩ := map2 e
    subst e2
    obtain ⟨c, rfl⟩ := ifs e1
    exact .inl ⟨_, _, h1.int, h2.int, c, k _ H W L (.refl W) I (.int _)⟩
  · obtain ⟨c, rfl⟩ := ifs e
    obtain ⟨a, vs, rfl, g1, q1⟩ := h1.list I
    refine .inr ⟨a, _, vs, rfl, h2.int, g1, c.1, c.2.1, by rw [q1.length]; exact c.2.2, fun p hp => ?_⟩
    exact fresh_out I hp (.lst upd_same (q1.rep _)) k
  · cases e
theorem se_mul (ha : SE X ct x a) (hb : SE X ct y b) : SE X ct (.BinOp x .Mult y pos) (e2 fMul a b) := se_op op_mulA os_mul ha hb
theorem se_div (ha : SE X ct x a) (hb : SE X ct y b) : SE X ct (.BinOp x .FloorDiv y pos) (e2 (fI gDiv) a b) := se_op op_fdivW (os_I (C := CDivW) (f := fun i j => i / j) fun i j k h => ⟨(ifs h).1, (ifs h).2⟩) ha hb
theorem se_mod (ha : SE X ct x a) (hb : SE X ct y b) : SE X ct (.BinOp x .Mod y pos) (e2 (fI gMod) a b) := se_op op_mod (os_I (C := fun _ j => 0 < j) (f := fun i j => i % j) fun i j k h => ⟨(ifs h).1, (ifs h).2⟩) ha hb
theorem se_pow (ha : SE X ct x a) (hb : SE X ct y b) : SE X ct (.BinOp x .Pow y pos) (e2 (fI gPow) a b) := se_op op_pow (os_I (C := CPow) (f := fun i j => i ^ j.toNat) fun i j k h => ⟨(ifs h).1, (ifs h).2⟩) ha hb
def fNeg : D → Option R
  | .int i => some (.sh (.int (-i)))
  | _ => none
/-! comparisons -/
def fC (g : Int → Int → Bool) : D → D → Option R
  | .int i, .int j => some (.sh (.bl (g i j)))
  | _, _ => none
theorem os_C {K : PySem.W.Frag} {g : Int → Int → Bool} : OpS K ct (rI0 fun i j => .bl (g i j)) (fC g) := by
  intro F W L env st σ H x y d1 d2 r Q I h1 h2 e k
  unfold fC at e
  split at e <;> cases e
  exact ⟨_, _, h1.int, h2.int, k _ H W L (.refl W) I (.bl _)⟩
abbrev fLt := fC fun i j => decide (i < j)
abbrev fLe := fC fun i j => decide (i ≤ j)
theorem st_lt (ha : SE X ct x a) (hb : SE X ct y b) : ST X ct (.Compare x [.Lt] [y] pos) (e2 fLt a b) := st_cmp op_lt os_C (nomark _) ha hb
theorem st_chLL {z : Expr} {c : Sem} (ha : SE X ct x a) (hb : SE X ct y b) (hc : SE X ct z c) (hm : lastMarks [.LtE, .LtE] [y, z] = false := by with_unfolding_all rfl) : ST X ct (.Compare x [.LtE, .LtE] [y, z] pos) (eChain fLe fLe a b c) := st_chain op_le os_C op_le os_C ha hb hc hm
def D.ok (d : D) : Bool := SeqAt.shaped d.py
def D.eq (d e : D) : Bool := PyData.eqv d.py e.py
def fEq (d e : D) : Option R := if d.ok = true ∧ e.ok = true then some (.sh (.bl (d.eq e))) else none
def fNe (d e : D) : Option R := if d.ok = true ∧ e.ok = true then some (.sh (.bl (!d.eq e))) else none
theorem os_eq {K : PySem.W.Frag} : OpS K ct (rEqD K) fEq := by
  intro F W L env st σ H x y d1 d2 r Q I h1 h2 e k
  obtain ⟨c, rfl⟩ := ifs e
  exact ⟨_, _, h1.dp I c.1, h2.dp I c.2, c.1, c.2, k _ H W L (.refl W) I (.bl _)⟩
theorem os_ne {K : PySem.W.Frag} : OpS K ct (rNeD K) fNe := by
  intro F W L env st σ H x y d1 d2 r Q I h1 h2 e k
  obtain ⟨c, rfl⟩ := ifs e
  exact ⟨_, _, h1.dp I c.1, h2.dp I c.2, c.1, c.2, k _ H W L (.refl W) I (.bl _)⟩
theorem st_eq {k : Nat} (hr : Room k X.A) (ha : SE X ct x a) (hb : SE X ct y b) : ST X ct (.Compare x [.Eq] [y] pos) (e2 fEq a b) := st_cmp (op_eqD hr.units) os_eq (nomark _) ha hb
theorem st_ne {k : Nat} (hr : Room k X.A) (ha : SE X ct x a) (hb : SE X ct y b) : ST X ct (.Compare x [.NotEq] [y] pos) (e2 fNe a b) := st_cmp (op_neD hr.units) os_ne (nomark _) ha hb
/-- is None -/
def D.isN : D → Bool
  | .non => true
  | _ => false
def fIsN (d : D) : Option R := match d with
  | .hnd _ => none
  | d => some (.sh (.bl d.isN))
def fNotN (d : D) : Option R := match d with
  | .hnd _ => none
  | d => some (.sh (.bl (!d.isN)))
theorem RdH.isN {K : PySem.W.Frag} {W : Wd} {H : Hp} {v : V} {d : D} (h : RdH K ct W H v d) (n : ∀ g, d ≠ .hnd g) : decide (v = .non) = d.isN := by
  rcases h with h | ⟨a, rfl, c⟩
  · cases h <;> first | rfl | (rename_i g _; exact absurd rfl (n _))
  · cases c <;> rfl
/-- in, not in: a list, a tuple of flat things, a dict -/
def D.flat : D → Bool
  | .non | .bl _ | .int _ | .str _ => true
  | _ => false
def D.key : D → Option Key
  | .int i => some (.inl i)
  | .str x => some (.inr x)
  | _ => none
def valD (kds : List (Key × D)) (k : Key) : Option D := (kds.find? fun kv => decide (kv.1 = k)).map (·.2)
theorem RdH.dic {K : PySem.W.Frag} {F H : Hp} {W : Wd} {L : Addr → Option Lab} {env : List Slot} {st : Sto} {σ : St} {v : V} {kds : List (Key × D)} (h : RdH K ct W H v (.dic kds)) (I : Rel K ct F W L env st σ H) :
    ∃ a kvs, v = .ref a ∧ H a = some (.dK kvs) ∧ kvs.map (·.1) = kds.map (·.1) ∧ RepL K ct W (kvs.map (·.2)) (kds.map (·.2)) := by
  rcases h with h | ⟨a, rfl, c⟩
  · cases h with
    | dic h n q => exact ⟨_, _, rfl, (I.hs _ _ h).1, n, q⟩
  · cases c with
    | dic h n q => exact ⟨a, _, rfl, h, n, q⟩
theorem valD_rep {K : PySem.W.Frag} {W : Wd} (k : Key) : ∀ {kvs : List (Key × V)} {kds : List (Key × D)}, kvs.map (·.1) = kds.map (·.1) → RepL K ct W (kvs.map (·.2)) (kds.map (·.2)) →
    (valV kvs k = none ∧ valD kds k = none) ∨ ∃ v d, valV kvs k = some v ∧ valD kds k = some d ∧ Rep K ct W v d
  | [], [], _, _ => .inl ⟨rfl, rfl⟩
  | [], _ :: _, n, _ => by cases n
  | _ :: _, [], n, _ => by cases n
  | (k1, v) :: kvs, (k2, d) :: kds, n, r => by
    simp only [List.map_cons, List.cons.injEq] at n
    obtain ⟨n1, n2⟩ := n
    cases r with
    | cons h r =>
      by_cases e : k1 = k
      · have e2 : k2 = k := n1.symm.trans e
        exact .inr ⟨v, d, valV_pos e, by simp [valD, List.find?_cons, e2], h⟩
      · have e2 : ¬ k2 = k := fun q => e (n1.trans q)
        have q1 : valV ((k1, v) :: kvs) k = valV kvs k := valV_neg e
        have q2 : valD ((k2, d) :: kds) k = valD kds k := by simp [valD, List.find?_cons, e2]
        rw [q1, q2]
        exact valD_rep k n2 r
theorem D.key_v {K : PySem.W.Frag} {W : Wd} {H : Hp} {v : V} {d : D} {k : Key} (h : RdH K ct W H v d) (e : d.key = some k) : v = kV k := by
  cases d <;> simp only [D.key, Option.some.injEq, reduceCtorEq] at e
  · subst e; exact h.int
  · subst e; exact h.str
theorem Rep.flat {K : PySem.W.Frag} {W : Wd} {v : V} {d : D} (h : Rep K ct W v d) (f : d.flat = true) : flatV v = true := by
  cases h <;> first | rfl | (cases f; done)
theorem RdH.rep {K : PySem.W.Frag} {W : Wd} {H : Hp} {v : V} {d : D} (h : RdH K ct W H v d) (f : d.flat = true) : Rep K ct W v d := by
  rcases h with h | ⟨a, rfl, c⟩
  · exact h
  · cases c <;> cases f
end
end Kn
namespace Kn
open PySem L2
section
variable {X : Cx} {ct : CT} {pos : Pos} {x y : Expr} {a b : Sem}
/-! an item -/
def fIdx : D → D → Option R
  | .lst ds, .int i => (atI ds i).map .sh
  | .scr ns, .int i => (atI ns i).map fun n => .sh (.int n)
  | .tup ds, .int i => (atI ds i).map .sh
  | .str z, .int i => if z.length ≤ sizeLine then (atI z.cps.toList i).map fun c => .sh (.str ⟨#[c]⟩) else none
  | .dic kds, d => d.key.bind fun k => (valD kds k).map .sh
  | _, _ => none
theorem atI_rep {K : PySem.W.Frag} {W : Wd} {vs : List V} {ds : List D} {i : Int} {d : D} (r : RepL K ct W vs ds) (h : atI ds i = some d) : ∃ v, atI vs i = some v ∧ Rep K ct W v d := by
  unfold atI at h ⊢
  obtain ⟨j, h1, h2⟩ := bind2 h
  obtain ⟨v, h3, h4⟩ := r.get h2
  refine ⟨v, ?_, h4⟩
  rw [r.length, h1]
  exact h3
theorem ix_dict (hu : X.A.units + 1 < cLine) : IxR X (fun x y H Q => ∃ a v, x = .ref a ∧ DGet H a y (some v) ∧ Q v H) := by
  intro value slice pins s σ H x y v u Q I rx ry ⟨a, w, e, g, q⟩ hs
  subst e
  cases (show v = Value.ref a from rx)
  exact PyProof.Rows.tail_any (dict_typeIs I g) PySem.F.slot_dict_getitem.lookup (d_getItem hu I g ry fun w' s3 I3 rw' => ⟨w, H, I3, rw', q⟩) hs
theorem os_idx {K : PySem.W.Frag} : OpS K ct (fun x y H Q => (∃ a v, x = .ref a ∧ DGet H a y (some v) ∧ Q v H) ∨ rIx K x y H Q) fIdx := by
  intro F W L env st σ H x y d1 d2 r Q I h1 h2 e k
  have go : ∀ (v : V) (d : D), Rep K ct W v d → r = .sh d → Q v H := fun v d h e => k v H W L (.refl W) I (by rw [e]; exact h)
  unfold fIdx at e
  split at e
  · obtain ⟨d, e1, rfl⟩ := map2 e
    obtain ⟨a, vs, rfl, g, q⟩ := h1.list I
    obtain ⟨v, h3, h4⟩ := atI_rep q e1
    exact .inr (.inl ⟨a, vs, _, v, rfl, h2.int, SqL.of g, h3, go v d h4 rfl⟩)
  · rename_i ns i
    obtain ⟨n, e1, rfl⟩ := map2 e
    obtain ⟨a, vs, rfl, g, q⟩ := h1.seqL (ds := ns.map D.int) rfl I
    have e2 : atI (ns.map D.int) i = some (.int n) := by
      unfold atI at e1 ⊢
      obtain ⟨j, e3, e4⟩ := bind2 e1
      rw [List.length_map, e3]
      show (ns.map D.int)[j]? = _
      rw [List.getElem?_map, e4]; rfl
    obtain ⟨v, h3, h4⟩ := atI_rep q e2
    exact .inr (.inl ⟨a, vs, _, v, rfl, h2.int, g, h3, go v _ h4 rfl⟩)
  · obtain ⟨d, e1, rfl⟩ := map2 e
    obtain ⟨a, vs, rfl, g, q⟩ := h1.tup I
    obtain ⟨v, h3, h4⟩ := atI_rep q e1
    exact .inr (.inr (.inl ⟨a, vs, _, v, rfl, h2.int, SqT.of g, h3, go v d h4 rfl⟩))
  · split at e
    · rename_i c
      obtain ⟨m, e1, rfl⟩ := map2 e
      exact .inr (.inr (.inr ⟨_, _, m, h1.str, h2.int, c, e1, go _ _ (.str _) rfl⟩))
    · cases e
  · obtain ⟨ky, ek, e⟩ := bind2 e
    obtain ⟨d, e1, rfl⟩ := map2 e
    obtain ⟨a, kvs, rfl, g, n, q⟩ := h1.dic I
    rcases valD_rep ky n q with ⟨_, e2⟩ | ⟨v, d', e2, e3, h⟩
    · rw [e1] at e2; cases e2
    · rw [e1] at e3; cases e3
      refine .inl ⟨a, v, rfl, ?_, go v d h rfl⟩
      rw [D.key_v h2 ek, ← e2]
      exact DGet.k g
  · cases e
theorem se_idx {k : Nat} (hr : Room k X.A) (ha : SE X ct x a) (hb : SE X ct y b) (hs : PlainIx y := by exact fun _ _ => rfl) : SE X ct (.Subscript x y pos) (e2 fIdx a b) :=
  ⟨pe_mono (pe_ix (IxR.or (ix_dict (hu_of hr)) ix_seq) ha.pe hb.pe hs) fun _ _ _ h => tE_e2 os_idx h⟩
/-! slices -/
def cutG {α : Type} (xs : List α) (lo hi : Option Int) : List α := (xs.drop (HT.sIx xs.length 0 lo)).take (HT.sIx xs.length xs.length hi - HT.sIx xs.length 0 lo)
theorem RepL.cut {K : PySem.W.Frag} {W : Wd} {vs : List V} {ds : List D} (r : RepL K ct W vs ds) (lo hi : Option Int) : RepL K ct W (cutV vs lo hi) (cutG ds lo hi) := by
  unfold cutV cutG
  rw [r.length]
  exact (r.drop _).take _
theorem cutG_map {α β : Type} (f : α → β) (xs : List α) (lo hi : Option Int) : cutG (xs.map f) lo hi = (cutG xs lo hi).map f := by
  unfold cutG
  rw [List.length_map, List.map_take, List.map_drop]
abbrev SemP := List Slot → Sto → Option (Option Int × Sto)
def pNo : SemP := fun _ st => some (none, st)
def pSome (e : Sem) : SemP := fun env st => (e env st).bind fun p => match p.1.d with
  | .int i => some (some i, p.2)
  | _ => none
def tP (K : PySem.W.Frag) (ct : CT) (e : SemP) : TO := fun σ H Q => ∃ F W L env st r st', Rel K ct F W L env st σ H ∧ e env st = some (r, st') ∧
  ∀ H' W' L', W.le W' → Rel K ct F W' L' env st' σ H' → Q r H'
structure SP' (X : Cx) (ct : CT) (x : Option Expr) (e : SemP) : Prop where
  po : PO X x (tP X.K ct e)
theorem po_mono {x : Option Expr} {t t' : TO} (h : PO X x t) (k : ∀ σ H Q, t' σ H Q → t σ H Q) : PO X x t' := ⟨fun pins s σ H Q I q => h.run pins s σ H Q I (k σ H Q q)⟩
theorem sp_no : SP' X ct none pNo := ⟨po_mono po_none fun σ H Q ⟨F, W, L, env, st, r, st', I, e, k⟩ => by cases e; exact k H W L (.refl W) I⟩
theorem sp_some (ha : SE X ct x a) : SP' X ct (some x) (pSome a) := by
  refine ⟨po_mono (po_some ha.pe) fun σ H Q ⟨F, W, L, env, st, r, st', I, e, k⟩ => ?_⟩
  obtain ⟨⟨r1, st1⟩, h1, e⟩ := bind2 e
  refine ⟨F, W, L, env, st, r1, st1, I, h1, fun v H1 W1 L1 l1 I1 p1 => ?_⟩
  obtain ⟨W1', m1, J1, q1⟩ := I1.pin p1
  have q1' := J1.look q1
  rw [R.pin_d] at q1'
  split at e
  · rename_i i ei
    cases e
    have ei : r1.d = .int i := ei
    rw [ei] at q1'
    exact ⟨i, q1'.int, k _ _ _ (l1.trans m1) J1⟩
  · cases e
def fSlc (d : D) (lo hi : Option Int) : Option R := match d with
  | .lst ds => some (.ow (.lst (cutG ds lo hi)))
  | .scr ns => some (.ow (.lst ((cutG ns lo hi).map .int)))
  | .tup ds => if ¬ (HT.sIx ds.length 0 lo = 0 ∧ HT.sIx ds.length ds.length hi = ds.length) then some (.sh (.tup (cutG ds lo hi))) else none
  | _ => none
def eSlc (a : Sem) (lo hi : SemP) : Sem := fun env st => (a env st).bind fun p => (lo env p.2).bind fun l => (hi env l.2).bind fun h => (fSlc p.1.d l.1 h.1).map fun r => (r, h.2)
theorem se_slc {lo hi : Option Expr} {l h : SemP} {p2 : Pos} (ha : SE X ct x a) (hl : SP' X ct lo l) (hh : SP' X ct hi h) : SE X ct (.Subscript x (.Slice lo hi none p2) pos) (eSlc a l h) := by
  refine ⟨pe_mono (pe_slice (SlR.or sl_list sl_tup) ha.pe hl.po hh.po) fun σ H Q ⟨F, W, L, env, st, r, st', I, e, k⟩ => ?_⟩
  obtain ⟨⟨r1, st1⟩, h1, e⟩ := bind2 e
  obtain ⟨⟨o1, st2⟩, h2, e⟩ := bind2 e
  obtain ⟨⟨o2, st3⟩, h3, e⟩ := bind2 e
  obtain ⟨r4, h4, e⟩ := map2 e
  cases e
  refine ⟨F, W, L, env, st, r1, st1, I, h1, fun v H1 W1 L1 l1 I1 p1 => ?_⟩
  obtain ⟨W1', m1, J1, q1⟩ := I1.pin p1
  refine ⟨F, W1', L1, env, st1, o1, st2, J1, h2, fun H2 W2 L2 l2 I2 => ?_⟩
  refine ⟨F, W2, L2, env, st2, o2, st3, I2, h3, fun H3 W3 L3 l3 I3 => ?_⟩
  have q3 := I3.look (q1.mono (l2.trans l3))
  rw [R.pin_d] at q3
  have k' : ∀ v H' W' L', W3.le W' → Rel X.K ct F W' L' env st3 σ H' → RepR X.K ct F W' L' H' env σ v r → Q v H' := fun v H' W' L' l' => k v H' W' L' (l1.trans (m1.trans (l2.trans (l3.trans l'))))
  have h4 : fSlc r1.d o1 o2 = some r := h4
  unfold fSlc at h4
  split at h4
  · rename_i ds ed
    cases h4
    rw [ed] at q3
    obtain ⟨a, vs, rfl, g, q⟩ := q3.list I3
    exact .inl ⟨a, vs, rfl, SqL.of g, fun p hp => fresh_out I3 hp (.lst upd_same (q.cut o1 o2)) k'⟩
  · rename_i ns ed
    cases h4
    rw [ed] at q3
    obtain ⟨a, vs, rfl, g, q⟩ := q3.seqL (ds := ns.map D.int) rfl I3
    refine .inl ⟨a, vs, rfl, g, fun p hp => fresh_out I3 hp (.lst upd_same ?_) k'⟩
    rw [← cutG_map]
    exact q.cut o1 o2
  · rename_i ds ed
    obtain ⟨c, rfl⟩ := ifs h4
    rw [ed] at q3
    obtain ⟨a, vs, rfl, g, q⟩ := q3.tup I3
    exact .inr ⟨a, vs, rfl, SqT.of g, by rw [q.length]; exact c, fun p hp => tup_out I3 hp (q.cut o1 o2) k'⟩
  · cases h4
/-! argument lists, displays -/
def aNil : SemA := fun _ st => some ([], st)
def aCons (e : Sem) (as : SemA) : SemA := fun env st => (e env st).bind fun p => (as env p.2).map fun q => (p.1.pin :: q.1, q.2)
theorem sa_nil : SA X ct [] aNil := ⟨pa_mono pa_nil fun σ H Q ⟨F, W, L, env, st, r, st', I, e, k⟩ => by cases e; exact k [] H W L (.refl W) I .nil⟩
theorem sa_cons {es : List Expr} {as : SemA} (ha : SE X ct x a) (hr : SA X ct es as) (hs : starEach (x :: es) X.env = (false, eval x X.env) :: starEach es X.env := by rfl) : SA X ct (x :: es) (aCons a as) := by
  refine ⟨pa_mono (pa_cons ha.pe hr.pa hs) fun σ H Q ⟨F, W, L, env, st, r, st', I, e, k⟩ => ?_⟩
  obtain ⟨⟨r1, st1⟩, h1, e⟩ := bind2 e
  obtain ⟨⟨rs, st2⟩, h2, e⟩ := map2 e
  cases e
  refine ⟨F, W, L, env, st, r1, st1, I, h1, fun v H1 W1 L1 l1 I1 p1 => ?_⟩
  obtain ⟨W1', m1, J1, q1⟩ := I1.pin p1
  refine ⟨F, W1', L1, env, st1, rs, st2, J1, h2, fun vs H2 W2 L2 l2 I2 qs => ?_⟩
  exact k _ H2 W2 L2 (l1.trans (m1.trans l2)) I2 (.cons (q1.mono l2) qs)
/-- all shared -/
def valsR : List R → Option (List D)
  | [] => some []
  | .sh d :: rs => (valsR rs).map fun ds => d :: ds
  | _ :: _ => none
theorem RdRs.vals {K : PySem.W.Frag} {W : Wd} {env : List Slot} {σ : St} : ∀ {vs : List V} {rs : List R} {ds : List D}, RdRs K ct W env σ vs rs → valsR rs = some ds → RepL K ct W vs ds
  | _, _, _, .nil, e => by cases e; exact .nil
  | _, _, _, .cons (r := .sh d) h q, e => by
    obtain ⟨ds', e1, rfl⟩ := map2 e
    exact .cons h (q.vals e1)
  | _, _, _, .cons (r := .ow d) h q, e => by cases e
  | _, _, _, .cons (r := .bw i d) h q, e => by cases e
def eTup (as : SemA) : Sem := fun env st => (as env st).bind fun p => (valsR p.1).bind fun ds => if ds.length ≤ sizeLine then some (.sh (.tup ds), p.2) else none
def eLst (as : SemA) : Sem := fun env st => (as env st).bind fun p => (valsR p.1).bind fun ds => if ds.length ≤ sizeLine then some (.ow (.lst ds), p.2) else none
variable {es : List Expr} {as : SemA}
theorem se_tup {x1} (ha : SA X ct es as) : SE X ct (.Tuple es x1 pos) (eTup as) := by
  refine ⟨pe_mono (pe_tup ha.pa) fun σ H Q ⟨F, W, L, env, st, r, st', I, e, k⟩ => ?_⟩
  obtain ⟨⟨rs, st1⟩, h1, e⟩ := bind2 e
  obtain ⟨ds, h2, e⟩ := bind2 e
  obtain ⟨c, e⟩ := ifs e
  cases e
  refine ⟨F, W, L, env, st, rs, st1, I, h1, fun vs H1 W1 L1 l1 I1 qs => ?_⟩
  have q := qs.vals h2
  exact ⟨by rw [q.length]; exact c, fun p hp => tup_out I1 hp q fun v H' W' L' l' => k v H' W' L' (l1.trans l')⟩
theorem se_lst (ha : SA X ct es as) : SE X ct (.List es pos) (eLst as) := by
  refine ⟨pe_mono (pe_lst ha.pa) fun σ H Q ⟨F, W, L, env, st, r, st', I, e, k⟩ => ?_⟩
  obtain ⟨⟨rs, st1⟩, h1, e⟩ := bind2 e
  obtain ⟨ds, h2, e⟩ := bind2 e
  obtain ⟨c, e⟩ := ifs e
  cases e
  refine ⟨F, W, L, env, st, rs, st1, I, h1, fun vs H1 W1 L1 l1 I1 qs => ?_⟩
  have q := qs.vals h2
  exact ⟨by rw [q.length]; exact c, fun p hp => fresh_out I1 hp (.lst upd_same q) fun v H' W' L' l' => k v H' W' L' (l1.trans l')⟩
/-! calls of built-ins -/
theorem se_b1 {id : String} {n : Str} {rr : List V → Hp → VK → Prop} {f : D → Option R} {p : Pos} (hc : CallR X (.builtin id) rr) (os : UnS X.K ct (fun x H Q => rr [x] H Q) f) (hg : Gl X n) (hm : X.mg n = none) (hv : bootBuiltins n = some (.builtin id)) (ha : SE X ct x a)
    (hn : n ≠ "__name__" := by decide) (hdb : (n == ("__debug__" : Str)) = false := by decide) (he : starEach [x] X.env = (false, eval x X.env) :: starEach [] X.env := by rfl) (hpl : (backTo pos (starEach [] X.env)).any (·.1) = false := by rfl) : SE X ct (.Call (.Name n p) [x] [] pos) (e1 f a) :=
  ⟨pe_mono (pe_callB hc hg hm hv (pa_cons ha.pe pa_nil he) hn hdb he hpl) fun _ _ _ h => tE_e1 os h⟩
theorem se_t1 {T : String} {n : Str} {rr : List V → Hp → VK → Prop} {f : D → Option R} {p : Pos} (hc : CallR X (.type T) rr) (os : UnS X.K ct (fun x H Q => rr [x] H Q) f) (hg : Gl X n) (hm : X.mg n = none) (hv : bootBuiltins n = some (.type T)) (ha : SE X ct x a)
    (hn : n ≠ "__name__" := by decide) (hdb : (n == ("__debug__" : Str)) = false := by decide) (he : starEach [x] X.env = (false, eval x X.env) :: starEach [] X.env := by rfl) (hpl : (backTo pos (starEach [] X.env)).any (·.1) = false := by rfl) : SE X ct (.Call (.Name n p) [x] [] pos) (e1 f a) :=
  ⟨pe_mono (pe_callTy hc hg hm hv (pa_cons ha.pe pa_nil he) hn hdb he hpl) fun _ _ _ h => tE_e1 os h⟩
variable {p : Pos}
def fLen : D → Option R
  | .lst ds => some (.sh (.int ds.length))
  | .scr ns => some (.sh (.int ns.length))
  | .tup ds => some (.sh (.int ds.length))
  | .dic kds => some (.sh (.int kds.length))
  | .str z => if z.length ≤ sizeLine then some (.sh (.int z.length)) else none
  | _ => none
theorem us_len : UnS X.K ct (fun x H Q => (∃ p ys, [x] = [V.ref p] ∧ (SqL X.K H p ys ∨ SqT X.K H p ys) ∧ Q (.int ys.length) H) ∨ (∃ d kvs, [x] = [V.ref d] ∧ H d = some (.dK kvs) ∧ Q (.int kvs.length) H) ∨ ∃ z, [x] = [V.str z] ∧ z.length ≤ sizeLine ∧ Q (.int z.length) H) fLen := by
  intro F W L env st σ H x d r Q I h e k
  have go : ∀ n : Nat, r = .sh (.int n) → Q (.int n) H := fun n e => k _ H W L (.refl W) I (by rw [e]; exact .int _)
  unfold fLen at e
  split at e
  · cases e
    obtain ⟨a, vs, rfl, g, q⟩ := h.list I
    exact .inl ⟨a, vs, rfl, .inl (SqL.of g), by rw [q.length]; exact go _ rfl⟩
  · rename_i ns
    cases e
    obtain ⟨a, vs, rfl, g, q⟩ := h.seqL (ds := ns.map D.int) rfl I
    exact .inl ⟨a, vs, rfl, .inl g, by rw [q.length, List.length_map]; exact go _ rfl⟩
  · cases e
    obtain ⟨a, vs, rfl, g, q⟩ := h.tup I
    exact .inl ⟨a, vs, rfl, .inr (SqT.of g), by rw [q.length]; exact go _ rfl⟩
  · cases e
    obtain ⟨a, kvs, rfl, g, n, q⟩ := h.dic I
    refine .inr (.inl ⟨a, kvs, rfl, g, ?_⟩)
    have := congrArg List.length n
    rw [List.length_map, List.length_map] at this
    rw [this]; exact go _ rfl
  · obtain ⟨c, rfl⟩ := ifs e
    exact .inr (.inr ⟨_, by rw [h.str], c, go _ rfl⟩)
  · cases e
theorem se_len (hg : Gl X "len") (hm : X.mg "len" = none) (ha : SE X ct x a) (he : starEach [x] X.env = (false, eval x X.env) :: starEach [] X.env := by rfl) (hpl : (backTo pos (starEach [] X.env)).any (·.1) = false := by rfl) :
    SE X ct (.Call (.Name "len" p) [x] [] pos) (e1 fLen a) := se_b1 (CallR.or call_len_seq (CallR.or call_lenD call_len_str)) us_len hg hm PySem.boot_len ha (by decide) (by decide) he hpl
def fLofs : D → Option R
  | .lst ds => some (.ow (.lst ds))
  | .scr ns => some (.ow (.lst (ns.map .int)))
  | .tup ds => some (.ow (.lst ds))
  | _ => none
def fTofs : D → Option R
  | .lst ds => some (.sh (.tup ds))
  | .tup ds => some (.sh (.tup ds))
  | _ => none
theorem se_tuple (hg : Gl X "tuple") (hm : X.mg "tuple" = none) (ha : SE X ct x a) (he : starEach [x] X.env = (false, eval x X.env) :: starEach [] X.env := by rfl) (hpl : (backTo pos (starEach [] X.env)).any (·.1) = false := by rfl) :
    SE X ct (.Call (.Name "tuple" p) [x] [] pos) (e1 fTofs a) := by
  refine se_t1 call_tuple_of ?_ hg hm PyProof.Rows.boot_tuple ha (by decide) (by decide) he hpl
  intro F W L env st σ H x d r Q I h e k
  unfold fTofs at e
  split at e
  · cases e
    obtain ⟨a, vs, rfl, g, q⟩ := h.list I
    exact ⟨a, vs, rfl, .inl ⟨SqL.of g, fun p hp => tup_out I hp q k⟩⟩
  · cases e
    have h0 := h
    obtain ⟨a, vs, rfl, g, q⟩ := h.tup I
    refine ⟨a, vs, rfl, .inr ⟨SqT.of g, k _ H W L (.refl W) I ?_⟩⟩
    rcases h0 with h | ⟨a', e', c⟩
    · exact h
    · cases c
  · cases e
def fInt : D → Option R
  | .int i => some (.sh (.int i))
  | .bl k => some (.sh (.int (if k then 1 else 0)))
  | _ => none
/-- a list of ints, of bools -/
def D.ints : D → Option (List Int)
  | .int i => some [i]
  | _ => none
/-- isinstance(x, T), T a built-in class -/
def D.ty : D → Option String
  | .non => some "NoneType"
  | .bl _ => some "bool"
  | .int _ => some "int"
  | .str _ => some "str"
  | .lst _ => some "list"
  | .tup _ => some "tuple"
  | .dic _ => some "dict"
  | _ => none
def fIsi (T : String) (d : D) : Option R := d.ty.bind fun t => (kitB t T).map fun b => .sh (.bl b)
theorem us_isi {K : PySem.W.Frag} {T : String} : UnS K ct (fun x H Q => rIsi K [x, .ty T] H Q) (fIsi T) := by
  intro F W L env st σ H x d r Q I h e k
  obtain ⟨t, e1, e⟩ := bind2 e
  obtain ⟨b, e2, rfl⟩ := map2 e
  refine ⟨x, _, .type t, .type T, b, rfl, .ty T, ?_, kit_ty e2, k _ H W L (.refl W) I (.bl _)⟩
  unfold D.ty at e1
  split at e1 <;> cases e1
  · rw [h.non]; exact .base .non
  · rw [h.bl]; exact .base (.bl _)
  · rw [h.int]; exact .base (.int _)
  · rw [h.str]; exact .base (.str _)
  · obtain ⟨a, vs, rfl, g, q⟩ := h.list I; exact .base (.lst g)
  · obtain ⟨a, vs, rfl, g, q⟩ := h.tup I; exact .base (.tup g)
  · obtain ⟨a, vs, rfl, g, n, q⟩ := h.dic I; exact .base (.dK g)
theorem se_isi {T : String} {n : Str} {p2 : Pos} (hg : Gl X "isinstance") (hm : X.mg "isinstance" = none) (hg2 : Gl X n) (hm2 : X.mg n = none) (hv : bootBuiltins n = some (.type T)) (ha : SE X ct x a) (hn : n ≠ "__name__" := by decide) (hdb : (n == ("__debug__" : Str)) = false := by decide)
    (he : starEach [x, .Name n p2] X.env = (false, eval x X.env) :: starEach [.Name n p2] X.env := by rfl) (he2 : starEach [Expr.Name n p2] X.env = (false, eval (.Name n p2) X.env) :: starEach [] X.env := by rfl) (hpl : (backTo pos (starEach [Expr.Name n p2] X.env)).any (·.1) = false := by rfl) :
    SE X ct (.Call (.Name "isinstance" p) [x, .Name n p2] [] pos) (e1 (fIsi T) a) :=
  ⟨pe_mono (pe_callB call_isi hg hm PyProof.Rows.boot_isinstance (pa_cons ha.pe (pa_cons (pe_bltn (v := .ty T) hg2 hm2 hv rfl hn hdb) pa_nil he2) he) (by decide) (by decide) he hpl) fun _ _ _ h => tE_e1 us_isi h⟩
end
end Kn
namespace Kn
open PySem L2
inductive Out where
  | nx | rt (r : R) | bk | ct
abbrev SemS := List Slot → Sto → Option (Out × List Slot × Sto)
abbrev SemG := D → List Slot → Option (List Slot)
abbrev SemI := List Slot → Sto → Option (List D × Sto)
section
variable (K : PySem.W.Frag) (ct : CT)
def OutOk (F : Hp) (W : Wd) (env' : List Slot) (st' : Sto) (D : Ends) : Out → Prop
  | .nx => ∀ σ' H' W' L', W.le W' → Rel K ct F W' L' env' st' σ' H' → D.nx σ' H'
  | .bk => ∀ σ' H' W' L', W.le W' → Rel K ct F W' L' env' st' σ' H' → D.bk σ' H'
  | .ct => ∀ σ' H' W' L', W.le W' → Rel K ct F W' L' env' st' σ' H' → D.ct σ' H'
  | .rt r => ∀ v σ' H' W' L', W.le W' → Rel K ct F W' L' env' st' σ' H' → RepR K ct F W' L' H' env' σ' v r → D.rt v H'
def tSm (s : SemS) : TS := fun D σ H => ∃ F W L env st o env' st', Rel K ct F W L env st σ H ∧ s env st = some (o, env', st') ∧ OutOk K ct F W env' st' D o
/-- only the slots ts differ -/
def OffTs (ts : List Nat) (σ σ' : St) : Prop := σ'.length = σ.length ∧ ∀ j : Nat, j ∉ ts → σ'[j]? = σ[j]?
def OffTe (ts : List Nat) (e e' : List Slot) : Prop := e'.length = e.length ∧ ∀ j : Nat, j ∉ ts → e'[j]? = e[j]?
def tG (ts : List Nat) (g : SemG) : TG := fun v σ H Q => ∃ F W L env st d env', Rel K ct F W L env st σ H ∧ Rep K ct W v d ∧ g d env = some env' ∧
  ∀ σ', OffTs ts σ σ' → OffTe ts env env' → Rel K ct F W L env' st σ' H → Q σ' H
def tGs (ts : List Nat) (g : List D → List Slot → Option (List Slot)) : TGs := fun vs σ H Q => ∃ F W L env st ds env', Rel K ct F W L env st σ H ∧ RepL K ct W vs ds ∧ g ds env = some env' ∧
  ∀ σ', OffTs ts σ σ' → OffTe ts env env' → Rel K ct F W L env' st σ' H → Q σ' H
/-- J walks ds -/
def Wk (J : It) (W0 : Wd) (ds : List D) : Prop := ∀ F W L env st σ H (i : Nat), W0.le W → Rel K ct F W L env st σ H →
  (∀ d, ds[i]? = some d → J.go i H ∧ ∀ x H', J.yld i H x H' → ∃ W' L', W.le W' ∧ Rel K ct F W' L' env st σ H' ∧ Rep K ct W' x d) ∧ (ds.length ≤ i → J.stop i H)
def tI (e : SemI) : TI := fun σ H R => ∃ F W L env st ds st', Rel K ct F W L env st σ H ∧ e env st = some (ds, st') ∧
  ∀ J H' W' L', W.le W' → Rel K ct F W' L' env st' σ H' → Wk K ct J W' ds → R J H'
end
structure SS (X : Cx) (ct : CT) (x : Stmt) (s : SemS) : Prop where
  ps : PS X x (tSm X.K ct s)
structure SB (X : Cx) (ct : CT) (x : List Stmt) (s : SemS) : Prop where
  pss : PSs X x (tSm X.K ct s)
structure SG (X : Cx) (ct : CT) (x : Expr) (ts : List Nat) (g : SemG) : Prop where
  pg : PG X x (tG X.K ct ts g)
structure SGs (X : Cx) (ct : CT) (x : List Expr) (ts : List Nat) (g : List D → List Slot → Option (List Slot)) : Prop where
  pgs : PGs X x (tGs X.K ct ts g)
structure SI (X : Cx) (ct : CT) (tg x : Expr) (e : SemI) : Prop where
  pi : PI X tg x (tI X.K ct e)
theorem ps_mono {X : Cx} {x : Stmt} {t t' : TS} (h : PS X x t) (k : ∀ D σ H, t' D σ H → t D σ H) : PS X x t' := ⟨fun pins s σ H D I q => h.run pins s σ H D I (k D σ H q)⟩
theorem pss_mono {X : Cx} {x : List Stmt} {t t' : TS} (h : PSs X x t) (k : ∀ D σ H, t' D σ H → t D σ H) : PSs X x t' := ⟨fun pins s σ H D I q => h.run pins s σ H D I (k D σ H q)⟩
theorem pg_mono {X : Cx} {x : Expr} {t t' : TG} (h : PG X x t) (k : ∀ v σ H Q, t' v σ H Q → t v σ H Q) : PG X x t' := ⟨fun pins s σ H v u Q I r q => h.run pins s σ H v u Q I r (k v σ H Q q)⟩
theorem pgs_mono {X : Cx} {x : List Expr} {t t' : TGs} (h : PGs X x t) (k : ∀ v σ H Q, t' v σ H Q → t v σ H Q) : PGs X x t' := ⟨fun pins s σ H v u Q I r q => h.run pins s σ H v u Q I r (k v σ H Q q)⟩
theorem pi_mono {X : Cx} {tg x : Expr} {t t' : TI} (h : PI X tg x t) (k : ∀ σ H R, t' σ H R → t σ H R) : PI X tg x t' := ⟨fun pins s σ H R I q => h.run pins s σ H R I (k σ H R q)⟩
theorem pi_or {X : Cx} {tg x : Expr} {t t' : TI} (h : PI X tg x t) (h' : PI X tg x t') : PI X tg x (fun σ H R => t σ H R ∨ t' σ H R) := ⟨fun pins s σ H R I q => q.elim (h.run pins s σ H R I) (h'.run pins s σ H R I)⟩
section
variable {K : PySem.W.Frag} {ct : CT} {F H H' : Hp} {W W' : Wd} {L L' : Addr → Option Lab} {env env' : List Slot} {st st' : Sto} {σ : St} {v : V} {d : D} {r : R} {a p : Addr} {o : HO} {D : Ends} {u : Out}
theorem OutOk.mono (h : OutOk K ct F W env' st' D u) (l : W.le W') : OutOk K ct F W' env' st' D u := by
  cases u with
  | nx => exact fun σ' H' W2 L2 l2 => h σ' H' W2 L2 (l.trans l2)
  | bk => exact fun σ' H' W2 L2 l2 => h σ' H' W2 L2 (l.trans l2)
  | ct => exact fun σ' H' W2 L2 l2 => h σ' H' W2 L2 (l.trans l2)
  | rt r => exact fun v σ' H' W2 L2 l2 => h v σ' H' W2 L2 (l.trans l2)
theorem getset {α : Type} {l : List α} {i j : Nat} {x y : α} (h : (l.set i x)[j]? = some y) : (j = i ∧ y = x ∧ i < l.length) ∨ (j ≠ i ∧ l[j]? = some y) := by
  by_cases e : i = j
  · subst e
    by_cases hi : i < l.length
    · rw [List.getElem?_set_self hi] at h
      exact .inl ⟨rfl, (Option.some.inj h).symm, hi⟩
    · rw [List.getElem?_eq_none (by simpa using hi)] at h
      cases h
  · rw [List.getElem?_set_ne e] at h
    exact .inr ⟨fun z => e z.symm, h⟩
theorem SlotOk.at' {σ' : St} {i : Nat} {s : Slot} (h : SlotOk K ct W L H σ i s) (e : σ'[i]? = σ[i]?) : SlotOk K ct W L H σ' i s := by
  cases s with
  | no => trivial
  | sh d => obtain ⟨v, h1, h2⟩ := h; exact ⟨v, e.trans h1, h2⟩
  | ow d => obtain ⟨a, h1, h2⟩ := h; exact ⟨a, e.trans h1, h2⟩
  | o2 d => obtain ⟨a, ws, h1, h2⟩ := h; exact ⟨a, ws, e.trans h1, h2⟩
  | me a d => obtain ⟨h1, h2⟩ := h; exact ⟨e.trans h1, h2⟩
  | exc a => exact e.trans h
/-- a slot takes a shared value -/
theorem Rel.setSh (I : Rel K ct F W L env st σ H) (i : Nat) (h : Rep K ct W v d) : Rel K ct F W L (env.set i (.sh d)) st (σ.set i (some v)) H := by
  refine ⟨I.fr, I.hs, I.tp, I.ob, I.rh, by rw [List.length_set, List.length_set]; exact I.len, fun j s e => ?_⟩
  rcases getset e with ⟨rfl, rfl, hi⟩ | ⟨hj, e⟩
  · refine ⟨v, ?_, h⟩
    rw [List.getElem?_set_self (by rw [I.len]; exact hi)]
  · exact (I.sl j s e).at' (List.getElem?_set_ne (Ne.symm hj))
/-- a slot takes a thing just made for one's own -/
theorem Rel.setOw (I : Rel K ct F W L env st σ H) (i : Nat) (hl : L a = none) (hw : W.hs a = none) (hf : F a = none) (c : Cell K ct W H a d) :
    Rel K ct F W (fun b => if b = a then some (.slot i) else L b) (env.set i (.ow d)) st (σ.set i (some (.ref a))) H := by
  have lab : ∀ b, b ≠ a → (if b = a then some (Lab.slot i) else L b) = L b := fun b h => if_neg h
  refine ⟨fun b u e => ?_, fun b u e => ?_, I.tp, fun g κ x e => ?_, I.rh, by rw [List.length_set, List.length_set]; exact I.len, fun j s e => ?_⟩
  · have nb : b ≠ a := by rintro rfl; rw [hf] at e; cases e
    obtain ⟨h1, h2, h3⟩ := I.fr b u e
    exact ⟨h1, (lab b nb).trans h2, h3⟩
  · have nb : b ≠ a := by rintro rfl; rw [hw] at e; cases e
    obtain ⟨h1, h2⟩ := I.hs b u e
    exact ⟨h1, (lab b nb).trans h2⟩
  · obtain ⟨v, h1, h2⟩ := I.ob g κ x e
    refine ⟨v, h1, ?_⟩
    have q : (fun b => if (if b = a then some (Lab.slot i) else L b) = some (.ob g) then H b else none) = fun b => if L b = some (.ob g) then H b else none := by
      funext b
      by_cases hb : b = a
      · subst hb; simp [hl]
      · rw [lab b hb]
    rw [q]; exact h2
  · rcases getset e with ⟨rfl, rfl, hi⟩ | ⟨hj, e⟩
    · exact ⟨a, by rw [List.getElem?_set_self (by rw [I.len]; exact hi)], if_pos rfl, c⟩
    · refine SlotOk.at' (σ := σ) ?_ (List.getElem?_set_ne (Ne.symm hj))
      refine (I.sl j s e).mono (.refl W) fun b u hb hu => ⟨hu, ?_⟩
      have nb : b ≠ a := by rintro rfl; rw [hl] at hb; cases hb
      exact (lab b nb).trans hb
/-- a slot's own thing is changed -/
theorem Rel.updOw' (I : Rel K ct F W L env st σ H) {i : Nat} (hs : σ[i]? = some (some (.ref a))) (hl : L a = some (.slot i)) (hn : ∀ xs, H a ≠ some (.tup xs)) {d' : Kn.D} (c' : Cell K ct W (upd H a o) a d') :
    Rel K ct F W L (env.set i (.ow d')) st σ (upd H a o) := by
  have ne : ∀ b, L b ≠ some (.slot i) → (upd H a o) b = H b := fun b h => upd_ne (by rintro rfl; exact h hl)
  refine ⟨fun b u e => ?_, fun b u e => ?_, fun b vs e => ?_, fun g κ x e => ?_, I.rh, by rw [List.length_set]; exact I.len, fun j s e => ?_⟩
  · obtain ⟨h1, h2, h3⟩ := I.fr b u e
    exact ⟨by rw [ne b (by rw [h2]; exact fun z => nomatch z)]; exact h1, h2, h3⟩
  · obtain ⟨h1, h2⟩ := I.hs b u e
    exact ⟨by rw [ne b (by rw [h2]; exact fun z => nomatch z)]; exact h1, h2⟩
  · rw [upd_ne (by rintro rfl; exact hn _ (I.tp _ _ e))]
    exact I.tp b vs e
  · obtain ⟨v, h1, h2⟩ := I.ob g κ x e
    refine ⟨v, h1, ?_⟩
    have q : (fun b => if L b = some (.ob g) then (upd H a o) b else none) = fun b => if L b = some (.ob g) then H b else none := by
      funext b
      by_cases hb : L b = some (.ob g)
      · rw [if_pos hb, if_pos hb, ne b (by rw [hb]; exact fun z => nomatch z)]
      · rw [if_neg hb, if_neg hb]
    rw [q]; exact h2
  · rcases getset e with ⟨rfl, rfl, hi⟩ | ⟨hj, e⟩
    · exact ⟨a, hs, hl, c'⟩
    · refine (I.sl j s e).mono (.refl W) fun b u hb hu => ⟨?_, hb⟩
      rw [ne b (by rw [hb]; intro z; cases z; exact hj rfl)]; exact hu
/-- a label is taken away -/
theorem Rel.unlab (I : Rel K ct F W L env st σ H) {i : Nat} (hl : L a = some (.slot i)) : Rel K ct F W (fun b => if b = a then none else L b) (env.set i .no) st σ H := by
  have lab : ∀ b, b ≠ a → (if b = a then none else L b) = L b := fun b h => if_neg h
  refine ⟨fun b u e => ?_, fun b u e => ?_, I.tp, fun g κ x e => ?_, I.rh, by rw [List.length_set]; exact I.len, fun j s e => ?_⟩
  · obtain ⟨h1, h2, h3⟩ := I.fr b u e
    refine ⟨h1, ?_, h3⟩
    by_cases hb : b = a
    · exact if_pos hb
    · exact (lab b hb).trans h2
  · obtain ⟨h1, h2⟩ := I.hs b u e
    refine ⟨h1, ?_⟩
    by_cases hb : b = a
    · exact if_pos hb
    · exact (lab b hb).trans h2
  · obtain ⟨v, h1, h2⟩ := I.ob g κ x e
    refine ⟨v, h1, ?_⟩
    have q : (fun b => if (if b = a then none else L b) = some (.ob g) then H b else none) = fun b => if L b = some (.ob g) then H b else none := by
      funext b
      by_cases hb : b = a
      · subst hb; simp [hl]
      · rw [lab b hb]
    rw [q]; exact h2
  · rcases getset e with ⟨rfl, rfl, hi⟩ | ⟨hj, e⟩
    · trivial
    · refine (I.sl j s e).mono (.refl W) fun b u hb hu => ⟨hu, ?_⟩
      have nb : b ≠ a := by rintro rfl; rw [hl] at hb; cases hb; exact hj rfl
      exact (lab b nb).trans hb
/-- a slot's own thing is shared -/
theorem Rel.freeze (I : Rel K ct F W L env st σ H) {i : Nat} (he : env[i]? = some (.ow d)) : ∃ W' L', W.le W' ∧ Rel K ct F W' L' (env.set i (.sh d)) st σ H := by
  obtain ⟨a, h1, h2, c⟩ := I.sl i _ he
  have J := I.unlab h2
  have na : (fun b => if b = a then none else L b) a = none := if_pos rfl
  have hf : F a = none := by
    cases q : F a with
    | none => rfl
    | some u => have := (I.fr a u q).2.1; rw [h2] at this; cases this
  have hw : W.hs a = none := by
    cases q : W.hs a with
    | none => rfl
    | some u => have := (I.hs a u q).2; rw [h2] at this; cases this
  obtain ⟨W', le, J', q⟩ := J.pin (v := .ref a) (r := .ow d) ⟨a, rfl, na, hw, hf, c⟩
  refine ⟨W', (fun b => if b = a then none else L b), le, ?_⟩
  have s := J'.setSh (v := .ref a) (d := d) i q
  rw [List.set_set] at s
  have e : σ.set i (some (.ref a)) = σ := by
    refine List.ext_getElem? fun j => ?_
    by_cases hj : i = j
    · subst hj
      rw [List.getElem?_set_self (List.getElem?_eq_some_iff.mp h1).1, h1]
    · rw [List.getElem?_set_ne hj]
  rw [e] at s
  exact s
end
section
variable {X : Cx} {ct : CT} {pos : Pos} {x y : Expr} {a b c : Sem} {sx : Stmt} {sxs rest : List Stmt} {f g : SemS}
/-! blocks -/
def sNil : SemS := fun env st => some (.nx, env, st)
def sSeq (f g : SemS) : SemS := fun env st => (f env st).bind fun p => match p with
  | (.nx, env', st') => g env' st'
  | q => some q
theorem sb_nil : SB X ct [] sNil := ⟨pss_mono pss_nil fun D σ H ⟨F, W, L, env, st, o, env', st', I, e, k⟩ => by cases e; exact k σ H W L (.refl W) I⟩
theorem tSm_seq {K : PySem.W.Frag} {D : Ends} {σ : St} {H : Hp} (h : tSm K ct (sSeq f g) D σ H) : tSeq (tSm K ct f) (tSm K ct g) D σ H := by
  obtain ⟨F, W, L, env, st, o, env', st', I, e, k⟩ := h
  obtain ⟨⟨o1, env1, st1⟩, h1, e⟩ := bind2 e
  cases o1 with
  | nx => exact ⟨F, W, L, env, st, .nx, env1, st1, I, h1, fun σ' H' W' L' l I' => ⟨F, W', L', env1, st1, o, env', st', I', e, k.mono l⟩⟩
  | bk => cases e; exact ⟨F, W, L, env, st, .bk, _, _, I, h1, k⟩
  | ct => cases e; exact ⟨F, W, L, env, st, .ct, _, _, I, h1, k⟩
  | rt r => cases e; exact ⟨F, W, L, env, st, .rt r, _, _, I, h1, k⟩
theorem sb_cons (h : SS X ct sx f) (k : SB X ct rest g) : SB X ct (sx :: rest) (sSeq f g) := ⟨pss_mono (pss_cons h.ps k.pss) fun _ _ _ h => tSm_seq h⟩
/-- own things shared ahead of a statement -/
def sFrz (i : Nat) (f : SemS) : SemS := fun env st => match env[i]? with
  | some (.ow d) => f (env.set i (.sh d)) st
  | _ => f env st
/-! targets -/
def gNm (i : Nat) : SemG := fun d env => some (env.set i (.sh d))
def gL : List SemG → List D → List Slot → Option (List Slot)
  | [], [], env => some env
  | g :: gs, d :: ds, env => (g d env).bind fun env' => gL gs ds env'
  | _, _, _ => none
def gTp (gs : List SemG) : SemG := fun d env => match d with
  | .tup ds => gL gs ds env
  | _ => none
theorem offSet {α : Type} (l : List α) (i : Nat) (x : α) : (l.set i x).length = l.length ∧ ∀ j : Nat, j ∉ [i] → (l.set i x)[j]? = l[j]? :=
  ⟨List.length_set, fun j hj => List.getElem?_set_ne (by rintro rfl; exact hj List.mem_cons_self)⟩
theorem sg_nm (i : Nat) {n : Str} (hN : X.N.Nodup) (hi : X.N[i]? = some n := by rfl) (hx : Loc X.env.scope n := by first | exact .inl rfl | exact .inr rfl) (hf : X.fn n = true ∨ X.env.scope.names.lookup n = some .local := by first | exact .inl rfl | exact .inr rfl) : SG X ct (.Name n pos) [i] (gNm i) := by
  refine ⟨pg_mono (pg_name hN hi hx hf) fun v σ H Q ⟨F, W, L, env, st, d, env', I, r, e, k⟩ => ?_⟩
  cases e
  exact k _ (offSet _ _ _) (offSet _ _ _) (I.setSh i r)
theorem sgs_nil : SGs X ct [] [] (gL []) := by
  refine ⟨pgs_mono pgs_nil fun v σ H Q ⟨F, W, L, env, st, ds, env', I, r, e, k⟩ => ?_⟩
  cases r with
  | nil => cases e; exact ⟨rfl, k σ ⟨rfl, fun _ _ => rfl⟩ ⟨rfl, fun _ _ => rfl⟩ I⟩
  | cons => cases e
theorem offTrans {α : Type} {ts us : List Nat} {l m n : List α} (h : m.length = l.length ∧ ∀ j : Nat, j ∉ ts → m[j]? = l[j]?) (k : n.length = m.length ∧ ∀ j : Nat, j ∉ us → n[j]? = m[j]?) : n.length = l.length ∧ ∀ j : Nat, j ∉ ts ++ us → n[j]? = l[j]? :=
  ⟨k.1.trans h.1, fun j hj => (k.2 j fun z => hj (List.mem_append_right _ z)).trans (h.2 j fun z => hj (List.mem_append_left _ z))⟩
theorem sgs_cons {xs : List Expr} {ts us : List Nat} {g : SemG} {gs : List SemG} (h : SG X ct x ts g) (k : SGs X ct xs us (gL gs)) (hs : (assignEach (x :: xs) X.env).map (·.2) = assign x X.env :: (assignEach xs X.env).map (·.2) := by rfl) : SGs X ct (x :: xs) (ts ++ us) (gL (g :: gs)) := by
  refine ⟨pgs_mono (pgs_cons h.pg k.pgs hs) fun v σ H Q ⟨F, W, L, env, st, ds, env', I, r, e, k⟩ => ?_⟩
  cases r with
  | nil => cases e
  | cons h r =>
    obtain ⟨env1, e1, e⟩ := bind2 e
    refine ⟨_, _, rfl, F, W, L, env, st, _, env1, I, h, e1, fun σ' o1 o2 I1 => ?_⟩
    exact ⟨F, W, L, env1, st, _, env', I1, r, e, fun σ2 o3 o4 I2 => k σ2 (offTrans o1 o3) (offTrans o2 o4) I2⟩
theorem gL_len : ∀ {gs : List SemG} {ds : List D} {e e' : List Slot}, gL gs ds e = some e' → ds.length = gs.length
  | [], [], _, _, _ => rfl
  | [], _ :: _, _, _, h => by cases h
  | _ :: _, [], _, _, h => by cases h
  | g :: gs, d :: ds, e, e', h => by
    obtain ⟨e1, _, h⟩ := bind2 h
    exact congrArg (· + 1) (gL_len h)
theorem sg_tup {xs : List Expr} {n : Nat} {ts : List Nat} {gs : List SemG} (hc : X.calm = true) (h : SGs X ct xs ts (gL gs)) (hn : (assignEach xs X.env).length = gs.length := by rfl) (hst : (assignEach xs X.env).findIdx? (·.1) = none := by rfl) : SG X ct (.Tuple xs n pos) ts (gTp gs) := by
  refine ⟨pg_mono (pg_tup hc h.pgs hn hst) fun v σ H Q ⟨F, W, L, env, st, d, env', I, r, e, k⟩ => ?_⟩
  cases d <;> try (cases e; done)
  cases r with
  | tup h q =>
    refine ⟨_, _, rfl, SqT.of (I.tp _ _ h), by rw [q.length]; exact gL_len e, F, W, L, env, st, _, env', I, q, e, k⟩
/-! assignments -/
def sSet (i : Nat) (e : Sem) : SemS := fun env st => (e env st).bind fun p => match p.1 with
  | .sh d => some (.nx, env.set i (.sh d), p.2)
  | .ow d => some (.nx, env.set i (.ow d), p.2)
  | .bw _ _ => none
theorem tSm_set {K : PySem.W.Frag} {i : Nat} {D : Ends} {σ : St} {H : Hp} (h : tSm K ct (sSet i a) D σ H) : tAsg (tE K ct a) (gName i) D σ H := by
  obtain ⟨F, W, L, env, st, o, env', st', I, e, k⟩ := h
  obtain ⟨⟨r1, st1⟩, h1, e⟩ := bind2 e
  refine ⟨F, W, L, env, st, r1, st1, I, h1, fun v H1 W1 L1 l1 I1 p1 => ?_⟩
  cases r1 with
  | sh d => cases e; exact k _ H1 W1 L1 l1 (I1.setSh i p1)
  | ow d =>
    cases e
    obtain ⟨a, rfl, h1, h2, h3, c⟩ := p1
    exact k _ H1 W1 _ l1 (I1.setOw i h1 h2 h3 c)
  | bw j d => cases e
theorem ss_set (i : Nat) {n : Str} {pos' : Pos} (hN : X.N.Nodup) (he : SE X ct x a) (hi : X.N[i]? = some n := by rfl) (hx : Loc X.env.scope n := by first | exact .inl rfl | exact .inr rfl) (hs : swapsWith x (some (.Name n pos')) pos.line X.env = pure false := by rfl)
    (hf : X.fn n = true ∨ X.env.scope.names.lookup n = some .local := by first | exact .inl rfl | exact .inr rfl) : SS X ct (.Assign [.Name n pos'] x pos) (sSet i a) := ⟨ps_mono (ps_set hN hi hx he.pe hs hf) fun _ _ _ h => tSm_set h⟩
/-- into a tuple of names -/
def sAsg (e : Sem) (g : SemG) : SemS := fun env st => (e env st).bind fun p => match p.1.pin with
  | .sh d => (g d env).map fun env' => (.nx, env', p.2)
  | _ => none
/-- a, b = x, y -/
def sPar (i j : Nat) (as : SemA) : SemS := fun env st => (as env st).bind fun p => match p.1 with
  | [.sh d, .sh e] => some (.nx, (env.set i (.sh d)).set j (.sh e), p.2)
  | _ => none
/-- x op= e -/
def sAug (i : Nat) (f : D → D → Option R) (e : Sem) : SemS := fun env st => match env[i]? with
  | some (.sh d) => (e env st).bind fun p => (f d p.1.d).bind fun r => match r with
    | .sh d' => some (.nx, env.set i (.sh d'), p.2)
    | _ => none
  | _ => none
/-! small statements -/
def sEx (e : Sem) : SemS := fun env st => (e env st).map fun p => (.nx, env, p.2)
def sRet (e : Sem) : SemS := fun env st => (e env st).map fun p => (.rt p.1, env, p.2)
theorem ss_ret (he : SE X ct x a) : SS X ct (.Return (some x) pos) (sRet a) := by
  refine ⟨ps_mono (ps_ret he.pe) fun D σ H ⟨F, W, L, env, st, o, env', st', I, e, k⟩ => ?_⟩
  obtain ⟨⟨r1, st1⟩, h1, e⟩ := map2 e
  cases e
  exact ⟨F, W, L, env, st, r1, _, I, h1, fun v H1 W1 L1 l1 I1 p => k v _ H1 W1 L1 l1 I1 p⟩
def sRetN : SemS := fun env st => some (.rt (.sh .non), env, st)
/-- what is never come to -/
def sNever : SemS := fun _ _ => none
theorem ss_never : SS X ct sx sNever := ⟨ps_mono ps_never fun D σ H ⟨F, W, L, env, st, o, env', st', I, e, k⟩ => by cases e⟩
def R.tr : R → Option Bool
  | .sh (.bl b) => some b
  | _ => none
theorem R.tr_eq : ∀ {r : R} {b : Bool}, r.tr = some b → r = .sh (.bl b)
  | .sh (.bl _), _, e => by cases e; rfl
  | .sh .non, _, e => nomatch e
  | .sh (.int _), _, e => nomatch e
  | .sh (.str _), _, e => nomatch e
  | .sh (.lst _), _, e => nomatch e
  | .sh (.tup _), _, e => nomatch e
  | .sh (.dic _), _, e => nomatch e
  | .sh (.obj _ _), _, e => nomatch e
  | .sh (.hnd _), _, e => nomatch e
  | .sh (.scr _), _, e => nomatch e
  | .ow _, _, e => nomatch e
  | .bw _ _, _, e => nomatch e
def sIf (c : Sem) (f g : SemS) : SemS := fun env st => (c env st).bind fun p => p.1.tr.bind fun k => if k = true then f env p.2 else g env p.2
theorem ss_if {s1 s2 : List Stmt} (hc : ST X ct x c) (hf : SB X ct s1 f) (hg : SB X ct s2 g) : SS X ct (.If x s1 s2 pos) (sIf c f g) := by
  refine ⟨ps_mono (ps_if hc.pt hf.pss hg.pss) fun D σ H ⟨F, W, L, env, st, o, env', st', I, e, k⟩ => ?_⟩
  obtain ⟨⟨r1, st1⟩, h1, e⟩ := bind2 e
  obtain ⟨b, hb, e⟩ := bind2 e
  have hb := R.tr_eq hb
  rw [show r1 = _ from hb] at h1
  refine ⟨F, W, L, env, st, b, st1, I, h1, fun H1 W1 L1 l1 I1 => ?_⟩
  cases b with
  | true => exact iteT ⟨F, W1, L1, env, st1, o, env', st', I1, e, k.mono l1⟩
  | false => exact iteF ⟨F, W1, L1, env, st1, o, env', st', I1, e, k.mono l1⟩
/-- while, at most n turns -/
def whL (c : Sem) (f : SemS) : Nat → List Slot → Sto → Option (Out × List Slot × Sto)
  | 0, _, _ => none
  | n + 1, env, st => (c env st).bind fun p => p.1.tr.bind fun k => if k = true then (f env p.2).bind fun q => match q with
      | (.nx, env', st') => whL c f n env' st'
      | (.ct, env', st') => whL c f n env' st'
      | (.bk, env', st') => some (.nx, env', st')
      | (.rt r, env', st') => some (.rt r, env', st')
    else some (.nx, env, p.2)
def sWhl (n : Nat) (c : Sem) (f : SemS) : SemS := fun env st => whL c f n env st
/-! for -/
def forL (g : SemG) (f : SemS) : List D → List Slot → Sto → Option (Out × List Slot × Sto)
  | [], env, st => some (.nx, env, st)
  | d :: ds, env, st => (g d env).bind fun env1 => (f env1 st).bind fun q => match q with
    | (.nx, env', st') => forL g f ds env' st'
    | (.ct, env', st') => forL g f ds env' st'
    | (.bk, env', st') => some (.nx, env', st')
    | (.rt r, env', st') => some (.rt r, env', st')
def sFor (it : SemI) (g : SemG) (f : SemS) : SemS := fun env st => (it env st).bind fun p => forL g f p.1 env p.2
theorem ss_for {tg : Expr} {ts : List Nat} {g : SemG} {it : SemI} {s1 : List Stmt} (hp : PassesOwn (model X.prog X.w) X.A X.env X.xe) (hc : X.calm = true) (hi : SI X ct tg x it) (hg : SG X ct tg ts g) (hf : SB X ct s1 f) (hs : ∀ z, foldedSetIterable x X.env z = pure z := by intro _; rfl) :
    SS X ct (.For tg x s1 [] pos) (sFor it g f) := by
  refine ⟨ps_mono (ps_for hp hc hi.pi hg.pg hf.pss hs) fun D σ H ⟨F, W, L, env, st, o, env', st', I, e, k⟩ => ?_⟩
  obtain ⟨⟨ds, st1⟩, h1, e⟩ := bind2 e
  refine ⟨F, W, L, env, st, ds, st1, I, h1, fun J H1 W1 L1 l1 I1 wk => ?_⟩
  refine ⟨fun i m σ H => m = ds.length - i ∧ i ≤ ds.length ∧ ∃ W2 L2 env2 st2, W1.le W2 ∧ Rel X.K ct F W2 L2 env2 st2 σ H ∧ forL g f (ds.drop i) env2 st2 = some (o, env', st'), ⟨_, rfl, Nat.zero_le _, W1, L1, env, st1, .refl W1, I1, e⟩, ?_⟩
  rintro i m σ H ⟨rfl, hi, W2, L2, env2, st2, l2, I2, e2⟩
  have wk2 := wk F W2 L2 env2 st2 σ H i l2 I2
  by_cases hlt : i < ds.length
  · rw [List.drop_eq_getElem_cons hlt] at e2
    obtain ⟨env3, h3, e2⟩ := bind2 e2
    obtain ⟨⟨o4, env4, st4⟩, h4, e2⟩ := bind2 e2
    obtain ⟨go, yl⟩ := wk2.1 ds[i] (List.getElem?_eq_getElem hlt)
    refine .inr ⟨go, fun σ' H' => i + 1 ≤ ds.length ∧ ∃ W2 L2 env2 st2, W1.le W2 ∧ Rel X.K ct F W2 L2 env2 st2 σ' H' ∧ forL g f (ds.drop (i + 1)) env2 st2 = some (o, env', st'), fun σ' H' q => ⟨_, by omega, rfl, q⟩, fun v H' y => ?_⟩
    obtain ⟨W3, L3, l3, I3, r3⟩ := yl v H' y
    refine ⟨F, W3, L3, env2, st2, _, env3, I3, r3, h3, fun σ3 _ _ I3' => ?_⟩
    refine ⟨F, W3, L3, env3, st2, o4, env4, st4, I3', h4, ?_⟩
    have ll := l2.trans l3
    cases o4 with
    | nx => exact fun σ' H' W5 L5 l5 I5 => ⟨hlt, W5, L5, env4, st4, ll.trans l5, I5, e2⟩
    | ct => exact fun σ' H' W5 L5 l5 I5 => ⟨hlt, W5, L5, env4, st4, ll.trans l5, I5, e2⟩
    | bk => cases e2; exact fun σ' H' W5 L5 l5 I5 => k _ _ _ _ (l1.trans (ll.trans l5)) I5
    | rt r => cases e2; exact fun v σ' H' W5 L5 l5 I5 => k v _ _ _ _ (l1.trans (ll.trans l5)) I5
  · have ei : i = ds.length := by omega
    rw [ei, List.drop_length] at e2
    cases e2
    exact .inl ⟨wk2.2 (by omega), k _ _ _ _ (l1.trans l2) I2⟩
end
end Kn
namespace Kn
open PySem L2
section
variable {X : Cx} {ct : CT} {pos : Pos} {x y : Expr} {a b c : Sem} {es : List Expr} {as : SemA}
/-! a list of one's own is changed by its methods -/
def MuS (rr : V → List V → Hp → VK → Prop) (f : List D → List D → Option (List D)) : Prop := ∀ K ct W H l vs ds ws xs ds' Q, H l = some (.lst vs) → RepL K ct W vs ds → RepL K ct W ws xs → f xs ds = some ds' →
  (∀ v vs', RepL K ct W vs' ds' → Q v (upd H l (.lst vs'))) → rr (.ref l) ws H Q
def sMut (i : Nat) (f : List D → List D → Option (List D)) (as : SemA) : SemS := fun env st => (as env st).bind fun p => (valsR p.1).bind fun xs => match env[i]? with
  | some (.ow (.lst ds)) => (f xs ds).map fun ds' => (.nx, env.set i (.ow (.lst ds')), p.2)
  | _ => none
theorem tSm_mut {K : PySem.W.Frag} {i : Nat} {rr : V → List V → Hp → VK → Prop} {f : List D → List D → Option (List D)} (ms : MuS rr f) {D : Ends} {σ : St} {H : Hp} (h : tSm K ct (sMut i f as) D σ H) :
    ∃ l vs, σ[i]? = some (some (.ref l)) ∧ H l = some (.lst vs) ∧ tA K ct as σ H fun ws H2 => rr (.ref l) ws H2 fun _ H3 => D.nx σ H3 := by
  obtain ⟨F, W, L, env, st, o, env', st', I, e, k⟩ := h
  obtain ⟨⟨rs, st1⟩, h1, e⟩ := bind2 e
  obtain ⟨xs, h2, e⟩ := bind2 e
  split at e
  · rename_i ds he
    obtain ⟨ds', h3, e3⟩ := map2 e
    cases e3
    obtain ⟨l, s1, s2, c⟩ := I.sl i _ he
    cases c with
    | lst g q =>
      refine ⟨l, _, s1, g, F, W, L, env, st, rs, _, I, h1, fun ws H2 W2 L2 l2 I2 qs => ?_⟩
      obtain ⟨l', t1, t2, c2⟩ := I2.sl i _ he
      rw [s1] at t1; cases t1
      cases c2 with
      | lst g2 q2 =>
        refine ms _ _ _ _ _ _ _ _ _ _ _ g2 q2 (qs.vals h2) h3 fun v vs' q' => ?_
        exact k _ _ _ _ l2 (I2.updOw' s1 t2 (fun xs z => by rw [g2] at z; cases z) (.lst upd_same q'))
  · cases e
theorem ss_mut1 {id : String} {name n : Str} {rr : V → List V → Hp → VK → Prop} {f : List D → List D → Option (List D)} {apos cpos npos : Pos} (i : Nat) (slot : PySem.Slot "list" name id) (hty : typeOf (.builtin id) = pure (.type "method_descriptor")) (hm : MtR X id rr) (ms : MuS rr f) (ha : SA X ct (x :: es) as)
    (hN : X.N[i]? = some n := by rfl) (hv : Vis X.env.scope n := by first | exact Or.inl rfl | exact Or.inr (Or.inl rfl) | exact Or.inr (Or.inr rfl)) (hd : (n == ("__debug__" : Str)) = false := by decide)
    (hcd : (n == ("__classdict__" : Str)) = false := by decide) (hbase : attributeBase (.Name n npos) name X.env (eval (.Name n npos) X.env) = eval (.Name n npos) X.env := by rfl)
    (hfew : ((backTo cpos (starEach (x :: es) X.env)).all (fun x => !x.1) && (backToKw cpos (keywordEach [] X.env)).all (fun x => x.1.isSome)
      && decide ((x :: es).length + ([] : List Keyword).length + (if ([] : List Keyword).isEmpty then 0 else 1) < 30)) = true := by rfl)
    (hline : (apos.endLine == cpos.line) = true := by rfl) (hs : starEach (x :: es) X.env = (false, eval x X.env) :: starEach es X.env := by rfl) (hplain : (backTo cpos (starEach es X.env)).any (·.1) = false := by rfl)
    (hsw : swapsWith (.Call (.Attribute (.Name n npos) name apos) (x :: es) [] cpos) none pos.line X.env = pure false := by rfl) :
    SS X ct (.Expr (.Call (.Attribute (.Name n npos) name apos) (x :: es) [] cpos) pos) (sMut i f as) := by
  refine ⟨ps_mono (ps_expr (pe_bm PySem.F.plainAttrs_list slot hty hm (pe_var hN hv hd hcd) ha.pa hbase hfew hline hs hplain) hsw) fun D σ H h => ?_⟩
  obtain ⟨l, vs, s1, g, t⟩ := tSm_mut ms h
  exact ⟨_, s1, .inl ⟨rfl, _, SqL.of g⟩, t⟩
theorem ss_mut0 {id : String} {name n : Str} {rr : V → List V → Hp → VK → Prop} {f : List D → List D → Option (List D)} {apos cpos npos : Pos} (i : Nat) (slot : PySem.Slot "list" name id) (hty : typeOf (.builtin id) = pure (.type "method_descriptor")) (hm : MtR X id rr) (ms : MuS rr f)
    (hN : X.N[i]? = some n := by rfl) (hv : Vis X.env.scope n := by first | exact Or.inl rfl | exact Or.inr (Or.inl rfl) | exact Or.inr (Or.inr rfl)) (hd : (n == ("__debug__" : Str)) = false := by decide)
    (hcd : (n == ("__classdict__" : Str)) = false := by decide) (hbase : attributeBase (.Name n npos) name X.env (eval (.Name n npos) X.env) = eval (.Name n npos) X.env := by rfl)
    (hline : (apos.endLine == cpos.line) = true := by rfl)
    (hsw : swapsWith (.Call (.Attribute (.Name n npos) name apos) [] [] cpos) none pos.line X.env = pure false := by rfl) :
    SS X ct (.Expr (.Call (.Attribute (.Name n npos) name apos) [] [] cpos) pos) (sMut i f aNil) := by
  refine ⟨ps_mono (ps_expr (pe_bm0 PySem.F.plainAttrs_list slot hty hm (pe_var hN hv hd hcd) hbase hline) hsw) fun D σ H h => ?_⟩
  obtain ⟨l, vs, s1, g, t⟩ := tSm_mut ms h
  refine ⟨_, s1, .inl ⟨rfl, _, SqL.of g⟩, ?_⟩
  exact sa_nil_use t
where
  sa_nil_use {K : PySem.W.Frag} {σ : St} {H : Hp} {Q : List V → Hp → Prop} (h : tA K ct aNil σ H Q) : Q [] H := by
    obtain ⟨F, W, L, env, st, rs, st', I, e, k⟩ := h
    cases e
    exact k [] H W L (.refl W) I .nil
def fApp (xs ds : List D) : Option (List D) := match xs with
  | [d] => if ds.length < sizeLine then some (ds ++ [d]) else none
  | _ => none
theorem ms_app : MuS rAppend fApp := by
  intro K ct W H l vs ds ws xs ds' Q g q qx e k
  unfold fApp at e
  split at e
  · obtain ⟨c, rfl⟩ := ifs e
    cases qx with
    | cons h r =>
      cases r
      exact ⟨l, vs, _, rfl, rfl, g, by rw [q.length]; exact c, k _ _ (q.append (.cons h .nil))⟩
  · cases e
def fClr (xs _ : List D) : Option (List D) := match xs with
  | [] => some []
  | _ => none
theorem ms_clr : MuS rClear fClr := by
  intro K ct W H l vs ds ws xs ds' Q g q qx e k
  unfold fClr at e
  split at e
  · cases e; cases qx
    exact ⟨l, vs, rfl, rfl, g, k _ _ .nil⟩
  · cases e
def fPop (xs ds : List D) : Option (List D) := match xs with
  | [] => if ds ≠ [] then some ds.dropLast else none
  | _ => none
theorem RepL.dropLast {K : PySem.W.Frag} {W : Wd} {vs : List V} {ds : List D} (r : RepL K ct W vs ds) : RepL K ct W vs.dropLast ds.dropLast := by
  rw [List.dropLast_eq_take, List.dropLast_eq_take, r.length]
  exact r.take _
/-! an item of one's own list or dict is stored -/
def putD (kds : List (Key × D)) (k : Key) (d : D) : List (Key × D) := if (valD kds k).isSome = true then kds.map fun kv => if kv.1 = k then (kv.1, d) else kv else kds ++ [(k, d)]
def setItm : D → D → D → Option D
  | .lst ds, .int k, d => (ixN ds.length k).map fun j => .lst (ds.set j d)
  | .dic kds, i, d => i.key.bind fun k => if kds.length < sizeLine then some (.dic (putD kds k d)) else none
  | _, _, _ => none
def sSub (i : Nat) (ix e : Sem) : SemS := fun env st => (e env st).bind fun p => (ix env p.2).bind fun q => match p.1.pin, env[i]? with
  | .sh d, some (.ow c) => (setItm c q.1.d d).map fun c' => (.nx, env.set i (.ow c'), q.2)
  | _, _ => none
/-- {} -/
def eDnew : Sem := fun _ st => some (.ow (.dic []), st)
/-! what is walked -/
variable {tg : Expr}
theorem wk_list {K : PySem.W.Frag} {W0 : Wd} {l : Addr} {vs : List V} {ds : List D} (h : SqL K W0.hs l vs) (r : RepL K ct W0 vs ds) : Wk K ct (Itl K l) W0 ds := by
  intro F W L env st σ H i le I
  have hs : SqL K H l vs := sq_mono (fun a o e => (I.hs a o (le.1 a o e)).1) h
  refine ⟨fun d hd => ?_, fun hi => ⟨vs, hs, by rw [r.length]; exact hi⟩⟩
  obtain ⟨v, hv, hr⟩ := r.get hd
  exact ⟨⟨vs, v, hs, hv⟩, fun x H' ⟨e, y⟩ => by
    subst e
    have e2 := y vs hs
    rw [hv] at e2; cases e2
    exact ⟨W, L, .refl W, I, hr.mono le⟩⟩
theorem wk_tup {K : PySem.W.Frag} {W0 : Wd} {l : Addr} {vs : List V} {ds : List D} (h : W0.tp l = some vs) (r : RepL K ct W0 vs ds) : Wk K ct (Itt K l) W0 ds := by
  intro F W L env st σ H i le I
  have hs : SqT K H l vs := SqT.of (I.tp _ _ (le.2 _ _ h))
  refine ⟨fun d hd => ?_, fun hi => ⟨vs, hs, by rw [r.length]; exact hi⟩⟩
  obtain ⟨v, hv, hr⟩ := r.get hd
  exact ⟨⟨vs, v, hs, hv⟩, fun x H' ⟨e, y⟩ => by
    subst e
    have e2 := y vs hs
    rw [hv] at e2; cases e2
    exact ⟨W, L, .refl W, I, hr.mono le⟩⟩
def D.seq : D → Option (List D)
  | .lst ds => some ds
  | .scr ns => some (ns.map D.int)
  | .tup ds => some ds
  | _ => none
def R.sh? : R → Option D
  | .sh d => some d
  | .ow d => some d
  | .bw _ _ => none
theorem R.sh_pin : ∀ {r : R} {d : D}, r.sh? = some d → r.pin = .sh d
  | .sh _, _, e => by cases e; rfl
  | .ow _, _, e => by cases e; rfl
  | .bw _ _, _, e => by cases e
def iSeq (a : Sem) : SemI := fun env st => (a env st).bind fun p => p.1.sh?.bind fun d => d.seq.map fun ds => (ds, p.2)
theorem si_seq (ha : SE X ct x a) : SI X ct tg x (iSeq a) := by
  refine ⟨pi_mono (pi_or (pi_list ha.pe) (pi_tup ha.pe)) fun σ H RR ⟨F, W, L, env, st, ds, st', I, e, k⟩ => ?_⟩
  obtain ⟨⟨r1, st1⟩, h1, e⟩ := bind2 e
  obtain ⟨d, h2, e⟩ := bind2 e
  obtain ⟨ds', h3, e⟩ := map2 e
  cases e
  have hp := R.sh_pin h2
  have out : (∀ v H1 W1 L1, W.le W1 → Rel X.K ct F W1 L1 env st1 σ H1 → Rep X.K ct W1 v d → ∃ a, v = .ref a ∧ (∃ vs, SqL X.K W1.hs a vs ∧ RepL X.K ct W1 vs ds)) ∨
      (∀ v H1 W1 L1, W.le W1 → Rel X.K ct F W1 L1 env st1 σ H1 → Rep X.K ct W1 v d → ∃ a, v = .ref a ∧ (∃ vs, W1.tp a = some vs ∧ RepL X.K ct W1 vs ds)) := by
    cases d <;> simp only [D.seq, Option.some.injEq, reduceCtorEq] at h3
    · subst h3
      refine .inl fun v H1 W1 L1 _ _ r => ?_
      cases r with
      | lst h q => exact ⟨_, rfl, _, SqL.of h, q⟩
    · subst h3
      refine .inr fun v H1 W1 L1 _ _ r => ?_
      cases r with
      | tup h q => exact ⟨_, rfl, _, h, q⟩
    · subst h3
      refine .inl fun v H1 W1 L1 _ _ r => ?_
      cases r with
      | scr h => exact ⟨_, rfl, _, h, RepL.of_ints _⟩
  rcases out with out | out
  · refine .inl ⟨F, W, L, env, st, r1, st1, I, h1, fun v H1 W1 L1 l1 I1 p1 => ?_⟩
    obtain ⟨W1', m1, J1, q1⟩ := I1.pin p1
    rw [hp] at q1
    obtain ⟨l, rfl, vs, g, q⟩ := out v H1 W1' L1 (l1.trans m1) J1 q1
    exact ⟨l, rfl, ⟨vs, sq_mono (fun a o e => (J1.hs a o e).1) g⟩, k _ H1 W1' L1 (l1.trans m1) J1 (wk_list g q)⟩
  · refine .inr ⟨F, W, L, env, st, r1, st1, I, h1, fun v H1 W1 L1 l1 I1 p1 => ?_⟩
    obtain ⟨W1', m1, J1, q1⟩ := I1.pin p1
    rw [hp] at q1
    obtain ⟨l, rfl, vs, g, q⟩ := out v H1 W1' L1 (l1.trans m1) J1 q1
    exact ⟨l, rfl, ⟨vs, SqT.of (J1.tp _ _ g)⟩, k _ H1 W1' L1 (l1.trans m1) J1 (wk_tup g q)⟩
/-- lo, lo + 1, .. -/
def rngD (lo : Int) (n : Nat) : List D := (List.range n).map fun (k : Nat) => D.int (lo + k)
theorem wk_rng {K : PySem.W.Frag} {W0 : Wd} (lo : Int) (n : Nat) : Wk K ct (Itr lo n) W0 (rngD lo n) := by
  intro F W L env st σ H i le I
  have hl : (rngD lo n).length = n := by unfold rngD; rw [List.length_map, List.length_range]
  refine ⟨fun d hd => ?_, fun hi => by rw [hl] at hi; exact hi⟩
  have hi : i < n := by
    have := (List.getElem?_eq_some_iff.mp hd).1
    rw [hl] at this; exact this
  have e : d = .int (lo + i) := by
    unfold rngD at hd
    rw [List.getElem?_map, List.getElem?_range hi] at hd
    exact (Option.some.inj hd).symm
  subst e
  exact ⟨hi, fun x H' ⟨e1, e2⟩ => by subst e1; subst e2; exact ⟨W, L, .refl W, I, .int _⟩⟩
/-- within the bounds of a range -/
structure Rg (j : Int) : Prop where
  lo : -(2 ^ 62) ≤ j
  hi : j < 2 ^ 62
noncomputable instance (j : Int) : Decidable (Rg j) := Classical.propDecidable _
theorem Rg.of {j : Int} (h : -1000000 ≤ j ∧ j ≤ 1000000) : Rg j := ⟨by omega, by omega⟩
noncomputable def iRng1' (a : Sem) : SemI := fun env st => (a env st).bind fun p => match p.1.d with
  | .int j => if Rg j then some (rngD 0 j.toNat, p.2) else none
  | _ => none
theorem si_rng1 {p : Pos} (hg : Gl X "range") (hm : X.mg "range" = none) (ha : SE X ct x a) (he : starEach [x] X.env = (false, eval x X.env) :: starEach [] X.env := by rfl) (hs : starEach [x] X.env = [(false, eval x X.env)] := by rfl) : SI X ct tg (.Call (.Name "range" p) [x] [] pos) (iRng1' a) := by
  refine ⟨pi_mono (pi_range1 hg hm (pa_cons ha.pe pa_nil he) hs) fun σ H RR ⟨F, W, L, env, st, ds, st', I, e, k⟩ => ?_⟩
  obtain ⟨⟨r1, st1⟩, h1, e⟩ := bind2 e
  refine ⟨F, W, L, env, st, r1, st1, I, h1, fun v H1 W1 L1 l1 I1 p1 => ?_⟩
  obtain ⟨W1', m1, J1, q1⟩ := I1.pin p1
  have q1' := J1.look q1
  rw [R.pin_d] at q1'
  cases hr : r1.d <;> rw [show ((r1, st1) : R × Sto).1.d = _ from hr] at e <;> try (cases e; done)
  obtain ⟨c, e⟩ := ifs e
  cases e
  rw [hr] at q1'
  exact ⟨_, by rw [q1'.int], c.1, c.2, k _ _ _ _ (l1.trans m1) J1 (wk_rng 0 _)⟩
noncomputable def iRng2' (a b : Sem) : SemI := fun env st => (a env st).bind fun p => (b env p.2).bind fun q => match p.1.d, q.1.d with
  | .int i, .int j => if Rg i ∧ Rg j then some (rngD i (j - i).toNat, q.2) else none
  | _, _ => none
def enumF : Nat → List D → List D
  | _, [] => []
  | k, d :: ds => .tup [.int k, d] :: enumF (k + 1) ds
theorem tup_new {K : PySem.W.Frag} {F H : Hp} {W : Wd} {L : Addr → Option Lab} {env : List Slot} {st : Sto} {σ : St} {ds : List D} {vs : List V} {p : Addr} (I : Rel K ct F W L env st σ H) (hp : H p = none) (r : RepL K ct W vs ds) :
    ∃ W' L', W.le W' ∧ Rel K ct F W' L' env st σ (upd H p (.tup vs)) ∧ Rep K ct W' (.ref p) (.tup ds) := by
  obtain ⟨I', _⟩ := I.laid (o := .tup vs) hp
  obtain ⟨le, J, e⟩ := I'.shareT (p := p) upd_same
  exact ⟨_, _, le, J, Rep.tup e (r.mono le)⟩
def iEnum' (a : Sem) : SemI := fun env st => (a env st).bind fun p => p.1.sh?.bind fun d => d.seqL.map fun ds => (enumF 0 ds, p.2)
theorem rep_seqL {K : PySem.W.Frag} {W : Wd} {v : V} {d : D} {ds : List D} (h : Rep K ct W v d) (e : d.seqL = some ds) : ∃ a vs, v = .ref a ∧ SqL K W.hs a vs ∧ RepL K ct W vs ds := by
  cases d <;> simp only [D.seqL, Option.some.injEq, reduceCtorEq] at e
  · subst e
    cases h with
    | lst h q => exact ⟨_, _, rfl, SqL.of h, q⟩
  · subst e
    cases h with
    | scr h => exact ⟨_, _, rfl, h, RepL.of_ints _⟩
def zipD : List D → List D → List D
  | d :: ds, e :: es => .tup [d, e] :: zipD ds es
  | _, _ => []
theorem zipD_get : ∀ (ds es : List D) (i : Nat) (d : D), (zipD ds es)[i]? = some d → ∃ a b, ds[i]? = some a ∧ es[i]? = some b ∧ d = .tup [a, b]
  | [], _, i, d, h => by simp [zipD] at h
  | _ :: _, [], i, d, h => by simp [zipD] at h
  | a :: ds, b :: es, 0, d, h => ⟨a, b, rfl, rfl, by simp [zipD] at h; exact h.symm⟩
  | a :: ds, b :: es, i + 1, d, h => by
    obtain ⟨a', b', h1, h2, h3⟩ := zipD_get ds es i d (by simpa [zipD] using h)
    exact ⟨a', b', by simpa using h1, by simpa using h2, h3⟩
theorem zipD_len : ∀ (ds es : List D) (i : Nat), (zipD ds es).length ≤ i → ds.length ≤ i ∨ es.length ≤ i
  | [], _, i, _ => .inl (Nat.zero_le _)
  | _ :: _, [], i, _ => .inr (Nat.zero_le _)
  | a :: ds, b :: es, 0, h => by simp [zipD] at h
  | a :: ds, b :: es, i + 1, h => by
    rcases zipD_len ds es i (by simpa [zipD] using h) with h | h
    · exact .inl (Nat.succ_le_succ h)
    · exact .inr (Nat.succ_le_succ h)
def iZip' (a b : Sem) : SemI := fun env st => (a env st).bind fun p => p.1.sh?.bind fun d => d.seqL.bind fun ds => (b env p.2).bind fun q => q.1.sh?.bind fun e => e.seqL.map fun es => (zipD ds es, q.2)
end
end Kn
namespace Kn
open PySem L2
section
variable {X : Cx} {ct : CT} {pos : Pos} {x y : Expr} {a b c : Sem} {es : List Expr} {as : SemA}
/-! list comprehensions -/
def wipeE (env : List Slot) : List Nat → List Slot
  | [] => env
  | v :: vs => (wipeE env vs).set v .no
theorem wipeE_len (env : List Slot) : ∀ vs, (wipeE env vs).length = env.length
  | [] => rfl
  | v :: vs => by rw [wipeE, List.length_set, wipeE_len env vs]
theorem wipeE_out {env : List Slot} {i : Nat} : ∀ {vs : List Nat}, i ∉ vs → (wipeE env vs)[i]? = env[i]?
  | [], _ => rfl
  | v :: vs, h => by
    rw [wipeE, List.getElem?_set_ne fun e => h (by rw [e]; exact List.mem_cons_self)]
    exact wipeE_out fun m => h (List.mem_cons_of_mem _ m)
theorem wipeE_in {env : List Slot} {i : Nat} {s : Slot} : ∀ {vs : List Nat}, i ∈ vs → (wipeE env vs)[i]? = some s → s = .no
  | v :: vs, h, e => by
    rw [wipeE] at e
    rcases getset e with ⟨_, e, _⟩ | ⟨hj, e⟩
    · exact e
    · rcases List.mem_cons.mp h with h | h
      · exact absurd h hj
      · exact wipeE_in h e
theorem wipe_in {σ : St} {i : Nat} : ∀ {vs : List Nat}, i ∈ vs → i < σ.length → (wipe σ vs)[i]? = some none
  | v :: vs, h, hi => by
    unfold wipe
    by_cases e : v = i
    · subst e
      rw [List.getElem?_set_self (by rw [wipe_length]; exact hi)]
    · rw [List.getElem?_set_ne e]
      rcases List.mem_cons.mp h with h | h
      · exact absurd h.symm e
      · exact wipe_in h hi
theorem wipe_again {σ σ' : St} {vs : List Nat} (hl : σ'.length = σ.length) (h : ∀ j : Nat, j ∉ vs → σ'[j]? = (wipe σ vs)[j]?) : wipe σ' vs = wipe σ vs := by
  refine List.ext_getElem? fun j => ?_
  by_cases hj : j ∈ vs
  · by_cases hi : j < σ.length
    · rw [wipe_in hj hi, wipe_in hj (by rw [hl]; exact hi)]
    · rw [List.getElem?_eq_none (by rw [wipe_length]; omega), List.getElem?_eq_none (by rw [wipe_length]; omega)]
  · rw [wipe_out hj, h j hj]
theorem Rel.wiped {K : PySem.W.Frag} {F H : Hp} {W : Wd} {L : Addr → Option Lab} {env : List Slot} {st : Sto} {σ : St} (I : Rel K ct F W L env st σ H) (vs : List Nat) : Rel K ct F W L (wipeE env vs) st (wipe σ vs) H := by
  refine ⟨I.fr, I.hs, I.tp, I.ob, I.rh, by rw [wipe_length, wipeE_len]; exact I.len, fun j s e => ?_⟩
  by_cases hj : j ∈ vs
  · rw [wipeE_in hj e]; trivial
  · rw [wipeE_out hj] at e
    exact (I.sl j s e).at' (wipe_out hj)
def Slot.okW : Slot → Bool
  | .no => true
  | .sh _ => true
  | _ => false
/-- back out of the block -/
theorem Rel.back {K : PySem.W.Frag} {F H1 H : Hp} {W W1 : Wd} {L L1 : Addr → Option Lab} {env env1 : List Slot} {st st1 : Sto} {σ σ1 : St} {F0 : Hp} {vs : List Nat} (I0 : Rel K ct F0 W L env st σ H) (le : W.le W1) (I1 : Rel K ct F W1 L1 env1 st1 σ1 H1)
    (hs : ∀ j : Nat, j ∉ vs → σ1[j]? = σ[j]?) (he : ∀ j : Nat, j ∉ vs → env1[j]? = env[j]?) (hv : ∀ j : Nat, j ∈ vs → ∀ s, env[j]? = some s → s.okW = true) : Rel K ct F W1 L1 env st1 σ H1 := by
  refine ⟨I1.fr, I1.hs, I1.tp, I1.ob, I1.rh, I0.len, fun j s e => ?_⟩
  by_cases hj : j ∈ vs
  · have h0 := I0.sl j s e
    have ok := hv j hj s e
    cases s with
    | no => trivial
    | sh d =>
      obtain ⟨v, h1, h2⟩ := h0
      exact ⟨v, h1, h2.mono le⟩
    | ow d => cases ok
    | o2 d => cases ok
    | me a d => cases ok
    | exc a => cases ok
  · rw [← he j hj] at e
    exact (I1.sl j s e).at' (hs j hj).symm
def lcL (g : SemG) (c a : Sem) (vs : List Nat) (env : List Slot) : List D → Sto → Option (List D × Sto)
  | [], st => some ([], st)
  | d :: ds, st => (g d (wipeE env vs)).bind fun env1 => (c env1 st).bind fun p => p.1.tr.bind fun k => if k = true then (a env1 p.2).bind fun q => q.1.sh?.bind fun e => (lcL g c a vs env ds q.2).map fun r => (e :: r.1, r.2)
    else lcL g c a vs env ds p.2
def eLc (it : SemI) (vs : List Nat) (g : SemG) (c a : Sem) : Sem := fun env st => (it env st).bind fun p => if vs.all (fun j => (env[j]?.map Slot.okW).getD true) = true then (lcL g c a vs env p.1 p.2).bind fun q => if q.1.length ≤ sizeLine then some (.ow (.lst q.1), q.2) else none else none
/-- the tests of a clause -/
structure STs (X : Cx) (ct : CT) (x : List Expr) (e : Sem) : Prop where
  pts : PTs X x (tT X.K ct e)
def eYes : Sem := fun _ st => some (.sh (.bl true), st)
theorem pts_mono {x : List Expr} {t t' : TT} (h : PTs X x t) (k : ∀ σ H Q, t' σ H Q → t σ H Q) : PTs X x t' := ⟨fun pins s σ H Q I q => h.run pins s σ H Q I (k σ H Q q)⟩
theorem sts_nil : STs X ct [] eYes := ⟨pts_mono pts_nil fun σ H Q ⟨F, W, L, env, st, r, st', I, e, k⟩ => by cases e; exact k H W L (.refl W) I⟩
theorem frame_add {K : PySem.W.Frag} {F H : Hp} {W : Wd} {L : Addr → Option Lab} {env : List Slot} {st : Sto} {σ : St} {p : Addr} {o : HO} (I : Rel K ct F W L env st σ H) (h : H p = some o) (hl : L p = none) (hw : W.hs p = none) : Rel K ct (upd F p o) W L env st σ H := by
  refine ⟨fun b u e => ?_, I.hs, I.tp, I.ob, I.rh, I.len, I.sl⟩
  by_cases hb : b = p
  · subst hb; rw [upd_same] at e; cases e; exact ⟨h, hl, hw⟩
  · rw [upd_ne hb] at e; exact I.fr b u e
theorem frame_sub {K : PySem.W.Frag} {F H : Hp} {W : Wd} {L : Addr → Option Lab} {env : List Slot} {st : Sto} {σ : St} {p : Addr} {o : HO} (I : Rel K ct (upd F p o) W L env st σ H) (hf : F p = none) : Rel K ct F W L env st σ H := by
  refine ⟨fun b u e => ?_, I.hs, I.tp, I.ob, I.rh, I.len, I.sl⟩
  have nb : b ≠ p := by rintro rfl; rw [hf] at e; cases e
  exact I.fr b u (by rw [upd_ne nb]; exact e)
/-- the frame's own list is changed -/
theorem frame_upd {K : PySem.W.Frag} {F H : Hp} {W : Wd} {L : Addr → Option Lab} {env : List Slot} {st : Sto} {σ : St} {p : Addr} {o o' : HO} (hn : ∀ xs, o ≠ .tup xs) (I : Rel K ct (upd F p o) W L env st σ H) : Rel K ct (upd F p o') W L env st σ (upd H p o') := by
  obtain ⟨h1, h2, h3⟩ := I.fr p o upd_same
  refine ⟨fun b u e => ?_, fun b u e => ?_, fun b vs e => ?_, fun g κ d e => ?_, I.rh, I.len, fun i s e => (I.sl i s e).mono (.refl W) fun b u hl hu => ⟨?_, hl⟩⟩
  · by_cases hb : b = p
    · subst hb; rw [upd_same] at e; cases e; exact ⟨upd_same, h2, h3⟩
    · rw [upd_ne hb] at e
      rw [upd_ne hb]
      exact I.fr b u (by rw [upd_ne hb]; exact e)
  · have nb : b ≠ p := by rintro rfl; rw [h3] at e; cases e
    rw [upd_ne nb]
    exact I.hs b u e
  · have g := I.tp b vs e
    rw [upd_ne (by rintro rfl; rw [h1] at g; cases g; exact hn _ rfl)]
    exact g
  · obtain ⟨v, e1, e2⟩ := I.ob g κ d e
    refine ⟨v, e1, ?_⟩
    have q : (fun b => if L b = some (.ob g) then (upd H p o') b else none) = fun b => if L b = some (.ob g) then H b else none := by
      funext b
      by_cases hb : b = p
      · subst hb; simp [h2]
      · rw [upd_ne hb]
    rw [q]; exact e2
  · have nb : b ≠ p := by rintro rfl; rw [h2] at hl; cases hl
    rw [upd_ne nb]; exact hu
theorem tE_lc {K : PySem.W.Frag} {it : SemI} {vs ts : List Nat} {g : SemG} (hts : ∀ j ∈ ts, j ∈ vs) {σ : St} {H : Hp} {Q : VK} (h : tE K ct (eLc it vs g c a) σ H Q) : tLc (tI K ct it) (tG K ct ts g) (tT K ct c) (tE K ct a) vs σ H Q := by
  obtain ⟨F, W, L, env, st, r, st', I, e, k⟩ := h
  obtain ⟨⟨ds, st1⟩, h1, e⟩ := bind2 e
  have okv : vs.all (fun j => (env[j]?.map Slot.okW).getD true) = true ∧ ((lcL g c a vs env ds st1).bind fun q => if q.1.length ≤ sizeLine then some (R.ow (.lst q.1), q.2) else none) = some (r, st') := by
    dsimp only at e
    split at e
    · exact ⟨by assumption, e⟩
    · cases e
  obtain ⟨okv, e⟩ := okv
  obtain ⟨⟨out, st2⟩, h2, e⟩ := bind2 e
  obtain ⟨hz, e⟩ := ifs e
  cases e
  have hz : out.length ≤ sizeLine := hz
  have ok : ∀ j : Nat, j ∈ vs → ∀ s, env[j]? = some s → s.okW = true := fun j hj s e => by
    have := List.all_eq_true.mp okv j hj
    rw [e] at this
    exact this
  refine ⟨F, W, L, env, st, ds, st1, I, h1, fun J H1 W1 L1 l1 I1 wk p hp => ?_⟩
  -- the new list at p
  obtain ⟨I2, n1, n2, n3⟩ := I1.laid (o := HO.lst []) hp
  have I3 := frame_add I2 (p := p) (o := HO.lst []) upd_same n1 n2
  refine ⟨fun i m H => m = ds.length - i ∧ i ≤ ds.length ∧ ∃ W2 L2 st5 acc accd rest, W1.le W2 ∧ Rel K ct (upd F p (.lst acc)) W2 L2 env st5 σ H ∧ RepL K ct W2 acc accd ∧ lcL g c a vs env (ds.drop i) st5 = some (rest, st2) ∧ accd ++ rest = out,
    ⟨_, rfl, Nat.zero_le _, W1, _, st1, [], [], out, .refl W1, I3, .nil, h2, rfl⟩, ?_⟩
  rintro i m H ⟨rfl, hi, W2, L2, st3, acc, accd, rest, l2, I4, ra, e2, eo⟩
  have wk2 := wk _ W2 L2 env st3 σ H i l2 I4
  have wk3 := wk _ W2 L2 (wipeE env vs) st3 (wipe σ vs) H i l2 (I4.wiped vs)
  by_cases hlt : i < ds.length
  · rw [List.drop_eq_getElem_cons hlt] at e2
    obtain ⟨env3, h3, e2⟩ := bind2 e2
    obtain ⟨⟨r4, st4⟩, h4, e2⟩ := bind2 e2
    obtain ⟨kb, hkb, e2⟩ := bind2 e2
    have hkb := R.tr_eq hkb
    rw [show r4 = _ from hkb] at h4
    obtain ⟨go, yl⟩ := wk3.1 ds[i] (List.getElem?_eq_getElem hlt)
    refine .inr ⟨go, fun H' => i + 1 ≤ ds.length ∧ ∃ W2 L2 st5 acc accd rest, W1.le W2 ∧ Rel K ct (upd F p (.lst acc)) W2 L2 env st5 σ H' ∧ RepL K ct W2 acc accd ∧ lcL g c a vs env (ds.drop (i + 1)) st5 = some (rest, st2) ∧ accd ++ rest = out, fun H' q => ⟨_, by omega, rfl, q⟩, fun v H' y => ?_⟩
    obtain ⟨W3, L3, l3, I5, r5⟩ := yl v H' y
    refine ⟨_, W3, L3, wipeE env vs, st3, _, env3, I5, r5, h3, fun σ3 o1 o2 I6 => ?_⟩
    have hs : ∀ j : Nat, j ∉ vs → σ3[j]? = (wipe σ vs)[j]? := fun j hj => o1.2 j fun z => hj (hts j z)
    have hs' : ∀ j : Nat, j ∉ vs → σ3[j]? = σ[j]? := fun j hj => (hs j hj).trans (wipe_out hj)
    have he : ∀ j : Nat, j ∉ vs → env3[j]? = env[j]? := fun j hj => (o2.2 j fun z => hj (hts j z)).trans (wipeE_out hj)
    refine ⟨wipe_again (by rw [o1.1, wipe_length]) hs, ?_⟩
    refine ⟨_, W3, L3, env3, st3, kb, st4, I6, h4, fun H6 W6 L6 l6 I7 => ?_⟩
    have ll := l2.trans (l3.trans l6)
    cases kb with
    | true =>
      refine iteT ?_
      have e2 : ((a env3 st4).bind fun q => q.1.sh?.bind fun e => (lcL g c a vs env (ds.drop (i + 1)) q.2).map fun r => (e :: r.1, r.2)) = some (rest, st2) := e2
      obtain ⟨⟨r7, st7⟩, h7, e2⟩ := bind2 e2
      obtain ⟨d7, h8, e2⟩ := bind2 e2
      obtain ⟨⟨rest', st8⟩, h9, e2⟩ := map2 e2
      cases e2
      refine ⟨_, W6, L6, env3, st4, r7, st7, I7, h7, fun v7 H7 W7 L7 l7 I8 p8 => ?_⟩
      obtain ⟨W8, m8, J8, q8⟩ := I8.pin p8
      rw [R.sh_pin h8] at q8
      have le := l3.trans (l6.trans (l7.trans m8))
      have hacc : H7 p = some (.lst acc) := (J8.fr p _ upd_same).1
      have I9 := Rel.back (vs := vs) I4 le J8 hs' he ok
      refine ⟨acc, hacc, ?_, hlt, W8, L7, st7, acc ++ [v7], accd ++ [d7], rest', l2.trans le, frame_upd (o := HO.lst acc) (fun xs z => nomatch z) I9, (ra.mono le).append (.cons q8 .nil), h9, ?_⟩
      · rw [ra.length]
        have := congrArg List.length eo
        rw [List.length_append, List.length_cons] at this
        omega
      · rw [← eo, List.append_assoc]; rfl
    | false =>
      refine iteF ?_
      have e2 : lcL g c a vs env (ds.drop (i + 1)) st4 = some (rest, st2) := e2
      have I9 := Rel.back (vs := vs) I4 (l3.trans l6) I7 hs' he ok
      exact ⟨hlt, W6, L6, st4, acc, accd, rest, ll, I9, ra.mono (l3.trans l6), e2, eo⟩
  · have ei : i = ds.length := by omega
    rw [ei, List.drop_length] at e2
    cases e2
    rw [List.append_nil] at eo
    subst eo
    refine .inl ⟨wk2.2 (by omega), ?_⟩
    obtain ⟨f1, f2, f3⟩ := I4.fr p _ upd_same
    exact k _ _ _ _ (l1.trans l2) (frame_sub I4 n3) ⟨p, rfl, f2, f3, n3, .lst f1 ra⟩
theorem se_lc {tg : Expr} {ifs : List Expr} {scope : Scope} {own : List (Str × Nat)} {it : SemI} {ts : List Nat} {g : SemG} (hc : X.calm = true) (hN : X.N.Nodup) (hi : SI X ct tg x it) (ok : BlkOk X.N X.env.scope scope own)
    (hg : ∀ (s : Shared) (H : Hp) (C : Addr) (cl : List (Str × Addr)) (fp : List Addr), SG (X.blk s H scope (compEnvC scope cl C X.env) fp) ct tg ts g) (ht : ∀ (s : Shared) (H : Hp) (C : Addr) (cl : List (Str × Addr)) (fp : List Addr), STs (X.blk s H scope (compEnvC scope cl C X.env) fp) ct ifs c)
    (he : ∀ (s : Shared) (H : Hp) (C : Addr) (cl : List (Str × Addr)) (fp : List Addr), SE (X.blk s H scope (compEnvC scope cl C X.env) fp) ct y a) (hts : ∀ j ∈ ts, j ∈ own.map (·.2) := by decide) (hs : ∀ z, foldedSetIterable x X.env z = pure z := by intro _; rfl) :
    SE X ct (.ListComp y [⟨tg, x, ifs, 0⟩] scope pos) (eLc it (own.map (·.2)) g c a) :=
  ⟨pe_mono (pe_lc (te := tE X.K ct a) (tt := tT X.K ct c) (g := tG X.K ct ts g) hc hN hi.pi ok (fun s H C cl fp => (hg s H C cl fp).pg) (fun s H C cl fp => (ht s H C cl fp).pts) (fun s H C cl fp => (he s H C cl fp).pe) hs) fun _ _ _ h => tE_lc hts h⟩
theorem ss_setLc (i : Nat) {n : Str} {py spos : Pos} {tg : Expr} {ifs : List Expr} {scope : Scope} {own : List (Str × Nat)} {it : SemI} {ts : List Nat} {g : SemG} (hc : X.calm = true) (hN : X.N.Nodup) (hi : SI X ct tg x it) (ok : BlkOk X.N X.env.scope scope own)
    (hg : ∀ (s : Shared) (H : Hp) (C : Addr) (cl : List (Str × Addr)) (fp : List Addr), SG (X.blk s H scope (compEnvC scope cl C X.env) fp) ct tg ts g) (ht : ∀ (s : Shared) (H : Hp) (C : Addr) (cl : List (Str × Addr)) (fp : List Addr), STs (X.blk s H scope (compEnvC scope cl C X.env) fp) ct ifs c)
    (he : ∀ (s : Shared) (H : Hp) (C : Addr) (cl : List (Str × Addr)) (fp : List Addr), SE (X.blk s H scope (compEnvC scope cl C X.env) fp) ct y a) (hy : X.N[i]? = some n := by rfl) (hyl : X.env.scope.names.lookup n = some .local := by rfl)
    (hsw : swapsWith (.ListComp y [⟨tg, x, ifs, 0⟩] scope pos) (some (.Name n py)) spos.line X.env = pure true := by exact sw_true rfl rfl rfl (by decide +kernel)) (hts : ∀ j ∈ ts, j ∈ own.map (·.2) := by decide) (hs : ∀ z, foldedSetIterable x X.env z = pure z := by intro _; rfl) :
    SS X ct (.Assign [.Name n py] (.ListComp y [⟨tg, x, ifs, 0⟩] scope pos) spos) (sSet i (eLc it (own.map (·.2)) g c a)) := by
  refine ⟨ps_mono (ps_setLc (te := tE X.K ct a) (tt := tT X.K ct c) (g := tG X.K ct ts g) hc hN hy hyl hsw hi.pi ok (fun s H C cl fp => (hg s H C cl fp).pg) (fun s H C cl fp => (ht s H C cl fp).pts) (fun s H C cl fp => (he s H C cl fp).pe) hs) fun D σ H h => ?_⟩
  exact tE_lc hts (tSm_set h)
end
/-! ### what a def promises -/
abbrev Fn := List D → Sto → Option (R × Sto)
def spD (K : PySem.W.Frag) (ct : CT) (n : Nat) (m : Fn) : Sp := fun vs H Q _ => ∃ F W L st ds r st', Rel K ct F W L [] st [] H ∧ RepL K ct W vs ds ∧ ds.length = n ∧ m ds st = some (r, st') ∧
  ∀ v H' W' L', W.le W' → Rel K ct F W' L' [] st' [] H' → RepR K ct F W' L' H' [] [] v r → Q v H'
def R.outR : R → R
  | .bw _ d => .ow d
  | r => r
/-- a body as a function; k: how many names -/
def runB (k : Nat) (f : SemS) : Fn := fun ds st => (f (ds.map .sh ++ List.replicate (k - ds.length) .no) st).bind fun p => match p.1 with
  | .nx => some (.sh .non, p.2.2)
  | .rt r => some (r.outR, p.2.2)
  | _ => none
section
variable {K : PySem.W.Frag} {ct : CT}
theorem spD_imp {n : Nat} {m m' : Fn} (h : ∀ ds st r st', ds.length = n → m' ds st = some (r, st') → m ds st = some (r, st')) : ∀ vs H Q E, spD K ct n m' vs H Q E → spD K ct n m vs H Q E := by
  rintro vs H Q E ⟨F, W, L, st, ds, r, st', I, q, hl, e, k⟩
  exact ⟨F, W, L, st, ds, r, st', I, q, hl, h _ _ _ _ hl e, k⟩
theorem rel_start {F H : Hp} {W : Wd} {L : Addr → Option Lab} {st : Sto} {vs : List V} {ds : List D} {N : List Str} (I : Rel K ct F W L [] st [] H) (q : RepL K ct W vs ds) (hN : vs.length ≤ N.length) :
    Rel K ct F W L (ds.map .sh ++ List.replicate (N.length - ds.length) .no) st (L2.start N vs) H := by
  have hl := q.length
  refine ⟨I.fr, I.hs, I.tp, I.ob, I.rh, ?_, fun i s e => ?_⟩
  · unfold L2.start
    rw [List.length_append, List.length_map, List.length_replicate, List.length_append, List.length_map, List.length_replicate, hl]
  · by_cases hi : i < ds.length
    · rw [List.getElem?_append_left (by simpa using hi), List.getElem?_map] at e
      obtain ⟨d, hd, rfl⟩ := Option.map_eq_some_iff.mp e
      obtain ⟨v, hv, hr⟩ := q.get hd
      refine ⟨v, ?_, hr⟩
      unfold L2.start
      rw [List.getElem?_append_left (by rw [List.length_map]; omega), List.getElem?_map, hv]
      rfl
    · rw [List.getElem?_append_right (by simpa using hi), List.getElem?_replicate] at e
      split at e
      · cases e; trivial
      · cases e
/-- the slots are forgotten -/
theorem rel_end {F H : Hp} {W : Wd} {L : Addr → Option Lab} {env : List Slot} {st : Sto} {σ : St} {v : V} {r : R} (I : Rel K ct F W L env st σ H) (p : RepR K ct F W L H env σ v r) :
    ∃ L', Rel K ct F W L' [] st [] H ∧ RepR K ct F W L' H [] [] v r.outR := by
  refine ⟨fun b => match L b with | some (.slot _) => none | z => z, ?_, ?_⟩
  · refine ⟨fun b u e => ?_, fun b u e => ?_, I.tp, fun g κ d e => ?_, I.rh, rfl, fun i s e => by simp at e⟩
    · obtain ⟨h1, h2, h3⟩ := I.fr b u e
      exact ⟨h1, by simp only [h2], h3⟩
    · obtain ⟨h1, h2⟩ := I.hs b u e
      exact ⟨h1, by simp only [h2]⟩
    · obtain ⟨v, h1, h2⟩ := I.ob g κ d e
      refine ⟨v, h1, ?_⟩
      have q : (fun b => if (match L b with | some (.slot _) => none | z => z) = some (Lab.ob g) then H b else none) = fun b => if L b = some (.ob g) then H b else none := by
        funext b
        cases hb : L b with
        | none => rfl
        | some l => cases l with
          | slot i => simp
          | ob g' => rfl
      rw [q]; exact h2
  · cases r with
    | sh d => exact p
    | ow d =>
      obtain ⟨a, h1, h2, h3⟩ := p
      exact ⟨a, h1, by simp only [h2], h3⟩
    | bw i d =>
      obtain ⟨h1, h2⟩ := p
      obtain ⟨a, e1, e2, c⟩ := I.sl i _ h1
      rw [h2] at e1; cases e1
      refine ⟨a, rfl, by simp only [e2], ?_, ?_, c⟩
      · cases q : W.hs a with
        | none => rfl
        | some u => have := (I.hs a u q).2; rw [e2] at this; cases this
      · cases q : F a with
        | none => rfl
        | some u => have := (I.fr a u q).2.1; rw [e2] at this; cases this
/-- THE RULE for a def: its body as a function -/
theorem fn_ok {P : Program} {w : World} {mg : Str → Option Value} {base : Heap} {name qual : Str} {st : Stmt} {f : Addr} {fd : FuncData} {N ps : List Str} {k : Nat} {b : SemS} (F : Fun K name qual st f fd) (S : FnScope N ps (defScope st))
    (hb : ∀ (cdv : Value) (A : Around) (outer : List Env) (s : Shared) (H : Hp) (E : XK), Room k (A.deeper (PyProof.Rows.envOfC qual (defScope st) s.heap.objs.size f cdv)) → SB (cxOf CX0 P w K mg base N qual (defScope st) f cdv A outer s H E).nox ct (defBody st) b) :
    FnOk P w K mg base CX0 (k + 1) f fd ps (spD K ct ps.length (runB N.length b)) := by
  refine F.ok S (fun vs H Q E h => ?_) (fun cdv A outer s H vs Q E hr h => ?_)
  · obtain ⟨F, W, L, st, ds, r, st', I, q, hl, e, k⟩ := h
    rw [q.length]; exact hl
  · obtain ⟨F, W, L, st, ds, r, st', I, q, hl, e, kk⟩ := h
    refine ⟨_, (hb cdv A outer s H E hr).pss, ?_⟩
    obtain ⟨⟨o, env', st1⟩, h1, e⟩ := bind2 e
    have hpl : ps.length ≤ N.length := by have := congrArg List.length S.pre; rw [List.length_take] at this; omega
    refine ⟨F, W, L, _, st, o, env', st1, rel_start I q (by rw [q.length, hl]; exact hpl), h1, ?_⟩
    cases o with
    | nx =>
      cases e
      intro σ' H' W' L' l I'
      obtain ⟨L2, I2, p2⟩ := rel_end I' (v := .non) (r := .sh .non) .non
      exact kk _ _ _ _ l I2 p2
    | rt r1 =>
      cases e
      intro v σ' H' W' L' l I' p
      obtain ⟨L2, I2, p2⟩ := rel_end I' p
      exact kk _ _ _ _ l I2 p2
    | bk => cases e
    | ct => cases e
end
/-! ### calls of defs -/
section
variable {X : Cx} {ct : CT} {pos : Pos} {x y : Expr} {a b c : Sem} {es : List Expr} {as : SemA}
def eCall (n : Nat) (m : Fn) (as : SemA) : Sem := fun env st => (as env st).bind fun p => (valsR p.1).bind fun ds => if ds.length = n then m ds p.2 else none
/-- the call by shared values -/
theorem call_out {K : PySem.W.Frag} {F H : Hp} {W : Wd} {L : Addr → Option Lab} {env : List Slot} {st st' : Sto} {σ : St} {vs : List V} {ds : List D} {n : Nat} {m : Fn} {r : R} {Q : VK} {E : XK} (I : Rel K ct F W L env st σ H) (q : RepL K ct W vs ds) (hl : ds.length = n) (e : m ds st = some (r, st'))
    (k : ∀ v H' W' L', W.le W' → Rel K ct F W' L' env st' σ H' → RepR K ct F W' L' H' env σ v r → Q v H') : spD K ct n m vs H Q E := by
  -- all that is no object's and not shared is the frame's
  refine ⟨fun b => match L b, W.hs b with | some (.ob _), _ => none | _, some _ => none | _, none => H b, W, fun b => match L b with | some (.ob g) => some (.ob g) | _ => none, st, ds, r, st', ?_, q, hl, e, ?_⟩
  · refine ⟨fun b u e => ?_, fun b u e => ?_, I.tp, fun g κ d e => ?_, I.rh, rfl, fun i s e => by simp at e⟩
    · cases hb : L b with
      | none =>
        cases hw : W.hs b with
        | none => simp only [hb, hw] at e; exact ⟨e, rfl, rfl⟩
        | some z => simp only [hb, hw] at e; cases e
      | some l =>
        cases l with
        | slot i =>
          cases hw : W.hs b with
          | none => simp only [hb, hw] at e; exact ⟨e, rfl, rfl⟩
          | some z => simp only [hb, hw] at e; cases e
        | ob g => simp only [hb] at e; cases e
    · obtain ⟨h1, h2⟩ := I.hs b u e
      exact ⟨h1, by simp only [h2]⟩
    · obtain ⟨v, h1, h2⟩ := I.ob g κ d e
      refine ⟨v, h1, ?_⟩
      have q : (fun b => if (match L b with | some (.ob g) => some (Lab.ob g) | _ => none) = some (Lab.ob g) then H b else none) = fun b => if L b = some (.ob g) then H b else none := by
        funext b
        cases hb : L b with
        | none => simp
        | some l => cases l with
          | slot i => simp
          | ob g' => rfl
      rw [q]; exact h2
  · intro v H' W' L' l I' p
    -- the frame's part
    have own : ∀ b i u, L b = some (.slot i) → H b = some u → H' b = some u ∧ L' b = none ∧ W'.hs b = none := fun b i u hb hu => by
      have hw : W.hs b = none := by
        cases q : W.hs b with
        | none => rfl
        | some z => have := (I.hs b z q).2; rw [hb] at this; cases this
      exact I'.fr b u (by simp only [hb, hw]; exact hu)
    refine k v H' W' (fun b => match L b, H b with | some (.slot i), some _ => some (.slot i) | _, _ => L' b) l ?_ ?_
    · have off : ∀ b, L' b = none ∨ (∀ i u, ¬ (L b = some (.slot i) ∧ H b = some u)) := fun b => by
        by_cases z : ∃ i u, L b = some (.slot i) ∧ H b = some u
        · obtain ⟨i, u, z1, z2⟩ := z
          exact .inl (own b i u z1 z2).2.1
        · exact .inr fun i u q => z ⟨i, u, q⟩
      have lab : ∀ b, (∀ i u, ¬ (L b = some (.slot i) ∧ H b = some u)) → (match L b, H b with | some (.slot i), some _ => some (Lab.slot i) | _, _ => L' b) = L' b := fun b z => by
        split
        · rename_i i u h1 h2
          exact absurd ⟨h1, h2⟩ (z i u)
        · rfl
      refine ⟨fun b u e => ?_, fun b u e => ?_, I'.tp, fun g κ d e => ?_, I'.rh, I.len, fun i s e => ?_⟩
      · obtain ⟨h1, h2, h3⟩ := I.fr b u e
        obtain ⟨g1, g2, g3⟩ := I'.fr b u (by simp only [h2, h3]; exact h1)
        exact ⟨g1, by simp only [h2]; exact g2, g3⟩
      · obtain ⟨g1, g2⟩ := I'.hs b u e
        refine ⟨g1, ?_⟩
        have z : ∀ i w, ¬ (L b = some (.slot i) ∧ H b = some w) := fun i w ⟨z1, z2⟩ => by
          rw [(own b i w z1 z2).2.2] at e; cases e
        rw [lab b z]; exact g2
      · obtain ⟨w, g1, g2⟩ := I'.ob g κ d e
        refine ⟨w, g1, ?_⟩
        have q : (fun b => if (match L b, H b with | some (.slot i), some _ => some (Lab.slot i) | _, _ => L' b) = some (Lab.ob g) then H' b else none) = fun b => if L' b = some (.ob g) then H' b else none := by
          funext b
          by_cases z : ∃ i u, L b = some (.slot i) ∧ H b = some u
          · obtain ⟨i, u, z1, z2⟩ := z
            simp only [z1, z2, (own b i u z1 z2).2.1]
            simp
          · rw [lab b fun i u q => z ⟨i, u, q⟩]
        rw [q]; exact g2
      · refine (I.sl i s e).mono l fun b u hb hu => ?_
        exact ⟨(own b i u hb hu).1, by simp only [hb, hu]⟩
    · cases r with
      | sh d => exact p
      | ow d =>
        obtain ⟨b, h1, h2, h3, h4, h5⟩ := p
        have hb : ∀ i u, ¬ (L b = some (.slot i) ∧ H b = some u) := fun i u ⟨z1, z2⟩ => by
          have hw : W.hs b = none := by
            cases q : W.hs b with
            | none => rfl
            | some z => have := (I.hs b z q).2; rw [z1] at this; cases this
          simp only [z1, hw, z2] at h4
          cases h4
        refine ⟨b, h1, ?_, h3, ?_, h5⟩
        · dsimp only
          split
          · rename_i i u z1 z2; exact absurd ⟨z1, z2⟩ (hb i u)
          · exact h2
        · cases q : F b with
          | none => rfl
          | some u =>
            obtain ⟨g1, g2, g3⟩ := I.fr b u q
            simp only [g2, g3] at h4
            rw [h4] at g1; cases g1
      | bw i d => exact absurd p.1 (by simp)
theorem tE_call {K : PySem.W.Frag} {n : Nat} {m : Fn} {E : XK} {σ : St} {H : Hp} {Q : VK} (h : tE K ct (eCall n m as) σ H Q) : tCall (spD K ct n m) [] E (tA K ct as) σ H Q := by
  obtain ⟨F, W, L, env, st, r, st', I, e, k⟩ := h
  obtain ⟨⟨rs, st1⟩, h1, e⟩ := bind2 e
  obtain ⟨ds, h2, e⟩ := bind2 e
  have hl : ds.length = n ∧ m ds st1 = some (r, st') := by
    dsimp only at e
    split at e
    · exact ⟨by assumption, e⟩
    · cases e
  refine ⟨F, W, L, env, st, rs, st1, I, h1, fun vs H1 W1 L1 l1 I1 qs => ?_⟩
  show spD K ct n m (vs ++ []) H1 Q E
  rw [List.append_nil]
  exact call_out I1 (qs.vals h2) hl.1 hl.2 fun v H' W' L' l' => k v H' W' L' (l1.trans l')
theorem se_call {k n : Nat} {f : Addr} {fd : FuncData} {ps : List Str} {m : Fn} {nm : Str} {p : Pos} (G : FnOk X.prog X.w X.K X.mg X.base CX0 k f fd ps (spD X.K ct n m)) (hr : Room k X.A) (hm : X.mg nm = some (.ref f)) (hk : PySem.W.keepIn X.K (.ref f) = true) (hb : Binds X.K fd ps []) (ha : SA X ct (x :: es) as) (hg : Gl X nm := by rfl)
    (hdb : (nm == ("__debug__" : Str)) = false := by decide) (he : starEach (x :: es) X.env = (false, eval x X.env) :: starEach es X.env := by rfl) (hpl : (backTo pos (starEach es X.env)).any (·.1) = false := by rfl) :
    SE X ct (.Call (.Name nm p) (x :: es) [] pos) (eCall n m as) := ⟨pe_mono (pe_call G hr hg hm hk hb .nil pass0 ha.pa hdb he hpl) fun _ _ _ h => tE_call h⟩
/-! flat things and tuples of such -/
mutual
def D.imm : D → Bool
  | .non | .bl _ | .int _ | .str _ => true
  | .tup ds => D.immL ds
  | _ => false
def D.immL : List D → Bool
  | [] => true
  | d :: ds => d.imm && D.immL ds
end
/-! no number of an object is in it -/
mutual
def D.nh : D → Bool
  | .hnd _ => false
  | .dic _ => false
  | .lst ds => D.nhL ds
  | .tup ds => D.nhL ds
  | .obj _ ds => D.nhL ds
  | _ => true
def D.nhL : List D → Bool
  | [] => true
  | d :: ds => d.nh && D.nhL ds
end
mutual
theorem Rep.nh {K : PySem.W.Frag} {W W' : Wd} (l : ∀ a o, W.hs a = some o → W'.hs a = some o) (l2 : ∀ a o, W.tp a = some o → W'.tp a = some o) : ∀ {v : V} {d : D}, Rep K ct W v d → d.nh = true → Rep K ct W' v d
  | _, _, .non, _ => .non
  | _, _, .bl b, _ => .bl b
  | _, _, .int i, _ => .int i
  | _, _, .str x, _ => .str x
  | _, _, .lst h r, n => .lst (l _ _ h) (RepL.nh l l2 r (by rw [D.nh] at n; exact n))
  | _, _, .tup h r, n => .tup (l2 _ _ h) (RepL.nh l l2 r (by rw [D.nh] at n; exact n))
  | _, _, .dic h _ r, n => by simp [D.nh] at n
  | _, _, .obj h c z r, n => .obj (l _ _ h) c z (RepL.nh l l2 r (by rw [D.nh] at n; exact n))
  | _, _, .hnd h, n => by simp [D.nh] at n
  | _, _, .scr h, _ => .scr (sq_mono l h)
theorem RepL.nh {K : PySem.W.Frag} {W W' : Wd} (l : ∀ a o, W.hs a = some o → W'.hs a = some o) (l2 : ∀ a o, W.tp a = some o → W'.tp a = some o) : ∀ {vs : List V} {ds : List D}, RepL K ct W vs ds → D.nhL ds = true → RepL K ct W' vs ds
  | _, _, .nil, _ => .nil
  | _, _, .cons h r, n => by
    rw [D.nhL, Bool.and_eq_true] at n
    exact .cons (Rep.nh l l2 h n.1) (RepL.nh l l2 r n.2)
end
/-- by things of one's own too, where the answer is flat and the store is not asked -/
def eCallP (n : Nat) (m : Fn) (as : SemA) : Sem := fun env st => (as env st).bind fun p => if p.1.length = n ∧ D.nhL (p.1.map R.d) = true then (m (p.1.map R.d) []).bind fun q => match q.1 with
  | .sh d => if d.imm = true then some (.sh d, p.2) else none
  | _ => none else none
end
end Kn
namespace Kn
open PySem L2
/-! a def that may be called, by its name -/
structure Cal (P : Program) (w : World) (K : PySem.W.Frag) (mg : Str → Option Value) (base : Heap) (ct : CT) (nm : Str) (k : Nat) (ps : List Str) (m : Fn) : Prop where
  ex : ∃ f fd, FnOk P w K mg base CX0 k f fd ps (spD K ct ps.length m) ∧ mg nm = some (.ref f) ∧ PySem.W.keepIn K (.ref f) = true ∧ Binds K fd ps []
theorem Cal.of {P : Program} {w : World} {K : PySem.W.Frag} {mg : Str → Option Value} {base : Heap} {ct : CT} {nm qual : Str} {k : Nat} {ps : List Str} {m : Fn} {st : Stmt} {f : Addr} {fd : FuncData} (F : Fun K nm qual st f fd) (hm : mg nm = some (.ref f)) (hb : Binds K fd ps [])
    (G : FnOk P w K mg base CX0 k f fd ps (spD K ct ps.length m)) : Cal P w K mg base ct nm k ps m := ⟨f, fd, G, hm, F.kp, hb⟩
/-- by a function that says less -/
theorem Cal.imp {P : Program} {w : World} {K : PySem.W.Frag} {mg : Str → Option Value} {base : Heap} {ct : CT} {nm : Str} {k : Nat} {ps : List Str} {m m' : Fn} (c : Cal P w K mg base ct nm k ps m) (h : ∀ ds st r st', ds.length = ps.length → m' ds st = some (r, st') → m ds st = some (r, st')) : Cal P w K mg base ct nm k ps m' := by
  obtain ⟨f, fd, G, h1, h2, h3⟩ := c.ex
  exact ⟨f, fd, G.imp (spD_imp h), h1, h2, h3⟩
section
variable {X : Cx} {ct : CT} {pos : Pos} {x : Expr} {es : List Expr} {as : SemA} {k : Nat} {ps : List Str} {m : Fn} {nm : Str} {p : Pos}
theorem sc_call (n : Nat) (c : Cal X.prog X.w X.K X.mg X.base ct nm k ps m) (hr : Room k X.A) (ha : SA X ct (x :: es) as) (hn : ps.length = n := by rfl) (hg : Gl X nm := by rfl)
    (hdb : (nm == ("__debug__" : Str)) = false := by decide) (he : starEach (x :: es) X.env = (false, eval x X.env) :: starEach es X.env := by rfl) (hpl : (backTo pos (starEach es X.env)).any (·.1) = false := by rfl) :
    SE X ct (.Call (.Name nm p) (x :: es) [] pos) (eCall n m as) := by
  subst hn
  obtain ⟨f, fd, G, h1, h2, h3⟩ := c.ex
  exact se_call G hr h1 h2 h3 ha hg hdb he hpl
end
/-! the law's own entry -/
def spLaw (K : PySem.W.Frag) : Sp := fun vs H Q _ => ∃ (a : Addr) (ns : List Int), vs = [.ref a] ∧ SqL K H a (ns.map V.int) ∧ ns.length ≤ 63 ∧ ∀ H', Q (.bl true) H'
theorem law_ok {P : Program} {w : World} {K : PySem.W.Frag} {mg : Str → Option Value} {base : Heap} {ct : CT} {x : Str} {k : Nat} {m : Fn} {f : Addr} {fd : FuncData} (G : FnOk P w K mg base CX0 k f fd [x] (spD K ct 1 m)) (h : ∀ ns : List Int, ns.length ≤ 63 → ∃ st', m [.scr ns] [] = some (.sh (.bl true), st')) :
    FnOk P w K mg base CX0 k f fd [x] (spLaw K) := by
  refine G.imp fun vs H Q E q => ?_
  obtain ⟨a, ns, rfl, hs, hl, q⟩ := q
  obtain ⟨st', e⟩ := h ns hl
  refine ⟨fun _ => none, ⟨H, fun _ => none, fun _ => none⟩, fun _ => none, [], [.scr ns], _, st', ?_, .cons (.scr hs) .nil, rfl, e, fun v H' W' L' l I' p => ?_⟩
  · exact ⟨fun _ _ e => (nomatch e), fun b u e => ⟨e, rfl⟩, fun _ _ e => (nomatch e), fun g κ d e => by simp at e, fun g v e => (nomatch e), rfl, fun i s e => by simp at e⟩
  · cases (show Rep K ct W' v (.bl true) from p)
    exact q H'
end Kn
namespace Kn
open PySem L2
/-! ### evaluating the functions (no program in sight) -/
theorem forL_nx {g : SemG} {f : SemS} {d ds env env1 st env' st'} (h1 : g d env = some env1) (h : f env1 st = some (.nx, env', st')) : forL g f (d :: ds) env st = forL g f ds env' st' := by
  rw [forL, h1]; show ((f env1 st).bind _) = _; rw [h]; rfl
theorem eqv_int (i j : Int) : (D.int i).eq (.int j) = decide (i = j) := by unfold D.eq; simp [D.py, PyData.eqv]; exact Bool.beq_eq_decide_eq i j
theorem fEq_int (i j : Int) : fEq (.int i) (.int j) = some (.sh (.bl (decide (i = j)))) := by unfold fEq; rw [eqv_int]; rfl
theorem fNe_int (i j : Int) : fNe (.int i) (.int j) = some (.sh (.bl (!decide (i = j)))) := by unfold fNe; rw [eqv_int]; rfl
theorem atI_map {α β : Type} (f : α → β) (xs : List α) (i : Int) : atI (xs.map f) i = (atI xs i).map f := by
  unfold atI
  rw [List.length_map]
  cases ixN xs.length i with
  | none => rfl
  | some j => show (xs.map f)[j]? = (xs[j]?).map f; rw [List.getElem?_map]
theorem kit_int_int : kitB "int" "int" = some true := by decide +kernel
theorem kit_int_bool : kitB "int" "bool" = some false := by decide +kernel
theorem kit_bool_bool : kitB "bool" "bool" = some true := by decide +kernel
theorem kit_bool_int : kitB "bool" "int" = some true := by decide +kernel
theorem kit_list_list : kitB "list" "list" = some true := by decide +kernel
theorem kit_tuple_tuple : kitB "tuple" "tuple" = some true := by decide +kernel
section
variable {env env' : List Slot} {st st' : Sto} {a b c : Sem} {f g : SemS} {i j n : Nat} {d : D} {as : SemA}
@[simp] theorem x_seq : sSeq f g env st = (f env st).bind fun p => match p with
  | (.nx, env', st') => g env' st'
  | q => some q := rfl
@[simp] theorem x_nil : sNil env st = some (.nx, env, st) := rfl
@[simp] theorem x_set : sSet i a env st = (a env st).bind fun p => match p.1 with
  | .sh d => some (.nx, env.set i (.sh d), p.2)
  | .ow d => some (.nx, env.set i (.ow d), p.2)
  | .bw _ _ => none := rfl
@[simp] theorem x_var : eVar i env st = match env[i]? with
  | some (.sh d) => some (.sh d, st)
  | some (.ow d) => some (.bw i d, st)
  | _ => none := rfl
@[simp] theorem x_c : eC d env st = some (.sh d, st) := rfl
@[simp] theorem x_e2 {o} : e2 o a b env st = (a env st).bind fun p => (b env p.2).bind fun q => (o p.1.d q.1.d).map fun r => (r, q.2) := rfl
@[simp] theorem x_e1 {o} : e1 o a env st = (a env st).bind fun p => (o p.1.d).map fun r => (r, p.2) := rfl
@[simp] theorem x_d1 : (R.sh d).d = d := rfl
@[simp] theorem x_d2 : (R.ow d).d = d := rfl
@[simp] theorem x_d3 : (R.bw i d).d = d := rfl
@[simp] theorem x_p1 : (R.sh d).pin = .sh d := rfl
@[simp] theorem x_p2 : (R.ow d).pin = .sh d := rfl
@[simp] theorem x_p3 : (R.bw i d).pin = .bw i d := rfl
@[simp] theorem x_s1 : (R.sh d).sh? = some d := rfl
@[simp] theorem x_s2 : (R.ow d).sh? = some d := rfl
@[simp] theorem x_o1 : (R.sh d).outR = .sh d := rfl
@[simp] theorem x_o2 : (R.ow d).outR = .ow d := rfl
@[simp] theorem x_o3 : (R.bw i d).outR = .ow d := rfl
@[simp] theorem x_if : sIf c f g env st = (c env st).bind fun p => p.1.tr.bind fun k => if k = true then f env p.2 else g env p.2 := rfl
@[simp] theorem x_tr {k : Bool} : (R.sh (.bl k)).tr = some k := rfl
@[simp] theorem x_ret : sRet a env st = (a env st).map fun p => (.rt p.1, env, p.2) := rfl
@[simp] theorem x_retN : sRetN env st = some (.rt (.sh .non), env, st) := rfl
@[simp] theorem x_ex : sEx a env st = (a env st).map fun p => (.nx, env, p.2) := rfl
@[simp] theorem x_frz : sFrz i f env st = match env[i]? with
  | some (.ow d) => f (env.set i (.sh d)) st
  | _ => f env st := rfl
@[simp] theorem x_aug {o} : sAug i o a env st = match env[i]? with
  | some (.sh d) => (a env st).bind fun p => (o d p.1.d).bind fun r => match r with
    | .sh d' => some (.nx, env.set i (.sh d'), p.2)
    | _ => none
  | _ => none := rfl
@[simp] theorem x_sub : sSub i a b env st = (b env st).bind fun p => (a env p.2).bind fun q => match p.1.pin, env[i]? with
  | .sh d, some (.ow c) => (setItm c q.1.d d).map fun c' => (.nx, env.set i (.ow c'), q.2)
  | _, _ => none := rfl
@[simp] theorem x_asg {o} : sAsg a o env st = (a env st).bind fun p => match p.1.pin with
  | .sh d => (o d env).map fun env' => (.nx, env', p.2)
  | _ => none := rfl
@[simp] theorem x_par : sPar i j as env st = (as env st).bind fun p => match p.1 with
  | [.sh d, .sh e] => some (.nx, (env.set i (.sh d)).set j (.sh e), p.2)
  | _ => none := rfl
@[simp] theorem x_mut {o} : sMut i o as env st = (as env st).bind fun p => (valsR p.1).bind fun xs => match env[i]? with
  | some (.ow (.lst ds)) => (o xs ds).map fun ds' => (.nx, env.set i (.ow (.lst ds')), p.2)
  | _ => none := rfl
@[simp] theorem x_anil : aNil env st = some ([], st) := rfl
@[simp] theorem x_acons : aCons a as env st = (a env st).bind fun p => (as env p.2).map fun q => (p.1.pin :: q.1, q.2) := rfl
@[simp] theorem x_v0 : valsR [] = some [] := rfl
@[simp] theorem x_v1 {rs} : valsR (.sh d :: rs) = (valsR rs).map fun ds => d :: ds := rfl
@[simp] theorem x_tup : eTup as env st = (as env st).bind fun p => (valsR p.1).bind fun ds => if ds.length ≤ sizeLine then some (.sh (.tup ds), p.2) else none := rfl
@[simp] theorem x_lst : eLst as env st = (as env st).bind fun p => (valsR p.1).bind fun ds => if ds.length ≤ sizeLine then some (.ow (.lst ds), p.2) else none := rfl
@[simp] theorem x_dnew : eDnew env st = some (.ow (.dic []), st) := rfl
@[simp] theorem x_call {m} : eCall n m as env st = (as env st).bind fun p => (valsR p.1).bind fun ds => if ds.length = n then m ds p.2 else none := rfl
@[simp] theorem x_for {it o} : sFor it o f env st = (it env st).bind fun p => forL o f p.1 env p.2 := rfl
@[simp] theorem x_whl : sWhl n c f env st = whL c f n env st := rfl
@[simp] theorem x_nm : gNm i d env = some (env.set i (.sh d)) := rfl
@[simp] theorem x_tp {gs} {ds} : gTp gs (.tup ds) env = gL gs ds env := rfl
@[simp] theorem x_gl0 : gL [] [] env = some env := rfl
@[simp] theorem x_gl1 {o gs ds} : gL (o :: gs) (d :: ds) env = (o d env).bind fun env' => gL gs ds env' := rfl
@[simp] theorem x_iseq : iSeq a env st = (a env st).bind fun p => p.1.sh?.bind fun d => d.seq.map fun ds => (ds, p.2) := rfl
@[simp] theorem x_seq1 {ds} : (D.lst ds).seq = some ds := rfl
@[simp] theorem x_seq2 {ds} : (D.tup ds).seq = some ds := rfl
@[simp] theorem x_seq3 {ns} : (D.scr ns).seq = some (ns.map D.int) := rfl
@[simp] theorem x_seql1 {ds} : (D.lst ds).seqL = some ds := rfl
@[simp] theorem x_seql2 {ns} : (D.scr ns).seqL = some (ns.map D.int) := rfl
@[simp] theorem x_rng1 : iRng1' a env st = (a env st).bind fun p => match p.1.d with
  | .int j => if Rg j then some (rngD 0 j.toNat, p.2) else none
  | _ => none := rfl
@[simp] theorem x_rng2 : iRng2' a b env st = (a env st).bind fun p => (b env p.2).bind fun q => match p.1.d, q.1.d with
  | .int i, .int j => if Rg i ∧ Rg j then some (rngD i (j - i).toNat, q.2) else none
  | _, _ => none := rfl
@[simp] theorem x_enum : iEnum' a env st = (a env st).bind fun p => p.1.sh?.bind fun d => d.seqL.map fun ds => (enumF 0 ds, p.2) := rfl
@[simp] theorem x_zip : iZip' a b env st = (a env st).bind fun p => p.1.sh?.bind fun d => d.seqL.bind fun ds => (b env p.2).bind fun q => q.1.sh?.bind fun e => e.seqL.map fun es => (zipD ds es, q.2) := rfl
@[simp] theorem x_slc {l h} : eSlc a l h env st = (a env st).bind fun p => (l env p.2).bind fun l => (h env l.2).bind fun h => (fSlc p.1.d l.1 h.1).map fun r => (r, h.2) := rfl
@[simp] theorem x_pno : pNo env st = some (none, st) := rfl
@[simp] theorem x_psome : pSome a env st = (a env st).bind fun p => match p.1.d with
  | .int i => some (some i, p.2)
  | _ => none := rfl
@[simp] theorem x_yes : eYes env st = some (.sh (.bl true), st) := rfl
@[simp] theorem x_lc {it vs o} : eLc it vs o c a env st = (it env st).bind fun p => if vs.all (fun j => (env[j]?.map Slot.okW).getD true) = true then (lcL o c a vs env p.1 p.2).bind fun q => if q.1.length ≤ sizeLine then some (.ow (.lst q.1), q.2) else none else none := rfl
@[simp] theorem x_and : eAnd a b env st = (a env st).bind fun p => match p.1 with
  | .sh (.bl true) => b env p.2
  | .sh (.bl false) => some (.sh (.bl false), p.2)
  | _ => none := rfl
@[simp] theorem x_or : eOr a b env st = (a env st).bind fun p => match p.1 with
  | .sh (.bl false) => b env p.2
  | .sh (.bl true) => some (.sh (.bl true), p.2)
  | _ => none := rfl
@[simp] theorem x_not : eNot a env st = (a env st).bind fun p => match p.1 with
  | .sh (.bl b) => some (.sh (.bl (!b)), p.2)
  | _ => none := rfl
@[simp] theorem x_eif : eIf c a b env st = (c env st).bind fun p => match p.1 with
  | .sh (.bl true) => a env p.2
  | .sh (.bl false) => b env p.2
  | _ => none := rfl
@[simp] theorem x_okw1 : Slot.okW .no = true := rfl
@[simp] theorem x_okw2 : Slot.okW (.sh d) = true := rfl
@[simp] theorem x_add {i j : Int} : fAdd (.int i) (.int j) = some (.sh (.int (i + j))) := rfl
@[simp] theorem x_I {o} {i j : Int} : fI o (.int i) (.int j) = (o i j).map fun k => .sh (.int k) := rfl
@[simp] theorem x_gsub {i j : Int} : gSub' i j = some (i - j) := rfl
@[simp] theorem x_C {o} {i j : Int} : fC o (.int i) (.int j) = some (.sh (.bl (o i j))) := rfl
@[simp] theorem x_eqi {i j : Int} : fEq (.int i) (.int j) = some (.sh (.bl (decide (i = j)))) := fEq_int i j
@[simp] theorem x_nei {i j : Int} : fNe (.int i) (.int j) = some (.sh (.bl (!decide (i = j)))) := fNe_int i j
@[simp] theorem x_len1 {ds : List D} : fLen (.lst ds) = some (.sh (.int ds.length)) := rfl
@[simp] theorem x_len2 {ds : List D} : fLen (.tup ds) = some (.sh (.int ds.length)) := rfl
@[simp] theorem x_len3 {ns : List Int} : fLen (.scr ns) = some (.sh (.int ns.length)) := rfl
@[simp] theorem x_len4 {kds : List (Key × D)} : fLen (.dic kds) = some (.sh (.int kds.length)) := rfl
@[simp] theorem x_idx1 {ds : List D} {i : Int} : fIdx (.lst ds) (.int i) = (atI ds i).map .sh := rfl
@[simp] theorem x_idx2 {ds : List D} {i : Int} : fIdx (.tup ds) (.int i) = (atI ds i).map .sh := rfl
@[simp] theorem x_idx3 {ns : List Int} {i : Int} : fIdx (.scr ns) (.int i) = (atI ns i).map fun n => .sh (.int n) := rfl
@[simp] theorem x_isn1 : fIsN .non = some (.sh (.bl true)) := rfl
@[simp] theorem x_isn2 {i : Int} : fIsN (.int i) = some (.sh (.bl false)) := rfl
@[simp] theorem x_isn3 {ds} : fIsN (.tup ds) = some (.sh (.bl false)) := rfl
@[simp] theorem x_isn4 {ds} : fIsN (.lst ds) = some (.sh (.bl false)) := rfl
@[simp] theorem x_ntn1 : fNotN .non = some (.sh (.bl false)) := rfl
@[simp] theorem x_ntn2 {i : Int} : fNotN (.int i) = some (.sh (.bl true)) := rfl
@[simp] theorem x_ntn3 {ds} : fNotN (.tup ds) = some (.sh (.bl true)) := rfl
@[simp] theorem x_ntn4 {ds} : fNotN (.lst ds) = some (.sh (.bl true)) := rfl
@[simp] theorem x_int1 {i : Int} : fInt (.int i) = some (.sh (.int i)) := rfl
@[simp] theorem x_int2 {k : Bool} : fInt (.bl k) = some (.sh (.int (if k then 1 else 0))) := rfl
@[simp] theorem x_isi_ii {i : Int} : fIsi "int" (.int i) = some (.sh (.bl true)) := by unfold fIsi; simp [D.ty, kit_int_int]
@[simp] theorem x_isi_bi {i : Int} : fIsi "bool" (.int i) = some (.sh (.bl false)) := by unfold fIsi; simp [D.ty, kit_int_bool]
@[simp] theorem x_isi_bb {i : Bool} : fIsi "bool" (.bl i) = some (.sh (.bl true)) := by unfold fIsi; simp [D.ty, kit_bool_bool]
@[simp] theorem x_isi_ib {i : Bool} : fIsi "int" (.bl i) = some (.sh (.bl true)) := by unfold fIsi; simp [D.ty, kit_bool_int]
@[simp] theorem x_isi_ll {ds} : fIsi "list" (.lst ds) = some (.sh (.bl true)) := by unfold fIsi; simp [D.ty, kit_list_list]
@[simp] theorem x_isi_tt {ds} : fIsi "tuple" (.tup ds) = some (.sh (.bl true)) := by unfold fIsi; simp [D.ty, kit_tuple_tuple]
@[simp] theorem x_slc1 {ds l h} : fSlc (.lst ds) l h = some (.ow (.lst (cutG ds l h))) := rfl
@[simp] theorem x_slc2 {ns : List Int} {l h} : fSlc (.scr ns) l h = some (.ow (.lst ((cutG ns l h).map .int))) := rfl
@[simp] theorem x_tofs1 {ds} : fLofs (.lst ds) = some (.ow (.lst ds)) := rfl
@[simp] theorem x_tofs2 {ds} : fLofs (.tup ds) = some (.ow (.lst ds)) := rfl
@[simp] theorem x_gmod {i j : Int} : gMod i j = if 0 < j then some (i % j) else none := rfl
@[simp] theorem x_wipe0 : wipeE env [] = env := rfl
@[simp] theorem x_wipe1 {v vs} : wipeE env (v :: vs) = (wipeE env vs).set v .no := rfl
@[simp] theorem x_app : fApp [d] ds = if ds.length < sizeLine then some (ds ++ [d]) else none := rfl
end
theorem gDiv_of {i j : Int} (h : 0 < j) (h2 : j < 2 ^ 8000) : gDiv i j = some (i / j) := by
  unfold gDiv
  rw [if_pos]
  refine ⟨h, ?_⟩
  have := PySem.Flt.log2_lt_of (n := j.natAbs) (k := 8000) (by decide) (by omega)
  omega
theorem gMul_of {i j : Int} (h1 : i.natAbs < 2 ^ 400000) (h2 : j.natAbs < 2 ^ 400000) : gMul i j = some (i * j) := by
  unfold gMul
  rw [if_pos]
  have a := PySem.Flt.log2_lt_of (k := 400000) (by decide) h1
  have b := PySem.Flt.log2_lt_of (k := 400000) (by decide) h2
  omega
/-- data that may be compared, so deep at most -/
def D.okN (k : Nat) (d : D) : Prop := d.py.canLay0 = true ∧ d.py.depth ≤ k
theorem okN_ok {k : Nat} {d : D} (h : d.okN k) (hk : k ≤ 64) : d.ok = true := by
  unfold D.ok SeqAt.shaped
  rw [h.1, decide_eq_true (Nat.le_trans h.2 hk)]; rfl
theorem okN_mono {k m : Nat} {d : D} (h : d.okN k) (hk : k ≤ m) : d.okN m := ⟨h.1, Nat.le_trans h.2 hk⟩
theorem okN_int {k : Nat} (i : Int) : (D.int i).okN k := ⟨rfl, Nat.zero_le _⟩
theorem okN_non {k : Nat} : D.non.okN k := ⟨rfl, Nat.zero_le _⟩
theorem okN_all {k : Nat} : ∀ {ds : List D}, (∀ d ∈ ds, d.okN k) → PyData.canLayAll0 (D.pyL ds) = true ∧ PyData.depthAll (D.pyL ds) ≤ k
  | [], _ => ⟨rfl, Nat.zero_le _⟩
  | d :: ds, h => by
    obtain ⟨h1, h2⟩ := okN_all (ds := ds) fun e he => h e (List.mem_cons_of_mem _ he)
    obtain ⟨h3, h4⟩ := h d List.mem_cons_self
    rw [D.pyL, PyData.canLayAll0, PyData.depthAll, h1, h3]
    exact ⟨rfl, Nat.max_le.mpr ⟨h4, h2⟩⟩
theorem okN_lst {k : Nat} {ds : List D} (h : ∀ d ∈ ds, d.okN k) : (D.lst ds).okN (k + 1) := by
  obtain ⟨h1, h2⟩ := okN_all h
  exact ⟨by rw [D.py, PyData.canLay0]; exact h1, by rw [D.py, PyData.depth]; omega⟩
theorem okN_tup {k : Nat} {ds : List D} (h : ∀ d ∈ ds, d.okN k) : (D.tup ds).okN (k + 1) := by
  obtain ⟨h1, h2⟩ := okN_all h
  exact ⟨by rw [D.py, PyData.canLay0]; exact h1, by rw [D.py, PyData.depth]; omega⟩
@[simp] theorem x_sz {k : Nat} (h : k ≤ 1000) : k ≤ sizeLine := Nat.le_trans h (by decide)
@[simp] theorem x_sz2 {k : Nat} (h : k ≤ 1000) : k < sizeLine := Nat.lt_of_le_of_lt h (by decide)
end Kn
namespace Kn
open PySem L2
/-! ### list(range(..)), list(reversed(..)), {k: v}, reversed walks -/
section
open PySem.Spec PyProof.Rows
variable {prog : Program} {w : World} {A : Around} {s : Shared}
end
section
open PySem.Spec PyProof.Rows
end
section
variable {X : Cx} {ct : CT} {x y : Expr} {a b : Sem} {pos p p2 pos2 : Pos} {tg : Expr}
noncomputable def eLrg (a : Sem) : Sem := fun env st => (a env st).bind fun p => match p.1.d with
  | .int j => if Rg j ∧ j ≤ 1000 then some (.ow (.lst (rngD 0 j.toNat)), p.2) else none
  | _ => none
def fLrev : D → Option R
  | .lst ds => some (.ow (.lst ds.reverse))
  | _ => none
/-- for x in reversed(xs) -/
def iRevd (a : Sem) : SemI := fun env st => (a env st).bind fun p => p.1.sh?.bind fun d => match d with
  | .lst ds => some (ds.reverse, p.2)
  | _ => none
/-- one that stands aside -/
theorem Rel.aside {K : PySem.W.Frag} {F H : Hp} {W : Wd} {L : Addr → Option Lab} {env : List Kn.Slot} {st : Sto} {σ : St} {q : Addr} {o : HO} (I : Rel K ct F W L env st σ H) (hq : H q = none) :
    Rel K ct (upd F q o) W (fun a => if (H a).isSome then L a else none) env st σ (upd H q o) := by
  obtain ⟨I', h1, h2, h3⟩ := I.laid (o := o) hq
  refine ⟨fun b u e => ?_, I'.hs, I'.tp, I'.ob, I'.rh, I'.len, I'.sl⟩
  by_cases hb : b = q
  · subst hb
    rw [upd_same] at e; cases e
    exact ⟨upd_same, h1, h2⟩
  · rw [upd_ne hb] at e
    exact I'.fr b u e
/-- {k: v} -/
def eD1 (a b : Sem) : Sem := fun env st => (a env st).bind fun p => (b env p.2).bind fun q => match p.1.pin, q.1.pin with
  | .sh d, .sh d' => d.key.map fun ky => (.ow (.dic [(ky, d')]), q.2)
  | _, _ => none
/-! evaluating -/
variable {env env' : List Kn.Slot} {st st' : Sto} {ds : List D}
@[simp] theorem x_lrev : fLrev (.lst ds) = some (.ow (.lst ds.reverse)) := rfl
@[simp] theorem x_lrg : eLrg a env st = (a env st).bind fun p => match p.1.d with
  | .int j => if Rg j ∧ j ≤ 1000 then some (.ow (.lst (rngD 0 j.toNat)), p.2) else none
  | _ => none := rfl
@[simp] theorem x_revd : iRevd a env st = (a env st).bind fun p => p.1.sh?.bind fun d => match d with
  | .lst ds => some (ds.reverse, p.2)
  | _ => none := rfl
@[simp] theorem x_d1e : eD1 a b env st = (a env st).bind fun p => (b env p.2).bind fun q => match p.1.pin, q.1.pin with
  | .sh d, .sh d' => d.key.map fun ky => (.ow (.dic [(ky, d')]), q.2)
  | _, _ => none := rfl
@[simp] theorem x_key1 {i : Int} : (D.int i).key = some (.inl i) := rfl
end
end Kn
namespace Kn
open PySem L2
/-! ### plain lemmas -/
/-- a loop's turns, each to its end -/
inductive Runs (g : SemG) (f : SemS) (st : Sto) : List D → List Slot → List Slot → Prop
  | nil {env : List Slot} : Runs g f st [] env env
  | cons {d : D} {ds : List D} {env env1 env2 env' : List Slot} : g d env = some env1 → f env1 st = some (.nx, env2, st) → Runs g f st ds env2 env' → Runs g f st (d :: ds) env env'
theorem Runs.forL {g : SemG} {f : SemS} {st : Sto} {ds : List D} {env env' : List Slot} (h : Runs g f st ds env env') : Kn.forL g f ds env st = some (.nx, env', st) := by
  induction h with
  | nil => rfl
  | cons h1 h2 _ ih => rw [forL_nx h1 h2, ih]
theorem Runs.app {g : SemG} {f : SemS} {st : Sto} {ds es : List D} {env env' env2 : List Slot} (h : Runs g f st ds env env') (k : Runs g f st es env' env2) : Runs g f st (ds ++ es) env env2 := by
  induction h with
  | nil => exact k
  | cons h1 h2 _ ih => exact .cons h1 h2 (ih k)
section
variable {d : D} {i j k : Int} {f g : D → D → Option R} {a b c : Sem} {env : List Slot} {st : Sto} {n : Nat} {m : Fn} {as : SemA} {ds : List D}
@[simp] theorem x_neg : fNeg (.int i) = some (.sh (.int (-i))) := rfl
@[simp] theorem x_chain : eChain f g a b c env st = (a env st).bind fun p => (b env p.2).bind fun q => (f p.1.d q.1.d).bind fun r => match r with
  | .sh (.bl true) => (c env q.2).bind fun u => (g q.1.d u.1.d).map fun r => (r, u.2)
  | .sh (.bl false) => some (.sh (.bl false), q.2)
  | _ => none := rfl
@[simp] theorem x_callp : eCallP n m as env st = (as env st).bind fun p => if p.1.length = n ∧ D.nhL (p.1.map R.d) = true then (m (p.1.map R.d) []).bind fun q => match q.1 with
  | .sh d => if d.imm = true then some (.sh d, p.2) else none
  | _ => none else none := rfl
@[simp] theorem x_clr : fClr [] ds = some [] := rfl
@[simp] theorem x_pop : fPop [] ds = if ds ≠ [] then some ds.dropLast else none := rfl
end
/-! ### equality of plain data -/
mutual
def D.pl : D → Bool
  | .non => true
  | .int _ => true
  | .str x => PyData.strOk x
  | .lst ds => D.plL ds
  | .tup ds => D.plL ds
  | _ => false
def D.plL : List D → Bool
  | [] => true
  | d :: ds => d.pl && D.plL ds
end
mutual
theorem eq_pl : ∀ {d e : D}, d.pl = true → e.pl = true → (PyData.eqv d.py e.py = true ↔ d = e)
  | .str _, .non, _, _ => by simp [D.py, PyData.eqv]
  | .non, .str _, _, _ => by simp [D.py, PyData.eqv]
  | .str _, .int _, _, _ => by simp [D.py, PyData.eqv]
  | .int _, .str _, _, _ => by simp [D.py, PyData.eqv]
  | .str _, .lst _, _, _ => by simp [D.py, PyData.eqv]
  | .lst _, .str _, _, _ => by simp [D.py, PyData.eqv]
  | .str _, .tup _, _, _ => by simp [D.py, PyData.eqv]
  | .tup _, .str _, _, _ => by simp [D.py, PyData.eqv]
  | .str a, .str b, _, _ => by simp [D.py, PyData.eqv]
  | .non, .non, _, _ => by simp [D.py, PyData.eqv]
  | .non, .int _, _, _ => by simp [D.py, PyData.eqv]
  | .non, .lst _, _, _ => by simp [D.py, PyData.eqv]
  | .non, .tup _, _, _ => by simp [D.py, PyData.eqv]
  | .int _, .non, _, _ => by simp [D.py, PyData.eqv]
  | .int _, .int _, _, _ => by simp [D.py, PyData.eqv]
  | .int _, .lst _, _, _ => by simp [D.py, PyData.eqv]
  | .int _, .tup _, _, _ => by simp [D.py, PyData.eqv]
  | .lst _, .non, _, _ => by simp [D.py, PyData.eqv]
  | .lst _, .int _, _, _ => by simp [D.py, PyData.eqv]
  | .lst ds, .lst es, h, k => by
    rw [D.pl] at h k
    rw [D.py, D.py, PyData.eqv, eqL_pl h k]; simp
  | .lst _, .tup _, _, _ => by simp [D.py, PyData.eqv]
  | .tup _, .non, _, _ => by simp [D.py, PyData.eqv]
  | .tup _, .int _, _, _ => by simp [D.py, PyData.eqv]
  | .tup _, .lst _, _, _ => by simp [D.py, PyData.eqv]
  | .tup ds, .tup es, h, k => by
    rw [D.pl] at h k
    rw [D.py, D.py, PyData.eqv, eqL_pl h k]; simp
theorem eqL_pl : ∀ {ds es : List D}, D.plL ds = true → D.plL es = true → (PyData.eqvAll (D.pyL ds) (D.pyL es) = true ↔ ds = es)
  | [], [], _, _ => by simp [D.pyL, PyData.eqvAll]
  | [], _ :: _, _, _ => by simp [D.pyL, PyData.eqvAll]
  | _ :: _, [], _, _ => by simp [D.pyL, PyData.eqvAll]
  | d :: ds, e :: es, h, k => by
    rw [D.plL, Bool.and_eq_true] at h k
    rw [D.pyL, D.pyL, PyData.eqvAll, Bool.and_eq_true, eq_pl h.1 k.1, eqL_pl h.2 k.2]; simp
end
theorem plL_all {ds : List D} (h : ∀ d ∈ ds, d.pl = true) : D.plL ds = true := by
  induction ds with
  | nil => rfl
  | cons d ds ih => rw [D.plL, h d List.mem_cons_self, ih fun e he => h e (List.mem_cons_of_mem _ he)]; rfl
/-- plain, so deep at most -/
structure D.Pn (k : Nat) (d : D) : Prop where
  pl : d.pl = true
  ok : d.okN k
theorem Pn_int {k : Nat} (i : Int) : (D.int i).Pn k := ⟨rfl, okN_int i⟩
theorem Pn_non {k : Nat} : D.non.Pn k := ⟨rfl, okN_non⟩
theorem okN_str {k : Nat} {x : Str} (h : PyData.strOk x = true) : (D.str x).okN k := ⟨h, Nat.zero_le _⟩
theorem Pn_str {k : Nat} {x : Str} (h : PyData.strOk x = true) : (D.str x).Pn k := ⟨h, okN_str h⟩
theorem Pn_lst {k : Nat} {ds : List D} (h : ∀ d ∈ ds, d.Pn k) : (D.lst ds).Pn (k + 1) := ⟨by rw [D.pl]; exact plL_all fun d hd => (h d hd).pl, okN_lst fun d hd => (h d hd).ok⟩
theorem Pn_tup {k : Nat} {ds : List D} (h : ∀ d ∈ ds, d.Pn k) : (D.tup ds).Pn (k + 1) := ⟨by rw [D.pl]; exact plL_all fun d hd => (h d hd).pl, okN_tup fun d hd => (h d hd).ok⟩
theorem Pn_mono {k m : Nat} {d : D} (h : d.Pn k) (hk : k ≤ m) : d.Pn m := ⟨h.pl, okN_mono h.ok hk⟩
theorem nhL_all {ds : List D} (h : ∀ d ∈ ds, d.nh = true) : D.nhL ds = true := by
  induction ds with
  | nil => rfl
  | cons d ds ih => rw [D.nhL, h d List.mem_cons_self, ih fun e he => h e (List.mem_cons_of_mem _ he)]; rfl
@[simp] theorem x_mul {i j : Int} : fMul (.int i) (.int j) = (gMul i j).map fun k => .sh (.int k) := rfl
@[simp] theorem x_imm_bl {b : Bool} : (D.bl b).imm = true := rfl
@[simp] theorem x_imm_int {i : Int} : (D.int i).imm = true := rfl
@[simp] theorem x_imm_non : D.non.imm = true := rfl
theorem eq_bl (a b : Bool) : (D.bl a).eq (.bl b) = decide (a = b) := by cases a <;> cases b <;> simp [D.eq, D.py, PyData.eqv]
@[simp] theorem x_eqb {a b : Bool} : fEq (.bl a) (.bl b) = some (.sh (.bl (decide (a = b)))) := by unfold fEq; rw [eq_bl]; rfl
@[simp] theorem x_neb {a b : Bool} : fNe (.bl a) (.bl b) = some (.sh (.bl (!decide (a = b)))) := by unfold fNe; rw [eq_bl]; rfl
section
variable {α : Type} {a b c d e : α} {l : List α}
@[simp] theorem x_at0 : atI (a :: l) 0 = some a := by
  have := @atI_nat α (a :: l) 0 a rfl
  exact this
@[simp] theorem x_at1 : atI (a :: b :: l) 1 = some b := by
  have := @atI_nat α (a :: b :: l) 1 b rfl
  exact this
@[simp] theorem x_at2 : atI (a :: b :: c :: l) 2 = some c := by
  have := @atI_nat α (a :: b :: c :: l) 2 c rfl
  exact this
@[simp] theorem x_at3 : atI (a :: b :: c :: d :: l) 3 = some d := by
  have := @atI_nat α (a :: b :: c :: d :: l) 3 d rfl
  exact this
@[simp] theorem x_at4 : atI (a :: b :: c :: d :: e :: l) 4 = some e := by
  have := @atI_nat α (a :: b :: c :: d :: e :: l) 4 e rfl
  exact this
end
end Kn
namespace Kn
open PySem L2
/-! ### classes -/
section
variable {K : PySem.W.Frag} {ct : CT}
theorem RdH.obj {F H : Hp} {W : Wd} {L : Addr → Option Lab} {env : List Slot} {st : Sto} {σ : St} {v : V} {c : Str} {ds : List D} (h : RdH K ct W H v (.obj c ds)) (I : Rel K ct F W L env st σ H) :
    ∃ a C dx fs ns, v = .ref a ∧ H a = some (.ins C dx fs) ∧ ct c = some (C, ns) ∧ fs.map (·.1) = ns.take fs.length ∧ RepL K ct W (fs.map (·.2)) ds := by
  rcases h with h | ⟨a, rfl, cl⟩
  · cases h with
    | obj h1 h2 h3 h4 =>
      have e := h4.length
      rw [List.length_map] at e
      exact ⟨_, _, _, _, _, rfl, (I.hs _ _ h1).1, h2, by rw [e]; exact h3, h4⟩
  · cases cl with
    | obj h1 h2 h3 h4 =>
      have e := h4.length
      rw [List.length_map] at e
      exact ⟨_, _, _, _, _, rfl, h1, h2, by rw [e]; exact h3, h4⟩
end
section
variable {X : Cx} {ct : CT} {x y : Expr} {a b : Sem} {pos p apos : Pos} {c f m : Str} {C : Addr} {ns : List Str} {es : List Expr} {as : SemA}
/-- o.f -/
def fFld (c : Str) (k : Nat) : D → Option R
  | .obj c' ds => if c' = c then ds[k]?.map .sh else none
  | _ => none
/-- o.m(..), o an object that is shared -/
def eMeth (n : Nat) (c : Str) (m : Fn) (a : Sem) (as : SemA) : Sem := fun env st => (a env st).bind fun p => match p.1.pin with
  | .sh (.obj c' ds) => if c' = c then (as env p.2).bind fun q => (valsR q.1).bind fun es => if es.length + 1 = n then m (.obj c' ds :: es) q.2 else none else none
  | _ => none
/-- a method that may be called -/
structure Mcl (P : Program) (w : World) (K : PySem.W.Frag) (mg : Str → Option Value) (base : Heap) (ct : CT) (C : Addr) (nm : Str) (k : Nat) (ps : List Str) (m : Fn) : Prop where
  ex : ∃ f fd, FnOk P w K mg base CX0 k f fd ps (spD K ct ps.length m) ∧ Meth K C nm f ∧ Binds K fd ps []
end
/-! ### constructors -/
section
variable {K : PySem.W.Frag} {ct : CT}
end
section
variable {X : Cx} {ct : CT} {x y : Expr} {a b : Sem} {pos p apos : Pos} {c f m : Str} {C : Addr} {ns : List Str} {es : List Expr} {as : SemA}
def eMake (n : Nat) (m : Fn) (as : SemA) : Sem := fun env st => (as env st).bind fun p => (valsR p.1).bind fun ds => if ds.length + 1 = n then m ds p.2 else none
end
/-! ### a field of one's own self -/
section
variable {X : Cx} {ct : CT} {x y : Expr} {a b : Sem} {pos p apos npos : Pos} {c f m n : Str} {C : Addr} {ns : List Str}
def sFldM (i : Nat) (c : Str) (k : Nat) (a : Sem) : SemS := fun env st => (a env st).bind fun p => match p.1.pin, (env[i]? : Option Kn.Slot) with
  | .sh d, some (.me ad (.obj c' ds)) => if c' = c ∧ k = ds.length then some (.nx, env.set i (.me ad (.obj c' (ds ++ [d]))), p.2) else none
  | _, _ => none
end
end Kn
namespace Kn
open PySem L2
/-! ### lists of lists of one's own -/
section
variable {K : PySem.W.Frag} {ct : CT} {F H H' : Hp} {W W' : Wd} {L L' : Addr → Option Lab} {env : List Kn.Slot} {st : Sto} {σ : St} {l : Lab}
theorem Rows.at : ∀ {ws : List V} {dss : List (List D)} {j : Nat} {ds : List D}, Rows K ct W H L l ws dss → dss[j]? = some ds → ∃ a vs, ws[j]? = some (.ref a) ∧ H a = some (.lst vs) ∧ L a = some l ∧ RepL K ct W vs ds
  | _, _, 0, _, .cons h1 h2 h3 _ _, e => by cases e; exact ⟨_, _, rfl, h1, h2, h3⟩
  | _, _, j + 1, _, .cons _ _ _ _ r, e => by
    obtain ⟨a, vs, g1, g2⟩ := r.at (j := j) e
    exact ⟨a, vs, g1, g2⟩
theorem Rows.length : ∀ {ws : List V} {dss : List (List D)}, Rows K ct W H L l ws dss → ws.length = dss.length
  | _, _, .nil => rfl
  | _, _, .cons _ _ _ _ r => by rw [List.length_cons, List.length_cons, r.length]
theorem Rows.lab : ∀ {ws : List V} {dss : List (List D)}, Rows K ct W H L l ws dss → ∀ a, V.ref a ∈ ws → L a = some l ∧ ∃ vs, H a = some (.lst vs)
  | _, _, .cons h1 h2 _ _ r, a, h => by
    rcases List.mem_cons.mp h with h | h
    · cases h; exact ⟨h2, _, h1⟩
    · exact r.lab a h
theorem Rows.off : ∀ {ws : List V} {dss : List (List D)} {a : Addr} {o : HO}, Rows K ct W H L l ws dss → V.ref a ∉ ws → Rows K ct W (L2.upd H a o) L l ws dss
  | _, _, _, _, .nil, _ => .nil
  | _, _, a, o, .cons (a := a') g1 g2 g3 g4 r, n => by
    have ne : a' ≠ a := fun z => n (by rw [z]; exact List.mem_cons_self)
    exact .cons (by rw [upd_ne ne]; exact g1) g2 g3 g4 (r.off fun z => n (List.mem_cons_of_mem _ z))
/-- one row is another one -/
theorem Rows.upd : ∀ {ws : List V} {dss : List (List D)} {j : Nat} {a : Addr} {vs : List V} {ds : List D}, Rows K ct W H L l ws dss → ws[j]? = some (.ref a) → RepL K ct W vs ds → Rows K ct W (L2.upd H a (.lst vs)) L l ws (dss.set j ds)
  | _, _, 0, a, vs, ds, .cons (a := a') g1 g2 g3 g4 r, e, q => by
    cases e
    exact .cons upd_same g2 q g4 (r.off g4)
  | _, _, j + 1, a, vs, ds, .cons (a := a') (ws := ws) g1 g2 g3 g4 r, e, q => by
    have e : ws[j]? = some (V.ref a) := e
    have hm := List.mem_of_getElem? e
    have ne : a' ≠ a := fun z => g4 (by rw [z]; exact hm)
    exact .cons (by rw [upd_ne ne]; exact g1) g2 g3 g4 (r.upd (j := j) e q)
/-- a new thing is labelled as a slot's -/
theorem Rel.lab {a : Addr} (I : Rel K ct F W L env st σ H) (i : Nat) (hl : L a = none) (hw : W.hs a = none) (hf : F a = none) : Rel K ct F W (fun b => if b = a then some (.slot i) else L b) env st σ H := by
  have lab : ∀ b, b ≠ a → (if b = a then some (Lab.slot i) else L b) = L b := fun b h => if_neg h
  refine ⟨fun b u e => ?_, fun b u e => ?_, I.tp, fun g κ x e => ?_, I.rh, I.len, fun j s e => (I.sl j s e).mono (.refl W) fun b u hb hu => ⟨hu, ?_⟩⟩
  · have nb : b ≠ a := by rintro rfl; rw [hf] at e; cases e
    obtain ⟨h1, h2, h3⟩ := I.fr b u e
    exact ⟨h1, (lab b nb).trans h2, h3⟩
  · have nb : b ≠ a := by rintro rfl; rw [hw] at e; cases e
    obtain ⟨h1, h2⟩ := I.hs b u e
    exact ⟨h1, (lab b nb).trans h2⟩
  · obtain ⟨v, h1, h2⟩ := I.ob g κ x e
    refine ⟨v, h1, ?_⟩
    have q : (fun b => if (if b = a then some (Lab.slot i) else L b) = some (.ob g) then H b else none) = fun b => if L b = some (.ob g) then H b else none := by
      funext b
      by_cases hb : b = a
      · subst hb; simp [hl]
      · rw [lab b hb]
    rw [q]; exact h2
  · exact (lab b (by rintro rfl; rw [hl] at hb; cases hb)).trans hb
/-- a slot is emptied, its labels taken away -/
theorem Rel.clear (I : Rel K ct F W L env st σ H) (i : Nat) : Rel K ct F W (fun b => if L b = some (.slot i) then none else L b) (env.set i .no) st σ H := by
  refine ⟨fun b u e => ?_, fun b u e => ?_, I.tp, fun g κ x e => ?_, I.rh, by rw [List.length_set]; exact I.len, fun j s e => ?_⟩
  · obtain ⟨h1, h2, h3⟩ := I.fr b u e
    exact ⟨h1, by simp [h2], h3⟩
  · obtain ⟨h1, h2⟩ := I.hs b u e
    exact ⟨h1, by simp [h2]⟩
  · obtain ⟨v, h1, h2⟩ := I.ob g κ x e
    refine ⟨v, h1, ?_⟩
    have q : (fun b => if (if L b = some (Lab.slot i) then none else L b) = some (.ob g) then H b else none) = fun b => if L b = some (.ob g) then H b else none := by
      funext b
      by_cases hb : L b = some (.slot i)
      · simp [hb]
      · simp [hb]
    rw [q]; exact h2
  · rcases getset e with ⟨rfl, rfl, hi⟩ | ⟨hj, e⟩
    · trivial
    · refine (I.sl j s e).mono (.refl W) fun b u hb hu => ⟨hu, ?_⟩
      have : ¬ L b = some (.slot i) := fun z => by rw [hb] at z; cases z; exact hj rfl
      rw [if_neg this]; exact hb
end
section
variable {X : Cx} {ct : CT} {x y ix : Expr} {a b : Sem} {f : SemS} {pos p apos npos tpos : Pos} {n : Str} {sx : Stmt}
def sFrz2 (i : Nat) (f : SemS) : SemS := fun env st => match (env[i]? : Option Kn.Slot) with
  | some (.o2 dss) => f (env.set i (.sh (.lst (dss.map .lst)))) st
  | _ => f env st
end
/-! ### rows that stand aside in the frame -/
section
variable {K : PySem.W.Frag} {ct : CT} {F F' H H' : Hp} {W W' : Wd} {L L' : Addr → Option Lab} {env : List Kn.Slot} {st : Sto} {σ σ' : St} {l : Lab}
end
/-! ### x[i].append(v) -/
section
variable {X : Cx} {ct : CT} {x y : Expr} {a b : Sem} {as : SemA} {pos cpos apos npos tpos : Pos} {n : Str}
def app2 (dss : List (List D)) (j : Int) (xs : List D) : Option (List (List D)) := match xs with
  | [d] => (ixN dss.length j).bind fun k => (dss[k]?).bind fun ds => if ds.length < sizeLine then some (dss.set k (ds ++ [d])) else none
  | _ => none
def sApp2 (i : Nat) (b : Sem) (as : SemA) : SemS := fun env st => (b env st).bind fun p => (as (env.set i .no) p.2).bind fun q => (valsR q.1).bind fun xs => match p.1.d, (env[i]? : Option Kn.Slot) with
  | .int j, some (.o2 dss) => (app2 dss j xs).map fun dss' => (.nx, env.set i (.o2 dss'), q.2)
  | _, _ => none
end
/-! ### x = [[] for .. in ..] -/
section
variable {X : Cx} {ct : CT} {x : Expr} {pos spos py lp : Pos} {n : Str}
def sEmp (i : Nat) (it : SemI) (vs : List Nat) (g : SemG) : SemS := fun env st => (it env st).bind fun p => if vs.all (fun j => (env[j]?.map Slot.okW).getD true) = true ∧ p.1.all (fun d => (g d (wipeE env vs)).isSome) = true ∧ p.1.length ≤ sizeLine ∧ i < env.length then some (.nx, env.set i (.o2 (List.replicate p.1.length [])), p.2) else none
end
/-! ### evaluating -/
section
variable {env : List Kn.Slot} {st : Sto} {a b : Sem} {as : SemA} {f : SemS} {c : Str} {ds : List D} {n k i : Nat} {m : Fn} {it : SemI} {vs : List Nat} {g : SemG} {d : D}
@[simp] theorem x_fld : fFld c k (.obj c ds) = ds[k]?.map .sh := if_pos rfl
@[simp] theorem x_meth : eMeth n c m a as env st = (a env st).bind fun p => match p.1.pin with
  | .sh (.obj c' ds) => if c' = c then (as env p.2).bind fun q => (valsR q.1).bind fun es => if es.length + 1 = n then m (.obj c' ds :: es) q.2 else none else none
  | _ => none := rfl
@[simp] theorem x_make : eMake n m as env st = (as env st).bind fun p => (valsR p.1).bind fun ds => if ds.length + 1 = n then m ds p.2 else none := rfl
@[simp] theorem x_fldM : sFldM i c k a env st = (a env st).bind fun p => match p.1.pin, (env[i]? : Option Kn.Slot) with
  | .sh d, some (.me ad (.obj c' ds)) => if c' = c ∧ k = ds.length then some (.nx, env.set i (.me ad (.obj c' (ds ++ [d]))), p.2) else none
  | _, _ => none := rfl
@[simp] theorem x_frz2 : sFrz2 i f env st = match (env[i]? : Option Kn.Slot) with
  | some (.o2 dss) => f (env.set i (.sh (.lst (dss.map .lst)))) st
  | _ => f env st := rfl
@[simp] theorem x_app2 : sApp2 i b as env st = (b env st).bind fun p => (as (env.set i .no) p.2).bind fun q => (valsR q.1).bind fun xs => match p.1.d, (env[i]? : Option Kn.Slot) with
  | .int j, some (.o2 dss) => (app2 dss j xs).map fun dss' => (.nx, env.set i (.o2 dss'), q.2)
  | _, _ => none := rfl
@[simp] theorem x_emp : sEmp i it vs g env st = (it env st).bind fun p => if vs.all (fun j => (env[j]?.map Slot.okW).getD true) = true ∧ p.1.all (fun d => (g d (wipeE env vs)).isSome) = true ∧ p.1.length ≤ sizeLine ∧ i < env.length then some (.nx, env.set i (.o2 (List.replicate p.1.length [])), p.2) else none := rfl
end
theorem gMul_b {i j : Int} (h1 : i.natAbs < 2 ^ 300) (h2 : j.natAbs < 2 ^ 300) : gMul i j = some (i * j) := by
  have : 2 ^ 300 ≤ 2 ^ 400000 := Nat.pow_le_pow_right (by decide) (by decide)
  refine gMul_of ?_ ?_
  · exact Nat.lt_of_lt_of_le h1 this
  · exact Nat.lt_of_lt_of_le h2 this
end Kn
namespace Kn
open PySem L2
/-! ### t < u for tuples: the first place that differs decides, what stands behind it may be anything -/
section
open PySem.SeqAt PySem.Spec PyProof.Rows
open MeetsSeq MeetsSeq2 MeetsSeq3 SeqRoads2
end
section
open PySem.Spec PyProof.Rows
end
section
variable {X : Cx} {ct : CT} {x y : Expr} {a b : Sem} {pos : Pos}
def ltD : List D → List D → Option Bool
  | .int i :: xs, .int j :: ys => if i = j then ltD xs ys else some (decide (i < j))
  | [], [] => some false
  | [], _ :: _ => some true
  | _ :: _, [] => some false
  | _, _ => none
def fLtX : D → D → Option R
  | .int i, .int j => some (.sh (.bl (decide (i < j))))
  | .tup ds, .tup es => (ltD ds es).map fun k => .sh (.bl k)
  | _, _ => none
@[simp] theorem x_ltX1 {i j : Int} : fLtX (.int i) (.int j) = some (.sh (.bl (decide (i < j)))) := rfl
@[simp] theorem x_ltX2 {ds es : List D} : fLtX (.tup ds) (.tup es) = (ltD ds es).map fun k => .sh (.bl k) := rfl
end
end Kn
namespace Kn
open PySem L2
/-! ### typed readings of the functions -/
class En (α : Type) where
  en : α → D
open En
structure Scr where
  l : List Int
structure Tp1 (α : Type) where
  x0 : α
  deriving DecidableEq
structure Tp2 (α β : Type) where
  x0 : α
  x1 : β
  deriving DecidableEq
structure Tp3 (α β γ : Type) where
  x0 : α
  x1 : β
  x2 : γ
  deriving DecidableEq
structure Tp4 (α β γ δ : Type) where
  x0 : α
  x1 : β
  x2 : γ
  x3 : δ
  deriving DecidableEq
structure Tp5 (α β γ δ ε : Type) where
  x0 : α
  x1 : β
  x2 : γ
  x3 : δ
  x4 : ε
  deriving DecidableEq
structure Hl2 (α β : Type) where
  x0 : α
  x1 : β
  deriving DecidableEq
structure Hl3 (α β γ : Type) where
  x0 : α
  x1 : β
  x2 : γ
  deriving DecidableEq
section
variable {α β γ δ ε : Type} [En α] [En β] [En γ] [En δ] [En ε]
instance : En Int := ⟨.int⟩
instance : En Bool := ⟨.bl⟩
instance : En Unit := ⟨fun _ => .non⟩
instance : En Str := ⟨.str⟩
instance : En Scr := ⟨fun s => .scr s.l⟩
instance : En (List α) := ⟨fun l => .lst (l.map en)⟩
instance : En (Option α) := ⟨fun o => match o with | none => .non | some a => en a⟩
instance : En (Tp1 α) := ⟨fun p => .tup [en p.x0]⟩
instance : En (Tp2 α β) := ⟨fun p => .tup [en p.x0, en p.x1]⟩
instance : En (Tp3 α β γ) := ⟨fun p => .tup [en p.x0, en p.x1, en p.x2]⟩
instance : En (Tp4 α β γ δ) := ⟨fun p => .tup [en p.x0, en p.x1, en p.x2, en p.x3]⟩
instance : En (Tp5 α β γ δ ε) := ⟨fun p => .tup [en p.x0, en p.x1, en p.x2, en p.x3, en p.x4]⟩
instance : En (Hl2 α β) := ⟨fun p => .lst [en p.x0, en p.x1]⟩
instance : En (Hl3 α β γ) := ⟨fun p => .lst [en p.x0, en p.x1, en p.x2]⟩
/-- shared, one's own, a name's own -/
inductive Kx where
  | sh | ow | bw (i : Nat) | oo
def Kx.r : Kx → D → R
  | .sh, d => .sh d
  | .ow, d => .ow d
  | .bw i, d => .bw i d
  | .oo, .non => .sh .non
  | .oo, d => .ow d
def Kx.ok : Kx → Bool
  | .bw _ => false
  | .oo => false
  | _ => true
def Kx.slot : Kx → D → Kn.Slot
  | .ow, d => .ow d
  | _, d => .sh d
def Kx.out : Kx → Kx
  | .bw _ => .ow
  | k => k
theorem Kx.rd (k : Kx) (d : D) : (k.r d).d = d := by cases k <;> first | rfl | (cases d <;> rfl)
theorem Kx.outR (k : Kx) (d : D) : (k.r d).outR = k.out.r d := by cases k <;> first | rfl | (cases d <;> rfl)
theorem Kx.pin {k : Kx} (h : k.ok = true) (d : D) : (k.r d).pin = .sh d := by cases k <;> first | rfl | cases h
theorem Kx.sh? {k : Kx} (h : k.ok = true) (d : D) : (k.r d).sh? = some d := by cases k <;> first | rfl | cases h
def Ev (k : Kx) (e : Sem) (env : List Kn.Slot) (st : Sto) (t : Option α) : Prop := e env st = t.map fun a => (k.r (en a), st)
variable {k k1 k2 k3 : Kx} {env env' : List Kn.Slot} {st : Sto} {e a b c : Sem} {i j n : Nat} {x x' : α} {y y' : β} {z : γ} {tx : Option α} {ty : Option β} {tz : Option γ} {as : SemA} {ds : List D}
theorem ev_var (h : env[i]? = some (.sh (en x))) : Ev .sh (eVar i) env st (some x) := by
  show (match env[i]? with | some (.sh d) => some (Kn.R.sh d, st) | some (.ow d) => some (.bw i d, st) | _ => none) = _
  rw [h]; rfl
theorem ev_varo (h : env[i]? = some (.ow (en x))) : Ev (.bw i) (eVar i) env st (some x) := by
  show (match env[i]? with | some (.sh d) => some (Kn.R.sh d, st) | some (.ow d) => some (.bw i d, st) | _ => none) = _
  rw [h]; rfl
theorem ev_int (i : Int) : Ev .sh (eC (.int i)) env st (some i) := rfl
theorem ev_bl (i : Bool) : Ev .sh (eC (.bl i)) env st (some i) := rfl
def Op1 (k : Kx) (f : D → Option R) (F : α → Option β) : Prop := ∀ x, f (en x) = (F x).map fun c => k.r (en c)
def Op2 (k : Kx) (f : D → D → Option R) (F : α → β → Option γ) : Prop := ∀ x y, f (en x) (en y) = (F x y).map fun c => k.r (en c)
section
variable {f : D → Option R} {F : α → Option β} {g : D → D → Option R} {G : α → β → Option γ}
theorem ev_1p (h : Op1 k f F) (ha : Ev k1 a env st (some x)) : Ev k (e1 f a) env st (F x) := by
  unfold Ev at ha ⊢
  show ((a env st).bind fun p => (f p.1.d).map fun r => (r, p.2)) = _
  rw [ha]
  show ((f (k1.r (en x)).d).map fun r => (r, st)) = _
  rw [Kx.rd, h x, Option.map_map]; rfl
theorem ev_1x (h : Op1 k f F) (ha : Ev k1 a env st tx) : Ev k (e1 f a) env st (tx.bind F) := by
  cases tx with
  | none =>
    unfold Ev at ha ⊢
    show ((a env st).bind fun p => (f p.1.d).map fun r => (r, p.2)) = _
    rw [ha]; rfl
  | some x => exact ev_1p (F := F) h ha
theorem ev_2pp (h : Op2 k g G) (ha : Ev k1 a env st (some x)) (hb : Ev k2 b env st (some y)) : Ev k (e2 g a b) env st (G x y) := by
  unfold Ev at ha hb ⊢
  show ((a env st).bind fun p => (b env p.2).bind fun q => (g p.1.d q.1.d).map fun r => (r, q.2)) = _
  rw [ha]
  show ((b env st).bind fun q => (g (k1.r (en x)).d q.1.d).map fun r => (r, q.2)) = _
  rw [hb]
  show ((g (k1.r (en x)).d (k2.r (en y)).d).map fun r => (r, st)) = _
  rw [Kx.rd, Kx.rd, h x y, Option.map_map]; rfl
theorem ev_2xx (h : Op2 k g G) (ha : Ev k1 a env st tx) (hb : Ev k2 b env st ty) : Ev k (e2 g a b) env st (tx.bind fun x => ty.bind fun y => G x y) := by
  cases tx with
  | none =>
    unfold Ev at ha ⊢
    show ((a env st).bind fun p => (b env p.2).bind fun q => (g p.1.d q.1.d).map fun r => (r, q.2)) = _
    rw [ha]; rfl
  | some x =>
    cases ty with
    | none =>
      unfold Ev at ha hb ⊢
      show ((a env st).bind fun p => (b env p.2).bind fun q => (g p.1.d q.1.d).map fun r => (r, q.2)) = _
      rw [ha]
      show ((b env st).bind fun q => (g (k1.r (en x)).d q.1.d).map fun r => (r, q.2)) = _
      rw [hb]; rfl
    | some y => exact ev_2pp (G := G) h ha hb
theorem ev_2px (h : Op2 k g G) (ha : Ev k1 a env st (some x)) (hb : Ev k2 b env st ty) : Ev k (e2 g a b) env st (ty.bind fun y => G x y) := ev_2xx h ha hb
theorem ev_2xp (h : Op2 k g G) (ha : Ev k1 a env st tx) (hb : Ev k2 b env st (some y)) : Ev k (e2 g a b) env st (tx.bind fun x => G x y) := ev_2xx h ha hb
end
/-! tests -/
variable {p q : Bool} {tp tq : Option Bool}
theorem ev_notp (ha : Ev .sh a env st (some p)) : Ev .sh (eNot a) env st (some (!p)) := by
  unfold Ev at ha ⊢; unfold eNot; rw [ha]; rfl
theorem ev_notx (ha : Ev .sh a env st tp) : Ev .sh (eNot a) env st (tp.bind fun p => some (!p)) := by
  unfold Ev at ha ⊢; unfold eNot; rw [ha]; cases tp <;> rfl
theorem ev_andxx (ha : Ev .sh a env st tp) (hb : Ev .sh b env st tq) : Ev .sh (eAnd a b) env st (tp.bind fun p => if p = true then tq else some false) := by
  unfold Ev at ha hb ⊢; unfold eAnd; rw [ha]
  cases tp with
  | none => rfl
  | some p => cases p with
    | true => exact hb
    | false => rfl
theorem ev_andpp (ha : Ev .sh a env st (some p)) (hb : Ev .sh b env st (some q)) : Ev .sh (eAnd a b) env st (some (p && q)) := by
  have := ev_andxx ha hb
  cases p <;> exact this
theorem ev_andpx (ha : Ev .sh a env st (some p)) (hb : Ev .sh b env st tq) : Ev .sh (eAnd a b) env st (if p = true then tq else some false) := ev_andxx ha hb
theorem ev_andxp (ha : Ev .sh a env st tp) (hb : Ev .sh b env st (some q)) : Ev .sh (eAnd a b) env st (tp.bind fun p => some (p && q)) := by
  cases tp with
  | none => exact ev_andxx ha hb
  | some p => exact ev_andpp ha hb
theorem ev_orxx (ha : Ev .sh a env st tp) (hb : Ev .sh b env st tq) : Ev .sh (eOr a b) env st (tp.bind fun p => if p = true then some true else tq) := by
  unfold Ev at ha hb ⊢; unfold eOr; rw [ha]
  cases tp with
  | none => rfl
  | some p => cases p with
    | false => exact hb
    | true => rfl
theorem ev_orpp (ha : Ev .sh a env st (some p)) (hb : Ev .sh b env st (some q)) : Ev .sh (eOr a b) env st (some (p || q)) := by
  have := ev_orxx ha hb
  cases p <;> exact this
theorem ev_orpx (ha : Ev .sh a env st (some p)) (hb : Ev .sh b env st tq) : Ev .sh (eOr a b) env st (if p = true then some true else tq) := ev_orxx ha hb
theorem ev_orxp (ha : Ev .sh a env st tp) (hb : Ev .sh b env st (some q)) : Ev .sh (eOr a b) env st (tp.bind fun p => some (p || q)) := by
  cases tp with
  | none => exact ev_orxx ha hb
  | some p => exact ev_orpp ha hb
/-! arguments -/
def EvAp (as : SemA) (env : List Kn.Slot) (st : Sto) (ds : List D) : Prop := as env st = some (ds.map .sh, st)
def EvA {μ : Type} (as : SemA) (env : List Kn.Slot) (st : Sto) (t : Option μ) (dec : μ → List D) : Prop := as env st = t.map fun b => ((dec b).map .sh, st)
theorem ea_nil : EvAp aNil env st [] := rfl
theorem ea_p (ha : Ev k a env st (some x)) (hk : k.ok = true) (h : EvAp as env st ds) : EvAp (aCons a as) env st (en x :: ds) := by
  unfold Ev at ha; unfold EvAp at h ⊢; unfold aCons
  rw [ha]
  show ((as env st).map fun q => ((k.r (en x)).pin :: q.1, q.2)) = _
  rw [h, Kx.pin hk]; rfl
theorem ea_xp (ha : Ev k a env st tx) (hk : k.ok = true) (h : EvAp as env st ds) : EvA (aCons a as) env st tx fun x => en x :: ds := by
  cases tx with
  | none => unfold Ev at ha; unfold EvA aCons; rw [ha]; rfl
  | some x => exact ea_p ha hk h
section
variable {μ : Type} {t : Option μ} {dec : μ → List D}
theorem ea_px (ha : Ev k a env st (some x)) (hk : k.ok = true) (h : EvA as env st t dec) : EvA (aCons a as) env st t fun b => en x :: dec b := by
  unfold Ev at ha; unfold EvA at h ⊢; unfold aCons
  rw [ha]
  show ((as env st).map fun q => ((k.r (en x)).pin :: q.1, q.2)) = _
  rw [h, Kx.pin hk]; cases t <;> rfl
theorem ea_xx (ha : Ev k a env st tx) (hk : k.ok = true) (h : EvA as env st t dec) : EvA (aCons a as) env st (tx.bind fun x => t.bind fun b => some (x, b)) fun p => en p.1 :: dec p.2 := by
  cases tx with
  | none => unfold Ev at ha; unfold EvA aCons; rw [ha]; rfl
  | some x =>
    have := ea_px ha hk h
    unfold EvA at this ⊢
    rw [this]; cases t <;> rfl
theorem vals_sh : ∀ ds : List D, valsR (ds.map .sh) = some ds
  | [] => rfl
  | d :: ds => by rw [List.map_cons, x_v1, vals_sh ds]; rfl
theorem ev_callp {m : Fn} (ha : EvAp as env st ds) (h : m ds st = tz.map fun r => (k.r (en r), st)) (hl : ds.length = n) : Ev k (eCall n m as) env st tz := by
  unfold EvAp at ha; unfold Ev eCall
  rw [ha]
  show ((valsR (ds.map .sh)).bind fun ds => if ds.length = n then m ds st else none) = _
  rw [vals_sh]
  show (if ds.length = n then m ds st else none) = _
  rw [if_pos hl, h]
theorem ev_callx {m : Fn} {F : μ → Option γ} (ha : EvA as env st t dec) (h : ∀ b, m (dec b) st = (F b).map fun r => (k.r (en r), st)) (hl : ∀ b, (dec b).length = n) : Ev k (eCall n m as) env st (t.bind F) := by
  cases t with
  | none => unfold EvA at ha; unfold Ev eCall; rw [ha]; rfl
  | some b => exact ev_callp (ds := dec b) ha (h b) (hl b)
theorem ev_tupp {p : γ} (ha : EvAp as env st ds) (hp : en p = .tup ds) (hl : ds.length ≤ 1000) : Ev .sh (eTup as) env st (some p) := by
  unfold EvAp at ha; unfold Ev eTup
  rw [ha]
  show ((valsR (ds.map .sh)).bind fun ds => if ds.length ≤ sizeLine then some (Kn.R.sh (.tup ds), st) else none) = _
  rw [vals_sh]
  show (if ds.length ≤ sizeLine then some (Kn.R.sh (.tup ds), st) else none) = _
  rw [if_pos (x_sz hl), ← hp]; rfl
theorem ev_tupx {F : μ → γ} (ha : EvA as env st t dec) (hp : ∀ b, en (F b) = .tup (dec b)) (hl : ∀ b, (dec b).length ≤ 1000) : Ev .sh (eTup as) env st (t.bind fun b => some (F b)) := by
  cases t with
  | none => unfold EvA at ha; unfold Ev eTup; rw [ha]; rfl
  | some b => exact ev_tupp (ds := dec b) ha (hp b) (hl b)
theorem ev_lstp {p : γ} (ha : EvAp as env st ds) (hp : en p = .lst ds) (hl : ds.length ≤ 1000) : Ev .ow (eLst as) env st (some p) := by
  unfold EvAp at ha; unfold Ev eLst
  rw [ha]
  show ((valsR (ds.map .sh)).bind fun ds => if ds.length ≤ sizeLine then some (Kn.R.ow (.lst ds), st) else none) = _
  rw [vals_sh]
  show (if ds.length ≤ sizeLine then some (Kn.R.ow (.lst ds), st) else none) = _
  rw [if_pos (x_sz hl), ← hp]; rfl
theorem ev_lstx {F : μ → γ} (ha : EvA as env st t dec) (hp : ∀ b, en (F b) = .lst (dec b)) (hl : ∀ b, (dec b).length ≤ 1000) : Ev .ow (eLst as) env st (t.bind fun b => some (F b)) := by
  cases t with
  | none => unfold EvA at ha; unfold Ev eLst; rw [ha]; rfl
  | some b => exact ev_lstp (ds := dec b) ha (hp b) (hl b)
end
end
section
/-! calls by what is a name's own -/
class EnH (α : Type) [En α] : Prop where
  nh : ∀ a : α, (En.en a).nh = true
open En
variable {α β γ δ ε : Type} [En α] [En β] [En γ] [En δ] [En ε]
instance : EnH Int := ⟨fun _ => rfl⟩
instance : EnH Bool := ⟨fun _ => rfl⟩
instance : EnH Unit := ⟨fun _ => rfl⟩
instance : EnH Str := ⟨fun _ => rfl⟩
instance : EnH Scr := ⟨fun _ => rfl⟩
instance [EnH α] : EnH (List α) := ⟨fun l => by
  show D.nhL (l.map en) = true
  exact nhL_all fun d hd => by obtain ⟨a, _, rfl⟩ := List.mem_map.mp hd; exact EnH.nh a⟩
instance [EnH α] : EnH (Option α) := ⟨fun o => by cases o with | none => rfl | some a => exact EnH.nh a⟩
instance [EnH α] : EnH (Tp1 α) := ⟨fun p => by show D.nhL [_] = true; simp only [D.nhL, EnH.nh, Bool.and_self]⟩
instance [EnH α] [EnH β] : EnH (Tp2 α β) := ⟨fun p => by show D.nhL [_, _] = true; simp only [D.nhL, EnH.nh, Bool.and_self]⟩
instance [EnH α] [EnH β] [EnH γ] : EnH (Tp3 α β γ) := ⟨fun p => by show D.nhL [_, _, _] = true; simp only [D.nhL, EnH.nh, Bool.and_self]⟩
instance [EnH α] [EnH β] [EnH γ] [EnH δ] : EnH (Tp4 α β γ δ) := ⟨fun p => by show D.nhL [_, _, _, _] = true; simp only [D.nhL, EnH.nh, Bool.and_self]⟩
instance [EnH α] [EnH β] [EnH γ] [EnH δ] [EnH ε] : EnH (Tp5 α β γ δ ε) := ⟨fun p => by show D.nhL [_, _, _, _, _] = true; simp only [D.nhL, EnH.nh, Bool.and_self]⟩
instance [EnH α] [EnH β] : EnH (Hl2 α β) := ⟨fun p => by show D.nhL [_, _] = true; simp only [D.nhL, EnH.nh, Bool.and_self]⟩
class EnI (α : Type) [En α] : Prop where
  imm : ∀ a : α, (En.en a).imm = true
instance : EnI Int := ⟨fun _ => rfl⟩
instance : EnI Bool := ⟨fun _ => rfl⟩
instance : EnI Unit := ⟨fun _ => rfl⟩
instance : EnI Str := ⟨fun _ => rfl⟩
instance [EnI α] : EnI (Option α) := ⟨fun o => by cases o with | none => rfl | some a => exact EnI.imm a⟩
instance [EnI α] [EnI β] : EnI (Tp2 α β) := ⟨fun p => by show D.immL [_, _] = true; simp only [D.immL, EnI.imm, Bool.and_self]⟩
instance [EnI α] [EnI β] [EnI γ] : EnI (Tp3 α β γ) := ⟨fun p => by show D.immL [_, _, _] = true; simp only [D.immL, EnI.imm, Bool.and_self]⟩
instance [EnI α] [EnI β] [EnI γ] [EnI δ] : EnI (Tp4 α β γ δ) := ⟨fun p => by show D.immL [_, _, _, _] = true; simp only [D.immL, EnI.imm, Bool.and_self]⟩
variable {k k1 k2 k3 : Kx} {env env' : List Kn.Slot} {st : Sto} {a : Sem} {i j n : Nat} {x : α} {tz : Option γ} {as : SemA} {ds : List D}
end
end Kn
namespace Kn
open PySem L2
/-! ### typed readings: iterations, statements -/
open En
section
variable {α β γ δ σ ρ : Type} [En α] [En β] [En γ]
variable {k k1 k2 k3 : Kx} {env env' : List Kn.Slot} {st : Sto} {e a b c : Sem} {i j n : Nat} {x x' : α} {y : β} {tx : Option α} {ty : Option β} {as : SemA} {ds : List D}
def szG (l : List α) : Option (List α) := if l.length ≤ sizeLine then some l else none
theorem szG_of {l : List α} (h : l.length ≤ 1000) : szG l = some l := if_pos (x_sz h)
/-! comprehensions -/
def EvI (it : SemI) (env : List Kn.Slot) (st : Sto) (t : Option (List α)) : Prop := it env st = t.map fun l => (l.map en, st)
def lcT (c : α → Option Bool) (f : α → Option β) : List α → Option (List β)
  | [] => some []
  | x :: xs => (c x).bind fun b => if b = true then (f x).bind fun y => (lcT c f xs).bind fun l => some (y :: l) else lcT c f xs
theorem lcT_ev {g : SemG} {vs : List Nat} {tc : α → Option Bool} {ta : α → Option β} {en1 : α → List Kn.Slot} (hk : k.ok = true) (hg : ∀ x : α, g (en x) (wipeE env vs) = some (en1 x)) (hc : ∀ x, Ev .sh c (en1 x) st (tc x)) (ha : ∀ x, Ev k a (en1 x) st (ta x)) : ∀ l : List α,
    lcL g c a vs env (l.map en) st = (lcT tc ta l).map fun r => (r.map en, st)
  | [] => rfl
  | x :: xs => by
    have ih := lcT_ev hk hg hc ha xs
    have h1 := hc x
    have h2 := ha x
    unfold Ev at h1 h2
    rw [List.map_cons, lcL, hg x, lcT]
    show ((c (en1 x) st).bind _) = _
    rw [h1]
    cases tc x with
    | none => rfl
    | some p =>
      cases p with
      | false => exact ih
      | true =>
        show ((a (en1 x) st).bind _) = _
        rw [h2]
        cases hx : ta x with
        | none => rfl
        | some y =>
          show ((k.r (en y)).sh?.bind _) = _
          rw [Kx.sh? hk]
          show (lcL g c a vs env (xs.map en) st).map _ = _
          rw [ih]
          cases hl : lcT tc ta xs with
          | none => simp [hl]
          | some l => simp [hl]
theorem ev_lcx {it : SemI} {g : SemG} {vs : List Nat} {t : Option (List α)} {tc : α → Option Bool} {ta : α → Option β} {en1 : α → List Kn.Slot} (hi : EvI it env st t) (hv : vs.all (fun j => (env[j]?.map Slot.okW).getD true) = true) (hg : ∀ x : α, g (en x) (wipeE env vs) = some (en1 x)) (hc : ∀ x, Ev .sh c (en1 x) st (tc x)) (ha : ∀ x, Ev k a (en1 x) st (ta x)) (hk : k.ok = true) :
    Ev .ow (eLc it vs g c a) env st (t.bind fun l => (lcT tc ta l).bind szG) := by
  unfold EvI at hi; unfold Ev
  rw [x_lc, hi]
  cases t with
  | none => rfl
  | some l =>
    show (if vs.all (fun j => (env[j]?.map Slot.okW).getD true) = true then (lcL g c a vs env (l.map en) st).bind fun q => if q.1.length ≤ sizeLine then some (Kn.R.ow (.lst q.1), q.2) else none else none) = _
    rw [if_pos hv, lcT_ev hk hg hc ha l]
    show _ = ((lcT tc ta l).bind szG).map _
    cases lcT tc ta l with
    | none => rfl
    | some r =>
      show (if (r.map en).length ≤ sizeLine then some (Kn.R.ow (.lst (r.map en)), st) else none) = (szG r).map _
      unfold szG
      rw [List.length_map]
      split <;> rfl
theorem ev_yes : Ev .sh eYes env st (some true) := rfl
/-! what is gone through -/
class EnS (τ : Type) [En τ] (α : outParam Type) [En α] where
  items : τ → List α
  seq : ∀ t : τ, (en t).seq = some ((items t).map en)
instance : EnS (List α) α := ⟨id, fun _ => rfl⟩
instance : EnS Scr Int := ⟨Scr.l, fun _ => rfl⟩
instance : EnS (Tp2 α α) α := ⟨fun p => [p.x0, p.x1], fun _ => rfl⟩
instance : EnS (Tp3 α α α) α := ⟨fun p => [p.x0, p.x1, p.x2], fun _ => rfl⟩
theorem ei_seqp {τ : Type} [En τ] [EnS τ α] {v : τ} (ha : Ev k a env st (some v)) (hk : k.ok = true) : EvI (iSeq a) env st (some (EnS.items v)) := by
  unfold Ev at ha; unfold EvI
  rw [x_iseq, ha]
  show ((k.r (en v)).sh?.bind fun d => d.seq.map fun ds => (ds, st)) = _
  rw [Kx.sh? hk]
  show ((en v).seq.map fun ds => (ds, st)) = _
  rw [EnS.seq v]; rfl
theorem ei_lstp {v : List α} (ha : Ev k a env st (some v)) (hk : k.ok = true) : EvI (iSeq a) env st (some v) := ei_seqp ha hk
def rngI (lo : Int) (n : Nat) : List Int := (List.range n).map fun (k : Nat) => lo + (k : Int)
theorem rngD_en (lo : Int) (n : Nat) : rngD lo n = (rngI lo n).map en := by unfold rngD rngI; rw [List.map_map]; rfl
open Classical in
noncomputable def rngG (i j : Int) : Option (List Int) := if Rg i ∧ Rg j then some (rngI i (j - i).toNat) else none
theorem rg0 : Rg 0 := .of (by decide)
theorem rngG_of {i j : Int} (h : i.natAbs ≤ 1000000) (h2 : j.natAbs ≤ 1000000) : rngG i j = some (rngI i (j - i).toNat) := by
  unfold rngG
  rw [if_pos]
  exact ⟨.of (by omega), .of (by omega)⟩
theorem ei_rng1p {v : Int} (ha : Ev k a env st (some v)) : EvI (iRng1' a) env st (rngG 0 v) := by
  unfold Ev at ha; unfold EvI
  rw [x_rng1, ha]
  show (match (k.r (.int v)).d with | .int j => if Rg j then some (rngD 0 j.toNat, st) else none | _ => none) = _
  rw [Kx.rd]
  show (if Rg v then some (rngD 0 v.toNat, st) else none) = _
  unfold rngG
  by_cases h : Rg v
  · rw [if_pos h, if_pos ⟨rg0, h⟩, rngD_en, Int.sub_zero]; rfl
  · rw [if_neg h, if_neg fun z => h z.2]; rfl
def zipT : List α → List β → List (Tp2 α β)
  | x :: xs, y :: ys => ⟨x, y⟩ :: zipT xs ys
  | _, _ => []
theorem zipD_en : ∀ (l : List α) (m : List β), zipD (l.map en) (m.map en) = (zipT l m).map en
  | [], [] => rfl
  | [], _ :: _ => rfl
  | _ :: _, [] => rfl
  | x :: xs, y :: ys => by
    rw [List.map_cons, List.map_cons, zipD, zipD_en xs ys]; rfl
/-! statements -/
inductive Ct (ρ σ : Type) where
  | nx (s : σ) | rt (r : ρ)
def Ct.go {ρ σ τ : Type} (c : Ct ρ σ) (f : σ → Option τ) (g : ρ → Option τ) : Option τ := match c with
  | .nx s => f s
  | .rt r => g r
abbrev Outs := Out × List Kn.Slot × Sto
def nrm (fn : Bool) : Outs → Outs
  | (.rt r, _, st) => (.rt r.outR, [], st)
  | (.nx, env, st) => if fn = true then (.rt (.sh .non), [], st) else (.nx, env, st)
  | q => q
def Ru {τ : Type} (fn : Bool) (enc : τ → Outs) (f : SemS) (env : List Kn.Slot) (st : Sto) (t : Option τ) : Prop := (f env st).map (nrm fn) = t.map enc
variable {τ : Type} {fn : Bool} {enc : τ → Outs} {f g h s1 : SemS} {t t1 t2 : Option τ} {z : τ}
theorem ru_of {t' : Option τ} (h : Ru fn enc f env st t') (e : t = t') : Ru fn enc f env st t := by rw [e]; exact h
theorem ru_nil (h : nrm fn (.nx, env, st) = enc z) : Ru fn enc sNil env st (some z) := by
  show some (nrm fn (.nx, env, st)) = some (enc z)
  rw [h]
theorem ru_id (h : Ru fn enc g env st t) : Ru fn enc (sSeq sNil g) env st t := h
theorem seq_assoc (f g h : SemS) : sSeq (sSeq f g) h = sSeq f (sSeq g h) := by
  funext env st
  unfold sSeq
  cases f env st with
  | none => rfl
  | some p =>
    obtain ⟨o, e', st'⟩ := p
    cases o <;> rfl
theorem ru_as (k : Ru fn enc (sSeq f (sSeq g h)) env st t) : Ru fn enc (sSeq (sSeq f g) h) env st t := by rw [seq_assoc]; exact k
theorem ru_setp (ha : Ev k a env st (some x)) (hk : k.ok = true) (hr : Ru fn enc g (env.set i (k.slot (en x))) st t) : Ru fn enc (sSeq (sSet i a) g) env st t := by
  unfold Ev at ha; unfold Ru at hr ⊢
  have : sSeq (sSet i a) g env st = g (env.set i (k.slot (en x))) st := by
    rw [x_seq, x_set, ha]
    cases k <;> first | rfl | cases hk
  rw [this]; exact hr
theorem ru_setx {T : α → Option τ} (ha : Ev k a env st tx) (hk : k.ok = true) (hr : ∀ x, Ru fn enc g (env.set i (k.slot (en x))) st (T x)) : Ru fn enc (sSeq (sSet i a) g) env st (tx.bind T) := by
  cases tx with
  | none => unfold Ev at ha; unfold Ru; rw [x_seq, x_set, ha]; rfl
  | some x => exact ru_setp ha hk (hr x)
theorem ru_retp (ha : Ev k a env st (some x)) (he : enc z = (.rt (k.out.r (en x)), [], st)) : Ru fn enc (sSeq (sRet a) g) env st (some z) := by
  unfold Ev at ha; unfold Ru
  rw [x_seq, x_ret, ha]
  show some (nrm fn (.rt (k.r (en x)), env, st)) = some (enc z)
  rw [he]
  show some (Out.rt (k.r (en x)).outR, [], st) = _
  rw [Kx.outR]
theorem ru_retx {F : α → τ} (ha : Ev k a env st tx) (he : ∀ x, enc (F x) = (.rt (k.out.r (en x)), [], st)) : Ru fn enc (sSeq (sRet a) g) env st (tx.bind fun x => some (F x)) := by
  cases tx with
  | none => unfold Ev at ha; unfold Ru; rw [x_seq, x_ret, ha]; rfl
  | some x => exact ru_retp ha (he x)
theorem ru_never : Ru fn enc (sSeq sNever g) env st none := rfl
theorem ru_ifx {c : Sem} {tp : Option Bool} {T1 T2 : Option τ} (hc : Ev .sh c env st tp) (h1 : Ru fn enc (sSeq f h) env st T1) (h2 : Ru fn enc (sSeq g h) env st T2) : Ru fn enc (sSeq (sIf c f g) h) env st (tp.bind fun p => if p = true then T1 else T2) := by
  unfold Ev at hc; unfold Ru at h1 h2 ⊢
  rw [x_seq, x_if, hc]
  cases tp with
  | none => rfl
  | some p => cases p with
    | true => exact h1
    | false => exact h2
theorem ru_ifp {c : Sem} {p : Bool} {T1 T2 : Option τ} (hc : Ev .sh c env st (some p)) (h1 : Ru fn enc (sSeq f h) env st T1) (h2 : Ru fn enc (sSeq g h) env st T2) : Ru fn enc (sSeq (sIf c f g) h) env st (if p = true then T1 else T2) := ru_ifx hc h1 h2
/-- a statement that goes on with a state -/
def Rn {σ : Type} (E : σ → List Kn.Slot) (f : SemS) (env : List Kn.Slot) (st : Sto) (t : Option σ) : Prop := f env st = t.map fun s => (.nx, E s, st)
theorem rn_of {E : σ → List Kn.Slot} {t : Option σ} (h : Ru false (fun s => (.nx, E s, st)) (sSeq f sNil) env st t) : Rn E f env st t := by
  unfold Ru at h; unfold Rn
  rw [x_seq] at h
  cases hf : f env st with
  | none =>
    rw [hf] at h
    cases t with
    | none => rfl
    | some s => cases h
  | some p =>
    rw [hf] at h
    obtain ⟨o, e', st'⟩ := p
    cases t with
    | none => cases o <;> cases h
    | some s =>
      cases o with
      | nx => exact h
      | rt r => cases h
      | bk => cases h
      | ct => cases h
theorem ru_join {E : σ → List Kn.Slot} {t1 : Option σ} {T : σ → Option τ} (h1 : Rn E f env st t1) (h2 : ∀ s, Ru fn enc g (E s) st (T s)) : Ru fn enc (sSeq f g) env st (t1.bind T) := by
  unfold Rn at h1
  cases t1 with
  | none => unfold Ru; rw [x_seq, h1]; rfl
  | some s =>
    have h2 := h2 s
    unfold Ru at h2 ⊢
    have : sSeq f g env st = g (E s) st := by rw [x_seq, h1]; rfl
    rw [this]; exact h2
end
end Kn
namespace Kn
open PySem L2
/-! ### typed readings: loops, what is forgotten, what is changed -/
open En
section
variable {X : Cx} {ct : CT} {sxs : List Stmt} {f : SemS}
/-- names forgotten ahead of the rest -/
def sKl (js : List Nat) (f : SemS) : SemS := fun env st => f (wipeE env js) st
theorem Rel.wipe {K : PySem.W.Frag} {F H : Hp} {W : Wd} {L : Addr → Option Lab} {st : Sto} {σ : St} : ∀ {js : List Nat} {env : List Kn.Slot}, Rel K ct F W L env st σ H → Rel K ct F W L (wipeE env js) st σ H
  | [], _, I => I
  | j :: js, env, I => by
    have J := Rel.wipe (js := js) I
    refine ⟨J.fr, J.hs, J.tp, J.ob, J.rh, by rw [x_wipe1, List.length_set]; exact J.len, fun i s e => ?_⟩
    rw [x_wipe1] at e
    by_cases h : j = i
    · subst h
      rw [List.getElem?_set] at e
      simp only [if_true] at e
      split at e
      · cases e; trivial
      · cases e
    · rw [List.getElem?_set_ne h] at e
      exact J.sl i s e
theorem sb_kl (js : List Nat) (h : SB X ct sxs f) : SB X ct sxs (sKl js f) := by
  refine ⟨pss_mono h.pss fun D σ H ⟨F, W, L, env, st, o, env', st', I, e, k⟩ => ?_⟩
  exact ⟨F, W, L, _, st, o, env', st', I.wipe, e, k⟩
theorem sb_frz (i : Nat) (h : SB X ct sxs f) : SB X ct sxs (sFrz i f) := by
  refine ⟨pss_mono h.pss fun D σ H ⟨F, W, L, env, st, o, env', st', I, e, k⟩ => ?_⟩
  unfold sFrz at e
  split at e
  · rename_i d he
    obtain ⟨W', L', le, J⟩ := I.freeze he
    exact ⟨F, W', L', _, st, o, env', st', J, e, k.mono le⟩
  · exact ⟨F, W, L, env, st, o, env', st', I, e, k⟩
end
section
variable {α β γ δ σ ρ τ : Type} [En α] [En β] [En γ]
variable {k k1 k2 k3 : Kx} {env env' : List Kn.Slot} {st : Sto} {e a b c : Sem} {i j n : Nat} {x x' : α} {y : β} {tx : Option α} {ty : Option β} {as : SemA} {ds : List D}
variable {fn : Bool} {enc : τ → Outs} {f g h s1 : SemS} {t t1 t2 : Option τ} {z : τ}
theorem ru_kl {js : List Nat} {env1 : List Kn.Slot} (he : wipeE env js = env1) (hr : Ru fn enc f env1 st t) : Ru fn enc (sKl js f) env st t := by
  unfold Ru sKl; rw [he]; exact hr
theorem ru_frz (he : env[i]? = some (.ow (en x))) (hr : Ru fn enc f (env.set i (.sh (en x))) st t) : Ru fn enc (sFrz i f) env st t := by
  unfold Ru at hr ⊢
  have : sFrz i f env st = f (env.set i (.sh (en x))) st := by rw [x_frz, he]
  rw [this]; exact hr
/-! loops -/
def foldT (step : α → σ → Option σ) : List α → σ → Option σ
  | [], s => some s
  | x :: xs, s => (step x s).bind fun s' => foldT step xs s'
theorem foldT_ev {E : σ → List Kn.Slot} {o : SemG} {E1 : α → σ → List Kn.Slot} {step : α → σ → Option σ} (ho : ∀ x s, o (en x) (E s) = some (E1 x s)) (hf : ∀ x s, Ru false (fun s => (.nx, E s, st)) f (E1 x s) st (step x s)) : ∀ (l : List α) (s : σ),
    forL o f (l.map en) (E s) st = (foldT step l s).map fun s => (.nx, E s, st)
  | [], s => rfl
  | x :: xs, s => by
    have h1 := hf x s
    unfold Ru at h1
    rw [List.map_cons, forL, ho x s, foldT]
    show ((f (E1 x s) st).bind _) = _
    cases hs : step x s with
    | none =>
      rw [hs] at h1
      cases hx : f (E1 x s) st with
      | none => rfl
      | some p => rw [hx] at h1; cases h1
    | some s' =>
      rw [hs] at h1
      cases hx : f (E1 x s) st with
      | none => rw [hx] at h1; cases h1
      | some p =>
        rw [hx] at h1
        obtain ⟨q, e1, s1⟩ := p
        cases q with
        | nx =>
          have h1 := Option.some.inj h1
          have h1 : (Out.nx, e1, s1) = (Out.nx, E s', st) := h1
          cases h1
          exact foldT_ev ho hf xs s'
        | rt r => cases h1
        | bk => cases h1
        | ct => cases h1
theorem rn_for {it : SemI} {o : SemG} {E : σ → List Kn.Slot} {E1 : α → σ → List Kn.Slot} {step : α → σ → Option σ} {s0 : σ} {tl : Option (List α)} (hi : EvI it env st tl) (he : env = E s0) (ho : ∀ x s, o (en x) (E s) = some (E1 x s)) (hf : ∀ x s, Ru false (fun s => (.nx, E s, st)) f (E1 x s) st (step x s)) :
    Rn E (sFor it o f) env st (tl.bind fun l => foldT step l s0) := by
  unfold EvI at hi; unfold Rn
  rw [x_for, hi]
  cases tl with
  | none => rfl
  | some l =>
    show forL o f (l.map en) env st = _
    rw [he]
    exact foldT_ev ho hf l s0
theorem rn_forp {it : SemI} {o : SemG} {E : σ → List Kn.Slot} {E1 : α → σ → List Kn.Slot} {step : α → σ → Option σ} {s0 : σ} {l : List α} (hi : EvI it env st (some l)) (he : env = E s0) (ho : ∀ x s, o (en x) (E s) = some (E1 x s)) (hf : ∀ x s, Ru false (fun s => (.nx, E s, st)) f (E1 x s) st (step x s)) :
    Rn E (sFor it o f) env st (foldT step l s0) := rn_for hi he ho hf
/-- a loop that may hand back -/
def forT (step : α → σ → Option (Ct ρ σ)) : List α → σ → Option (Ct ρ σ)
  | [], s => some (.nx s)
  | x :: xs, s => (step x s).bind fun c => c.go (fun s' => forT step xs s') fun r => some (.rt r)
def encC [En ρ] (k : Kx) (E : σ → List Kn.Slot) (st : Sto) : Ct ρ σ → Outs
  | .nx s => (.nx, E s, st)
  | .rt r => (.rt (k.r (en r)), [], st)
theorem forT_ev [En ρ] {E : σ → List Kn.Slot} {o : SemG} {E1 : α → σ → List Kn.Slot} {step : α → σ → Option (Ct ρ σ)} (ho : ∀ x s, o (en x) (E s) = some (E1 x s)) (hf : ∀ x s, Ru false (encC k E st) f (E1 x s) st (step x s)) : ∀ (l : List α) (s : σ),
    (forL o f (l.map en) (E s) st).map (nrm false) = (forT step l s).map (encC k E st)
  | [], s => rfl
  | x :: xs, s => by
    have h1 := hf x s
    unfold Ru at h1
    rw [List.map_cons, forL, ho x s, forT]
    show (((f (E1 x s) st).bind _).map _) = _
    cases hs : step x s with
    | none =>
      rw [hs] at h1
      cases hx : f (E1 x s) st with
      | none => rfl
      | some p => rw [hx] at h1; cases h1
    | some c =>
      rw [hs] at h1
      cases hx : f (E1 x s) st with
      | none => rw [hx] at h1; cases h1
      | some p =>
        rw [hx] at h1
        obtain ⟨q, e1, s1⟩ := p
        have h1 := Option.some.inj h1
        cases c with
        | nx s' =>
          have h1 : nrm false (q, e1, s1) = (Out.nx, E s', st) := h1
          cases q with
          | nx =>
            have h1 : (Out.nx, e1, s1) = (Out.nx, E s', st) := h1
            cases h1
            exact forT_ev ho hf xs s'
          | rt r => cases h1
          | bk => cases h1
          | ct => cases h1
        | rt r =>
          have h1 : nrm false (q, e1, s1) = (Out.rt (k.r (en r)), [], st) := h1
          cases q with
          | nx => cases h1
          | rt r' =>
            show some (nrm false (.rt r', e1, s1)) = _
            rw [h1]; rfl
          | bk => cases h1
          | ct => cases h1
/-- a statement that goes on with a state or hands back -/
def Rc [En ρ] (k : Kx) (E : σ → List Kn.Slot) (f : SemS) (env : List Kn.Slot) (st : Sto) (t : Option (Ct ρ σ)) : Prop := (f env st).map (nrm false) = t.map (encC k E st)
theorem rc_for [En ρ] {it : SemI} {o : SemG} {E : σ → List Kn.Slot} {E1 : α → σ → List Kn.Slot} {step : α → σ → Option (Ct ρ σ)} {s0 : σ} {tl : Option (List α)} (hi : EvI it env st tl) (he : env = E s0) (ho : ∀ x s, o (en x) (E s) = some (E1 x s)) (hf : ∀ x s, Ru false (encC k E st) f (E1 x s) st (step x s)) :
    Rc k E (sFor it o f) env st (tl.bind fun l => forT step l s0) := by
  unfold EvI at hi; unfold Rc
  rw [x_for, hi]
  cases tl with
  | none => rfl
  | some l =>
    show (forL o f (l.map en) env st).map _ = _
    rw [he]
    exact forT_ev ho hf l s0
theorem rc_forp [En ρ] {it : SemI} {o : SemG} {E : σ → List Kn.Slot} {E1 : α → σ → List Kn.Slot} {step : α → σ → Option (Ct ρ σ)} {s0 : σ} {l : List α} (hi : EvI it env st (some l)) (he : env = E s0) (ho : ∀ x s, o (en x) (E s) = some (E1 x s)) (hf : ∀ x s, Ru false (encC k E st) f (E1 x s) st (step x s)) :
    Rc k E (sFor it o f) env st (forT step l s0) := rc_for hi he ho hf
theorem nrm_rt {fn : Bool} {p : Outs} {r : Kn.R} {st' : Sto} (h : nrm false p = (.rt r, [], st')) : nrm fn p = (.rt r, [], st') ∧ ∃ r0 e0, p = (.rt r0, e0, st') := by
  obtain ⟨o, e, s⟩ := p
  cases o with
  | nx => cases h
  | bk => cases h
  | ct => cases h
  | rt r0 =>
    have h : (Out.rt r0.outR, [], s) = ((.rt r, [], st') : Outs) := h
    have := (Prod.mk.inj (Prod.mk.inj h).2).2
    subst this
    exact ⟨h, r0, e, rfl⟩
theorem nrm_nx {p : Outs} {e1 : List Kn.Slot} {st' : Sto} (h : nrm false p = (.nx, e1, st')) : p = (.nx, e1, st') := by
  obtain ⟨o, e, s⟩ := p
  cases o with
  | nx => exact h
  | bk => cases h
  | ct => cases h
  | rt r0 => cases h
theorem ru_joinc [En ρ] {E : σ → List Kn.Slot} {t1 : Option (Ct ρ σ)} {T : σ → Option τ} {F : ρ → τ} (h1 : Rc k E f env st t1) (hF : ∀ r, enc (F r) = (.rt (k.r (en r)), [], st)) (h2 : ∀ s, Ru fn enc g (E s) st (T s)) : Ru fn enc (sSeq f g) env st (t1.bind fun c => c.go T fun r => some (F r)) := by
  unfold Rc at h1
  unfold Ru
  rw [x_seq]
  cases hf : f env st with
  | none =>
    rw [hf] at h1
    cases t1 with
    | none => rfl
    | some c => cases h1
  | some p =>
    rw [hf] at h1
    cases t1 with
    | none => cases h1
    | some c =>
      have h1 := Option.some.inj h1
      cases c with
      | nx s =>
        have := nrm_nx h1
        subst this
        exact h2 s
      | rt r =>
        obtain ⟨h3, r0, e0, rfl⟩ := nrm_rt (fn := fn) h1
        show some (nrm fn (.rt r0, e0, st)) = some (enc (F r))
        rw [h3, hF]
/-- while -/
def whT (c : σ → Option Bool) (step : σ → Option σ) : Nat → σ → Option σ
  | 0, _ => none
  | n + 1, s => (c s).bind fun b => if b = true then (step s).bind fun s' => whT c step n s' else some s
/-! what is one's own is changed -/
def appG (l : List α) (x : α) : Option (List α) := if l.length < sizeLine then some (l ++ [x]) else none
theorem appG_of {l : List α} {x : α} (h : l.length ≤ 1000) : appG l x = some (l ++ [x]) := if_pos (x_sz2 h)
theorem mutp {m m' : List α} {fm : List D → List D → Option (List D)} {l : List α} (he : env[i]? = some (.ow (en l))) (ha : EvAp as env st ds) (hm : fm ds (l.map en) = some (m'.map en)) (hr : Ru fn enc g (env.set i (.ow (en m'))) st t) : Ru fn enc (sSeq (sMut i fm as) g) env st t := by
  unfold EvAp at ha; unfold Ru at hr ⊢
  have : sSeq (sMut i fm as) g env st = g (env.set i (.ow (en m'))) st := by
    rw [x_seq, x_mut, ha]
    show (((valsR (ds.map .sh)).bind _).bind _) = _
    rw [vals_sh]
    show ((match env[i]? with | some (.ow (.lst es)) => (fm ds es).map fun ds' => (Out.nx, env.set i (.ow (.lst ds')), st) | _ => none).bind _) = _
    rw [he]
    show (((fm ds (l.map en)).map fun ds' => (Out.nx, env.set i (.ow (.lst ds')), st)).bind _) = _
    rw [hm]; rfl
  rw [this]; exact hr
theorem mutn {fm : List D → List D → Option (List D)} {l : List α} (he : env[i]? = some (.ow (en l))) (ha : EvAp as env st ds) (hm : fm ds (l.map en) = none) : Ru fn enc (sSeq (sMut i fm as) g) env st none := by
  unfold EvAp at ha; unfold Ru
  rw [x_seq, x_mut, ha]
  show (((((valsR (ds.map .sh)).bind _).bind _) : Option Outs).map _) = _
  rw [vals_sh]
  show (((match env[i]? with | some (.ow (.lst es)) => (fm ds es).map fun ds' => (Out.nx, env.set i (.ow (.lst ds')), st) | _ => none).bind _ : Option Outs).map _) = _
  rw [he]
  show ((((fm ds (l.map en)).map fun ds' => (Out.nx, env.set i (.ow (.lst ds')), st)).bind _ : Option Outs).map _) = _
  rw [hm]; rfl
theorem ru_mut {fm : List D → List D → Option (List D)} {l : List α} {T : List α → Option τ} {m : Option (List α)} (he : env[i]? = some (.ow (en l))) (ha : EvAp as env st ds) (hm : fm ds (l.map en) = m.map fun m' => m'.map en) (hr : ∀ m', Ru fn enc g (env.set i (.ow (en m'))) st (T m')) : Ru fn enc (sSeq (sMut i fm as) g) env st (m.bind T) := by
  cases m with
  | none => exact mutn he ha hm
  | some m' => exact mutp (m := m') he ha hm (hr m')
theorem app_en (l : List α) (x : α) : fApp [en x] (l.map en) = (appG l x).map fun m' => m'.map en := by
  unfold appG
  rw [x_app, List.length_map]
  split <;> simp
theorem ru_appp {l : List α} {T : List α → Option τ} (he : env[i]? = some (.ow (en l))) (ha : Ev k a env st (some x)) (hk : k.ok = true) (hr : ∀ m', Ru fn enc g (env.set i (.ow (en m'))) st (T m')) : Ru fn enc (sSeq (sMut i fApp (aCons a aNil)) g) env st ((appG l x).bind T) := ru_mut he (ea_p ha hk ea_nil) (app_en l x) hr
theorem ru_appx {l : List α} {T : List α → Option τ} (he : env[i]? = some (.ow (en l))) (ha : Ev k a env st tx) (hk : k.ok = true) (hr : ∀ m', Ru fn enc g (env.set i (.ow (en m'))) st (T m')) : Ru fn enc (sSeq (sMut i fApp (aCons a aNil)) g) env st (tx.bind fun x => (appG l x).bind T) := by
  cases tx with
  | none =>
    have := ea_xp ha hk (ea_nil (env := env) (st := st))
    unfold EvA at this
    unfold Ru
    rw [x_seq, x_mut, this]; rfl
  | some x => exact ru_appp he ha hk hr
/-! rows of one's own -/
/-! a def by its body -/
def encF [En ρ] (k : Kx) (st : Sto) : ρ → Outs := fun r => (.rt (k.r (en r)), [], st)
theorem ev_fn [En ρ] {m : Nat} {b : SemS} {t : Option ρ} (h : Ru true (encF k st) b (ds.map .sh ++ List.replicate (m - ds.length) .no) st t) : runB m b ds st = t.map fun r => (k.r (en r), st) := by
  unfold Ru at h
  unfold runB
  cases hb : b (ds.map .sh ++ List.replicate (m - ds.length) .no) st with
  | none =>
    rw [hb] at h
    cases t with
    | none => rfl
    | some r => cases h
  | some p =>
    rw [hb] at h
    cases t with
    | none => cases h
    | some r =>
      have h := Option.some.inj h
      obtain ⟨o, e, s⟩ := p
      cases o with
      | nx =>
        have h : (Out.rt (.sh .non), [], s) = ((.rt (k.r (en r)), [], st) : Outs) := h
        injection h with h1 h2
        injection h2 with h2 h3
        injection h1 with h1
        show some (Kn.R.sh .non, s) = some (k.r (en r), st)
        rw [h1, h3]
      | rt r0 =>
        have h : (Out.rt r0.outR, [], s) = ((.rt (k.r (en r)), [], st) : Outs) := h
        injection h with h1 h2
        injection h2 with h2 h3
        injection h1 with h1
        show some (r0.outR, s) = some (k.r (en r), st)
        rw [h1, h3]
      | bk => cases h
      | ct => cases h
end
end Kn
namespace Kn
open PySem L2
/-! ### typed operations -/
open En
section
variable {α β γ δ ε σ ρ τ : Type} [En α] [En β] [En γ] [En δ] [En ε]
variable {k k1 k2 k3 : Kx} {env env' : List Kn.Slot} {st : Sto} {e a b c : Sem} {i j n : Nat} {x x' : α} {y : β} {tx : Option α} {ty : Option β}
theorem o2_add : Op2 (α := Int) (β := Int) .sh fAdd fun i j => some (i + j) := fun _ _ => rfl
theorem o2_mul : Op2 (α := Int) (β := Int) .sh fMul fun i j => gMul i j := fun _ _ => rfl
theorem o2_I (g : Int → Int → Option Int) : Op2 (α := Int) (β := Int) .sh (fI g) fun i j => g i j := fun _ _ => rfl
theorem o2_div : Op2 (α := Int) (β := Int) .sh (fI gDiv) fun i j => gDiv i j := o2_I _
theorem o2_mod : Op2 (α := Int) (β := Int) .sh (fI gMod) fun i j => gMod i j := o2_I _
theorem o2_pow : Op2 (α := Int) (β := Int) .sh (fI gPow) fun i j => gPow i j := o2_I _
theorem o2_C (g : Int → Int → Bool) : Op2 (α := Int) (β := Int) .sh (fC g) fun i j => some (g i j) := fun _ _ => rfl
theorem o2_lt : Op2 (α := Int) (β := Int) .sh fLt fun i j => some (decide (i < j)) := o2_C _
theorem o2_le : Op2 (α := Int) (β := Int) .sh fLe fun i j => some (decide (i ≤ j)) := o2_C _
/-- division and rest by a small written number -/
theorem ev_divc {v c : Int} (h0 : 0 < c) (h1 : c ≤ 2 ^ 40) (ha : Ev k a env st (some v)) : Ev .sh (e2 (fI gDiv) a (eC (.int c))) env st (some (v / c)) := by
  have := ev_2pp o2_div ha (ev_int c)
  rwa [gDiv_of h0 (Int.lt_of_le_of_lt h1 (by
    have e : (2 : Int) ^ 8000 = ((2 ^ 8000 : Nat) : Int) := (Int.natCast_pow 2 8000).symm
    have : 2 ^ 41 ≤ 2 ^ 8000 := Nat.pow_le_pow_right (by decide) (by decide)
    rw [e]
    generalize 2 ^ 8000 = z at this
    omega))] at this
theorem ev_modc {v c : Int} (h0 : 0 < c) (ha : Ev k a env st (some v)) : Ev .sh (e2 (fI gMod) a (eC (.int c))) env st (some (v % c)) := by
  have := ev_2pp o2_mod ha (ev_int c)
  rwa [show gMod v c = some (v % c) from if_pos h0] at this
theorem ev_modcx {t : Option Int} {c : Int} (h0 : 0 < c) (ha : Ev k a env st t) : Ev .sh (e2 (fI gMod) a (eC (.int c))) env st (t.bind fun v => some (v % c)) := by
  cases t with
  | none => unfold Ev at ha ⊢; rw [x_e2, ha]; rfl
  | some v => exact ev_modc h0 ha
/-! lists -/
def catG (l m : List α) : Option (List α) := if l.length + m.length ≤ sizeLine then some (l ++ m) else none
theorem catG_of {l m : List α} (h : l.length + m.length ≤ 1000) : catG l m = some (l ++ m) := if_pos (x_sz h)
theorem o2_cat : Op2 (α := List α) (β := List α) .ow fAdd fun l m => catG l m := fun l m => by
  show (if (l.map en).length + (m.map en).length ≤ sizeLine then some (Kn.R.ow (.lst (l.map en ++ m.map en))) else none) = (catG l m).map fun c => Kx.ow.r (en c)
  unfold catG
  rw [List.length_map, List.length_map, ← List.map_append]
  split <;> rfl
theorem o1_len : Op1 (α := List α) .sh fLen fun l => some (l.length : Int) := fun l => by
  show some (Kn.R.sh (.int ((l.map en).length : Nat))) = _
  rw [List.length_map]; rfl
theorem o1_lens : Op1 (α := Scr) .sh fLen fun l => some (l.l.length : Int) := fun l => rfl
theorem o1_len3 : Op1 (α := Tp3 α β γ) .sh fLen fun _ => some (3 : Int) := fun l => rfl
theorem o2_idx : Op2 (α := List α) (β := Int) .sh fIdx fun l i => atI l i := fun l i => by
  show (atI (l.map en) i).map Kn.R.sh = _
  rw [atI_map, Option.map_map]; rfl
theorem o2_idxs : Op2 (α := Scr) (β := Int) .sh fIdx fun l i => atI l.l i := fun l i => rfl
theorem ev_prj {v : γ} {w : α} {i : Int} (h : fIdx (en w) (.int i) = some (.sh (en v))) (ha : Ev k a env st (some w)) : Ev .sh (e2 fIdx a (eC (.int i))) env st (some v) := by
  unfold Ev at ha ⊢
  rw [x_e2, ha]
  show ((fIdx (k.r (en w)).d (.int i)).map fun r => (r, st)) = _
  rw [Kx.rd, h]; rfl
section
variable {w1 : Tp1 α} {w2 : Tp2 α β} {w3 : Tp3 α β γ} {w4 : Tp4 α β γ δ} {w5 : Tp5 α β γ δ ε} {h2 : Hl2 α β} {h3 : Hl3 α β γ}
theorem pj3_0 : fIdx (en w3) (.int 0) = some (.sh (en w3.x0)) := by
  show (atI [en w3.x0, en w3.x1, en w3.x2] 0).map Kn.R.sh = _
  rw [x_at0]; rfl
theorem pj3_1 : fIdx (en w3) (.int 1) = some (.sh (en w3.x1)) := by
  show (atI [en w3.x0, en w3.x1, en w3.x2] 1).map Kn.R.sh = _
  rw [x_at1]; rfl
theorem pj3_2 : fIdx (en w3) (.int 2) = some (.sh (en w3.x2)) := by
  show (atI [en w3.x0, en w3.x1, en w3.x2] 2).map Kn.R.sh = _
  rw [x_at2]; rfl
end
/-! slices -/
def EvP (p : SemP) (env : List Kn.Slot) (st : Sto) (t : Option (Option Int)) : Prop := p env st = t.map fun o => (o, st)
theorem ep_no : EvP pNo env st (some none) := rfl
theorem ep_some {t : Option Int} (ha : Ev k a env st t) : EvP (pSome a) env st (t.bind fun v => some (some v)) := by
  unfold Ev at ha; unfold EvP
  rw [x_psome, ha]
  cases t with
  | none => rfl
  | some v =>
    show (match (k.r (.int v)).d with | .int i => some (some i, st) | _ => none) = _
    rw [Kx.rd]; rfl
theorem ep_p {v : Int} (ha : Ev k a env st (some v)) : EvP (pSome a) env st (some (some v)) := ep_some ha
theorem ev_slcx {t : Option (List α)} {lo hi : SemP} {tl th : Option (Option Int)} (ha : Ev k a env st t) (hl : EvP lo env st tl) (hh : EvP hi env st th) : Ev .ow (eSlc a lo hi) env st (t.bind fun l => tl.bind fun u => th.bind fun v => some (cutG l u v)) := by
  unfold Ev at ha; unfold EvP at hl hh; unfold Ev
  rw [x_slc, ha]
  cases t with
  | none => rfl
  | some l =>
    show ((lo env st).bind _) = _
    rw [hl]
    cases tl with
    | none => rfl
    | some u =>
      show ((hi env st).bind _) = _
      rw [hh]
      cases th with
      | none => rfl
      | some v =>
        show ((fSlc (k.r (.lst (l.map en))).d u v).map fun r => (r, st)) = _
        rw [Kx.rd, x_slc1, cutG_map]; rfl
theorem ev_slcp {l : List α} {lo hi : SemP} {u v : Option Int} (ha : Ev k a env st (some l)) (hl : EvP lo env st (some u)) (hh : EvP hi env st (some v)) : Ev .ow (eSlc a lo hi) env st (some (cutG l u v)) := ev_slcx ha hl hh
theorem ev_slcs {l : Scr} {lo hi : SemP} {u v : Option Int} (ha : Ev k a env st (some l)) (hl : EvP lo env st (some u)) (hh : EvP hi env st (some v)) : Ev .ow (eSlc a lo hi) env st (some (cutG l.l u v)) := by
  unfold Ev at ha; unfold EvP at hl hh; unfold Ev
  rw [x_slc, ha]
  show ((lo env st).bind _) = _
  rw [hl]
  show ((hi env st).bind _) = _
  rw [hh]
  show ((fSlc (k.r (.scr l.l)).d u v).map fun r => (r, st)) = _
  rw [Kx.rd]; rfl
/-! all, any, sum, least, greatest -/
/-! None -/
/-! kinds -/
theorem o1_isi_int : Op1 (α := Int) .sh (fIsi "int") fun _ => some true := fun i => x_isi_ii
theorem o1_isi_int_b : Op1 (α := Int) .sh (fIsi "bool") fun _ => some false := fun i => x_isi_bi
theorem o1_isi_list : Op1 (α := List α) .sh (fIsi "list") fun _ => some true := fun i => x_isi_ll
theorem o1_isi_tup3 : Op1 (α := Tp3 α β γ) .sh (fIsi "tuple") fun _ => some true := fun i => x_isi_tt
end
/-! equality -/
class EnE (α : Type) [En α] where
  dep : Nat
  pn : ∀ a : α, (En.en a).Pn dep
  inj : ∀ a b : α, En.en a = En.en b → a = b
section
open En
variable {α β γ δ ε : Type} [En α] [En β] [En γ] [En δ] [En ε] [EnE α] [EnE β] [EnE γ] [EnE δ] [EnE ε]
instance : EnE Int := ⟨0, fun i => Pn_int i, fun a b h => D.int.inj h⟩
theorem map_en_inj : ∀ {l m : List α}, l.map en = m.map en → l = m
  | [], [], _ => rfl
  | [], _ :: _, h => by cases h
  | _ :: _, [], h => by cases h
  | x :: xs, y :: ys, h => by
    rw [List.map_cons, List.map_cons, List.cons.injEq] at h
    rw [EnE.inj _ _ h.1, map_en_inj h.2]
instance : EnE (List α) := ⟨EnE.dep α + 1, fun l => Pn_lst fun d hd => by obtain ⟨a, _, rfl⟩ := List.mem_map.mp hd; exact EnE.pn a, fun a b h => map_en_inj (D.lst.inj h)⟩
class EnN (α : Type) [En α] : Prop where
  nn : ∀ a : α, En.en a ≠ .non
instance : EnN Int := ⟨fun _ h => nomatch h⟩
instance {α : Type} [En α] : EnN (List α) := ⟨fun _ h => nomatch h⟩
instance {α β : Type} [En α] [En β] : EnN (Tp2 α β) := ⟨fun _ h => nomatch h⟩
instance {α β γ : Type} [En α] [En β] [En γ] : EnN (Tp3 α β γ) := ⟨fun _ h => nomatch h⟩
instance {α β γ δ : Type} [En α] [En β] [En γ] [En δ] : EnN (Tp4 α β γ δ) := ⟨fun _ h => nomatch h⟩
instance [EnN α] : EnE (Option α) := ⟨EnE.dep α, fun o => by cases o with | none => exact Pn_non | some a => exact EnE.pn a, fun a b h => by
  cases a with
  | none => cases b with
    | none => rfl
    | some b => exact (EnN.nn b h.symm).elim
  | some a => cases b with
    | none => exact (EnN.nn a h).elim
    | some b => exact congrArg some (EnE.inj a b h)⟩
instance : EnE (Tp2 α β) := ⟨max (EnE.dep α) (EnE.dep β) + 1, fun p => Pn_tup fun d hd => by
    simp only [List.mem_cons, List.not_mem_nil, or_false] at hd
    rcases hd with rfl | rfl
    · exact Pn_mono (EnE.pn _) (by omega)
    · exact Pn_mono (EnE.pn _) (by omega),
  fun a b h => by
    have h := D.tup.inj h
    simp only [List.cons.injEq, and_true] at h
    cases a; cases b
    have e0 := EnE.inj _ _ h.1
    have e1 := EnE.inj _ _ h.2
    dsimp only at e0 e1
    subst e0 e1
    rfl⟩
instance : EnE (Tp3 α β γ) := ⟨EnE.dep α + EnE.dep β + EnE.dep γ + 1, fun p => Pn_tup fun d hd => by
    simp only [List.mem_cons, List.not_mem_nil, or_false] at hd
    rcases hd with rfl | rfl | rfl
    · exact Pn_mono (EnE.pn _) (by omega)
    · exact Pn_mono (EnE.pn _) (by omega)
    · exact Pn_mono (EnE.pn _) (by omega),
  fun a b h => by
    have h := D.tup.inj h
    simp only [List.cons.injEq, and_true] at h
    cases a; cases b
    have e0 := EnE.inj _ _ h.1
    have e1 := EnE.inj _ _ h.2.1
    have e2 := EnE.inj _ _ h.2.2
    dsimp only at e0 e1 e2
    subst e0 e1 e2
    rfl⟩
instance : EnE (Tp4 α β γ δ) := ⟨EnE.dep α + EnE.dep β + EnE.dep γ + EnE.dep δ + 1, fun p => Pn_tup fun d hd => by
    simp only [List.mem_cons, List.not_mem_nil, or_false] at hd
    rcases hd with rfl | rfl | rfl | rfl
    · exact Pn_mono (EnE.pn _) (by omega)
    · exact Pn_mono (EnE.pn _) (by omega)
    · exact Pn_mono (EnE.pn _) (by omega)
    · exact Pn_mono (EnE.pn _) (by omega),
  fun a b h => by
    have h := D.tup.inj h
    simp only [List.cons.injEq, and_true] at h
    cases a; cases b
    have e0 := EnE.inj _ _ h.1
    have e1 := EnE.inj _ _ h.2.1
    have e2 := EnE.inj _ _ h.2.2.1
    have e3 := EnE.inj _ _ h.2.2.2
    dsimp only at e0 e1 e2 e3
    subst e0 e1 e2 e3
    rfl⟩
instance : EnE (Tp5 α β γ δ ε) := ⟨EnE.dep α + EnE.dep β + EnE.dep γ + EnE.dep δ + EnE.dep ε + 1, fun p => Pn_tup fun d hd => by
    simp only [List.mem_cons, List.not_mem_nil, or_false] at hd
    rcases hd with rfl | rfl | rfl | rfl | rfl
    · exact Pn_mono (EnE.pn _) (by omega)
    · exact Pn_mono (EnE.pn _) (by omega)
    · exact Pn_mono (EnE.pn _) (by omega)
    · exact Pn_mono (EnE.pn _) (by omega)
    · exact Pn_mono (EnE.pn _) (by omega),
  fun a b h => by
    have h := D.tup.inj h
    simp only [List.cons.injEq, and_true] at h
    cases a; cases b
    have e0 := EnE.inj _ _ h.1
    have e1 := EnE.inj _ _ h.2.1
    have e2 := EnE.inj _ _ h.2.2.1
    have e3 := EnE.inj _ _ h.2.2.2.1
    have e4 := EnE.inj _ _ h.2.2.2.2
    dsimp only at e0 e1 e2 e3 e4
    subst e0 e1 e2 e3 e4
    rfl⟩
instance : EnE (Hl2 α β) := ⟨max (EnE.dep α) (EnE.dep β) + 1, fun p => Pn_lst fun d hd => by
    simp only [List.mem_cons, List.not_mem_nil, or_false] at hd
    rcases hd with rfl | rfl
    · exact Pn_mono (EnE.pn _) (by omega)
    · exact Pn_mono (EnE.pn _) (by omega),
  fun a b h => by
    have h := D.lst.inj h
    simp only [List.cons.injEq, and_true] at h
    cases a; cases b
    have e0 := EnE.inj _ _ h.1
    have e1 := EnE.inj _ _ h.2
    dsimp only at e0 e1
    subst e0 e1
    rfl⟩
instance : EnE (Hl3 α β γ) := ⟨EnE.dep α + EnE.dep β + EnE.dep γ + 1, fun p => Pn_lst fun d hd => by
    simp only [List.mem_cons, List.not_mem_nil, or_false] at hd
    rcases hd with rfl | rfl | rfl
    · exact Pn_mono (EnE.pn _) (by omega)
    · exact Pn_mono (EnE.pn _) (by omega)
    · exact Pn_mono (EnE.pn _) (by omega),
  fun a b h => by
    have h := D.lst.inj h
    simp only [List.cons.injEq, and_true] at h
    cases a; cases b
    have e0 := EnE.inj _ _ h.1
    have e1 := EnE.inj _ _ h.2.1
    have e2 := EnE.inj _ _ h.2.2
    dsimp only at e0 e1 e2
    subst e0 e1 e2
    rfl⟩
theorem en_eq [DecidableEq α] (a b : α) : (en a).eq (en b) = decide (a = b) := by
  rw [Bool.eq_iff_iff, decide_eq_true_eq]
  exact (eq_pl (EnE.pn a).pl (EnE.pn b).pl).trans ⟨EnE.inj a b, fun h => by rw [h]⟩
theorem en_ok (hd : EnE.dep α ≤ 64) (a : α) : (en a).ok = true := okN_ok (EnE.pn a).ok hd
theorem o2_eq [DecidableEq α] (hd : EnE.dep α ≤ 64) : Op2 (α := α) (β := α) .sh fEq fun a b => some (decide (a = b)) := fun a b => by
  unfold fEq
  rw [en_ok hd a, en_ok hd b, en_eq a b]; rfl
theorem o2_ne [DecidableEq α] (hd : EnE.dep α ≤ 64) : Op2 (α := α) (β := α) .sh fNe fun a b => some (!decide (a = b)) := fun a b => by
  unfold fNe
  rw [en_ok hd a, en_ok hd b, en_eq a b]; rfl
/-! order of rows -/
end
end Kn
namespace Kn
open PySem L2
/-! ### typed readings: what may be nothing, continuations, constructors -/
open En
class EnQ (α : Type) [En α] : Prop where
  q : ∀ a : α, fIsN (En.en a) = some (.sh (.bl false)) ∧ fNotN (En.en a) = some (.sh (.bl true))
section
variable {α β γ δ ε : Type} [En α] [En β] [En γ] [En δ] [En ε]
instance : EnQ Int := ⟨fun _ => ⟨rfl, rfl⟩⟩
instance : EnQ Bool := ⟨fun _ => ⟨rfl, rfl⟩⟩
instance : EnQ (List α) := ⟨fun _ => ⟨rfl, rfl⟩⟩
instance : EnQ (Tp2 α β) := ⟨fun _ => ⟨rfl, rfl⟩⟩
instance : EnQ (Tp3 α β γ) := ⟨fun _ => ⟨rfl, rfl⟩⟩
instance : EnQ (Tp4 α β γ δ) := ⟨fun _ => ⟨rfl, rfl⟩⟩
instance : EnQ (Tp5 α β γ δ ε) := ⟨fun _ => ⟨rfl, rfl⟩⟩
end
section
variable {α β γ δ σ ρ τ : Type} [En α] [En β] [En γ]
variable {k k1 k2 k3 : Kx} {env env' : List Kn.Slot} {st : Sto} {e a b c c2 : Sem} {i j n : Nat} {x x' : α} {y : β} {tx : Option α} {ty : Option β} {as : SemA} {ds : List D}
variable {fn : Bool} {enc : τ → Outs} {f g h s1 : SemS} {t t1 t2 : Option τ} {z : τ}
def Op1t (k : Kx) (f : D → Option R) (G : α → β) : Prop := Op1 k f fun x => some (G x)
def Op2t (k : Kx) (f : D → D → Option R) (G : α → β → γ) : Prop := Op2 k f fun x y => some (G x y)
theorem ev_1tp {f : D → Option R} {G : α → β} (h : Op1t k f G) (ha : Ev k1 a env st (some x)) : Ev k (e1 f a) env st (some (G x)) := ev_1p (F := fun x => some (G x)) h ha
theorem ev_1tx {f : D → Option R} {G : α → β} (h : Op1t k f G) (ha : Ev k1 a env st tx) : Ev k (e1 f a) env st (tx.bind fun x => some (G x)) := ev_1x (F := fun x => some (G x)) h ha
theorem ev_2tpp {g : D → D → Option R} {G : α → β → γ} (h : Op2t k g G) (ha : Ev k1 a env st (some x)) (hb : Ev k2 b env st (some y)) : Ev k (e2 g a b) env st (some (G x y)) := ev_2pp (G := fun x y => some (G x y)) h ha hb
theorem ev_2txx {g : D → D → Option R} {G : α → β → γ} (h : Op2t k g G) (ha : Ev k1 a env st tx) (hb : Ev k2 b env st ty) : Ev k (e2 g a b) env st (tx.bind fun x => ty.bind fun y => some (G x y)) := ev_2xx (G := fun x y => some (G x y)) h ha hb
theorem ev_2tpx {g : D → D → Option R} {G : α → β → γ} (h : Op2t k g G) (ha : Ev k1 a env st (some x)) (hb : Ev k2 b env st ty) : Ev k (e2 g a b) env st (ty.bind fun y => some (G x y)) := ev_2xx (G := fun x y => some (G x y)) h ha hb
theorem ev_2txp {g : D → D → Option R} {G : α → β → γ} (h : Op2t k g G) (ha : Ev k1 a env st tx) (hb : Ev k2 b env st (some y)) : Ev k (e2 g a b) env st (tx.bind fun x => some (G x y)) := ev_2xx (G := fun x y => some (G x y)) h ha hb
theorem ru_env (env' : List Kn.Slot) (he : env = env') (hr : Ru fn enc f env' st t) : Ru fn enc f env st t := by rw [he]; exact hr
section
variable {o : Option α} {E : Option α → List Kn.Slot} {T0 : Option τ} {T1 : α → Option τ}
theorem seq_nil (f : SemS) : sSeq f sNil = f := by
  funext env st
  unfold sSeq
  cases f env st with
  | none => rfl
  | some p =>
    obtain ⟨o, e', st'⟩ := p
    cases o <;> rfl
theorem ru_sn (hr : Ru fn enc f env st t) : Ru fn enc (sSeq f sNil) env st t := by rw [seq_nil]; exact hr
end
/-! constructors -/
end
end Kn
namespace Kn
open PySem L2
/-! ### is True; dicts by whole numbers, typed -/
open En
section
variable {X : Cx} {ct : CT} {pos : Pos} {x y : Expr} {a b : Sem}
end
structure Dc (α : Type) where
  l : List (Int × α)
section
variable {α β γ δ σ ρ τ : Type} [En α] [En β] [En γ]
instance : En (Dc α) := ⟨fun d => .dic (d.l.map fun p => (Sum.inl p.1, en p.2))⟩
variable {k k1 k2 k3 : Kx} {env env' : List Kn.Slot} {st : Sto} {e a b c : Sem} {i j n : Nat} {x x' : α} {y : β} {tx : Option α} {ty : Option β} {as : SemA} {ds : List D}
variable {fn : Bool} {enc : τ → Outs} {f g h s1 : SemS} {t t1 t2 : Option τ} {z : τ}
end
/-! calls by what is a name's own, some arguments not plain -/
section
open En
variable {α β γ : Type} [En α] [En β] [En γ] {μ : Type}
variable {k k1 k2 k3 : Kx} {env : List Kn.Slot} {st : Sto} {a : Sem} {n : Nat} {x : α} {tx : Option α} {as : SemA} {ds : List D} {t : Option μ} {dec : μ → List D}
end
end Kn
namespace Kn
open PySem L2
/-! ### the lesser of two tuples -/
section
open PySem.SeqAt PySem.Spec PyProof.Rows
section
variable {prog : Program} {w : World} {A : Around} {R : Result → Shared → Prop} {I S : Addr} {fp wr : List Addr} {P : Nat → Value → Prop} {St : Nat → Heap → Prop}
end
end
section
open PySem.Spec PyProof.Rows
end
section
variable {X : Cx} {ct : CT} {x y : Expr} {a b : Sem} {pos p : Pos}
end
end Kn
namespace Kn
open PySem L2
/-! ### a set of a list's ints, sorted -/
section
open PySem.Spec PyProof.Rows
section
variable {prog : Program} {w : World} {A : Around} {R : Result → Shared → Prop} {I S : Addr} {fp wr : List Addr} {G : Array GenState → Array GenState → Prop} {n : Nat} {P : Nat → Value → Prop} {St : Nat → Shared → Prop}
end
section
variable {w : World} {prog : Program} {A : Around} {s : Shared} {E : Value → Shared → Prop}
end
end
section
open PySem.Spec PyProof.Rows
section
variable {X : Cx} {ct : CT} {x : Expr} {a : Sem} {pos p p2 pos2 : Pos}
end
end
section
open En
end
end Kn
namespace Kn
open PySem L2
/-! ### list(range(a, b)) -/
section
variable {X : Cx} {ct : CT} {x y : Expr} {a b : Sem} {pos p p2 pos2 : Pos}
end
section
open En
end
end Kn
namespace Kn
open PySem L2
/-! ### x.append(y), x rows of one's own, y a name's own list -/
section
variable {X : Cx} {ct : CT} {pos cpos apos npos npos2 : Pos} {n n2 : Str}
end
section
variable {X : Cx} {ct : CT} {sxs : List Stmt} {f : SemS}
end
section
open En
variable {α τ : Type} [En α] {env : List Kn.Slot} {st : Sto} {fn : Bool} {enc : τ → Outs} {f g : SemS} {t : Option τ} {i j : Nat}
end
end Kn
namespace Kn
open PySem L2
/-! ### typed readings: a list of one's own, or nothing -/
open En
section
variable {α β γ σ ρ τ : Type} [En α] [En β] [En γ]
variable {k k1 k2 k3 : Kx} {env env' : List Kn.Slot} {st : Sto} {e a b c : Sem} {i j n : Nat} {x x' : α} {y : β} {tx : Option α} {ty : Option β} {as : SemA} {ds : List D}
variable {fn : Bool} {enc : τ → Outs} {f g h s1 : SemS} {t t1 t2 : Option τ} {z : τ}
end
end Kn
namespace Kn
open PySem L2
/-! ### sorted whole numbers; dicts of one item; items that may be nothing -/
section
variable {X : Cx} {ct : CT} {x : Expr} {a : Sem} {pos p : Pos}
end
open En
section
variable {α β γ σ ρ τ : Type} [En α] [En β] [En γ]
variable {k k1 k2 k3 : Kx} {env env' : List Kn.Slot} {st : Sto} {e a b c : Sem} {i j n : Nat} {x x' : α} {y : β} {tx : Option α} {ty : Option β} {as : SemA} {ds : List D}
variable {fn : Bool} {enc : τ → Outs} {f g h s1 : SemS} {t t1 t2 : Option τ} {z : τ}
end
end Kn
namespace Kn
open PySem L2
/-! ### things that many hold: cells of the store -/
open Classical in
/-- one list, dict or instance -/
def kC : Kd := ⟨fun K ct W F v d => ∃ a, v = .ref a ∧ Cell K ct W F a d, fun ⟨a, e, c⟩ l => ⟨a, e, c.mono l fun _ h => h⟩⟩
open Classical in
noncomputable def lookS (st : Sto) (g : Nat) : Option D := (st[g]?).bind fun p => if p.1 = kC then some p.2 else none
theorem lookS_some {st : Sto} {g : Nat} {d : D} (h : lookS st g = some d) : st[g]? = some (kC, d) := by
  unfold lookS at h
  obtain ⟨⟨κ, c⟩, h1, h2⟩ := bind2 h
  dsimp only at h2
  split at h2
  · rename_i e; cases h2; rw [h1, e]
  · cases h2
theorem lookS_of {st : Sto} {g : Nat} {d : D} (h : st[g]? = some (kC, d)) : lookS st g = some d := by
  unfold lookS; rw [h]; exact if_pos rfl
section
variable {K : PySem.W.Frag} {ct : CT} {F H H' : Hp} {W W' : Wd} {L L' : Addr → Option Lab} {env : List Kn.Slot} {st : Sto} {σ : St} {v : V} {d d' : Kn.D} {r : R} {a p : Addr} {o : HO} {g : Nat}
theorem Rel.cell (I : Rel K ct F W L env st σ H) (h : Rep K ct W v (.hnd g)) (e : lookS st g = some d) : ∃ a, v = .ref a ∧ L a = some (.ob g) ∧ Cell K ct W H a d := by
  obtain ⟨v', h1, a, rfl, c⟩ := I.ob g _ _ (lookS_some e)
  cases h with
  | hnd h2 =>
    rw [h1] at h2; cases h2
    obtain ⟨o, ho⟩ := c.there
    have hl : L a = some (.ob g) := by
      by_cases q : L a = some (.ob g)
      · exact q
      · rw [if_neg q] at ho; cases ho
    exact ⟨a, rfl, hl, c.mono (.refl W) fun o h => by rwa [if_pos hl] at h⟩
/-- a cell is written -/
theorem Rel.updOb (I : Rel K ct F W L env st σ H) (hr : W.rho g = some (.ref a)) (hg : lookS st g = some d) (hl : L a = some (.ob g)) (hn : ∀ xs, H a ≠ some (.tup xs)) (c' : Cell K ct W (upd H a o) a d') :
    Rel K ct F W L env (st.set g (kC, d')) σ (upd H a o) := by
  have hlt : g < st.length := (List.getElem?_eq_some_iff.mp (lookS_some hg)).1
  have ne : ∀ b, L b ≠ some (.ob g) → (upd H a o) b = H b := fun b h => upd_ne (by rintro rfl; exact h hl)
  refine ⟨fun b u e => ?_, fun b u e => ?_, fun b vs e => ?_, fun g' κ x e => ?_, fun g' v e => by rw [List.length_set]; exact I.rh g' v e, I.len, fun j s e => ?_⟩
  · obtain ⟨h1, h2, h3⟩ := I.fr b u e
    exact ⟨by rw [ne b (by rw [h2]; exact fun z => nomatch z)]; exact h1, h2, h3⟩
  · obtain ⟨h1, h2⟩ := I.hs b u e
    exact ⟨by rw [ne b (by rw [h2]; exact fun z => nomatch z)]; exact h1, h2⟩
  · rw [upd_ne (by rintro rfl; exact hn _ (I.tp _ _ e))]
    exact I.tp b vs e
  · by_cases hgg : g = g'
    · subst hgg
      rw [List.getElem?_set_self hlt] at e
      cases e
      refine ⟨.ref a, hr, a, rfl, ?_⟩
      exact c'.mono (.refl W) fun o h => by rw [if_pos hl]; exact h
    · rw [List.getElem?_set_ne hgg] at e
      obtain ⟨v, h1, h2⟩ := I.ob g' κ x e
      refine ⟨v, h1, ?_⟩
      have q : (fun b => if L b = some (.ob g') then (upd H a o) b else none) = fun b => if L b = some (.ob g') then H b else none := by
        funext b
        by_cases hb : L b = some (.ob g')
        · rw [if_pos hb, if_pos hb, ne b (by rw [hb]; intro z; cases z; exact hgg rfl)]
        · rw [if_neg hb, if_neg hb]
      rw [q]; exact h2
  · exact (I.sl j s e).mono (.refl W) fun b u hb hu => ⟨by rw [ne b (by rw [hb]; exact fun z => nomatch z)]; exact hu, hb⟩
/-- what was just made is laid into the store -/
theorem Rel.store (I : Rel K ct F W L env st σ H) (h : RepR K ct F W L H env σ v (.ow d)) : ∃ W' L', W.le W' ∧ Rel K ct F W' L' env (st ++ [(kC, d)]) σ H ∧ Rep K ct W' v (.hnd st.length) := by
  obtain ⟨a, rfl, hl, hw, hf, c⟩ := h
  have fresh : W.rho st.length = none := by
    cases q : W.rho st.length with
    | none => rfl
    | some v => have := I.rh _ _ q; omega
  have le : W.le ⟨W.hs, W.tp, fun g => if g = st.length then some (.ref a) else W.rho g⟩ := ⟨fun _ _ h => h, fun _ _ h => h, fun g v h => by
    show (if g = st.length then some (V.ref a) else W.rho g) = some v
    rw [if_neg (by rintro rfl; rw [fresh] at h; cases h)]; exact h⟩
  have lab : ∀ b, b ≠ a → (if b = a then some (Lab.ob st.length) else L b) = L b := fun b h => if_neg h
  refine ⟨⟨W.hs, W.tp, fun g => if g = st.length then some (.ref a) else W.rho g⟩, fun b => if b = a then some (.ob st.length) else L b, le, ⟨fun b u e => ?_, fun b u e => ?_, I.tp, fun g κ x e => ?_, fun g v e => ?_, I.len, fun j s e => ?_⟩, .hnd (if_pos rfl)⟩
  · obtain ⟨h1, h2, h3⟩ := I.fr b u e
    exact ⟨h1, (lab b (by rintro rfl; rw [hf] at e; cases e)).trans h2, h3⟩
  · obtain ⟨h1, h2⟩ := I.hs b u e
    exact ⟨h1, (lab b (by rintro rfl; rw [hw] at e; cases e)).trans h2⟩
  · by_cases hg : g < st.length
    · rw [List.getElem?_append_left hg] at e
      obtain ⟨v, h1, h2⟩ := I.ob g κ x e
      refine ⟨v, le.rho _ _ h1, ?_⟩
      have q : (fun b => if (if b = a then some (Lab.ob st.length) else L b) = some (.ob g) then H b else none) = fun b => if L b = some (.ob g) then H b else none := by
        funext b
        by_cases hb : b = a
        · subst hb
          rw [if_pos rfl, hl, if_neg (by intro z; cases z; omega), if_neg (fun z => nomatch z)]
        · rw [if_neg hb]
      rw [q]; exact κ.mono h2 le
    · rw [List.getElem?_append_right (by omega)] at e
      have hz : g - st.length = 0 := by
        cases q : g - st.length with
        | zero => rfl
        | succ n => rw [q] at e; cases e
      rw [hz] at e
      cases e
      have : g = st.length := by omega
      subst this
      refine ⟨.ref a, if_pos rfl, a, rfl, c.mono le fun o h => ?_⟩
      show (if (if a = a then some (Lab.ob st.length) else L a) = some (Lab.ob st.length) then H a else none) = some o
      rw [if_pos (if_pos rfl)]; exact h
  · show g < (st ++ [(kC, d)]).length
    rw [List.length_append]
    have e : (if g = st.length then some (V.ref a) else W.rho g) = some v := e
    by_cases q : g = st.length
    · simp; omega
    · rw [if_neg q] at e
      have := I.rh g v e
      simp; omega
  · exact (I.sl j s e).mono le fun b u hb hu => ⟨hu, (lab b (by rintro rfl; rw [hl] at hb; cases hb)).trans hb⟩
end
/-! reading: at the thing itself, or through a handle -/
abbrev Dr := Sto → R → Option D
def dI : Dr := fun _ r => some r.d
open En in
open Classical in
/-- what is behind a handle, if it reads as a τ -/
noncomputable def dH (τ : Type) [En τ] : Dr := fun st r => match r with
  | .sh (.hnd g) => (lookS st g).bind fun c => if ∃ x : τ, c = en x then some c else none
  | _ => none
structure DrOk (δ : Dr) : Prop where
  ok : ∀ {K ct F W L env st σ H v r d}, Rel K ct F W L env st σ H → RdR K ct W env σ v r → δ st r = some d → RdH K ct W H v d
theorem dI_ok : DrOk dI := ⟨fun I h e => by cases e; exact I.look h⟩
open En in
theorem dH_inv {τ : Type} [En τ] {st : Sto} {r : R} {d : D} (e : dH τ st r = some d) : ∃ g, r = .sh (.hnd g) ∧ lookS st g = some d ∧ ∃ x : τ, d = en x := by
  unfold dH at e
  split at e
  · rename_i g
    obtain ⟨c, h1, h2⟩ := bind2 e
    split at h2
    · rename_i h3
      cases h2
      exact ⟨g, rfl, h1, h3⟩
    · cases h2
  · cases e
theorem dH_ok (τ : Type) [En τ] : DrOk (dH τ) := ⟨fun I h e => by
  obtain ⟨g, rfl, h1, _⟩ := dH_inv e
  obtain ⟨a, rfl, _, c⟩ := I.cell h h1
  exact .inr ⟨a, rfl, c⟩⟩
section
variable {X : Cx} {ct : CT} {pos : Pos} {x y : Expr} {a b c h ix e : Sem} {δ δ1 δ2 : Dr}
def e1s (δ : Dr) (f : D → Option R) (a : Sem) : Sem := fun env st => (a env st).bind fun p => (δ p.2 p.1.pin).bind fun d => (f d).map fun r => (r, p.2)
def e2s (δ1 δ2 : Dr) (f : D → D → Option R) (a b : Sem) : Sem := fun env st => (a env st).bind fun p => (b env p.2).bind fun q => (δ1 q.2 p.1.pin).bind fun d1 => (δ2 q.2 q.1.pin).bind fun d2 => (f d1 d2).map fun r => (r, q.2)
theorem tE_e2s {K : PySem.W.Frag} {rr : R2} {f : D → D → Option R} (o1 : DrOk δ1) (o2 : DrOk δ2) (os : OpS K ct rr f) {σ : St} {H : Hp} {Q : VK} (hh : tE K ct (e2s δ1 δ2 f a b) σ H Q) : tOp rr (tE K ct a) (tE K ct b) σ H Q := by
  obtain ⟨F, W, L, env, st, r, st', I, e, k⟩ := hh
  obtain ⟨⟨r1, st1⟩, h1, e⟩ := bind2 e
  obtain ⟨⟨r2, st2⟩, h2, e⟩ := bind2 e
  obtain ⟨d1, g1, e⟩ := bind2 e
  obtain ⟨d2, g2, e⟩ := bind2 e
  obtain ⟨r3, h3, e⟩ := map2 e
  cases e
  refine ⟨F, W, L, env, st, r1, st1, I, h1, fun x H1 W1 L1 l1 I1 p1 => ?_⟩
  obtain ⟨W1', m1, J1, q1⟩ := I1.pin p1
  refine ⟨F, W1', L1, env, st1, r2, st2, J1, h2, fun y H2 W2 L2 l2 I2 p2 => ?_⟩
  obtain ⟨W2', m2, J2, q2⟩ := I2.pin p2
  have q1' := o1.ok J2 (q1.mono (l2.trans m2)) g1
  have q2' := o2.ok J2 q2 g2
  exact os F W2' L2 env st2 σ H2 x y _ _ _ Q J2 q1' q2' h3 fun v H' W' L' l' I' p' => k v H' W' L' (l1.trans (m1.trans (l2.trans (m2.trans l')))) I' p'
theorem tE_e1s {K : PySem.W.Frag} {rr : V → Hp → VK → Prop} {f : D → Option R} (o1 : DrOk δ) (os : UnS K ct rr f) {σ : St} {H : Hp} {Q : VK} (hh : tE K ct (e1s δ f a) σ H Q) : tUn rr (tE K ct a) σ H Q := by
  obtain ⟨F, W, L, env, st, r, st', I, e, k⟩ := hh
  obtain ⟨⟨r1, st1⟩, h1, e⟩ := bind2 e
  obtain ⟨d, g, e⟩ := bind2 e
  obtain ⟨r3, h3, e⟩ := map2 e
  cases e
  refine ⟨F, W, L, env, st, r1, st1, I, h1, fun x H1 W1 L1 l1 I1 p1 => ?_⟩
  obtain ⟨W1', m1, J1, q1⟩ := I1.pin p1
  exact os F W1' L1 env st1 σ H1 x _ _ Q J1 (o1.ok J1 q1 g) h3 fun v H' W' L' l' I' p' => k v H' W' L' (l1.trans (m1.trans l')) I' p'
theorem st_cmps {op : CmpOp} {rr : R2} {f : D → D → Option R} (o1 : DrOk δ1) (o2 : DrOk δ2) (ho : OpR X (compareOp op) rr) (os : OpS X.K ct rr f) (hm : behindInMarks op y = false) (ha : SE X ct x a) (hb : SE X ct y b) : ST X ct (.Compare x [op] [y] pos) (e2s δ1 δ2 f a b) :=
  ⟨pt_mono (pt_cmpR ho ha.pe hb.pe hm) fun _ _ _ h => tE_e2s o1 o2 os (tT_tE h)⟩
theorem st_eqs {k : Nat} (o1 : DrOk δ1) (o2 : DrOk δ2) (hr : Room k X.A) (ha : SE X ct x a) (hb : SE X ct y b) : ST X ct (.Compare x [.Eq] [y] pos) (e2s δ1 δ2 fEq a b) := st_cmps o1 o2 (op_eqD hr.units) os_eq (nomark _) ha hb
theorem se_b1s {id : String} {n : Str} {rr : List V → Hp → VK → Prop} {f : D → Option R} {p : Pos} (o1 : DrOk δ) (hc : CallR X (.builtin id) rr) (os : UnS X.K ct (fun x H Q => rr [x] H Q) f) (hg : Gl X n) (hm : X.mg n = none) (hv : bootBuiltins n = some (.builtin id)) (ha : SE X ct x a)
    (hn : n ≠ "__name__" := by decide) (hdb : (n == ("__debug__" : Str)) = false := by decide) (he : starEach [x] X.env = (false, eval x X.env) :: starEach [] X.env := by rfl) (hpl : (backTo pos (starEach [] X.env)).any (·.1) = false := by rfl) : SE X ct (.Call (.Name n p) [x] [] pos) (e1s δ f a) :=
  ⟨pe_mono (pe_callB hc hg hm hv (pa_cons ha.pe pa_nil he) hn hdb he hpl) fun _ _ _ h => tE_e1s o1 os h⟩
theorem se_lens (o1 : DrOk δ) {p : Pos} (hg : Gl X "len") (hm : X.mg "len" = none) (ha : SE X ct x a) (he : starEach [x] X.env = (false, eval x X.env) :: starEach [] X.env := by rfl) (hpl : (backTo pos (starEach [] X.env)).any (·.1) = false := by rfl) :
    SE X ct (.Call (.Name "len" p) [x] [] pos) (e1s δ fLen a) := se_b1s o1 (CallR.or call_len_seq (CallR.or call_lenD call_len_str)) us_len hg hm PySem.boot_len ha (by decide) (by decide) he hpl
/-- a thing just made is laid into the store -/
def eNew (a : Sem) : Sem := fun env st => (a env st).bind fun p => match p.1 with
  | .ow d => some (.sh (.hnd p.2.length), p.2 ++ [(kC, d)])
  | _ => none
theorem se_new (ha : SE X ct x a) : SE X ct x (eNew a) := by
  refine ⟨pe_mono ha.pe fun σ H Q ⟨F, W, L, env, st, r, st', I, e, k⟩ => ?_⟩
  obtain ⟨⟨r1, st1⟩, h1, e⟩ := bind2 e
  dsimp only at e
  split at e
  · rename_i d
    cases e
    refine ⟨F, W, L, env, st, _, st1, I, h1, fun v H1 W1 L1 l1 I1 p1 => ?_⟩
    obtain ⟨W', L', l2, I2, q⟩ := I1.store p1
    exact k v H1 W' L' (l1.trans l2) I2 q
  · cases e
/-! a field of one's self while it is made -/
/-! writing through a handle -/
structure DrH (δ : Dr) : Prop where
  ok : ∀ {st : Sto} {g : Nat} {c : D}, δ st (.sh (.hnd g)) = some c → lookS st g = some c
theorem dH_h (τ : Type) [En τ] : DrH (dH τ) := ⟨fun e => by
  obtain ⟨g', h1, h2, _⟩ := dH_inv e
  cases h1; exact h2⟩
def R.hnd? : R → Option Nat
  | .sh (.hnd g) => some g
  | _ => none
theorem R.hnd_eq {r : R} {g : Nat} (h : r.hnd? = some g) : r = .sh (.hnd g) := by
  unfold R.hnd? at h
  split at h
  · cases h; rfl
  · cases h
def D.lst? : D → Option (List D)
  | .lst ds => some ds
  | _ => none
theorem D.lst_eq {d : D} {ds : List D} (h : d.lst? = some ds) : d = .lst ds := by
  unfold D.lst? at h
  split at h
  · cases h; rfl
  · cases h
/-- x.m(..), x a list behind a handle -/
noncomputable def sMutH (δ : Dr) (h : Sem) (f : List D → List D → Option (List D)) (as : SemA) : SemS := fun env st => (h env st).bind fun p => (as env p.2).bind fun q => (valsR q.1).bind fun xs => p.1.pin.hnd?.bind fun g => (δ p.2 (.sh (.hnd g))).bind fun c0 => c0.lst?.bind fun _ => (δ q.2 (.sh (.hnd g))).bind fun c => c.lst?.bind fun ds => (f xs ds).map fun ds' => (.nx, env, q.2.set g (kC, .lst ds'))
theorem tSm_mutH {K : PySem.W.Frag} {as : SemA} {rr : V → List V → Hp → VK → Prop} {f : List D → List D → Option (List D)} (oh : DrH δ) (ms : MuS rr f) {D : Ends} {σ : St} {H : Hp} (hh : tSm K ct (sMutH δ h f as) D σ H) :
    tE K ct h σ H fun x H1 => (∃ l vs, x = .ref l ∧ H1 l = some (.lst vs)) ∧ tA K ct as σ H1 fun ws H2 => rr x ws H2 fun _ H3 => D.nx σ H3 := by
  obtain ⟨F, W, L, env, st, o, env', st', I, e, k⟩ := hh
  obtain ⟨⟨r1, st1⟩, h1, e⟩ := bind2 e
  obtain ⟨⟨rs, st2⟩, h2, e⟩ := bind2 e
  obtain ⟨xs, hxs, e⟩ := bind2 e
  obtain ⟨g, hr1, e⟩ := bind2 e
  obtain ⟨c0, hc0, e⟩ := bind2 e
  obtain ⟨ds0, hd0, e⟩ := bind2 e
  obtain ⟨c, hc, e⟩ := bind2 e
  obtain ⟨ds, hd, e⟩ := bind2 e
  obtain ⟨ds', hf, e⟩ := map2 e
  cases e
  have hr1 := R.hnd_eq hr1
  have hc0 := oh.ok hc0
  have hc := oh.ok hc
  rw [Kn.D.lst_eq hd0] at hc0
  rw [Kn.D.lst_eq hd] at hc
  refine ⟨F, W, L, env, st, r1, st1, I, h1, fun x H1 W1 L1 l1 I1 p1 => ?_⟩
  obtain ⟨W1', m1, J1, q1⟩ := I1.pin p1
  rw [show r1.pin = _ from hr1] at q1
  have q1 : Rep K ct W1' x (.hnd g) := q1
  obtain ⟨a, rfl, hl, cl⟩ := J1.cell q1 hc0
  refine ⟨?_, F, W1', L1, env, st1, rs, st2, J1, h2, fun ws H2 W2 L2 l2 I2 qs => ?_⟩
  · cases cl with
    | lst g2 q4 => exact ⟨a, _, rfl, g2⟩
  · have qo : Rep K ct W2 (.ref a) (.hnd g) := Rep.mono l2 q1
    obtain ⟨a', ea, hl', cl'⟩ := I2.cell qo hc
    cases ea
    cases qo with
    | hnd hrho =>
      cases cl' with
      | lst g3 q5 =>
        refine ms _ _ _ _ _ _ _ _ _ _ _ g3 q5 (qs.vals hxs) hf fun v vs' q' => ?_
        exact k _ _ _ _ (l1.trans (m1.trans l2)) (I2.updOb hrho hc hl' (fun xs z => by rw [g3] at z; cases z) (.lst upd_same q'))
end
end Kn
namespace Kn
open PySem L2
/-! ### methods of things that many hold -/
section
variable {X : Cx} {ct : CT} {pos p apos : Pos} {x y z : Expr} {es : List Expr} {a b c h ix e : Sem} {as : SemA} {δ δ1 δ2 : Dr}
theorem ss_mutH1 {id : String} {name : Str} {rr : V → List V → Hp → VK → Prop} {f : List D → List D → Option (List D)} {apos cpos : Pos} (oh : DrH δ) (slot : PySem.Slot "list" name id) (hty : typeOf (.builtin id) = pure (.type "method_descriptor")) (hm : MtR X id rr) (ms : MuS rr f) (hh : SE X ct z h) (ha : SA X ct (x :: es) as)
    (hbase : attributeBase z name X.env (eval z X.env) = eval z X.env := by rfl)
    (hfew : ((backTo cpos (starEach (x :: es) X.env)).all (fun x => !x.1) && (backToKw cpos (keywordEach [] X.env)).all (fun x => x.1.isSome)
      && decide ((x :: es).length + ([] : List Keyword).length + (if ([] : List Keyword).isEmpty then 0 else 1) < 30)) = true := by rfl)
    (hline : (apos.endLine == cpos.line) = true := by rfl) (hs : starEach (x :: es) X.env = (false, eval x X.env) :: starEach es X.env := by rfl) (hplain : (backTo cpos (starEach es X.env)).any (·.1) = false := by rfl)
    (hsw : swapsWith (.Call (.Attribute z name apos) (x :: es) [] cpos) none pos.line X.env = pure false := by rfl) :
    SS X ct (.Expr (.Call (.Attribute z name apos) (x :: es) [] cpos) pos) (sMutH δ h f as) := by
  refine ⟨ps_mono (ps_expr (pe_bm PySem.F.plainAttrs_list slot hty hm hh.pe ha.pa hbase hfew hline hs hplain) hsw) fun D σ H hq => ?_⟩
  obtain ⟨F, W, L, env, st, r1, st1, I, h1, k1⟩ := tSm_mutH oh ms hq
  refine ⟨F, W, L, env, st, r1, st1, I, h1, fun v H1 W1 L1 l1 I1 p1 => ?_⟩
  obtain ⟨⟨l, vs, rfl, g⟩, t⟩ := k1 v H1 W1 L1 l1 I1 p1
  exact ⟨.inl ⟨rfl, _, SqL.of g⟩, t⟩
theorem ss_mutH0 {id : String} {name : Str} {rr : V → List V → Hp → VK → Prop} {f : List D → List D → Option (List D)} {apos cpos : Pos} (oh : DrH δ) (slot : PySem.Slot "list" name id) (hty : typeOf (.builtin id) = pure (.type "method_descriptor")) (hm : MtR X id rr) (ms : MuS rr f) (hh : SE X ct z h)
    (hbase : attributeBase z name X.env (eval z X.env) = eval z X.env := by rfl)
    (hline : (apos.endLine == cpos.line) = true := by rfl)
    (hsw : swapsWith (.Call (.Attribute z name apos) [] [] cpos) none pos.line X.env = pure false := by rfl) :
    SS X ct (.Expr (.Call (.Attribute z name apos) [] [] cpos) pos) (sMutH δ h f aNil) := by
  refine ⟨ps_mono (ps_expr (pe_bm0 PySem.F.plainAttrs_list slot hty hm hh.pe hbase hline) hsw) fun D σ H hq => ?_⟩
  obtain ⟨F, W, L, env, st, r1, st1, I, h1, k1⟩ := tSm_mutH oh ms hq
  refine ⟨F, W, L, env, st, r1, st1, I, h1, fun v H1 W1 L1 l1 I1 p1 => ?_⟩
  obtain ⟨⟨l, vs, rfl, g⟩, t⟩ := k1 v H1 W1 L1 l1 I1 p1
  refine ⟨.inl ⟨rfl, _, SqL.of g⟩, ?_⟩
  exact ss_mut0.sa_nil_use t
/-! o.m(..), o behind a handle -/
end
end Kn
namespace Kn
open PySem L2
/-! ### going through a thing that many hold -/
abbrev SemIs := List Slot → Sto → Option ((List D × (Sto → Prop)) × Sto)
section
variable (K : PySem.W.Frag) (ct : CT)
def WkS (J : It) (W0 : Wd) (ds : List D) (G : Sto → Prop) : Prop := ∀ F W L env st σ H (i : Nat), W0.le W → Rel K ct F W L env st σ H → G st →
  (∀ d, ds[i]? = some d → J.go i H ∧ ∀ x H', J.yld i H x H' → ∃ W' L', W.le W' ∧ Rel K ct F W' L' env st σ H' ∧ Rep K ct W' x d) ∧ (ds.length ≤ i → J.stop i H)
def tIs (e : SemIs) : TI := fun σ H R => ∃ F W L env st ds G st', Rel K ct F W L env st σ H ∧ e env st = some ((ds, G), st') ∧
  ∀ J H' W' L', W.le W' → Rel K ct F W' L' env st' σ H' → WkS K ct J W' ds G → R J H'
end
structure SIs (X : Cx) (ct : CT) (tg x : Expr) (e : SemIs) : Prop where
  pi : PI X tg x (tIs X.K ct e)
theorem ifG {α : Type} {c : Prop} {d : Decidable c} {t : Option α} {w : α} (h : (if c then t else none) = some w) : c ∧ t = some w := by
  split at h
  · exact ⟨by assumption, h⟩
  · cases h
open Classical in
noncomputable def forLS (G : Sto → Prop) (g : SemG) (f : SemS) : List D → List Slot → Sto → Option (Out × List Slot × Sto)
  | [], env, st => if G st then some (.nx, env, st) else none
  | d :: ds, env, st => if G st then (g d env).bind fun env1 => (f env1 st).bind fun q => match q with
    | (.nx, env', st') => forLS G g f ds env' st'
    | (.ct, env', st') => forLS G g f ds env' st'
    | (.bk, env', st') => some (.nx, env', st')
    | (.rt r, env', st') => some (.rt r, env', st') else none
noncomputable def sForS (it : SemIs) (g : SemG) (f : SemS) : SemS := fun env st => (it env st).bind fun p => forLS p.1.2 g f p.1.1 env p.2
section
variable {X : Cx} {ct : CT} {pos p apos : Pos} {x y z : Expr} {es : List Expr} {a b c h ix e : Sem} {f : SemS} {as : SemA} {δ δ1 δ2 : Dr} {tg : Expr}
theorem ss_forS {tg : Expr} {ts : List Nat} {g : SemG} {it : SemIs} {s1 : List Stmt} (hp : PassesOwn (model X.prog X.w) X.A X.env X.xe) (hc : X.calm = true) (hi : SIs X ct tg x it) (hg : SG X ct tg ts g) (hf : SB X ct s1 f) (hs : ∀ z, foldedSetIterable x X.env z = pure z := by intro _; rfl) :
    SS X ct (.For tg x s1 [] pos) (sForS it g f) := by
  refine ⟨ps_mono (ps_for hp hc hi.pi hg.pg hf.pss hs) fun D σ H ⟨F, W, L, env, st, o, env', st', I, e, k⟩ => ?_⟩
  obtain ⟨⟨⟨ds, G⟩, st1⟩, h1, e⟩ := bind2 e
  refine ⟨F, W, L, env, st, ds, G, st1, I, h1, fun J H1 W1 L1 l1 I1 wk => ?_⟩
  refine ⟨fun i m σ H => m = ds.length - i ∧ i ≤ ds.length ∧ ∃ W2 L2 env2 st2, W1.le W2 ∧ Rel X.K ct F W2 L2 env2 st2 σ H ∧ forLS G g f (ds.drop i) env2 st2 = some (o, env', st'), ⟨_, rfl, Nat.zero_le _, W1, L1, env, st1, .refl W1, I1, e⟩, ?_⟩
  rintro i m σ H ⟨rfl, hi, W2, L2, env2, st2, l2, I2, e2⟩
  by_cases hlt : i < ds.length
  · rw [List.drop_eq_getElem_cons hlt] at e2
    obtain ⟨hG, e2⟩ := ifG e2
    have wk2 := wk F W2 L2 env2 st2 σ H i l2 I2 hG
    obtain ⟨env3, h3, e2⟩ := bind2 e2
    obtain ⟨⟨o4, env4, st4⟩, h4, e2⟩ := bind2 e2
    obtain ⟨go, yl⟩ := wk2.1 ds[i] (List.getElem?_eq_getElem hlt)
    refine .inr ⟨go, fun σ' H' => i + 1 ≤ ds.length ∧ ∃ W2 L2 env2 st2, W1.le W2 ∧ Rel X.K ct F W2 L2 env2 st2 σ' H' ∧ forLS G g f (ds.drop (i + 1)) env2 st2 = some (o, env', st'), fun σ' H' q => ⟨_, by omega, rfl, q⟩, fun v H' y => ?_⟩
    obtain ⟨W3, L3, l3, I3, r3⟩ := yl v H' y
    refine ⟨F, W3, L3, env2, st2, _, env3, I3, r3, h3, fun σ3 _ _ I3' => ?_⟩
    refine ⟨F, W3, L3, env3, st2, o4, env4, st4, I3', h4, ?_⟩
    have ll := l2.trans l3
    cases o4 with
    | nx => exact fun σ' H' W5 L5 l5 I5 => ⟨hlt, W5, L5, env4, st4, ll.trans l5, I5, e2⟩
    | ct => exact fun σ' H' W5 L5 l5 I5 => ⟨hlt, W5, L5, env4, st4, ll.trans l5, I5, e2⟩
    | bk => cases e2; exact fun σ' H' W5 L5 l5 I5 => k _ _ _ _ (l1.trans (ll.trans l5)) I5
    | rt r => cases e2; exact fun v σ' H' W5 L5 l5 I5 => k v _ _ _ _ (l1.trans (ll.trans l5)) I5
  · have ei : i = ds.length := by omega
    rw [ei, List.drop_length] at e2
    obtain ⟨hG, e2⟩ := ifG e2
    have wk2 := wk F W2 L2 env2 st2 σ H i l2 I2 hG
    cases e2
    exact .inl ⟨wk2.2 (by omega), k _ _ _ _ (l1.trans l2) I2⟩
/-! lists behind handles -/
theorem cell_list {K : PySem.W.Frag} {F H : Hp} {W : Wd} {L : Addr → Option Lab} {env : List Kn.Slot} {st : Sto} {σ : St} {v : V} {g : Nat} {ds : List Kn.D} (I : Rel K ct F W L env st σ H) (h : Rep K ct W v (.hnd g)) (e : lookS st g = some (.lst ds)) : ∃ a vs, v = .ref a ∧ SqL K H a vs ∧ RepL K ct W vs ds := by
  obtain ⟨a, rfl, _, c⟩ := I.cell h e
  cases c with
  | lst g q => exact ⟨a, _, rfl, SqL.of g, q⟩
theorem pi_monoS {t t' : TI} (h : PI X tg x t) (k : ∀ σ H R, t' σ H R → t σ H R) : PI X tg x t' := ⟨fun pins s σ H R I q => h.run pins s σ H R I (k σ H R q)⟩
end
end Kn
namespace Kn
open PySem L2
/-! ### typed readings: the store -/
open En
structure Hd (τ : Type) where
  g : Nat
  deriving DecidableEq
section
variable {α β γ δ σ ρ τ μ : Type} [En α] [En β] [En γ]
instance {τ : Type} : En (Hd τ) := ⟨fun h => .hnd h.g⟩
open Classical in
noncomputable def getS [En α] (st : Sto) (g : Nat) : Option α := if h : ∃ x : α, lookS st g = some (en x) then some (choose h) else none
noncomputable def putS (st : Sto) (g : Nat) (x : α) : Sto := st.set g (kC, en x)
noncomputable def newS (st : Sto) (x : α) : Hd α × Sto := (⟨st.length⟩, st ++ [(kC, en x)])
theorem getS_look {st : Sto} {g : Nat} {x : α} (h : getS st g = some x) : lookS st g = some (en x) := by
  unfold getS at h
  split at h
  · rename_i q
    cases h
    exact Classical.choose_spec q
  · cases h
theorem dH_get (st : Sto) (g : Nat) : dH α st (.sh (.hnd g)) = (getS (α := α) st g).map en := by
  show ((lookS st g).bind fun c => _) = _
  unfold getS
  by_cases h : ∃ x : α, lookS st g = some (en x)
  · rw [dif_pos h]
    have e := Classical.choose_spec h
    generalize Classical.choose h = c0 at e
    rw [e]
    exact if_pos ⟨_, rfl⟩
  · rw [dif_neg h]
    cases q : lookS st g with
    | none => rfl
    | some c =>
      exact if_neg fun ⟨x, e⟩ => h ⟨x, by rw [q, e]⟩
variable {k k1 k2 k3 : Kx} {env env' : List Kn.Slot} {st : Sto} {e a b c h ix : Sem} {i j n : Nat} {x x' : α} {y : β} {tx : Option α} {ty : Option β} {as : SemA} {ds : List D}
variable {fn : Bool} {enc : τ → Outs} {f g s1 : SemS} {t t1 t2 : Option τ} {z : τ}
/-! reading through a handle -/
theorem x_e1s {δ : Dr} {f : D → Option R} : e1s δ f a env st = (a env st).bind fun p => (δ p.2 p.1.pin).bind fun d => (f d).map fun r => (r, p.2) := rfl
theorem x_e2s {δ1 δ2 : Dr} {f : D → D → Option R} : e2s δ1 δ2 f a b env st = (a env st).bind fun p => (b env p.2).bind fun q => (δ1 q.2 p.1.pin).bind fun d1 => (δ2 q.2 q.1.pin).bind fun d2 => (f d1 d2).map fun r => (r, q.2) := rfl
theorem dI_pin (k : Kx) (d : D) (st : Sto) : dI st (k.r d).pin = some d := by
  show some (k.r d).pin.d = _
  rw [R.pin_d, Kx.rd]
theorem ev_1h {f : D → Option R} {F : α → Option β} {tx : Option (Hd α)} (hf : Op1 k f F) (ha : Ev .sh a env st tx) : Ev k (e1s (dH α) f a) env st (tx.bind fun x => (getS st x.g).bind F) := by
  unfold Ev at ha ⊢
  rw [x_e1s, ha]
  cases tx with
  | none => rfl
  | some x =>
    show ((dH α st (.sh (.hnd x.g))).bind fun d => (f d).map fun r => (r, st)) = ((getS st x.g).bind F).map _
    rw [dH_get]
    cases getS (α := α) st x.g with
    | none => rfl
    | some u => show ((f (en u)).map fun r => (r, st)) = (F u).map _; rw [hf u, Option.map_map]; rfl
theorem ev_2hi {g : D → D → Option R} {G : α → β → Option γ} {tx : Option (Hd α)} (hg : Op2 k g G) (ha : Ev .sh a env st tx) (hb : Ev k2 b env st ty) : Ev k (e2s (dH α) dI g a b) env st (tx.bind fun x => ty.bind fun y => (getS st x.g).bind fun u => G u y) := by
  unfold Ev at ha hb ⊢
  rw [x_e2s, ha]
  cases tx with
  | none => rfl
  | some x =>
    show ((b env st).bind _) = _
    rw [hb]
    cases ty with
    | none => rfl
    | some y =>
      show ((dH α st (.sh (.hnd x.g))).bind fun d1 => (dI st (k2.r (en y)).pin).bind fun d2 => (g d1 d2).map fun r => (r, st)) = ((getS st x.g).bind fun u => G u y).map _
      rw [dH_get, dI_pin]
      cases getS (α := α) st x.g with
      | none => rfl
      | some u => show ((g (en u) (en y)).map fun r => (r, st)) = (G u y).map _; rw [hg u y, Option.map_map]; rfl
/-! what changes the store -/
def Evx (k : Kx) (e : Sem) (env : List Kn.Slot) (st : Sto) (t : Option (α × Sto)) : Prop := e env st = t.map fun p => (k.r (en p.1), p.2)
theorem evx_new (ha : Ev .ow a env st tx) : Evx .sh (eNew a) env st (tx.bind fun x => some (newS st x)) := by
  unfold Ev at ha; unfold Evx
  show ((a env st).bind fun p => match p.1 with | .ow d => some (Kn.R.sh (.hnd p.2.length), p.2 ++ [(kC, d)]) | _ => none) = _
  rw [ha]; cases tx <;> rfl
def EvAX (as : SemA) (env : List Kn.Slot) (st : Sto) (t : Option (μ × Sto)) (dec : μ → List D) : Prop := as env st = t.map fun b => ((dec b.1).map .sh, b.2)
theorem eax_nil : EvAX aNil env st (some ((), st)) fun _ => [] := rfl
theorem eax_of (h : EvAp as env st ds) : EvAX as env st (some ((), st)) fun _ => ds := h
theorem eax_ofx {t : Option μ} {dec : μ → List D} (h : EvA as env st t dec) : EvAX as env st (t.bind fun b => some (b, st)) dec := by
  unfold EvA at h; unfold EvAX
  rw [h]; cases t <;> rfl
theorem eax_cons {t : Option (α × Sto)} {u : Sto → Option (μ × Sto)} {dec : μ → List D} (ha : Evx k a env st t) (hk : k.ok = true) (hs : ∀ st1, EvAX as env st1 (u st1) dec) : EvAX (aCons a as) env st (t.bind fun p => (u p.2).bind fun q => some ((p.1, q.1), q.2)) fun b => en b.1 :: dec b.2 := by
  unfold Evx at ha; unfold EvAX aCons
  rw [ha]
  cases t with
  | none => rfl
  | some p =>
    have hs := hs p.2
    unfold EvAX at hs
    show ((as env p.2).map fun q => ((k.r (en p.1)).pin :: q.1, q.2)) = _
    rw [hs, Kx.pin hk]
    show _ = ((u p.2).bind fun q => some ((p.1, q.1), q.2)).map _
    cases u p.2 <;> rfl
theorem eax_p {t : Option (μ × Sto)} {dec : μ → List D} (ha : Ev k a env st (some x)) (hk : k.ok = true) (h : EvAX as env st t dec) : EvAX (aCons a as) env st t fun b => en x :: dec b := by
  unfold Ev at ha; unfold EvAX at h ⊢; unfold aCons
  rw [ha]
  show ((as env st).map fun q => ((k.r (en x)).pin :: q.1, q.2)) = _
  rw [h, Kx.pin hk]; cases t <;> rfl
section
variable {t : Option (μ × Sto)} {dec : μ → List D} {m : Fn}
theorem evx_callX {F : μ → Sto → Option (γ × Sto)} (ha : EvAX as env st t dec) (h : ∀ b st1, m (dec b) st1 = (F b st1).map fun p => (k.r (en p.1), p.2)) (hl : ∀ b, (dec b).length = n) : Evx k (eCall n m as) env st (t.bind fun b => F b.1 b.2) := by
  unfold EvAX at ha; unfold Evx eCall
  rw [ha]
  cases t with
  | none => rfl
  | some b =>
    show ((valsR ((dec b.1).map .sh)).bind fun ds => if ds.length = n then m ds b.2 else none) = _
    rw [vals_sh]
    show (if (dec b.1).length = n then m (dec b.1) b.2 else none) = _
    rw [if_pos (hl b.1), h]; rfl
end
/-! operations on what changed the store -/
theorem evx_not {t : Option (Bool × Sto)} (ha : Evx .sh a env st t) : Evx .sh (eNot a) env st (t.bind fun p => some (!p.1, p.2)) := by
  unfold Evx at ha ⊢; unfold eNot; rw [ha]; cases t <;> rfl
theorem evx_or {t : Option (Bool × Sto)} {u : Sto → Option (Bool × Sto)} (ha : Evx .sh a env st t) (hb : ∀ st1, Evx .sh b env st1 (u st1)) : Evx .sh (eOr a b) env st (t.bind fun p => if p.1 = true then some (true, p.2) else u p.2) := by
  unfold Evx at ha ⊢; unfold eOr; rw [ha]
  cases t with
  | none => rfl
  | some p =>
    obtain ⟨v, st1⟩ := p
    cases v with
    | false => exact hb st1
    | true => rfl
/-! comprehensions that change the store -/
/-! going through a list behind a handle, nothing changed -/
def EvIs (it : SemIs) (env : List Kn.Slot) (st : Sto) (t : Option (List α)) : Prop := ∃ G : List α → Sto → Prop, (∀ l, t = some l → G l st) ∧ it env st = t.map fun l => ((l.map en, G l), st)
end
end Kn
namespace Kn
open PySem L2
/-! ### typed readings: statements that change the store -/
open En
section
variable {α β γ δ σ ρ τ μ : Type} [En α] [En β] [En γ]
variable {k k1 k2 k3 : Kx} {env env' : List Kn.Slot} {st : Sto} {e a b c h ix : Sem} {i j n : Nat} {x x' : α} {y : β} {tx : Option α} {ty : Option β} {as : SemA} {ds : List D}
variable {fn : Bool} {enc : τ → Outs} {f g s1 : SemS} {t1 t2 : Option τ} {z : τ}
theorem ru_setX {t : Option (α × Sto)} {T : α → Sto → Option τ} (ha : Evx k a env st t) (hk : k.ok = true) (hr : ∀ x st1, Ru fn enc g (env.set i (k.slot (en x))) st1 (T x st1)) : Ru fn enc (sSeq (sSet i a) g) env st (t.bind fun p => T p.1 p.2) := by
  unfold Evx at ha
  cases t with
  | none => unfold Ru; rw [x_seq, x_set, ha]; rfl
  | some p =>
    have hr := hr p.1 p.2
    unfold Ru at hr ⊢
    have : sSeq (sSet i a) g env st = g (env.set i (k.slot (en p.1))) p.2 := by
      rw [x_seq, x_set, ha]
      cases k <;> first | rfl | cases hk
    rw [this]; exact hr
theorem ru_ifX {c : Sem} {t : Option (Bool × Sto)} {T1 T2 : Sto → Option τ} (hc : Evx .sh c env st t) (h1 : ∀ st1, Ru fn enc (sSeq f s1) env st1 (T1 st1)) (h2 : ∀ st1, Ru fn enc (sSeq g s1) env st1 (T2 st1)) : Ru fn enc (sSeq (sIf c f g) s1) env st (t.bind fun p => if p.1 = true then T1 p.2 else T2 p.2) := by
  unfold Evx at hc
  cases t with
  | none => unfold Ru; rw [x_seq, x_if, hc]; rfl
  | some p =>
    obtain ⟨v, st1⟩ := p
    have h1 := h1 st1
    have h2 := h2 st1
    unfold Ru at h1 h2 ⊢
    rw [x_seq, x_if, hc]
    cases v with
    | true => exact h1
    | false => exact h2
theorem ru_retX {t : Option (α × Sto)} {F : α → Sto → τ} (ha : Evx k a env st t) (he : ∀ x st1, enc (F x st1) = (.rt (k.out.r (en x)), [], st1)) : Ru fn enc (sSeq (sRet a) g) env st (t.bind fun p => some (F p.1 p.2)) := by
  unfold Evx at ha
  cases t with
  | none => unfold Ru; rw [x_seq, x_ret, ha]; rfl
  | some p =>
    unfold Ru
    rw [x_seq, x_ret, ha]
    show some (nrm fn (.rt (k.r (en p.1)), env, p.2)) = some (enc (F p.1 p.2))
    rw [he]
    show some (Out.rt (k.r (en p.1)).outR, [], p.2) = _
    rw [Kx.outR]
/-! a statement that goes on with a state and a store -/
def encN (E : σ → List Kn.Slot) : σ × Sto → Outs := fun p => (.nx, E p.1, p.2)
def RnX (E : σ → List Kn.Slot) (f : SemS) (env : List Kn.Slot) (st : Sto) (t : Option (σ × Sto)) : Prop := f env st = t.map (encN E)
theorem rnx_of {E : σ → List Kn.Slot} {t : Option (σ × Sto)} (h : Ru false (encN E) (sSeq f sNil) env st t) : RnX E f env st t := by
  unfold Ru at h; unfold RnX
  rw [seq_nil] at h
  cases hf : f env st with
  | none =>
    rw [hf] at h
    cases t with
    | none => rfl
    | some s => cases h
  | some p =>
    rw [hf] at h
    cases t with
    | none => cases h
    | some s =>
      have := nrm_nx (Option.some.inj h)
      rw [this]; rfl
theorem ru_joinX {E : σ → List Kn.Slot} {t1 : Option (σ × Sto)} {T : σ → Sto → Option τ} (h1 : RnX E f env st t1) (h2 : ∀ s st1, Ru fn enc g (E s) st1 (T s st1)) : Ru fn enc (sSeq f g) env st (t1.bind fun p => T p.1 p.2) := by
  unfold RnX at h1
  cases t1 with
  | none => unfold Ru; rw [x_seq, h1]; rfl
  | some p =>
    have h2 := h2 p.1 p.2
    unfold Ru at h2 ⊢
    have : sSeq f g env st = g (E p.1) p.2 := by rw [x_seq, h1]; rfl
    rw [this]; exact h2
theorem forX_ev {E : σ → List Kn.Slot} {o : SemG} {E1 : α → σ → List Kn.Slot} {step : α → σ → Sto → Option (σ × Sto)} (ho : ∀ x s, o (en x) (E s) = some (E1 x s)) (hf : ∀ x s st, Ru false (encN E) f (E1 x s) st (step x s st)) : ∀ (l : List α) (s : σ) (st : Sto),
    forL o f (l.map en) (E s) st = (foldT (fun x p => step x p.1 p.2) l (s, st)).map (encN E)
  | [], s, st => rfl
  | x :: xs, s, st => by
    have h1 := hf x s st
    unfold Ru at h1
    rw [List.map_cons, forL, ho x s, foldT]
    show ((f (E1 x s) st).bind _) = _
    cases hs : step x s st with
    | none =>
      rw [hs] at h1
      cases hx : f (E1 x s) st with
      | none => rfl
      | some p => rw [hx] at h1; cases h1
    | some s' =>
      rw [hs] at h1
      cases hx : f (E1 x s) st with
      | none => rw [hx] at h1; cases h1
      | some p =>
        rw [hx] at h1
        have h1 := nrm_nx (Option.some.inj h1)
        subst h1
        exact forX_ev ho hf xs s'.1 s'.2
theorem rnx_for {it : SemI} {o : SemG} {E : σ → List Kn.Slot} {E1 : α → σ → List Kn.Slot} {step : α → σ → Sto → Option (σ × Sto)} {s0 : σ} {tl : Option (List α)} (hi : EvI it env st tl) (he : env = E s0) (ho : ∀ x s, o (en x) (E s) = some (E1 x s)) (hf : ∀ x s st, Ru false (encN E) f (E1 x s) st (step x s st)) :
    RnX E (sFor it o f) env st (tl.bind fun l => foldT (fun x p => step x p.1 p.2) l (s0, st)) := by
  unfold EvI at hi; unfold RnX
  rw [x_for, hi]
  cases tl with
  | none => rfl
  | some l =>
    show forL o f (l.map en) env st = _
    rw [he]
    exact forX_ev ho hf l s0 st
/-! defs -/
def encFS [En ρ] (k : Kx) : ρ × Sto → Outs := fun p => (.rt (k.r (en p.1)), [], p.2)
theorem ev_fnS [En ρ] {m : Nat} {b : SemS} {t : Option (ρ × Sto)} (h : Ru true (encFS k) b (ds.map .sh ++ List.replicate (m - ds.length) .no) st t) : runB m b ds st = t.map fun p => (k.r (en p.1), p.2) := by
  unfold Ru at h
  unfold runB
  cases hb : b (ds.map .sh ++ List.replicate (m - ds.length) .no) st with
  | none =>
    rw [hb] at h
    cases t with
    | none => rfl
    | some r => cases h
  | some p =>
    rw [hb] at h
    cases t with
    | none => cases h
    | some r =>
      have h := Option.some.inj h
      obtain ⟨o, e, s⟩ := p
      cases o with
      | nx =>
        have h : (Out.rt (.sh .non), [], s) = ((.rt (k.r (en r.1)), [], r.2) : Outs) := h
        injection h with h1 h2
        injection h2 with h2 h3
        injection h1 with h1
        show some (Kn.R.sh .non, s) = some (k.r (en r.1), r.2)
        rw [h1, h3]
      | rt r0 =>
        have h : (Out.rt r0.outR, [], s) = ((.rt (k.r (en r.1)), [], r.2) : Outs) := h
        injection h with h1 h2
        injection h2 with h2 h3
        injection h1 with h1
        show some (r0.outR, s) = some (k.r (en r.1), r.2)
        rw [h1, h3]
      | bk => cases h
      | ct => cases h
/-! writing through a handle -/
theorem x_mutH {δ : Dr} {fm : List D → List D → Option (List D)} : sMutH δ h fm as env st = (h env st).bind fun p => (as env p.2).bind fun q => (valsR q.1).bind fun xs => p.1.pin.hnd?.bind fun g => (δ p.2 (.sh (.hnd g))).bind fun c0 => c0.lst?.bind fun _ => (δ q.2 (.sh (.hnd g))).bind fun c => c.lst?.bind fun ds => (fm xs ds).map fun ds' => (.nx, env, q.2.set g (kC, .lst ds')) := rfl
/-- what a method makes of a list behind a handle -/
noncomputable def mutS (st : Sto) (y : Hd (List α)) (F : List α → Option (List α)) : Option Sto := (getS st y.g).bind fun l => (F l).bind fun l' => some (putS (α := List α) st y.g l')
theorem ru_mutHX {th : Option (Hd (List α))} {t : Option (μ × Sto)} {dec : μ → List D} {fm : List D → List D → Option (List D)} {F : μ → List α → Option (List α)} {T : Sto → Option τ} (hh : Ev .sh h env st th) (has : EvAX as env st t dec) (hm : ∀ b l, fm (dec b) (l.map en) = (F b l).map fun l' => l'.map en) (hr : ∀ st1, Ru fn enc g env st1 (T st1)) : Ru fn enc (sSeq (sMutH (dH (List α)) h fm as) g) env st (th.bind fun y => t.bind fun b => (getS (α := List α) st y.g).bind fun _ => (mutS b.2 y (F b.1)).bind T) := by
  unfold Ev at hh; unfold EvAX at has
  unfold Ru
  rw [x_seq, x_mutH, hh]
  cases th with
  | none => rfl
  | some y =>
    show ((((as env st).bind _).bind _ : Option Outs).map _) = _
    rw [has]
    cases t with
    | none => rfl
    | some b =>
      show (((((valsR ((dec b.1).map .sh)).bind _).bind _) : Option Outs).map _) = _
      rw [vals_sh]
      show (((((some y.g).bind fun g => (dH (List α) st (.sh (.hnd g))).bind fun c0 => c0.lst?.bind fun _ => (dH (List α) b.2 (.sh (.hnd g))).bind fun c => c.lst?.bind fun ds => (fm (dec b.1) ds).map fun ds' => (Out.nx, env, b.2.set g (kC, .lst ds'))).bind _) : Option Outs).map _) = _
      simp only [Option.bind_some]
      rw [dH_get, dH_get]
      unfold mutS
      cases getS (α := List α) st y.g with
      | none => rfl
      | some l0 =>
        simp only [Option.map_some, Option.bind_some]
        show (((((getS (α := List α) b.2 y.g).map en).bind fun c => c.lst?.bind fun ds => (fm (dec b.1) ds).map fun ds' => (Out.nx, env, b.2.set y.g (kC, .lst ds'))).bind _ : Option Outs).map _) = _
        cases getS (α := List α) b.2 y.g with
        | none => rfl
        | some l =>
          simp only [Option.map_some, Option.bind_some]
          show ((((fm (dec b.1) (l.map en)).map fun ds' => (Out.nx, env, b.2.set y.g (kC, .lst ds'))).bind _ : Option Outs).map _) = _
          rw [hm]
          cases F b.1 l with
          | none => rfl
          | some l' => exact hr _
theorem ru_appH {th : Option (Hd (List α))} {T : Sto → Option τ} (hh : Ev .sh h env st th) (ha : Ev k a env st tx) (hk : k.ok = true) (hr : ∀ st1, Ru fn enc g env st1 (T st1)) : Ru fn enc (sSeq (sMutH (dH (List α)) h fApp (aCons a aNil)) g) env st (th.bind fun y => tx.bind fun x => (mutS st y fun l => appG l x).bind T) := by
  have := ru_mutHX (F := fun b l => appG l b) (dec := fun x => [en x]) hh (eax_ofx (ea_xp ha hk ea_nil)) (fun b l => app_en l b) hr
  unfold Ru at this ⊢
  rw [this]
  cases th with
  | none => rfl
  | some y =>
    cases tx with
    | none => rfl
    | some x =>
      simp only [Option.bind_some]
      unfold mutS
      cases getS (α := List α) st y.g <;> rfl
theorem ru_clrH {th : Option (Hd (List α))} {T : Sto → Option τ} (hh : Ev .sh h env st th) (hr : ∀ st1, Ru fn enc g env st1 (T st1)) : Ru fn enc (sSeq (sMutH (dH (List α)) h fClr aNil) g) env st (th.bind fun y => (mutS st y fun _ => some []).bind T) := by
  have := ru_mutHX (fm := fClr) (F := fun _ _ => some []) hh eax_nil (fun _ _ => rfl) hr
  unfold Ru at this ⊢
  rw [this]
  cases th with
  | none => rfl
  | some y =>
    simp only [Option.bind_some]
    unfold mutS
    cases getS (α := List α) st y.g <;> rfl
end
end Kn
namespace Kn
open PySem L2
/-! ### typed readings: the store, once more -/
open En
section
variable {X : Cx} {ct : CT} {pos p : Pos} {x : Expr} {a : Sem} {δ : Dr}
end
section
variable {α β γ δ σ ρ τ μ : Type} [En α] [En β] [En γ]
variable {k k1 k2 k3 : Kx} {env env' : List Kn.Slot} {st : Sto} {e a b c h ix : Sem} {i j n : Nat} {x x' : α} {y : β} {tx : Option α} {ty : Option β} {as : SemA} {ds : List D}
theorem rd_X {m : Fn} {t : Option α} (h : m ds st = t.map fun r => (k.r (en r), st)) : m ds st = (t.bind fun r => some (r, st)).map fun p => (k.r (en p.1), p.2) := by
  rw [h]; cases t <;> rfl
section
variable {t : Option (μ × Sto)} {dec : μ → List D} {m : Fn}
end
/-- a chain of tests, the last thing not plain -/
theorem ev_chainz {f g : D → D → Option R} {F : α → β → Bool} {G : β → γ → Bool} {tz : Option γ} (hf : Op2 .sh f fun x y => some (F x y)) (hg : Op2 .sh g fun x y => some (G x y)) (ha : Ev k1 a env st (some x)) (hb : Ev k2 b env st (some y)) (hc : Ev k3 c env st tz) : Ev .sh (eChain f g a b c) env st (if F x y = true then tz.bind fun z => some (G y z) else some false) := by
  unfold Ev at ha hb hc ⊢
  rw [x_chain, ha]
  show ((b env st).bind fun q => (f (k1.r (en x)).d q.1.d).bind fun r => match r with
    | .sh (.bl true) => (c env q.2).bind fun u => (g q.1.d u.1.d).map fun r => (r, u.2)
    | .sh (.bl false) => some (.sh (.bl false), q.2)
    | _ => none) = _
  rw [hb]
  show ((f (k1.r (en x)).d (k2.r (en y)).d).bind fun r => match r with
    | .sh (.bl true) => (c env st).bind fun u => (g (k2.r (en y)).d u.1.d).map fun r => (r, u.2)
    | .sh (.bl false) => some (.sh (.bl false), st)
    | _ => none) = _
  rw [Kx.rd, Kx.rd, hf x y]
  show ((some (Kn.R.sh (.bl (F x y)))).bind fun r => match r with
    | .sh (.bl true) => (c env st).bind fun u => (g (en y) u.1.d).map fun r => (r, u.2)
    | .sh (.bl false) => some (.sh (.bl false), st)
    | _ => none) = _
  cases F x y with
  | false => rfl
  | true =>
    show ((c env st).bind fun u => (g (en y) u.1.d).map fun r => (r, u.2)) = _
    rw [hc]
    cases tz with
    | none => rfl
    | some z =>
      show ((g (en y) (k3.r (en z)).d).map fun r => (r, st)) = _
      rw [Kx.rd, hg y z]; rfl
/-! truths in lists -/
end
end Kn
namespace Kn
open PySem L2
/-! ### tables over a thing that many hold -/
section
variable {X : Cx} {ct : CT} {x : Expr} {pos spos py lp : Pos} {n : Str}
end
/-! ### equality through what is held -/
section
variable {K : PySem.W.Frag} {ct : CT} {W : Wd} {H : Hp}
theorem RdH.dp0 {F : Hp} {L : Addr → Option Lab} {env : List Slot} {st : Sto} {σ : St} {v : V} {d : D} (h : RdH K ct W H v d) (I : Rel K ct F W L env st σ H) (c : d.py.canLay0 = true) : Dp K H v d.py := by
  rcases h with h | ⟨a, rfl, cl⟩
  · exact h.dp (fun a o e => (I.hs a o e).1) I.tp c
  · cases cl with
    | lst h q =>
      rw [D.py] at c ⊢
      exact .lst (SqL.of h) (q.dp (fun a o e => (I.hs a o e).1) I.tp (by simpa [PyData.canLay0] using c))
    | dic h _ q => simp [D.py, PyData.canLay0] at c
    | obj h _ _ q => simp [D.py, PyData.canLay0] at c
end
section
variable {X : Cx} {ct : CT} {pos : Pos} {x y : Expr} {a b c h ix e : Sem} {δ δ1 δ2 : Dr}
/-! slices of a thing that many hold -/
end
/-! typed -/
open En
class Dpr (α : Type) (β : outParam Type) [En α] [En β] where
  rd : Sto → α → Option β
  inj : ∀ x y : α, en x = en y → x = y
  ok : ∀ {K ct F W L env st σ H v} {x : α} {y : β}, Rel K ct F W L env st σ H → RdH K ct W H v (en x) → rd st x = some y → (en y).py.canLay0 = true → Dp K H v (en y).py
theorem Hd.en_inj {τ : Type} (a b : Hd τ) (h : (en a : D) = en b) : a = b := by
  obtain ⟨a⟩ := a; obtain ⟨b⟩ := b
  have h : D.hnd a = D.hnd b := h
  cases h; rfl
section
variable {α β α' β' α2 β2 : Type} [En α] [En β] [En α'] [En β'] [En α2] [En β2]
instance dprE [EnE α] : Dpr α α := ⟨fun _ x => some x, EnE.inj, fun I h e c => by cases e; exact h.dp0 I c⟩
theorem not_hnd_cell {K : PySem.W.Frag} {ct : CT} {W : Wd} {H : Hp} {v : V} {g : Nat} (h : RdH K ct W H v (.hnd g)) : Rep K ct W v (.hnd g) := by
  rcases h with h | ⟨a, _, c⟩
  · exact h
  · cases c
noncomputable instance dprH [EnE α] : Dpr (Hd α) α := ⟨fun st h => getS st h.g, Hd.en_inj, fun I h e c => by
  obtain ⟨a, rfl, _, cl⟩ := I.cell (not_hnd_cell h) (getS_look e)
  exact RdH.dp0 (.inr ⟨a, rfl, cl⟩) I c⟩
theorem mapL_inj [Dpr α β] : ∀ {l m : List α}, l.map en = m.map en → l = m
  | [], [], _ => rfl
  | [], _ :: _, h => by cases h
  | _ :: _, [], h => by cases h
  | x :: xs, y :: ys, h => by
    rw [List.map_cons, List.map_cons] at h
    obtain ⟨h1, h2⟩ := List.cons.inj h
    rw [Dpr.inj x y h1, mapL_inj h2]
def rdL [Dpr α β] (st : Sto) : List α → Option (List β)
  | [] => some []
  | x :: xs => (Dpr.rd st x).bind fun y => (rdL st xs).map fun ys => y :: ys
theorem rdL_dp [Dpr α β] {K : PySem.W.Frag} {ct : CT} {F : Hp} {W : Wd} {L : Addr → Option Lab} {env : List Slot} {st : Sto} {σ : St} {H : Hp} (I : Rel K ct F W L env st σ H) : ∀ {l : List α} {m : List β} {vs : List V}, RepL K ct W vs (l.map en) → rdL st l = some m → PyData.canLayAll0 (D.pyL (m.map en)) = true → DpAll K H vs (D.pyL (m.map en))
  | [], m, vs, h, e, c => by cases e; cases h; rw [List.map_nil, D.pyL]; exact .nil
  | x :: xs, m, vs, h, e, c => by
    obtain ⟨y, h1, e⟩ := bind2 e
    obtain ⟨ys, h2, rfl⟩ := map2 e
    cases h with
    | cons h3 h4 =>
      rw [List.map_cons, D.pyL] at c ⊢
      rw [PyData.canLayAll0, Bool.and_eq_true] at c
      exact .cons (Dpr.ok I (.inl h3) h1 c.1) (rdL_dp I h4 h2 c.2)
instance (priority := 100) dprL [Dpr α β] : Dpr (List α) (List β) := ⟨rdL, fun a b h => mapL_inj (D.lst.inj h), fun {K ct F W L env st σ H v x y} I h e c => by
  have h : RdH K ct W H v (.lst (x.map en)) := h
  obtain ⟨a, vs, rfl, g, q⟩ := h.list I
  have c : (D.lst (y.map en)).py.canLay0 = true := c
  show Dp K H _ (D.lst (y.map en)).py
  rw [D.py] at c ⊢
  exact .lst (SqL.of g) (rdL_dp I q e (by simpa [PyData.canLay0] using c))⟩
instance (priority := 100) dprHl2 [Dpr α β] [Dpr α' β'] : Dpr (Hl2 α α') (Hl2 β β') := ⟨fun st x => (Dpr.rd st x.x0).bind fun a => (Dpr.rd st x.x1).bind fun b => some ⟨a, b⟩, fun a b h => by
    obtain ⟨a0, a1⟩ := a; obtain ⟨b0, b1⟩ := b
    have h := D.lst.inj h
    injection h with h1 h
    injection h with h2 h
    have e1 : a0 = b0 := Dpr.inj _ _ h1
    have e2 : a1 = b1 := Dpr.inj _ _ h2
    rw [e1, e2], fun {K ct F W L env st σ H v x y} I h e c => by
  have h : RdH K ct W H v (.lst [en x.x0, en x.x1]) := h
  obtain ⟨a, vs, rfl, g, q⟩ := h.list I
  obtain ⟨y0, e0, e⟩ := bind2 e
  obtain ⟨y1, e1, e⟩ := bind2 e
  cases e
  have c : (D.lst [en y0, en y1]).py.canLay0 = true := c
  show Dp K H _ (D.lst [en y0, en y1]).py
  rw [D.py] at c ⊢
  simp only [D.pyL, PyData.canLay0, PyData.canLayAll0, Bool.and_eq_true] at c ⊢
  cases q with
  | cons q0 q =>
    cases q with
    | cons q1 q =>
      cases q
      exact .lst (SqL.of g) (.cons (Dpr.ok I (.inl q0) e0 c.1) (.cons (Dpr.ok I (.inl q1) e1 c.2.1) .nil))⟩
instance (priority := 100) dprHl3 [Dpr α β] [Dpr α' β'] [Dpr α2 β2] : Dpr (Hl3 α α' α2) (Hl3 β β' β2) := ⟨fun st x => (Dpr.rd st x.x0).bind fun a => (Dpr.rd st x.x1).bind fun b => (Dpr.rd st x.x2).bind fun c => some ⟨a, b, c⟩, fun a b h => by
    obtain ⟨a0, a1, a2⟩ := a; obtain ⟨b0, b1, b2⟩ := b
    have h := D.lst.inj h
    injection h with h1 h
    injection h with h2 h
    injection h with h3 h
    have e1 : a0 = b0 := Dpr.inj _ _ h1
    have e2 : a1 = b1 := Dpr.inj _ _ h2
    have e3 : a2 = b2 := Dpr.inj _ _ h3
    rw [e1, e2, e3], fun {K ct F W L env st σ H v x y} I h e c => by
  have h : RdH K ct W H v (.lst [en x.x0, en x.x1, en x.x2]) := h
  obtain ⟨a, vs, rfl, g, q⟩ := h.list I
  obtain ⟨y0, e0, e⟩ := bind2 e
  obtain ⟨y1, e1, e⟩ := bind2 e
  obtain ⟨y2, e2, e⟩ := bind2 e
  cases e
  have c : (D.lst [en y0, en y1, en y2]).py.canLay0 = true := c
  show Dp K H _ (D.lst [en y0, en y1, en y2]).py
  rw [D.py] at c ⊢
  simp only [D.pyL, PyData.canLay0, PyData.canLayAll0, Bool.and_eq_true] at c ⊢
  cases q with
  | cons q0 q =>
    cases q with
    | cons q1 q =>
      cases q with
      | cons q2 q =>
        cases q
        exact .lst (SqL.of g) (.cons (Dpr.ok I (.inl q0) e0 c.1) (.cons (Dpr.ok I (.inl q1) e1 c.2.1) (.cons (Dpr.ok I (.inl q2) e2 c.2.2.1) .nil)))⟩
end
section
variable {α β γ δ σ ρ τ μ α' β' : Type} [En α] [En β] [En γ] [En α'] [En β']
variable {k k1 k2 k3 : Kx} {env env' : List Kn.Slot} {st : Sto} {e a b c h ix : Sem} {i j n : Nat} {x x' : α} {y : β} {tx : Option α} {ty : Option α'} {as : SemA} {ds : List D}
variable {fn : Bool} {enc : τ → Outs} {f g s1 : SemS} {t1 t2 : Option τ} {z : τ}
theorem forS_ev [En ρ] {G : Sto → Prop} (hG : G st) {E : σ → List Kn.Slot} {o : SemG} {E1 : α → σ → List Kn.Slot} {step : α → σ → Option (Ct ρ σ)} (ho : ∀ x s, o (en x) (E s) = some (E1 x s)) (hf : ∀ x s, Ru false (encC k E st) f (E1 x s) st (step x s)) : ∀ (l : List α) (s : σ),
    (forLS G o f (l.map en) (E s) st).map (nrm false) = (forT step l s).map (encC k E st)
  | [], s => by rw [List.map_nil, forLS, if_pos hG]; rfl
  | x :: xs, s => by
    have h1 := hf x s
    unfold Ru at h1
    rw [List.map_cons, forLS, if_pos hG, ho x s, forT]
    show (((f (E1 x s) st).bind _).map _) = _
    cases hs : step x s with
    | none =>
      rw [hs] at h1
      cases hx : f (E1 x s) st with
      | none => rfl
      | some p => rw [hx] at h1; cases h1
    | some c =>
      rw [hs] at h1
      cases hx : f (E1 x s) st with
      | none => rw [hx] at h1; cases h1
      | some p =>
        rw [hx] at h1
        obtain ⟨q, e1, s1⟩ := p
        have h1 := Option.some.inj h1
        cases c with
        | nx s' =>
          have h1 : nrm false (q, e1, s1) = (Out.nx, E s', st) := h1
          cases q with
          | nx =>
            have h1 : (Out.nx, e1, s1) = (Out.nx, E s', st) := h1
            cases h1
            exact forS_ev hG ho hf xs s'
          | rt r => cases h1
          | bk => cases h1
          | ct => cases h1
        | rt r =>
          have h1 : nrm false (q, e1, s1) = (Out.rt (k.r (en r)), [], st) := h1
          cases q with
          | nx => cases h1
          | rt r' =>
            show some (nrm false (.rt r', e1, s1)) = _
            rw [h1]; rfl
          | bk => cases h1
          | ct => cases h1
theorem rc_forS [En ρ] {it : SemIs} {o : SemG} {E : σ → List Kn.Slot} {E1 : α → σ → List Kn.Slot} {step : α → σ → Option (Ct ρ σ)} {s0 : σ} {tl : Option (List α)} (hi : EvIs it env st tl) (he : env = E s0) (ho : ∀ x s, o (en x) (E s) = some (E1 x s)) (hf : ∀ x s, Ru false (encC k E st) f (E1 x s) st (step x s)) :
    Rc k E (sForS it o f) env st (tl.bind fun l => forT step l s0) := by
  obtain ⟨G, hG, hi⟩ := hi
  unfold Rc sForS
  rw [hi]
  cases tl with
  | none => rfl
  | some l =>
    show (forLS (G l) o f (l.map en) env st).map _ = _
    rw [he]
    exact forS_ev (hG l rfl) ho hf l s0
/-! the body changes the store: the thing gone through stays -/
end
section
variable {α β γ : Type} [En α] [En β] [En γ]
variable {k k1 k2 k3 : Kx} {env : List Kn.Slot} {st : Sto} {a b c : Sem} {x : α} {ty : Option β}
theorem ev_chainy {f g : D → D → Option R} {F : α → β → Bool} {G : β → γ → Bool} {tz : Option γ} (hf : Op2 .sh f fun x y => some (F x y)) (hg : Op2 .sh g fun x y => some (G x y)) (ha : Ev k1 a env st (some x)) (hb : Ev k2 b env st ty) (hc : Ev k3 c env st tz) : Ev .sh (eChain f g a b c) env st (ty.bind fun y => if F x y = true then tz.bind fun z => some (G y z) else some false) := by
  cases ty with
  | none =>
    unfold Ev at ha hb ⊢
    rw [x_chain, ha]
    show ((b env st).bind _) = _
    rw [hb]; rfl
  | some y => exact ev_chainz hf hg ha hb hc
end
end Kn
namespace Kn
open PySem L2
/-! ### sorted: tuples of ints of one length, any number of them -/
section
open PySem.Spec PyProof.Rows Srt
variable {prog : Program} {w : World} {A : Around} {E : Value → Shared → Prop} {s : Shared}
end
section
open PySem.Spec PyProof.Rows
variable {X : Cx}
end
/-! data -/
section
variable {X : Cx} {ct : CT} {x : Expr} {a : Sem} {pos p : Pos}
end
/-! typed -/
open En
class EnT (α : Type) [En α] where
  d : Nat
  ns : α → List Int
  of : List Int → α
  d1 : 1 ≤ d ∧ d ≤ 9
  en : ∀ x : α, En.en x = .tup ((ns x).map D.int)
  ln : ∀ x : α, (ns x).length = d
  bk : ∀ l : List Int, l.length = d → ns (of l) = l
instance : EnT (Tp2 Int Int) := ⟨2, fun x => [x.x0, x.x1], fun l => ⟨l.getD 0 0, l.getD 1 0⟩, by decide, fun x => rfl, fun x => rfl, fun l h => by
  match l, h with
  | [a, b], _ => rfl⟩
instance : EnT (Tp3 Int Int Int) := ⟨3, fun x => [x.x0, x.x1, x.x2], fun l => ⟨l.getD 0 0, l.getD 1 0, l.getD 2 0⟩, by decide, fun x => rfl, fun x => rfl, fun l h => by
  match l, h with
  | [a, b, c], _ => rfl⟩
section
variable {α : Type} [En α] [EnT α]
end
end Kn
namespace Kn
open PySem L2
/-! ### dicts whose keys are pairs of ints: their items, one by one -/
section
open PySem.Spec PyProof.Rows
end
end Kn
namespace Kn
open PySem L2
/-! ### dicts by pairs of ints: a kind of cell -/
abbrev PK := Int × Int
def kyT (k : PK) : List Key := [.inl k.1, .inl k.2]
def toT (kvs : List (PK × V)) : List (List Key × V) := kvs.map fun e => (kyT e.1, e.2)
def itD (e : PK × D) : D := .tup [.tup [.int e.1.1, .int e.1.2], e.2]
def enT (kds : List (PK × D)) : D := .lst (kds.map itD)
structure TOk (K : PySem.W.Frag) (ct : CT) (W : Wd) (kvs : List (PK × V)) (d : D) : Prop where
  ex : ∃ kds, d = enT kds ∧ kvs.map (·.1) = kds.map (·.1) ∧ RepL K ct W (kvs.map (·.2)) (kds.map (·.2))
theorem TOk.mono {K : PySem.W.Frag} {ct : CT} {W W' : Wd} {kvs : List (PK × V)} {d : D} (h : TOk K ct W kvs d) (l : W.le W') : TOk K ct W' kvs d := by
  obtain ⟨kds, h1, h2, h3⟩ := h.ex
  exact ⟨kds, h1, h2, h3.mono l⟩
def kT : Kd := ⟨fun K ct W F v d => ∃ a kvs, v = .ref a ∧ F a = some (.dT (toT kvs)) ∧ TOk K ct W kvs d, fun ⟨a, kvs, e, h, t⟩ l => ⟨a, kvs, e, h, t.mono l⟩⟩
/-- .. while it is gone through -/
def kF (z : Obj × List (PK × V)) : Kd := ⟨fun K ct W F v d => ∃ a, v = .ref a ∧ F a = some (.frz z.1 (.dT (toT z.2))) ∧ TOk K ct W z.2 d, fun ⟨a, e, h, t⟩ l => ⟨a, e, h, t.mono l⟩⟩
open Classical in
/-- what may be read -/
noncomputable def lookT (st : Sto) (g : Nat) : Option D := (st[g]?).bind fun p => if p.1 = kT ∨ ∃ z, p.1 = kF z then some p.2 else none
section
variable {K : PySem.W.Frag} {ct : CT} {F H H' : Hp} {W W' : Wd} {L L' : Addr → Option Lab} {env : List Kn.Slot} {st : Sto} {σ : St} {v : V} {d d' : Kn.D} {r : R} {a p : Addr} {o : HO} {g : Nat}
end
/-! ### the rules -/
section
variable {X : Cx} {ct : CT} {pos cpos apos tpos : Pos} {x y z : Expr} {a b h ix e : Sem}
end
end Kn
namespace Kn
open PySem L2
/-! ### a dict is gone through -/
section
variable {X : Cx} {ct : CT} {tg x : Expr} {a h e : Sem}
end
/-! ### typed -/
open En
structure Dt (β : Type) where
  l : List (Tp2 (Tp2 Int Int) β)
instance {β : Type} [En β] : En (Dt β) := ⟨fun d => .lst (d.l.map en)⟩
section
variable {α β γ ρ τ μ : Type} [En α] [En β] [En γ]
variable {k k1 k2 k3 : Kx} {env env' : List Kn.Slot} {st sz : Sto} {e a b c h ix : Sem} {i j n : Nat} {as : SemA} {ds : List D}
variable {fn : Bool} {enc : τ → Outs} {f g s1 : SemS} {t t1 t2 : Option τ} {z : τ}
open Classical in
noncomputable def getT [En α] (st : Sto) (g : Nat) : Option α := if h : ∃ x : α, lookT st g = some (en x) then some (choose h) else none
variable {tx : Option (Hd (Dt β))} {ty : Option (Tp2 Int Int)}
/-- what reads alike -/
structure Szo (st sz : Sto) : Prop where
  S : ∀ {α : Type} [En α] (g : Nat), getS (α := α) sz g = getS st g
  T : ∀ {α : Type} [En α] (g : Nat), getT (α := α) sz g = getT st g
theorem Szo.refl (st : Sto) : Szo st st := ⟨fun _ => rfl, fun _ => rfl⟩
end
end Kn
namespace Kn
open PySem L2
/-! ### tuples one behind the other; zip -/
open En
section
variable {α β γ δ : Type} [En α] [En β] [En γ] [En δ]
variable {k k1 k2 : Kx} {env : List Kn.Slot} {st : Sto} {a b : Sem}
end
end Kn
namespace Kn
open PySem L2
/-! ### a class under a class -/
section
variable {X : Cx} {ct : CT} {x y : Expr} {a b e : Sem} {as : SemA} {pos p apos npos cpos : Pos} {c f m n : Str} {C : Addr} {ns : List Str} {es : List Expr}
end
section
variable {X : Cx} {ct : CT} {x y : Expr} {a b e : Sem} {as : SemA} {pos p apos npos cpos : Pos} {c f m n : Str} {C : Addr} {ns : List Str} {es : List Expr}
end
/-! ### a method by the class of its object -/
section
variable {X : Cx} {ct : CT} {x y : Expr} {a b e : Sem} {as : SemA} {pos p apos npos cpos : Pos} {c c1 c2 c3 f m n : Str} {C C1 C2 C3 : Addr} {ns ns1 ns2 ns3 : List Str} {es : List Expr}
/-! ### isinstance of one's own classes -/
end
/-! ### typed -/
open En
section
variable {α β γ : Type} [En α] [En β] [En γ]
variable {k k1 k2 k3 : Kx} {env : List Kn.Slot} {st : Sto} {a b : Sem} {as : SemA} {n : Nat}
end
end Kn
namespace Kn
open PySem L2
/-! ### isinstance through a handle -/
section
variable {X : Cx} {ct : CT} {x : Expr} {a : Sem} {pos p : Pos} {δ : Dr}
theorem se_isis (o1 : DrOk δ) {T : String} {n : Str} {p2 : Pos} (hg : Gl X "isinstance") (hm : X.mg "isinstance" = none) (hg2 : Gl X n) (hm2 : X.mg n = none) (hv : bootBuiltins n = some (.type T)) (ha : SE X ct x a) (hn : n ≠ "__name__" := by decide) (hdb : (n == ("__debug__" : Str)) = false := by decide)
    (he : starEach [x, .Name n p2] X.env = (false, eval x X.env) :: starEach [.Name n p2] X.env := by rfl) (he2 : starEach [Expr.Name n p2] X.env = (false, eval (.Name n p2) X.env) :: starEach [] X.env := by rfl) (hpl : (backTo pos (starEach [Expr.Name n p2] X.env)).any (·.1) = false := by rfl) :
    SE X ct (.Call (.Name "isinstance" p) [x, .Name n p2] [] pos) (e1s δ (fIsi T) a) :=
  ⟨pe_mono (pe_callB call_isi hg hm PyProof.Rows.boot_isinstance (pa_cons ha.pe (pa_cons (pe_bltn (v := .ty T) hg2 hm2 hv rfl hn hdb) pa_nil he2) he) (by decide) (by decide) he hpl) fun _ _ _ h => tE_e1s o1 us_isi h⟩
end
/-! ### zip of a thing that many hold with a list -/
section
variable {X : Cx} {ct : CT} {x y : Expr} {a b : Sem} {pos : Pos} {δ : Dr}
theorem wk_zipH {K : PySem.W.Frag} {W0 : Wd} {l m : Addr} {g : Nat} {ws : List V} {ds es : List Kn.D} (h : Rep K ct W0 (.ref l) (.hnd g)) (h' : SqL K W0.hs m ws) (r' : RepL K ct W0 ws es) : WkS K ct (Itz K l m) W0 (zipD ds es) fun st => lookS st g = some (.lst ds) := by
  intro F W L env st σ H i le I hG
  obtain ⟨a, vs, e, hs, r⟩ := cell_list I (Rep.mono le h) hG
  cases e
  have hs' : SqL K H m ws := sq_mono (fun a o e => (I.hs a o (le.1 a o e)).1) h'
  refine ⟨fun d hd => ?_, fun hi => ⟨vs, ws, hs, hs', by rw [r.length, r'.length]; exact zipD_len _ _ _ hi⟩⟩
  obtain ⟨e, e', he, he', rfl⟩ := zipD_get ds es i d hd
  obtain ⟨v, hv, hr⟩ := r.get he
  obtain ⟨v', hv', hr'⟩ := r'.get he'
  refine ⟨⟨vs, ws, v, v', hs, hs', hv, hv'⟩, fun x H' ⟨T, w, w', e1, e2, e3, e4, e5⟩ => ?_⟩
  subst e1 e3
  have e6 := e4 vs hs
  rw [hv] at e6; cases e6
  have e7 := e5 ws hs'
  rw [hv'] at e7; cases e7
  exact tup_new I e2 (.cons hr (.cons (hr'.mono le) .nil))
noncomputable def iZipH (δ : Dr) (a b : Sem) : SemIs := fun env st => (a env st).bind fun p => p.1.pin.hnd?.bind fun g => (b env p.2).bind fun q => q.1.sh?.bind fun e => e.seqL.bind fun es => (δ q.2 (.sh (.hnd g))).bind fun c => c.lst?.map fun ds => ((zipD ds es, fun st => lookS st g = some (.lst ds)), q.2)
theorem si_zipH (oh : DrH δ) {p tpos : Pos} {elts : List Expr} {kk : Nat} (hg : Gl X "zip") (hm : X.mg "zip" = none) (ha : SE X ct x a) (hb : SE X ct y b) (he : starEach [x, y] X.env = (false, eval x X.env) :: starEach [y] X.env := by rfl) (he2 : starEach [y] X.env = (false, eval y X.env) :: starEach [] X.env := by rfl)
    (hpl : (backTo pos (starEach [y] X.env)).any (·.1) = false := by rfl) : SIs X ct (.Tuple elts kk tpos) (.Call (.Name "zip" p) [x, y] [] pos) (iZipH δ a b) := by
  refine ⟨pi_monoS (pi_zip hg hm (pa_cons ha.pe (pa_cons hb.pe pa_nil he2) he) he hpl) fun σ H RR ⟨F, W, L, env, st, ds, G, st', I, e, k⟩ => ?_⟩
  obtain ⟨⟨r1, st1⟩, h1, e⟩ := bind2 e
  obtain ⟨g, hr, e⟩ := bind2 e
  obtain ⟨⟨r2, st2⟩, h4, e⟩ := bind2 e
  obtain ⟨d2, h5, e⟩ := bind2 e
  obtain ⟨es', h6, e⟩ := bind2 e
  obtain ⟨c, hc, e⟩ := bind2 e
  obtain ⟨ds', hd, e⟩ := map2 e
  cases e
  have hc := oh.ok hc
  rw [Kn.D.lst_eq hd] at hc
  refine ⟨F, W, L, env, st, r1, st1, I, h1, fun v H1 W1 L1 l1 I1 p1 => ?_⟩
  obtain ⟨W1', m1, J1, q1⟩ := I1.pin p1
  rw [show r1.pin = _ from R.hnd_eq hr] at q1
  refine ⟨F, W1', L1, env, st1, r2, _, J1, h4, fun w H2 W2 L2 l2 I2 p2 => ?_⟩
  obtain ⟨W2', m2, J2, q2⟩ := I2.pin p2
  rw [R.sh_pin h5] at q2
  have q1' : Rep X.K ct W2' v (.hnd g) := Rep.mono (l2.trans m2) q1
  obtain ⟨l, vs, rfl, gs, q⟩ := cell_list J2 q1' hc
  obtain ⟨l', vs', rfl, g', q'⟩ := rep_seqL q2 h6
  have mo := fun (a : Addr) (o : HO) (e : W2'.hs a = some o) => (J2.hs a o e).1
  exact ⟨l, l', vs, vs', rfl, gs, sq_mono mo g', k _ _ _ _ (l1.trans (m1.trans (l2.trans m2))) J2 (wk_zipH q1' g' q')⟩
end
open En in
theorem eis_zip {α β : Type} [En α] [En β] {k2 : Kx} {env : List Kn.Slot} {st : Sto} {a b : Sem} {tx : Option (Hd (List α))} {tm : Option (List β)} (ha : Ev .sh a env st tx) (hb : Ev k2 b env st tm) (hk2 : k2.ok = true) : EvIs (iZipH (dH (List α)) a b) env st (tx.bind fun x => tm.bind fun m => (getS (α := List α) st x.g).bind fun l => some (zipT l m)) := by
  unfold Ev at ha hb
  cases tx with
  | none =>
    refine ⟨fun _ _ => True, fun _ _ => trivial, ?_⟩
    unfold iZipH
    rw [ha]; rfl
  | some x =>
    cases tm with
    | none =>
      refine ⟨fun _ _ => True, fun _ _ => trivial, ?_⟩
      unfold iZipH
      rw [ha]
      show ((b env st).bind _) = _
      rw [hb]; rfl
    | some m =>
      cases q : getS (α := List α) st x.g with
      | none =>
        refine ⟨fun _ _ => True, fun _ _ => trivial, ?_⟩
        unfold iZipH
        rw [ha]
        show ((b env st).bind _) = _
        rw [hb]
        show ((k2.r (.lst (m.map en))).sh?.bind fun e => e.seqL.bind fun es => (dH (List α) st (.sh (.hnd x.g))).bind fun c => _) = _
        rw [Kx.sh? hk2, dH_get, q]
        simp [q, D.seqL]
      | some l =>
        refine ⟨fun _ s => lookS s x.g = some (.lst (l.map en)), fun _ _ => getS_look q, ?_⟩
        unfold iZipH
        rw [ha]
        show ((b env st).bind _) = _
        rw [hb]
        show ((k2.r (.lst (m.map en))).sh?.bind fun e => e.seqL.bind fun es => (dH (List α) st (.sh (.hnd x.g))).bind fun c => _) = _
        rw [Kx.sh? hk2, dH_get, q]
        simp only [Option.bind_some, q, Option.map_some]
        show some ((zipD (l.map en) (m.map en), _), st) = _
        rw [zipD_en]
end Kn
namespace Kn
open PySem L2
/-! ### a list just made by a comprehension is laid into the store -/
theorem tE_new {K : PySem.W.Frag} {ct : CT} {a : Sem} {σ : St} {H : Hp} {Q : VK} (hh : tE K ct (eNew a) σ H Q) : tE K ct a σ H Q := by
  obtain ⟨F, W, L, env, st, r, st', I, e, k⟩ := hh
  obtain ⟨⟨r1, st1⟩, h1, e⟩ := bind2 e
  dsimp only at e
  split at e
  · rename_i d
    cases e
    refine ⟨F, W, L, env, st, _, st1, I, h1, fun v H1 W1 L1 l1 I1 p1 => ?_⟩
    obtain ⟨W', L', l2, I2, q⟩ := I1.store p1
    exact k v H1 W' L' (l1.trans l2) I2 q
  · cases e
section
variable {X : Cx} {ct : CT} {x y : Expr} {a b c : Sem} {pos p apos : Pos}
theorem ss_setLcN (i : Nat) {n : Str} {py spos : Pos} {tg : Expr} {ifs : List Expr} {scope : Scope} {own : List (Str × Nat)} {it : SemI} {ts : List Nat} {g : SemG} (hc : X.calm = true) (hN : X.N.Nodup) (hi : SI X ct tg x it) (ok : BlkOk X.N X.env.scope scope own)
    (hg : ∀ (s : Shared) (H : Hp) (C : Addr) (cl : List (Str × Addr)) (fp : List Addr), SG (X.blk s H scope (compEnvC scope cl C X.env) fp) ct tg ts g) (ht : ∀ (s : Shared) (H : Hp) (C : Addr) (cl : List (Str × Addr)) (fp : List Addr), STs (X.blk s H scope (compEnvC scope cl C X.env) fp) ct ifs c)
    (he : ∀ (s : Shared) (H : Hp) (C : Addr) (cl : List (Str × Addr)) (fp : List Addr), SE (X.blk s H scope (compEnvC scope cl C X.env) fp) ct y a) (hy : X.N[i]? = some n := by rfl) (hyl : X.env.scope.names.lookup n = some .local := by rfl)
    (hsw : swapsWith (.ListComp y [⟨tg, x, ifs, 0⟩] scope pos) (some (.Name n py)) spos.line X.env = pure true := by exact sw_true rfl rfl rfl (by decide +kernel)) (hts : ∀ j ∈ ts, j ∈ own.map (·.2) := by decide) (hs : ∀ z, foldedSetIterable x X.env z = pure z := by intro _; rfl) :
    SS X ct (.Assign [.Name n py] (.ListComp y [⟨tg, x, ifs, 0⟩] scope pos) spos) (sSet i (eNew (eLc it (own.map (·.2)) g c a))) := by
  refine ⟨ps_mono (ps_setLc (te := tE X.K ct a) (tt := tT X.K ct c) (g := tG X.K ct ts g) hc hN hy hyl hsw hi.pi ok (fun s H C cl fp => (hg s H C cl fp).pg) (fun s H C cl fp => (ht s H C cl fp).pts) (fun s H C cl fp => (he s H C cl fp).pe) hs) fun D σ H h => ?_⟩
  exact tE_lc hts (tE_new (tSm_set h))
end
end Kn
namespace Kn
open PySem L2
/-! ### a, b = e, e' ; xs[i] += e, xs behind a handle ; | -/
section
variable {X : Cx} {ct : CT} {x y z : Expr} {a b h ix e : Sem} {as : SemA} {pos p apos tpos px py pt : Pos} {δ : Dr}
def D.int? : D → Option Int
  | .int i => some i
  | _ => none
/-! zip of a list with a thing that many hold -/
end
/-! typed -/
open En
section
variable {α β γ τ : Type} [En α] [En β] [En γ]
variable {k k1 k2 k3 : Kx} {env : List Kn.Slot} {st : Sto} {a b h ix e : Sem} {as : SemA} {i j : Nat}
variable {fn : Bool} {enc : τ → Outs} {g : SemS}
end
/-! rows of atoms -/
/-- a text of code points -/
structure Txt where
  x : Str
  ok : PyData.strOk x = true
  deriving DecidableEq
def txM (x : Str) (h : PyData.strOk x = true := by decide +kernel) : Txt := ⟨x, h⟩
instance : En Txt := ⟨fun t => .str t.x⟩
instance : EnH Txt := ⟨fun _ => rfl⟩
instance : EnE Txt := ⟨0, fun t => Pn_str t.ok, fun a b h => by
  obtain ⟨a, _⟩ := a; obtain ⟨b, _⟩ := b
  cases D.str.inj h; rfl⟩
instance : EnN Txt := ⟨fun _ h => nomatch h⟩
theorem ev_txt {env : List Kn.Slot} {st : Sto} (t : Txt) : Ev .sh (eC (.str t.x)) env st (some t) := rfl
inductive At where
  | s (x : Txt) | i (n : Int) | non
  deriving DecidableEq
instance : En At := ⟨fun a => match a with | .s x => .str x.x | .i n => .int n | .non => .non⟩
structure Rw where
  l : List At
  deriving DecidableEq
instance : En Rw := ⟨fun r => .tup (r.l.map en)⟩
instance : EnH At := ⟨fun a => match a with | .s _ => rfl | .i _ => rfl | .non => rfl⟩
class ToAt (α : Type) [En α] where
  f : α → At
  h : ∀ x, en (f x) = en x
instance : ToAt Int := ⟨.i, fun _ => rfl⟩
instance : ToAt Txt := ⟨.s, fun _ => rfl⟩
instance : ToAt (Option Int) := ⟨fun o => match o with | some n => .i n | none => .non, fun o => by cases o <;> rfl⟩
class ToRw (α : Type) [En α] where
  f : α → Rw
  h : ∀ x, en (f x) = en x
section
variable {α β γ δ : Type} [En α] [En β] [En γ] [En δ] [ToAt α] [ToAt β] [ToAt γ] [ToAt δ]
instance : ToRw (Tp2 α β) := ⟨fun p => ⟨[ToAt.f p.x0, ToAt.f p.x1]⟩, fun p => by
  show D.tup [en (ToAt.f p.x0), en (ToAt.f p.x1)] = .tup [en p.x0, en p.x1]
  rw [ToAt.h, ToAt.h]⟩
instance : ToRw (Tp3 α β γ) := ⟨fun p => ⟨[ToAt.f p.x0, ToAt.f p.x1, ToAt.f p.x2]⟩, fun p => by
  show D.tup [en (ToAt.f p.x0), en (ToAt.f p.x1), en (ToAt.f p.x2)] = .tup [en p.x0, en p.x1, en p.x2]
  rw [ToAt.h, ToAt.h, ToAt.h]⟩
instance : ToRw (Tp4 α β γ δ) := ⟨fun p => ⟨[ToAt.f p.x0, ToAt.f p.x1, ToAt.f p.x2, ToAt.f p.x3]⟩, fun p => by
  show D.tup [en (ToAt.f p.x0), en (ToAt.f p.x1), en (ToAt.f p.x2), en (ToAt.f p.x3)] = .tup [en p.x0, en p.x1, en p.x2, en p.x3]
  rw [ToAt.h, ToAt.h, ToAt.h, ToAt.h]⟩
end
instance : En D := ⟨fun d => d⟩
instance {α β : Type} : EnS (Hl2 (Hd α) (Hd β)) (Hd (List D)) := ⟨fun p => [⟨p.x0.g⟩, ⟨p.x1.g⟩], fun _ => rfl⟩
instance {α β γ : Type} : EnS (Hl3 (Hd α) (Hd β) (Hd γ)) (Hd (List D)) := ⟨fun p => [⟨p.x0.g⟩, ⟨p.x1.g⟩, ⟨p.x2.g⟩], fun _ => rfl⟩
end Kn
namespace Kn
open PySem L2
/-! zip of two things that many hold -/
section
variable {X : Cx} {ct : CT} {x y : Expr} {a b : Sem} {pos : Pos} {δ δ2 : Dr}
end
end Kn
namespace Kn
open PySem L2
/-! append to one's own list what is made in the store -/
open En
section
variable {α τ : Type} [En α]
variable {k : Kx} {env : List Kn.Slot} {st : Sto} {a : Sem} {i : Nat} {fn : Bool} {enc : τ → Outs} {g : SemS}
end
end Kn
namespace Kn
open PySem L2
/-! ### x.pop(..) as a value, x a list behind a handle -/
section
variable {X : Cx} {ct : CT} {pos p apos cpos : Pos} {x y z : Expr} {es : List Expr} {a b h e : Sem} {as : SemA} {δ : Dr}
end
/-! ### a method whose last parameter may be left out -/
section
variable {P : Program} {w : World} {K : PySem.W.Frag} {mg : Str → Option Value} {base : Heap} {ct : CT}
/-- a method whose last parameter has the value d where it is left out -/
structure McD (P : Program) (w : World) (K : PySem.W.Frag) (mg : Str → Option Value) (base : Heap) (ct : CT) (C : Addr) (nm : Str) (k : Nat) (ps : List Str) (m : Fn) (d : D) : Prop where
  ex : ∃ f fd u v, FnOk P w K mg base CX0 k f fd ps (spD K ct ps.length m) ∧ Meth K C nm f ∧ Binds K fd ps [] ∧ Binds K fd ps [u] ∧ RelV v u ∧ ∀ W, Rep K ct W v d
theorem McD.all {C : Addr} {nm : Str} {k : Nat} {ps : List Str} {m : Fn} {d : D} (M : McD P w K mg base ct C nm k ps m d) : Mcl P w K mg base ct C nm k ps m := by
  obtain ⟨f, fd, u, v, h1, h2, h3, _⟩ := M.ex
  exact ⟨f, fd, h1, h2, h3⟩
end
section
variable {X : Cx} {ct : CT} {pos p apos : Pos} {x y : Expr} {a b : Sem} {δ : Dr}
end
/-! typed -/
open En
section
variable {α σ : Type} [En α] {k : Kx} {env : List Kn.Slot} {st : Sto} {h ix : Sem} {c : Sem} {f : SemS}
end
end Kn
namespace Kn
open PySem L2
/-! ### a reading that holds of some values only -/
section
variable {X : Cx} {ct : CT} {x : Expr} {a : Sem}
end
open En
class AsG (α : Type) (β : Type) [En α] [En β] where
  g : α → Option β
  f : D → Bool
  h : ∀ x, match g x with
    | some y => f (en x) = true ∧ (en y : D) = en x
    | none => f (en x) = false
section
variable {α β : Type} [En α] [En β] {k : Kx} {env : List Kn.Slot} {st : Sto} {a : Sem}
end
def isIntD : D → Bool
  | .int _ => true
  | _ => false
def isStrD : D → Bool
  | .str _ => true
  | _ => false
/-- an item of a row as a whole number -/
def At.int? : At → Option Int
  | .i n => some n
  | _ => none
def At.str? : At → Option Txt
  | .s n => some n
  | _ => none
instance asAtInt : AsG At Int := ⟨At.int?, isIntD, fun x => by cases x <;> first | exact ⟨rfl, rfl⟩ | rfl⟩
instance asAtStr : AsG At Txt := ⟨At.str?, isStrD, fun x => by cases x <;> first | exact ⟨rfl, rfl⟩ | rfl⟩
instance asOptInt : AsG (Option Int) Int := ⟨id, isIntD, fun x => by cases x <;> first | exact ⟨rfl, rfl⟩ | rfl⟩
def Rw.t2? : Rw → Option (Tp2 Int Int)
  | ⟨[.i a, .i b]⟩ => some ⟨a, b⟩
  | _ => none
def Rw.t4? : Rw → Option (Tp4 Txt Int Int Int)
  | ⟨[.s a, .i b, .i c, .i d]⟩ => some ⟨a, b, c, d⟩
  | _ => none
def isT2D : D → Bool
  | .tup [.int _, .int _] => true
  | _ => false
def isT4D : D → Bool
  | .tup [.str _, .int _, .int _, .int _] => true
  | _ => false
instance asRw2 : AsG Rw (Tp2 Int Int) := ⟨Rw.t2?, isT2D, fun x => by
  match x with
  | ⟨[]⟩ => rfl
  | ⟨[.i a, .i b]⟩ => exact ⟨rfl, rfl⟩
  | ⟨[.s _]⟩ | ⟨[.i _]⟩ | ⟨[.non]⟩ => rfl
  | ⟨[.s _, _]⟩ | ⟨[.non, _]⟩ => rfl
  | ⟨[.i _, .s _]⟩ | ⟨[.i _, .non]⟩ => rfl
  | ⟨.s _ :: _ :: _ :: _⟩ | ⟨.non :: _ :: _ :: _⟩ => rfl
  | ⟨.i _ :: .s _ :: _ :: _⟩ | ⟨.i _ :: .non :: _ :: _⟩ | ⟨.i _ :: .i _ :: _ :: _⟩ => rfl⟩
theorem t4_none {r : Rw} (h : r.t4? = none) : isT4D (en r) = false := by
  obtain ⟨l⟩ := r
  match l with
  | [.s a, .i b, .i c, .i d] => cases h
  | [] | [_] | [_, _] | [_, _, _] => show isT4D (.tup _) = false; simp only [List.map_cons, List.map_nil]; unfold isT4D; split <;> first | rfl | (rename_i q; simp at q)
  | _ :: _ :: _ :: _ :: _ :: _ => show isT4D (.tup _) = false; simp only [List.map_cons]; unfold isT4D; split <;> first | rfl | (rename_i q; simp at q)
  | [x, y, z, w] =>
    cases x <;> cases y <;> cases z <;> cases w <;> first | rfl | cases h
instance asRw4 : AsG Rw (Tp4 Txt Int Int Int) := ⟨Rw.t4?, isT4D, fun x => by
  cases e : x.t4? with
  | none => exact t4_none e
  | some y =>
    obtain ⟨l⟩ := x
    unfold Rw.t4? at e
    split at e
    · rename_i q; cases e; cases q; exact ⟨rfl, rfl⟩
    · cases e⟩
/-- each thing of a list -/
def asLG {α β : Type} (g : α → Option β) : List α → Option (List β)
  | [] => some []
  | x :: xs => (g x).bind fun y => (asLG g xs).bind fun ys => some (y :: ys)
def asLF (f : D → Bool) : D → Bool
  | .lst ds => ds.all f
  | _ => false
instance asList {α β : Type} [En α] [En β] [G : AsG α β] : AsG (List α) (List β) := ⟨asLG G.g, asLF G.f, fun l => by
  have key : ∀ l : List α, match asLG G.g l with
    | some m => (l.map (en : α → D)).all G.f = true ∧ m.map (en : β → D) = l.map en
    | none => (l.map (en : α → D)).all G.f = false := fun l => by
    induction l with
    | nil => exact ⟨rfl, rfl⟩
    | cons x xs ih =>
      have q := G.h x
      unfold asLG
      cases e : G.g x with
      | none => rw [e] at q; have q : G.f (en x) = false := q; show ((x :: xs).map (en : α → D)).all G.f = false; simp [q]
      | some y =>
        rw [e] at q
        have q : G.f (en x) = true ∧ (en y : D) = en x := q
        cases e2 : asLG G.g xs with
        | none => rw [e2] at ih; have ih : (xs.map (en : α → D)).all G.f = false := ih; show ((x :: xs).map (en : α → D)).all G.f = false; rw [List.map_cons, List.all_cons, ih, Bool.and_false]
        | some ys =>
          rw [e2] at ih
          have ih : (xs.map (en : α → D)).all G.f = true ∧ ys.map (en : β → D) = xs.map en := ih
          show ((x :: xs).map (en : α → D)).all G.f = true ∧ (y :: ys).map (en : β → D) = (x :: xs).map en
          rw [List.map_cons, List.all_cons, ih.1, q.1, List.map_cons, ih.2, q.2]
          exact ⟨rfl, rfl⟩
  have := key l
  cases e : asLG G.g l with
  | none => rw [e] at this; exact this
  | some m => rw [e] at this; exact ⟨this.1, congrArg D.lst this.2⟩⟩
/-! ### rows -/
section
variable {k : Kx} {env : List Kn.Slot} {st : Sto} {a b : Sem}
end
section
variable {k : Kx} {env : List Kn.Slot} {st : Sto} {a b : Sem}
end
instance : EnS Rw At := ⟨fun r => r.l, fun _ => rfl⟩
instance : EnE At := ⟨0, fun a => by
  cases a with
  | s x => exact Pn_str x.ok
  | i n => exact Pn_int n
  | non => exact Pn_non, fun a b h => by
  cases a <;> cases b <;> first | rfl | (cases h; done) | skip
  · rename_i x y
    obtain ⟨x, _⟩ := x; obtain ⟨y, _⟩ := y
    cases D.str.inj h; rfl
  · rename_i x y
    cases D.int.inj h; rfl⟩
instance : EnE Rw := ⟨1, fun r => Pn_tup fun d hd => by obtain ⟨a, _, rfl⟩ := List.mem_map.mp hd; exact EnE.pn a, fun a b h => by
  obtain ⟨a⟩ := a; obtain ⟨b⟩ := b
  have : a = b := map_en_inj (D.tup.inj h)
  rw [this]⟩
instance : EnN Rw := ⟨fun _ h => nomatch h⟩
end Kn
namespace Kn
open PySem L2
/-! ### len(set(xs)), unlike tuples of whole numbers -/
section
open PySem.Spec PyProof.Rows
variable {X : Cx}
end
section
variable {X : Cx} {ct : CT} {x : Expr} {a : Sem} {pos p p2 pos2 : Pos}
end
section
open En
variable {α : Type} [En α] [EnT α]
end
end Kn
namespace Kn
open PySem L2
/-! ### lists of unlike things that grow -/
structure Hl4 (α β γ δ : Type) where
  x0 : α
  x1 : β
  x2 : γ
  x3 : δ
  deriving DecidableEq
structure Hl5 (α β γ δ ε : Type) where
  x0 : α
  x1 : β
  x2 : γ
  x3 : δ
  x4 : ε
  deriving DecidableEq
structure Hl6 (α β γ δ ε ζ : Type) where
  x0 : α
  x1 : β
  x2 : γ
  x3 : δ
  x4 : ε
  x5 : ζ
  deriving DecidableEq
open En
section
variable {α β γ δ ε ζ : Type} [En α] [En β] [En γ] [En δ] [En ε] [En ζ]
instance : En (Hl4 α β γ δ) := ⟨fun p => .lst [en p.x0, en p.x1, en p.x2, en p.x3]⟩
instance : En (Hl5 α β γ δ ε) := ⟨fun p => .lst [en p.x0, en p.x1, en p.x2, en p.x3, en p.x4]⟩
instance : En (Hl6 α β γ δ ε ζ) := ⟨fun p => .lst [en p.x0, en p.x1, en p.x2, en p.x3, en p.x4, en p.x5]⟩
class AppHl (α : Type) (β : Type) (γ : outParam Type) [En α] [En β] [En γ] where
  f : α → β → γ
  h : ∀ (a : α) (b : β), ∃ ds es, (en a : D) = .lst ds ∧ fApp [en b] ds = some es ∧ (en (f a b) : D) = .lst es
instance : AppHl (Hl4 α β γ δ) ε (Hl5 α β γ δ ε) := ⟨fun a b => ⟨a.x0, a.x1, a.x2, a.x3, b⟩, fun a b => ⟨[en a.x0, en a.x1, en a.x2, en a.x3], [en a.x0, en a.x1, en a.x2, en a.x3, en b], rfl, by
  rw [x_app, if_pos (x_sz2 (by show 4 ≤ 1000; omega))]; rfl, rfl⟩⟩
instance : AppHl (Hl5 α β γ δ ε) ζ (Hl6 α β γ δ ε ζ) := ⟨fun a b => ⟨a.x0, a.x1, a.x2, a.x3, a.x4, b⟩, fun a b => ⟨[en a.x0, en a.x1, en a.x2, en a.x3, en a.x4], [en a.x0, en a.x1, en a.x2, en a.x3, en a.x4, en b], rfl, by
  rw [x_app, if_pos (x_sz2 (by show 5 ≤ 1000; omega))]; rfl, rfl⟩⟩
end
section
variable {τ : Type} {fn : Bool} {enc : τ → Outs} {env : List Kn.Slot} {st : Sto} {as : SemA} {g : SemS} {i : Nat}
end
section
variable {α β γ : Type} [En α] [En β] [En γ] [AppHl α β γ] {τ : Type} {k : Kx} {fn : Bool} {enc : τ → Outs} {env : List Kn.Slot} {st : Sto} {a : Sem} {g : SemS} {i : Nat}
end
section
variable {α β γ δ ε ζ : Type} [En α] [En β] [En γ] [En δ] [En ε] [En ζ] [EnE α] [EnE β] [EnE γ] [EnE δ] [EnE ε] [EnE ζ]
instance : EnE (Hl6 α β γ δ ε ζ) := ⟨EnE.dep α + EnE.dep β + EnE.dep γ + EnE.dep δ + EnE.dep ε + EnE.dep ζ + 1, fun p => Pn_lst fun d hd => by
    simp only [List.mem_cons, List.not_mem_nil, or_false] at hd
    rcases hd with rfl | rfl | rfl | rfl | rfl | rfl
    · exact Pn_mono (EnE.pn _) (by omega)
    · exact Pn_mono (EnE.pn _) (by omega)
    · exact Pn_mono (EnE.pn _) (by omega)
    · exact Pn_mono (EnE.pn _) (by omega)
    · exact Pn_mono (EnE.pn _) (by omega)
    · exact Pn_mono (EnE.pn _) (by omega),
  fun a b h => by
    have h := D.lst.inj h
    simp only [List.cons.injEq, and_true] at h
    cases a; cases b
    have e0 := EnE.inj _ _ h.1
    have e1 := EnE.inj _ _ h.2.1
    have e2 := EnE.inj _ _ h.2.2.1
    have e3 := EnE.inj _ _ h.2.2.2.1
    have e4 := EnE.inj _ _ h.2.2.2.2.1
    have e5 := EnE.inj _ _ h.2.2.2.2.2
    dsimp only at e0 e1 e2 e3 e4 e5
    subst e0 e1 e2 e3 e4 e5
    rfl⟩
end
end Kn
namespace Kn
open PySem L2
/-! ### f().append(x): what was just made takes one more, and is let go -/
section
open En
variable {X : Cx} {ct : CT} {x y : Expr} {a b : Sem} {as : SemA} {pos cpos apos : Pos}
theorem Rel.less {K : PySem.W.Frag} {F F' H : Hp} {W : Wd} {L : Addr → Option Lab} {env : List Kn.Slot} {st : Sto} {σ : St} (I : Rel K ct F' W L env st σ H) (h : ∀ b o, F b = some o → F' b = some o) : Rel K ct F W L env st σ H :=
  ⟨fun b o e => I.fr b o (h b o e), I.hs, I.tp, I.ob, I.rh, I.len, I.sl⟩
end
section
open En
variable {α τ : Type} [En α] {fn : Bool} {enc : τ → Outs} {g : SemS} {env : List Kn.Slot} {st : Sto} {a b : Sem} {k : Kx} {th : Option (List α)} {tx : Option α} {T : List α → Option τ}
end
open En in
instance : EnH Rw := ⟨fun r => by
  show D.nhL (r.l.map en) = true
  exact nhL_all fun d hd => by obtain ⟨a, _, rfl⟩ := List.mem_map.mp hd; exact EnH.nh a⟩
end Kn
namespace Kn
open PySem L2
/-! ### list(d), d a dict by pairs -/
section
open En
variable {X : Cx} {ct : CT} {x : Expr} {a : Sem} {pos : Pos} {n : Str}
end
section
open En
variable {β : Type} [En β] {env : List Kn.Slot} {st : Sto} {a : Sem} {th : Option (Hd (Dt β))}
end
end Kn
namespace Kn
open PySem L2
/-! ### xs.remove(y), of data -/
section
open PySem.SeqAt PySem.Spec PyProof.Rows
section
variable {X : Cx}
end
end
section
section
variable {X : Cx} {ct : CT} {pos : Pos} {x y : Expr} {a b c : Sem} {es : List Expr} {as : SemA}
end
end
section
open En
variable {α σ ρ τ β : Type} [En α] [EnE α] [DecidableEq α]
variable {k k1 : Kx} {env : List Kn.Slot} {st : Sto} {a b : Sem} {i : Nat} {x : α} {tx : Option α} {fn : Bool} {enc : τ → Outs} {g : SemS}
end
end Kn
namespace Kn
open PySem L2
/-! ### sorted(d) of a dict by whole numbers; a dict of one whose key is read -/
section
open PySem.Spec PyProof.Rows
section
variable {X : Cx} {ct : CT} {x : Expr} {a : Sem} {pos p : Pos}
end
end
section
open En
variable {α β : Type} [En α] [En β] {k k1 k2 : Kx} {env : List Kn.Slot} {st : Sto} {a b : Sem} {x : α}
end
/-! ### len(set(xs)), any whole numbers -/
section
open PySem.Spec PyProof.Rows
variable {X : Cx}
end
section
variable {X : Cx} {ct : CT} {x : Expr} {a : Sem} {pos p p2 pos2 : Pos}
end
section
open En
end
end Kn
namespace Kn
open PySem L2
/-! ### min(xs), xs of tuples -/
section
open PySem.SeqAt PySem.Spec PyProof.Rows
section
variable {prog : Program} {w : World} {A : Around} {R : Result → Shared → Prop} {I S : Addr} {fp wr : List Addr} {St : Nat → Heap → Prop} {its : Array Value} {h0 : Heap}
end
end
section
open PySem.Spec PyProof.Rows
end
section
variable {X : Cx} {ct : CT} {x : Expr} {a : Sem} {pos p : Pos}
end
section
open En
end
end Kn
namespace Kn
open PySem L2
/-! ### d.clear(), d a dict by pairs that many hold -/
section
open PySem.Spec PyProof.Rows
variable {X : Cx}
end
section
variable {X : Cx} {ct : CT} {pos cpos apos : Pos} {z : Expr} {h : Sem}
end
section
open En
variable {β τ : Type} [En β] {k : Kx} {env : List Kn.Slot} {st : Sto} {h : Sem} {fn : Bool} {enc : τ → Outs} {g : SemS}
end
end Kn
namespace Kn
open PySem L2
/-! ### errors: the ways on which a def raises -/
abbrev XT := Str → Option Addr
def XE (xt : XT) (E : XK) : VK := fun v H' => ∃ c, v = .str c ∧ ∀ C, xt c = some C → E (.ref C) none H'
def spX (K : PySem.W.Frag) (ct : CT) (xt : XT) (n : Nat) (m : Fn) : Sp := fun vs H _ E => spD K ct n m vs H (XE xt E) E
structure MclX (P : Program) (w : World) (K : PySem.W.Frag) (mg : Str → Option Value) (base : Heap) (ct : CT) (xt : XT) (C : Addr) (nm : Str) (k : Nat) (ps : List Str) (m : Fn) : Prop where
  ex : ∃ f fd, FnOk P w K mg base (L2.CX P w) k f fd ps (spX K ct xt ps.length m) ∧ Meth K C nm f ∧ Binds K fd ps []
section
variable {K : PySem.W.Frag} {ct : CT} {F H : Hp} {W : Wd} {L : Addr → Option Lab} {env : List Kn.Slot} {st : Sto} {σ : St}
end
section
variable {X : Cx} {ct : CT} {xt : XT} {Wx : WX} {E : XK} {pos p apos pos' : Pos} {x y : Expr} {es : List Expr} {a b : Sem} {as : SemA} {k n i : Nat} {ps : List Str} {m : Fn} {nm mn : Str} {c : Str} {C : Addr} {ns : List Str}
/-! calls of defs that raise -/
/-! statements -/
/-! blocks of a def that raises -/
variable {sx : Stmt} {sxs rest s1 s2 : List Stmt} {f g h : SemS} {c : Sem}
end
/-! what hands nothing back -/
section
variable {a b c : Sem} {f : SemS} {i : Nat}
end
end Kn
namespace Kn
open PySem L2
/-! ### try: a call; except X as e: a suite that asks what e is -/
section
variable {X : Cx} {ct : CT} {pos p p1 p2 p3 : Pos} {a D C' : Addr} {oe : Obj} {pn : List (Addr × Obj)} {n cn : Str} {b : Bool}
end
section
open Classical
end
section
variable {X : Cx} {ct : CT} {xt : XT} {pos pos' np p : Pos} {n xk : Str} {cv : Value} {x : Expr} {b₀ : Stmt} {suite : List Stmt} {a b : Sem} {su : Addr → Str → SemS} {xs : List Str}
end
/-! typed -/
open En
section
variable {α β σ τ : Type} [En α] [En β]
variable {k : Kx} {env : List Kn.Slot} {st : Sto} {a b c : Sem} {i : Nat} {fn : Bool} {enc : τ → Outs} {f g : SemS}
end
/-! things of any kind -/
section
variable {X : Cx} {ct : CT} {pos p : Pos} {x : Expr} {a : Sem}
end
section
variable {X : Cx} {ct : CT} {xt : XT} {Wx : WX} {pos p pos2 tpos : Pos} {x y : Expr} {a : Sem} {v : V} {k kk : Nat} {elts ifs : List Expr} {scope : Scope} {own : List (Str × Nat)}
end
end Kn
namespace Kn
open PySem L2
/-! ### tuple(a list) of a known length -/
section
variable {X : Cx} {ct : CT} {pos p : Pos} {x : Expr} {a : Sem}
end
open En
section
variable {α : Type} [En α]
end
section
variable {α β γ δ σ ρ τ : Type} [En α] [En β] [En γ]
variable {k k1 k2 k3 : Kx} {env env' : List Kn.Slot} {st : Sto} {e a b c : Sem} {i j n : Nat} {x x' : α} {y : β} {tx : Option α} {ty : Option β} {as : SemA} {ds : List D}
variable {fn : Bool} {enc : τ → Outs} {f g h s1 : SemS} {t t1 t2 : Option τ} {z : τ}
end
section
variable {α β σ τ : Type} [En α] [En β]
variable {k : Kx} {env : List Kn.Slot} {st : Sto} {a b c : Sem} {i : Nat} {fn : Bool} {enc : τ → Outs} {f g : SemS}
end
instance asDInt : AsG D Int := ⟨D.int?, isIntD, fun x => by cases x <;> first | exact ⟨rfl, rfl⟩ | rfl⟩
def D.pair? : D → Option (Tp2 Int Int)
  | .tup [.int i, .int j] => some ⟨i, j⟩
  | _ => none
def D.pairs? : List D → Option (List (Tp2 Int Int))
  | [] => some []
  | d :: ds => d.pair?.bind fun x => (D.pairs? ds).map fun xs => x :: xs
def isPairsD : D → Bool
  | .lst ds => (D.pairs? ds).isSome
  | _ => false
theorem pairs_en : ∀ {ds : List D} {l : List (Tp2 Int Int)}, D.pairs? ds = some l → l.map en = ds
  | [], _, h => by cases h; rfl
  | d :: ds, _, h => by
    obtain ⟨x, h1, h⟩ := bind2 h
    obtain ⟨xs, h2, h3⟩ := map2 h
    subst h3
    rw [List.map_cons, pairs_en h2]
    unfold D.pair? at h1
    split at h1
    · cases h1; rfl
    · cases h1
def D.pairsL? : D → Option (List (Tp2 Int Int))
  | .lst ds => D.pairs? ds
  | _ => none
theorem isPairs_none : ∀ {x : D}, D.pairsL? x = none → isPairsD x = false
  | .lst ds, h => by
    show (D.pairs? ds).isSome = false
    rw [show D.pairs? ds = none from h]; rfl
  | .non, _ => rfl
  | .bl _, _ => rfl
  | .int _, _ => rfl
  | .str _, _ => rfl
  | .tup _, _ => rfl
  | .dic _, _ => rfl
  | .obj _ _, _ => rfl
  | .hnd _, _ => rfl
  | .scr _, _ => rfl
theorem isPairs_some : ∀ {x : D} {y : List (Tp2 Int Int)}, D.pairsL? x = some y → isPairsD x = true ∧ (en y : D) = x
  | .lst ds, y, h => by
    have h : D.pairs? ds = some y := h
    exact ⟨by show (D.pairs? ds).isSome = true; rw [h]; rfl, congrArg D.lst (pairs_en h)⟩
instance asDPairs : AsG D (List (Tp2 Int Int)) := ⟨D.pairsL?, isPairsD, fun x => by
  cases h : D.pairsL? x with
  | none => exact isPairs_none h
  | some y => exact isPairs_some h⟩
section
variable {α β γ μ : Type} [En α] [En β] [En γ]
variable {k : Kx} {env : List Kn.Slot} {st : Sto} {a : Sem} {as : SemA} {n : Nat} {m : Fn} {dec : μ → List D}
end
/-! lists of truths -/
structure Tp0 where
  deriving DecidableEq
instance : En Tp0 := ⟨fun _ => .tup []⟩
/-! in a suite: the room without what is handled -/
section
variable {X : Cx} {ct : CT} {pos : Pos} {x y : Expr} {a b : Sem}
end
section
variable {a b : Sem} {as : SemA} {i : Nat}
end
/-! what raises within a call's arguments -/
section
variable {X : Cx} {ct : CT} {xt : XT} {Wx : WX} {E : XK} {pos p apos npos : Pos} {x y : Expr} {es : List Expr} {a b : Sem} {k n i : Nat} {ps : List Str} {m : Fn} {nm f : Str}
end
section
open En
variable {α β : Type} [En α] [En β] {k k2 : Kx} {env : List Kn.Slot} {st : Sto} {a b : Sem} {x : α} {tx : Option α} {t : Option β}
end
structure McXD (P : Program) (w : World) (K : PySem.W.Frag) (mg : Str → Option Value) (base : Heap) (ct : CT) (xt : XT) (C : Addr) (nm : Str) (k : Nat) (ps : List Str) (m : Fn) (d : D) : Prop where
  ex : ∃ f fd u v, FnOk P w K mg base (L2.CX P w) k f fd ps (spX K ct xt ps.length m) ∧ Meth K C nm f ∧ Binds K fd ps [] ∧ Binds K fd ps [u] ∧ RelV v u ∧ ∀ W, Rep K ct W v d
section
variable {P : Program} {w : World} {K : PySem.W.Frag} {mg : Str → Option Value} {base : Heap} {ct : CT} {xt : XT}
theorem McXD.all {C : Addr} {nm : Str} {k : Nat} {ps : List Str} {m : Fn} {d : D} (M : McXD P w K mg base ct xt C nm k ps m d) : MclX P w K mg base ct xt C nm k ps m := by
  obtain ⟨f, fd, u, v, h1, h2, h3, _⟩ := M.ex
  exact ⟨f, fd, h1, h2, h3⟩
end
end Kn
namespace Kn
open PySem L2
/-! ### texts -/
open En
/-- a text, where its signs are such -/
def okT (x : Str) : Option Txt := if h : PyData.strOk x = true then some ⟨x, h⟩ else none
def fOkS (x : Str) : Option R := (okT x).map fun c => Kx.sh.r (en c)
theorem okT_x {x : Str} {t : Txt} (h : okT x = some t) : t.x = x := by
  unfold okT at h
  split at h <;> cases h
  rfl
theorem okT_ok {x : Str} (h : PyData.strOk x = true) : okT x = some ⟨x, h⟩ := by unfold okT; rw [dif_pos h]
theorem fOkS_eq {x : Str} {r : R} (h : fOkS x = some r) : r = .sh (.str x) := by
  obtain ⟨t, h1, h2⟩ := map2 h
  rw [← h2]
  show R.sh (.str t.x) = _
  rw [okT_x h1]
def okTs : List Str → Option (List Txt)
  | [] => some []
  | x :: xs => (okT x).bind fun t => (okTs xs).map fun ts => t :: ts
theorem okTs_en : ∀ {xs : List Str} {ts : List Txt}, okTs xs = some ts → ts.map en = xs.map D.str
  | [], _, h => by cases h; rfl
  | x :: xs, _, h => by
    obtain ⟨t, h1, h⟩ := bind2 h
    obtain ⟨ts, h2, h3⟩ := map2 h
    subst h3
    rw [List.map_cons, List.map_cons, okTs_en h2]
    show D.str t.x :: _ = _
    rw [okT_x h1]
theorem okTs_ok : ∀ ts : List Txt, okTs (ts.map Txt.x) = some ts
  | [] => rfl
  | t :: ts => by
    show ((okT t.x).bind fun u => (okTs (ts.map Txt.x)).map fun us => u :: us) = _
    rw [okT_ok t.ok, okTs_ok ts]; rfl
def strsD : List D → Option (List Str)
  | [] => some []
  | .str x :: ds => (strsD ds).map fun xs => x :: xs
  | _ :: _ => none
theorem strsD_en : ∀ ts : List Txt, strsD (ts.map en) = some (ts.map Txt.x)
  | [] => rfl
  | t :: ts => by
    show ((strsD (ts.map en)).map fun xs => t.x :: xs) = _
    rw [strsD_en ts]; rfl
theorem strsD_eq : ∀ {ds : List D} {xs : List Str}, strsD ds = some xs → ds = xs.map D.str
  | [], _, h => by cases h; rfl
  | d :: ds, _, h => by
    cases d with
    | str x =>
      obtain ⟨ys, h1, h2⟩ := map2 h
      subst h2
      rw [strsD_eq h1]; rfl
    | _ => cases h
section
variable {X : Cx} {ct : CT} {pos p apos pos2 cpos : Pos} {x y o : Expr} {a b : Sem}
variable {F H H' : Hp} {W W' : Wd} {L L' : Addr → Option Lab} {env : List Kn.Slot} {st : Sto} {σ : St}
theorem RepL.of_strs {K : PySem.W.Frag} : ∀ xs : List Str, RepL K ct W (xs.map V.str) (xs.map D.str)
  | [] => .nil
  | x :: xs => .cons (.str x) (RepL.of_strs xs)
/-! slices -/
/-! the signs of a text, one by one -/
def sgD (z : Str) : List D := z.cps.toList.map fun c => D.str ⟨#[c]⟩
theorem wk_str {K : PySem.W.Frag} {W0 : Wd} (z : Str) : Wk K ct (Its z) W0 (sgD z) := by
  intro F W L env st σ H i le I
  refine ⟨fun d hd => ?_, fun hi => ?_⟩
  · unfold sgD at hd
    rw [List.getElem?_map] at hd
    obtain ⟨c, hc, rfl⟩ := map2 hd
    have hc : z.cps[i]? = some c := by rw [← Array.getElem?_toList]; exact hc
    refine ⟨(Array.getElem?_eq_some_iff.mp hc).1, fun x H' ⟨e1, c', e2, e3⟩ => ?_⟩
    rw [hc] at e2; cases e2
    subst e1; subst e3
    exact ⟨W, L, .refl W, I, .str _⟩
  · unfold sgD at hi
    rw [List.length_map, Array.length_toList] at hi
    exact hi
def iSig (a : Sem) : SemI := fun env st => (a env st).bind fun p => match p.1.d with
  | .str z => some (sgD z, p.2)
  | _ => none
theorem si_sig {tg : Expr} (ha : SE X ct x a) : SI X ct tg x (iSig a) := by
  refine ⟨pi_mono (pi_str ha.pe) fun σ H RR ⟨F, W, L, env, st, ds, st', I, e, k⟩ => ?_⟩
  obtain ⟨⟨r1, st1⟩, h1, e⟩ := bind2 e
  refine ⟨F, W, L, env, st, r1, st1, I, h1, fun v H1 W1 L1 l1 I1 p1 => ?_⟩
  obtain ⟨W1', m1, J1, q1⟩ := I1.pin p1
  have hv := J1.look q1
  rw [R.pin_d] at hv
  split at e
  · rename_i z hz
    cases e
    have hz : r1.d = .str z := hz
    rw [hz] at hv
    have hv := hv.str
    subst hv
    exact ⟨z, rfl, k _ H1 W1' L1 (l1.trans m1) J1 (wk_str z)⟩
  · cases e
/-! a method of a text with one thing -/
theorem se_m1S {id : String} {name : Str} {r : V → List V → Hp → VK → Prop} {f : D → D → Option R} (slot : PySem.Slot "str" name id) (ty : typeOf (.builtin id) = pure (.type "method_descriptor")) (rule : MtR X id r)
    (os : OpS X.K ct (fun x y H Q => r x [y] H Q) f) (hs0 : ∀ d1 d2 q, f d1 d2 = some q → ∃ z, d1 = .str z) (ha : SE X ct o a) (hb : SE X ct x b)
    (hs : starEach [x] X.env = [(false, eval x X.env)] := by rfl) (hbase : attributeBase o name X.env (eval o X.env) = eval o X.env := by rfl) (hline : (apos.endLine == pos.line) = true := by rfl) :
    SE X ct (.Call (.Attribute o name apos) [x] [] pos) (e2 f a b) := by
  refine ⟨pe_mono (pe_m1 slot ty rule ha.pe hb.pe hs hbase hline) fun σ H Q ⟨F, W, L, env, st, r, st', I, e, k⟩ => ?_⟩
  obtain ⟨⟨r1, st1⟩, h1, e⟩ := bind2 e
  obtain ⟨⟨r2, st2⟩, h2, e⟩ := bind2 e
  obtain ⟨r3, h3, e⟩ := map2 e
  cases e
  refine ⟨F, W, L, env, st, r1, st1, I, h1, fun x H1 W1 L1 l1 I1 p1 => ?_⟩
  obtain ⟨W1', m1, J1, q1⟩ := I1.pin p1
  refine ⟨?_, F, W1', L1, env, st1, r2, st2, J1, h2, fun y H2 W2 L2 l2 I2 p2 => ?_⟩
  · have hv := J1.look q1
    obtain ⟨z, hz⟩ := hs0 _ _ _ h3
    rw [R.pin_d, hz] at hv
    exact ⟨z, hv.str⟩
  obtain ⟨W2', m2, J2, q2⟩ := I2.pin p2
  have q1' := J2.look (q1.mono (l2.trans m2))
  have q2' := J2.look q2
  rw [R.pin_d] at q1' q2'
  exact os F W2' L2 env st2 σ H2 x y _ _ _ Q J2 q1' q2' h3 fun v H' W' L' l' I' p' => k v H' W' L' (l1.trans (m1.trans (l2.trans (m2.trans l')))) I' p'
/-- a.split(b) -/
def fSplit : D → D → Option R
  | .str u, .str v => if (v.length == 0) = false ∧ u.length + 2 ≤ sizeLine then (okTs (PySem.Txt.split u v)).map fun ts => Kx.ow.r (en ts) else none
  | _, _ => none
theorem se_split (ha : SE X ct o a) (hb : SE X ct x b) (hs : starEach [x] X.env = [(false, eval x X.env)] := by rfl) (hbase : attributeBase o "split" X.env (eval o X.env) = eval o X.env := by rfl) (hline : (apos.endLine == pos.line) = true := by rfl) :
    SE X ct (.Call (.Attribute o "split" apos) [x] [] pos) (e2 fSplit a b) := by
  refine se_m1S F.slot_str_split F.type_str_split mt_split ?_ ?_ ha hb hs hbase hline
  · intro F W L env st σ H x y d1 d2 r Q I h1 h2 e k
    unfold fSplit at e
    split at e
    · rename_i u v
      obtain ⟨c, e⟩ := ifG e
      obtain ⟨ts, e1, e2⟩ := map2 e
      refine ⟨u, v, h1.str, by rw [h2.str], c.1, c.2, fun p hp => ?_⟩
      rw [← e2] at k
      refine fresh_out I hp (.lst upd_same ?_) k
      show RepL X.K ct W _ (ts.map en)
      rw [okTs_en e1]
      exact RepL.of_strs _
    · cases e
  · intro d1 d2 q e
    unfold fSplit at e
    split at e
    · exact ⟨_, rfl⟩
    · cases e
/-- a.join(a list of texts) -/
def fJoin : D → D → Option R
  | .str u, .lst ds => (strsD ds).bind fun ys => if (ys.map (·.length)).sum + ys.length * u.length ≤ 16777216 then fOkS (PySem.Txt.join u ys) else none
  | _, _ => none
theorem se_join (ha : SE X ct o a) (hb : SE X ct x b) (hs : starEach [x] X.env = [(false, eval x X.env)] := by rfl) (hbase : attributeBase o "join" X.env (eval o X.env) = eval o X.env := by rfl) (hline : (apos.endLine == pos.line) = true := by rfl) :
    SE X ct (.Call (.Attribute o "join" apos) [x] [] pos) (e2 fJoin a b) := by
  refine se_m1S F.slot_str_join F.type_str_join mt_join ?_ ?_ ha hb hs hbase hline
  · intro F W L env st σ H x y d1 d2 r Q I h1 h2 e k
    unfold fJoin at e
    split at e
    · rename_i u ds
      obtain ⟨ys, e1, e⟩ := bind2 e
      obtain ⟨c, e⟩ := ifG e
      have e4 := fOkS_eq e
      subst e4
      have e5 := strsD_eq e1
      subst e5
      obtain ⟨a, vs, rfl, g, q⟩ := h2.list I
      have e6 := q.strs
      subst e6
      exact ⟨u, a, ys, h1.str, rfl, .inl (SqL.of g), c, k _ H W L (.refl W) I (.str _)⟩
    · cases e
  · intro d1 d2 q e
    unfold fJoin at e
    split at e
    · exact ⟨_, rfl⟩
    · cases e
/-- int(a text) -/
def fIntS : D → Option R
  | .str u => if u.length ≤ 640 then (PySem.intText? u).map fun n => Kx.sh.r (en n) else none
  | _ => none
theorem se_intS (hg : Gl X "int") (hm : X.mg "int" = none) (ha : SE X ct x a) (he : starEach [x] X.env = (false, eval x X.env) :: starEach [] X.env := by rfl) (hpl : (backTo pos (starEach [] X.env)).any (·.1) = false := by rfl) :
    SE X ct (.Call (.Name "int" p) [x] [] pos) (e1 fIntS a) := by
  refine se_t1 call_int_str ?_ hg hm PyProof.Rows.boot_int ha (by decide) (by decide) he hpl
  intro F W L env st σ H x d r Q I h e k
  unfold fIntS at e
  split at e
  · rename_i u
    obtain ⟨c, e⟩ := ifG e
    obtain ⟨n, e1, e2⟩ := map2 e
    subst e2
    exact ⟨u, n, by rw [h.str], e1, c, k _ H W L (.refl W) I (.int _)⟩
  · cases e
/-- str(an int) -/
def fStrI : D → Option R
  | .int i => if i.natAbs.log2 < 1920 then fOkS (toString i : String) else none
  | _ => none
theorem se_strI (hg : Gl X "str") (hm : X.mg "str" = none) (ha : SE X ct x a) (he : starEach [x] X.env = (false, eval x X.env) :: starEach [] X.env := by rfl) (hpl : (backTo pos (starEach [] X.env)).any (·.1) = false := by rfl) :
    SE X ct (.Call (.Name "str" p) [x] [] pos) (e1 fStrI a) := by
  refine se_t1 call_str_int ?_ hg hm PyProof.Rows.boot_str ha (by decide) (by decide) he hpl
  intro F W L env st σ H x d r Q I h e k
  unfold fStrI at e
  split at e
  · rename_i i
    obtain ⟨c, e⟩ := ifG e
    have e4 := fOkS_eq e
    subst e4
    exact ⟨i, by rw [h.int], c, k _ H W L (.refl W) I (.str _)⟩
  · cases e
def fNinS : D → D → Option R
  | .str u, .str v => match u.cps.toList with
    | [c] => some (.sh (.bl (!decide (c ∈ v.cps.toList))))
    | _ => none
  | _, _ => none
theorem one_sign {u : Str} {c : Nat} (h : u.cps.toList = [c]) : u = ⟨#[c]⟩ := by
  obtain ⟨l⟩ := u
  have : l = #[c] := Array.toList_inj.mp h
  rw [this]
theorem os_ninS {K : PySem.W.Frag} : OpS K ct (fun x y H Q => ∃ (c : Nat) (z : Str), x = .str ⟨#[c]⟩ ∧ y = .str z ∧ Q (.bl (!decide (c ∈ z.cps.toList))) H) fNinS := by
  intro F W L env st σ H x y d1 d2 r Q I h1 h2 e k
  unfold fNinS at e
  split at e
  · split at e
    · rename_i u v _ c hc
      cases e
      have := one_sign hc
      subst this
      exact ⟨c, v, h1.str, h2.str, k _ H W L (.refl W) I (.bl _)⟩
    · cases e
  · cases e
theorem st_ninS (ha : SE X ct x a) (hb : SE X ct y b) (hm : behindInMarks .NotIn y = false := by rfl) : ST X ct (.Compare x [.NotIn] [y] pos) (e2 fNinS a b) := st_cmp op_notIn_sign os_ninS hm ha hb
end
/-! typed -/
section
variable {α β : Type} [En α] [En β]
variable {k k1 k2 : Kx} {env : List Kn.Slot} {st : Sto} {a b : Sem}
def splT (u v : Txt) : Option (List Txt) := if (v.x.length == 0) = false ∧ u.x.length + 2 ≤ sizeLine then okTs (PySem.Txt.split u.x v.x) else none
theorem o2_split : Op2 (α := Txt) (β := Txt) .ow fSplit splT := fun u v => by
  show (if _ then _ else none) = Option.map _ (if _ then _ else none)
  split <;> rfl
def jnT (u : Txt) (ys : List Txt) : Option Txt := if ((ys.map Txt.x).map (·.length)).sum + (ys.map Txt.x).length * u.x.length ≤ 16777216 then okT (PySem.Txt.join u.x (ys.map Txt.x)) else none
theorem o2_join : Op2 (α := Txt) (β := List Txt) .sh fJoin jnT := fun u ys => by
  show ((strsD (ys.map en)).bind fun ys => if (ys.map (·.length)).sum + ys.length * u.x.length ≤ 16777216 then fOkS (PySem.Txt.join u.x ys) else none) = Option.map _ (if _ then _ else none)
  rw [strsD_en]
  show (if _ then _ else none) = Option.map _ (if _ then _ else none)
  split <;> rfl
def intT (u : Txt) : Option Int := if u.x.length ≤ 640 then PySem.intText? u.x else none
theorem o1_intS : Op1 (α := Txt) .sh fIntS intT := fun u => by
  show (if _ then _ else none) = Option.map _ (if _ then _ else none)
  split <;> rfl
def strT (i : Int) : Option Txt := if i.natAbs.log2 < 1920 then okT (toString i : String) else none
theorem o1_strI : Op1 (α := Int) .sh fStrI strT := fun i => by
  show (if _ then _ else none) = Option.map _ (if _ then _ else none)
  split <;> rfl
def ninT (u v : Txt) : Option Bool := match u.x.cps.toList with
  | [c] => some (!decide (c ∈ v.x.cps.toList))
  | _ => none
theorem o2_ninS : Op2 (α := Txt) (β := Txt) .sh fNinS ninT := fun u v => by
  show (match u.x.cps.toList with | [c] => _ | _ => none) = Option.map _ (match u.x.cps.toList with | [c] => _ | _ => none)
  split <;> rfl
def lnT (u : Txt) : Option Int := if u.x.length ≤ sizeLine then some (u.x.length : Int) else none
theorem o1_lenS : Op1 (α := Txt) .sh fLen lnT := fun u => by
  show (if _ then _ else none) = Option.map _ (if _ then _ else none)
  split <;> rfl
theorem strOk_l {u : Str} : PyData.strOk u = true ↔ ∀ c ∈ u.cps.toList, c < 0x110000 := by
  unfold PyData.strOk
  rw [← Array.all_toList, List.all_eq_true]
  exact ⟨fun h c hc => of_decide_eq_true (h c hc), fun h c hc => decide_eq_true (h c hc)⟩
theorem cp_ok {u : Txt} {c : Nat} (h : c ∈ u.x.cps.toList) : PyData.strOk ⟨#[c]⟩ = true := by
  refine strOk_l.mpr fun d hd => ?_
  have e : d = c := by simpa using hd
  rw [e]; exact strOk_l.mp u.ok c h
/-- a sign of a text -/
def sgT (u : Txt) (i : Int) : Option Txt := if u.x.length ≤ sizeLine then (atI u.x.cps.toList i).bind fun c => okT ⟨#[c]⟩ else none
theorem atI_mem {α : Type} {l : List α} {i : Int} {c : α} (h : atI l i = some c) : c ∈ l := by
  unfold atI at h
  obtain ⟨j, _, h2⟩ := bind2 h
  exact List.mem_of_getElem? h2
theorem o2_sg : Op2 (α := Txt) (β := Int) .sh fIdx sgT := fun u i => by
  show (if u.x.length ≤ sizeLine then (atI u.x.cps.toList i).map fun c => R.sh (.str ⟨#[c]⟩) else none) = Option.map _ (if u.x.length ≤ sizeLine then (atI u.x.cps.toList i).bind fun c => okT ⟨#[c]⟩ else none)
  split
  · cases h : atI u.x.cps.toList i with
    | none => rfl
    | some c =>
      show _ = Option.map _ (okT ⟨#[c]⟩)
      rw [okT_ok (cp_ok (atI_mem h))]; rfl
  · rfl
def sigT (u : Txt) : List Txt := (u.x.cps.toList.attach.map fun c => ⟨⟨#[c.1]⟩, cp_ok c.2⟩)
theorem sigT_x (u : Txt) : (sigT u).map Txt.x = u.x.cps.toList.map fun c => ⟨#[c]⟩ := by
  unfold sigT
  rw [List.map_map]
  exact (List.attach_map_val (l := u.x.cps.toList) (f := fun c => (⟨#[c]⟩ : Str)))
theorem sigT_en (u : Txt) : (sigT u).map en = sgD u.x := by
  have : (sigT u).map en = ((sigT u).map Txt.x).map D.str := by rw [List.map_map]; rfl
  rw [this, sigT_x, List.map_map]; rfl
theorem ei_sigx {t : Option Txt} (ha : Ev k a env st t) : EvI (iSig a) env st (t.bind fun u => some (sigT u)) := by
  unfold Ev at ha; unfold EvI iSig
  rw [ha]
  cases t with
  | none => rfl
  | some u =>
    show (match (k.r (en u)).d with | .str z => some (sgD z, st) | _ => none) = _
    rw [Kx.rd]
    show some (sgD u.x, st) = _
    rw [← sigT_en]; rfl
end
/-! tuples of numbers, of any length -/
structure Tpl where
  l : List Int
  deriving DecidableEq
instance : En Tpl := ⟨fun t => .tup (t.l.map en)⟩
instance : EnH Tpl := ⟨fun t => by
  show D.nhL (t.l.map en) = true
  exact nhL_all fun d hd => by obtain ⟨a, _, rfl⟩ := List.mem_map.mp hd; exact EnH.nh a⟩
instance : EnE Tpl := ⟨1, fun r => Pn_tup fun d hd => by obtain ⟨a, _, rfl⟩ := List.mem_map.mp hd; exact EnE.pn a, fun a b h => by
  obtain ⟨a⟩ := a; obtain ⟨b⟩ := b
  have : a = b := map_en_inj (D.tup.inj h)
  rw [this]⟩
instance : EnN Tpl := ⟨fun _ h => nomatch h⟩
instance : EnS Tpl Int := ⟨Tpl.l, fun _ => rfl⟩
theorem o1_lenI : Op1 (α := Tpl) .sh fLen fun r => some (r.l.length : Int) := fun r => by
  show some (Kn.R.sh (.int ((r.l.map en).length : Nat))) = _
  rw [List.length_map]; rfl
theorem o1_isi_tupI : Op1 (α := Tpl) .sh (fIsi "tuple") fun _ => some true := fun i => x_isi_tt
theorem o1_tofs : Op1 (α := List Int) .sh fTofs fun l => some (⟨l⟩ : Tpl) := fun l => rfl
/-! zip of two tuples -/
def D.tupL : D → Option (List D)
  | .tup ds => some ds
  | _ => none
theorem rep_tupL {ct : CT} {K : PySem.W.Frag} {W : Wd} {v : V} {d : D} {ds : List D} (h : Rep K ct W v d) (e : d.tupL = some ds) : ∃ a vs, v = .ref a ∧ W.tp a = some vs ∧ RepL K ct W vs ds := by
  cases d <;> simp only [D.tupL, Option.some.injEq, reduceCtorEq] at e
  subst e
  cases h with
  | tup h q => exact ⟨_, _, rfl, h, q⟩
section
variable {X : Cx} {ct : CT} {pos p : Pos} {x y : Expr} {a b : Sem}
theorem wk_zipT {K : PySem.W.Frag} {W0 : Wd} {l m : Addr} {vs ws : List V} {ds es : List D} (h : W0.tp l = some vs) (r : RepL K ct W0 vs ds) (h' : W0.tp m = some ws) (r' : RepL K ct W0 ws es) : Wk K ct (RZ.ItzT K l m) W0 (zipD ds es) := by
  intro F W L env st σ H i le I
  have hs : SqT K H l vs := SqT.of (I.tp _ _ (le.2 _ _ h))
  have hs' : SqT K H m ws := SqT.of (I.tp _ _ (le.2 _ _ h'))
  refine ⟨fun d hd => ?_, fun hi => ⟨vs, ws, hs, hs', by rw [r.length, r'.length]; exact zipD_len _ _ _ hi⟩⟩
  obtain ⟨e, e', he, he', rfl⟩ := zipD_get ds es i d hd
  obtain ⟨v, hv, hr⟩ := r.get he
  obtain ⟨v', hv', hr'⟩ := r'.get he'
  refine ⟨⟨vs, ws, v, v', hs, hs', hv, hv'⟩, fun x H' ⟨T, w, w', e1, e2, e3, e4, e5⟩ => ?_⟩
  subst e1 e3
  have e6 := e4 vs hs
  rw [hv] at e6; cases e6
  have e7 := e5 ws hs'
  rw [hv'] at e7; cases e7
  exact tup_new I e2 (.cons (hr.mono le) (.cons (hr'.mono le) .nil))
def iZipTT (a b : Sem) : SemI := fun env st => (a env st).bind fun p => p.1.sh?.bind fun d => d.tupL.bind fun ds => (b env p.2).bind fun q => q.1.sh?.bind fun e => e.tupL.map fun es => (zipD ds es, q.2)
theorem si_zipTT {p tpos : Pos} {elts : List Expr} {kk : Nat} (hg : Gl X "zip") (hm : X.mg "zip" = none) (ha : SE X ct x a) (hb : SE X ct y b) (he : starEach [x, y] X.env = (false, eval x X.env) :: starEach [y] X.env := by rfl) (he2 : starEach [y] X.env = (false, eval y X.env) :: starEach [] X.env := by rfl)
    (hpl : (backTo pos (starEach [y] X.env)).any (·.1) = false := by rfl) : SI X ct (.Tuple elts kk tpos) (.Call (.Name "zip" p) [x, y] [] pos) (iZipTT a b) := by
  refine ⟨pi_mono (RZ.pi_zipA hg hm (pa_cons ha.pe (pa_cons hb.pe pa_nil he2) he) he hpl) fun σ H RR ⟨F, W, L, env, st, ds, st', I, e, k⟩ => ?_⟩
  obtain ⟨⟨r1, st1⟩, h1, e⟩ := bind2 e
  obtain ⟨d, h2, e⟩ := bind2 e
  obtain ⟨ds', h3, e⟩ := bind2 e
  obtain ⟨⟨r2, st2⟩, h4, e⟩ := bind2 e
  obtain ⟨d2, h5, e⟩ := bind2 e
  obtain ⟨es', h6, e⟩ := map2 e
  cases e
  refine ⟨F, W, L, env, st, r1, st1, I, h1, fun v H1 W1 L1 l1 I1 p1 => ?_⟩
  obtain ⟨W1', m1, J1, q1⟩ := I1.pin p1
  rw [R.sh_pin h2] at q1
  refine ⟨F, W1', L1, env, st1, r2, _, J1, h4, fun w H2 W2 L2 l2 I2 p2 => ?_⟩
  obtain ⟨W2', m2, J2, q2⟩ := I2.pin p2
  rw [R.sh_pin h5] at q2
  have q1' := q1.mono (l2.trans m2)
  obtain ⟨l, vs, rfl, g, q⟩ := rep_tupL q1' h3
  obtain ⟨l', vs', rfl, g', q'⟩ := rep_tupL q2 h6
  exact ⟨l, l', vs, vs', rfl, .inr ⟨SqT.of (J2.tp _ _ g), SqT.of (J2.tp _ _ g'), k _ _ _ _ (l1.trans (m1.trans (l2.trans m2))) J2 (wk_zipT g q g' q')⟩⟩
variable {k k1 k2 : Kx} {env : List Kn.Slot} {st : Sto}
theorem ei_zipTT {l m : Tpl} (ha : Ev k1 a env st (some l)) (hk : k1.ok = true) (hb : Ev k2 b env st (some m)) (hk2 : k2.ok = true) : EvI (iZipTT a b) env st (some (zipT l.l m.l)) := by
  unfold Ev at ha hb; unfold EvI iZipTT
  rw [ha]
  show ((k1.r (.tup (l.l.map en))).sh?.bind fun d => d.tupL.bind fun ds => (b env st).bind fun q => q.1.sh?.bind fun e => e.tupL.map fun es => (zipD ds es, q.2)) = _
  rw [Kx.sh? hk, hb]
  show ((k2.r (.tup (m.l.map en))).sh?.bind fun e => e.tupL.map fun es => (zipD (l.l.map en) es, st)) = _
  rw [Kx.sh? hk2]
  show some (zipD (l.l.map en) (m.l.map en), st) = _
  rw [zipD_en]; rfl
end
end Kn
namespace Law
open PySem L2 Kn Kn.En
/-! the defs as functions -/
noncomputable def b_law_cell_at : SemS :=
  sSeq (sIf (e2 fLt (eVar 1) (e1 fLen (eVar 0))) (sSeq (sRet (e2 fIdx (eVar 0) (eVar 1))) (sNil)) (sNil)) (sSeq (sRet (eC (.int 0))) (sNil))
noncomputable def m_law_cell_at : Fn := fun ds st => if ds.length = 2 then runB 2 b_law_cell_at ds st else none
noncomputable def b_law_whole : SemS :=
  sSeq (sRet (eAnd (e1 (fIsi "int") (eVar 0)) (eNot (e1 (fIsi "bool") (eVar 0))))) (sNil)
noncomputable def m_law_whole : Fn := fun ds st => if ds.length = 1 then runB 1 b_law_whole ds st else none
noncomputable def lb_law_numbers_1 : SemS :=
  sSeq (sIf (eOr (eNot (eCall 1 m_law_whole (aCons (eVar 2) (aNil)))) (e2 fNe (eVar 2) (eVar 3))) (sSeq (sRet (eC (.bl false))) (sNil)) (sNil)) (sKl [2, 3] (sNil))
noncomputable def b_law_numbers : SemS :=
  sSeq (sIf (e2 fNe (e1s (dH (List Int)) fLen (eVar 0)) (e1 fLen (eVar 1))) (sSeq (sRet (eC (.bl false))) (sNil)) (sNil)) (sSeq (sForS (iZipH (dH (List Int)) (eVar 0) (eVar 1)) (gTp [gNm 2, gNm 3]) lb_law_numbers_1) (sSeq (sRet (eC (.bl true))) (sNil)))
noncomputable def m_law_numbers : Fn := fun ds st => if ds.length = 2 then runB 4 b_law_numbers ds st else none
noncomputable def b_law_number : SemS :=
  sSeq (sSet 2 (e2 (fI gMod) (e2 fMul (e2 fAdd (e2 fAdd (e2 (fI gMod) (eVar 0) (e2 (fI gPow) (eC (.int 10)) (eC (.int 60)))) (e2 fMul (e2 fMul (eVar 1) (eVar 1)) (eC (.int 11)))) (e2 fMul (eC (.int 3)) (eVar 1))) (eC (.int 69621))) (eC (.int 2147483647)))) (sSeq (sSet 3 (e2 (fI gMod) (e2 fAdd (eVar 0) (e2 fMul (eVar 1) (eVar 2))) (e2 (fI gPow) (eC (.int 10)) (eC (.int 60))))) (sSeq (sIf (e2 fEq (e2 (fI gMod) (eVar 2) (eC (.int 3))) (eC (.int 0))) (sSeq (sRet (e2 (fI gMod) (eVar 3) (eC (.int 100)))) (sNil)) (sNil)) (sSeq (sIf (e2 fEq (e2 (fI gMod) (eVar 2) (eC (.int 3))) (eC (.int 1))) (sSeq (sRet (e2 (fI gMod) (eVar 3) (e2 (fI gPow) (eC (.int 10)) (eC (.int 7))))) (sNil)) (sNil)) (sSeq (sRet (eVar 3)) (sNil)))))
noncomputable def m_law_number : Fn := fun ds st => if ds.length = 2 then runB 4 b_law_number ds st else none
noncomputable def ce_law_part_1 : Sem :=
  e1 fStrI (eVar 2)
noncomputable def b_law_part : SemS :=
  sSeq (sRet (e2 fJoin (eC (.str " ")) (e2 fAdd (eLst (aCons (eVar 0) (aNil))) (eLc (iSeq (eVar 1)) [2] (gNm 2) eYes ce_law_part_1)))) (sNil)
noncomputable def m_law_part : Fn := fun ds st => if ds.length = 2 then runB 3 b_law_part ds st else none
noncomputable def ce_law_part_T_1 : Sem :=
  e1 fStrI (eVar 2)
noncomputable def b_law_part_T : SemS :=
  sSeq (sRet (e2 fJoin (eC (.str " ")) (e2 fAdd (eLst (aCons (eVar 0) (aNil))) (eLc (iSeq (eVar 1)) [2] (gNm 2) eYes ce_law_part_T_1)))) (sNil)
noncomputable def m_law_part_T : Fn := fun ds st => if ds.length = 2 then runB 3 b_law_part_T ds st else none
noncomputable def lb_read_number_1 : SemS :=
  sSeq (sIf (e2 fNinS (eVar 1) ((eC (.str "0123456789")))) (sSeq (sNever) (sNil)) (sNil)) (sKl [1] (sNil))
noncomputable def b_read_number : SemS :=
  sSeq (sIf (eNot (eChain fLe fLe (eC (.int 1)) (e1 fLen (eVar 0)) (eC (.int 60)))) (sSeq (sNever) (sNil)) (sNil)) (sSeq (sFor (iSig (eVar 0)) (gNm 1) lb_read_number_1) (sSeq (sIf (eAnd (e2 fEq (e2 fIdx (eVar 0) (eC (.int 0))) (eC (.str "0"))) (e2 fNe (eVar 0) (eC (.str "0")))) (sSeq (sNever) (sNil)) (sNil)) (sSeq (sRet (e1 fIntS (eVar 0))) (sNil))))
noncomputable def m_read_number : Fn := fun ds st => if ds.length = 1 then runB 2 b_read_number ds st else none
noncomputable def ce_read_town_1 : Sem :=
  eCall 1 m_read_number (aCons (eVar 8) (aNil))
noncomputable def ce_read_town_2 : Sem :=
  eCall 1 m_read_number (aCons (eVar 8) (aNil))
noncomputable def lb_read_town_3 : SemS :=
  sSeq (sSet 2 (e2 fSplit (eVar 6) (eC (.str " ")))) (sSeq (sSet 7 (eLc (iSeq (eSlc (eVar 2) (pSome (eC (.int 1))) (pNo))) [8] (gNm 8) eYes ce_read_town_2)) (sSeq (sIf (eAnd (e2 fEq (e2 fIdx (eVar 2) (eC (.int 0))) (eC (.str "rope"))) (eAnd (e2 fEq (e1 fLen (eVar 7)) (eC (.int 5))) (e2s (dH (List Tpl)) dI fEq (eVar 5) (eLst (aNil))))) (sSeq (sMutH (dH (List Tpl)) (eVar 4) fApp (aCons (e1 fTofs (eVar 7)) (aNil))) (sNil)) (sSeq (sIf (eAnd (e2 fEq (e2 fIdx (eVar 2) (eC (.int 0))) (eC (.str "caller"))) (e2 fEq (e1 fLen (eVar 7)) (eC (.int 2)))) (sSeq (sMutH (dH (List Tpl)) (eVar 5) fApp (aCons (e1 fTofs (eVar 7)) (aNil))) (sNil)) (sSeq (sNever) (sNil))) (sNil))) (sKl [2, 6, 7] (sNil))))
noncomputable def b_read_town : SemS :=
  sSeq (sSet 1 (e2 fSplit (eVar 0) (eC (.str "; ")))) (sSeq (sSet 2 (e2 fSplit (e2 fIdx (eVar 1) (eC (.int 0))) (eC (.str " ")))) (sSeq (sIf (eOr (e2 fNe (e2 fIdx (eVar 2) (eC (.int 0))) (eC (.str "names"))) (e2 fEq (e1 fLen (eVar 2)) (eC (.int 1)))) (sSeq (sNever) (sNil)) (sNil)) (sSeq (sSet 3 (eNew (eLc (iSeq (eSlc (eVar 2) (pSome (eC (.int 1))) (pNo))) [8] (gNm 8) eYes ce_read_town_1))) (sSeq (sSet 4 (eNew (eLst (aNil)))) (sSeq (sSet 5 (eNew (eLst (aNil)))) (sKl [2] (sSeq (sFor (iSeq (eSlc (eVar 1) (pSome (eC (.int 1))) (pNo))) (gNm 6) lb_read_town_3) (sSeq (sRet (eTup (aCons (eVar 3) (aCons (eVar 4) (aCons (eVar 5) (aNil)))))) (sNil)))))))))
noncomputable def m_read_town : Fn := fun ds st => if ds.length = 1 then runB 9 b_read_town ds st else none
noncomputable def lb_law_numbers_T_1 : SemS :=
  sSeq (sIf (eOr (eNot (eCall 1 m_law_whole (aCons (eVar 2) (aNil)))) (e2 fNe (eVar 2) (eVar 3))) (sSeq (sRet (eC (.bl false))) (sNil)) (sNil)) (sKl [2, 3] (sNil))
noncomputable def b_law_numbers_T : SemS :=
  sSeq (sIf (e2 fNe (e1 fLen (eVar 0)) (e1 fLen (eVar 1))) (sSeq (sRet (eC (.bl false))) (sNil)) (sNil)) (sSeq (sFor (iZipTT (eVar 0) (eVar 1)) (gTp [gNm 2, gNm 3]) lb_law_numbers_T_1) (sSeq (sRet (eC (.bl true))) (sNil)))
noncomputable def m_law_numbers_T : Fn := fun ds st => if ds.length = 2 then runB 4 b_law_numbers_T ds st else none
noncomputable def lb_law_tuples_1 : SemS :=
  sSeq (sIf (eOr (eNot (e1 (fIsi "tuple") (eVar 2))) (eNot (eCall 2 m_law_numbers_T (aCons (eVar 2) (aCons (eVar 3) (aNil)))))) (sSeq (sRet (eC (.bl false))) (sNil)) (sNil)) (sKl [2, 3] (sNil))
noncomputable def b_law_tuples : SemS :=
  sSeq (sIf (eOr (eNot (e1s (dH (List Tpl)) (fIsi "list") (eVar 0))) (e2 fNe (e1s (dH (List Tpl)) fLen (eVar 0)) (e1 fLen (eVar 1)))) (sSeq (sRet (eC (.bl false))) (sNil)) (sNil)) (sSeq (sForS (iZipH (dH (List Tpl)) (eVar 0) (eVar 1)) (gTp [gNm 2, gNm 3]) lb_law_tuples_1) (sSeq (sRet (eC (.bl true))) (sNil)))
noncomputable def m_law_tuples : Fn := fun ds st => if ds.length = 2 then runB 4 b_law_tuples ds st else none
noncomputable def b_law_read : SemS :=
  sSeq (sSet 4 (eCall 1 m_read_town (aCons (eVar 0) (aNil)))) (sSeq (sIf (eOr (eNot (e1 (fIsi "tuple") (eVar 4))) (eOr (e2 fNe (e1 fLen (eVar 4)) (eC (.int 3))) (eNot (e1s (dH (List Int)) (fIsi "list") (e2 fIdx (eVar 4) (eC (.int 0))))))) (sSeq (sRet (eC (.bl false))) (sNil)) (sNil)) (sSeq (sIf (eOr (eNot (eCall 2 m_law_numbers (aCons (e2 fIdx (eVar 4) (eC (.int 0))) (aCons (eVar 1) (aNil))))) (eOr (eNot (eCall 2 m_law_tuples (aCons (e2 fIdx (eVar 4) (eC (.int 1))) (aCons (eVar 2) (aNil))))) (eNot (eCall 2 m_law_tuples (aCons (e2 fIdx (eVar 4) (eC (.int 2))) (aCons (eVar 3) (aNil))))))) (sSeq (sRet (eC (.bl false))) (sNil)) (sNil)) (sSeq (sMutH (dH (List Int)) (e2 fIdx (eVar 4) (eC (.int 0))) fClr aNil) (sSeq (sMutH (dH (List Tpl)) (e2 fIdx (eVar 4) (eC (.int 1))) fClr aNil) (sSeq (sMutH (dH (List Tpl)) (e2 fIdx (eVar 4) (eC (.int 2))) fClr aNil) (sSeq (sRet (eC (.bl true))) (sNil)))))))
noncomputable def m_law_read : Fn := fun ds st => if ds.length = 4 then runB 5 b_law_read ds st else none
noncomputable def lb_law_1 : SemS :=
  sSeq (sMut 2 fApp (aCons (eCall 2 m_law_number (aCons (eCall 2 m_law_cell_at (aCons (eVar 0) (aCons (eVar 3) (aNil)))) (aCons (e2 fAdd (eVar 3) (eC (.int 1))) (aNil)))) (aNil))) (sKl [3] (sNil))
noncomputable def ce_law_2 : Sem :=
  eCall 2 m_law_number (aCons (e2 (fI gDiv) (eVar 6) (eC (.int 3))) (aCons (eVar 3) (aNil)))
noncomputable def lb_law_3 : SemS :=
  sSeq (sIf (e2 fEq (e2 (fI gMod) (eVar 6) (eC (.int 3))) (eC (.int 0))) (sSeq (sMut 5 fApp (aCons (eTup (aCons (eCall 2 m_law_number (aCons (e2 (fI gDiv) (eVar 6) (eC (.int 3))) (aCons (eC (.int 1)) (aNil)))) (aCons (eCall 2 m_law_number (aCons (e2 (fI gDiv) (eVar 6) (eC (.int 3))) (aCons (eC (.int 2)) (aNil)))) (aNil)))) (aNil))) (sNil)) (sSeq (sMut 4 fApp (aCons (e1 fTofs (eLc (iRng1' (eC (.int 5))) [3] (gNm 3) eYes ce_law_2)) (aNil))) (sNil))) (sKl [6] (sNil))
noncomputable def ce_law_4 : Sem :=
  eCall 2 m_law_part_T (aCons (eC (.str "rope")) (aCons (eVar 9) (aNil)))
noncomputable def ce_law_5 : Sem :=
  eCall 2 m_law_part_T (aCons (eC (.str "caller")) (aCons (eVar 10) (aNil)))
noncomputable def ce_law_6 : Sem :=
  eCall 1 m_read_number (aCons (e1 fStrI (eVar 11)) (aNil))
noncomputable def b_law : SemS :=
  sSeq (sSet 1 (eCall 2 m_law_cell_at (aCons (eVar 0) (aCons (eC (.int 0)) (aNil))))) (sSeq (sSet 2 (eLst (aCons (eCall 2 m_law_number (aCons (e2 (fI gDiv) (eVar 1) (eC (.int 12))) (aCons (eC (.int 0)) (aNil)))) (aNil)))) (sSeq (sFor (iRng1' (e2 (fI gMod) (eVar 1) (eC (.int 12)))) (gNm 3) lb_law_1) (sSeq (sSet 4 (eLst (aNil))) (sSeq (sSet 5 (eLst (aNil))) (sSeq (sFor (iSeq (eSlc (eVar 0) (pSome (eC (.int 1))) (pSome (eC (.int 25))))) (gNm 6) lb_law_3) (sFrz 2 (sFrz 4 (sSeq (sSet 7 (e2 fAdd (eLst (aCons (eCall 2 m_law_part (aCons (eC (.str "names")) (aCons (eVar 2) (aNil)))) (aNil))) (eLc (iSeq (eVar 4)) [9] (gNm 9) eYes ce_law_4))) (sFrz 5 (sSeq (sSet 8 (e2 fJoin (eC (.str "; ")) (e2 fAdd (eVar 7) (eLc (iSeq (eVar 5)) [10] (gNm 10) eYes ce_law_5)))) (sSeq (sIf (eOr (eNot (eCall 4 m_law_read (aCons (eVar 8) (aCons (eVar 2) (aCons (eVar 4) (aCons (eVar 5) (aNil))))))) (eNot (eCall 4 m_law_read (aCons (eVar 8) (aCons (eVar 2) (aCons (eVar 4) (aCons (eVar 5) (aNil)))))))) (sSeq (sRet (eC (.bl false))) (sNil)) (sNil)) (sSeq (sRet (eCall 2 m_law_numbers (aCons (eNew (eLc (iSeq (eVar 2)) [11] (gNm 11) eYes ce_law_6)) (aCons (eVar 2) (aNil))))) (sNil)))))))))))))
noncomputable def m_law : Fn := fun ds st => if ds.length = 1 then runB 12 b_law ds st else none
def top (i : Nat) : Stmt := PySem.Challenge.pw_knotless_k37_town_read.main.body.getD i (.Pass ⟨0, 0, 0, 0⟩)
abbrev s_law_cell_at : Stmt := top 8
abbrev s_law_whole : Stmt := top 9
abbrev s_law_numbers : Stmt := top 11
abbrev s_law_number : Stmt := top 10
abbrev s_law_part : Stmt := top 14
abbrev s_read_number : Stmt := top 5
abbrev s_read_town : Stmt := top 6
abbrev s_law_tuples : Stmt := top 12
abbrev s_law_read : Stmt := top 13
abbrev s_law : Stmt := top 15
structure Zs (mg : Str → Option Value) : Prop where
  z_bool : mg "bool" = none
  z_int : mg "int" = none
  z_isinstance : mg "isinstance" = none
  z_len : mg "len" = none
  z_list : mg "list" = none
  z_range : mg "range" = none
  z_str : mg "str" = none
  z_tuple : mg "tuple" = none
  z_zip : mg "zip" = none
section
variable {P : Program} {w : World} {K : PySem.W.Frag} {mg : Str → Option Value} {base : Heap} {ct : CT} {t_FIGURES : Tok}
abbrev nm_law_cell_at : List Str := ["_law_script", "_law_k"]
theorem sc_law_cell_at : FnScope nm_law_cell_at ["_law_script", "_law_k"] (defScope s_law_cell_at) := ⟨rfl, rfl, rfl, by decide +kernel, rfl, by decide +kernel, by decide +kernel⟩
theorem ok_law_cell_at {f : Addr} {fd : FuncData} (F : Fun K "_law_cell_at" "_law_cell_at" s_law_cell_at f fd) (Z : Zs mg)  : FnOk P w K mg base CX0 1 f fd ["_law_script", "_law_k"] (spD K ct 2 m_law_cell_at) := by
  refine (fn_ok (b := b_law_cell_at) F sc_law_cell_at fun cdv A outer s H E hr => ?_).imp (spD_imp fun ds st r st' hl e => ?_)
  · have S := sc_law_cell_at
    exact sb_cons (ss_if (st_lt (se_var 1) (se_len rfl Z.z_len (se_var 0))) (sb_cons (ss_ret (se_idx hr (se_var 0) (se_var 1))) (sb_nil)) (sb_nil)) (sb_cons (ss_ret (se_int)) (sb_nil))
  · unfold m_law_cell_at at e
    rw [if_pos hl] at e
    exact e
abbrev nm_law_whole : List Str := ["_law_found"]
theorem sc_law_whole : FnScope nm_law_whole ["_law_found"] (defScope s_law_whole) := ⟨rfl, rfl, rfl, by decide +kernel, rfl, by decide +kernel, by decide +kernel⟩
theorem ok_law_whole {f : Addr} {fd : FuncData} (F : Fun K "_law_whole" "_law_whole" s_law_whole f fd) (Z : Zs mg)  : FnOk P w K mg base CX0 1 f fd ["_law_found"] (spD K ct 1 m_law_whole) := by
  refine (fn_ok (b := b_law_whole) F sc_law_whole fun cdv A outer s H E hr => ?_).imp (spD_imp fun ds st r st' hl e => ?_)
  · have S := sc_law_whole
    exact sb_cons (ss_ret (se_and (se_isi rfl Z.z_isinstance rfl Z.z_int PyProof.Rows.boot_int (se_var 0)) (se_one (se_not (se_isi rfl Z.z_isinstance rfl Z.z_bool PyProof.Rows.boot_bool (se_var 0)))))) (sb_nil)
  · unfold m_law_whole at e
    rw [if_pos hl] at e
    exact e
abbrev nm_law_numbers : List Str := ["_law_found", "_law_ought", "_law_one", "_law_other"]
theorem sc_law_numbers : FnScope nm_law_numbers ["_law_found", "_law_ought"] (defScope s_law_numbers) := ⟨rfl, rfl, rfl, by decide +kernel, rfl, by decide +kernel, by decide +kernel⟩
theorem ok_law_numbers {f : Addr} {fd : FuncData} (F : Fun K "_law_numbers" "_law_numbers" s_law_numbers f fd) (Z : Zs mg) (c_law_whole : Cal P w K mg base ct "_law_whole" 1 ["_law_found"] m_law_whole) : FnOk P w K mg base CX0 2 f fd ["_law_found", "_law_ought"] (spD K ct 2 m_law_numbers) := by
  refine (fn_ok (b := b_law_numbers) F sc_law_numbers fun cdv A outer s H E hr => ?_).imp (spD_imp fun ds st r st' hl e => ?_)
  · have S := sc_law_numbers
    exact sb_cons (ss_if (st_ne hr (se_lens (dH_ok (List Int)) rfl Z.z_len (se_var 0)) (se_len rfl Z.z_len (se_var 1))) (sb_cons (ss_ret (se_bl)) (sb_nil)) (sb_nil)) (sb_cons (ss_forS PassesOwn.never rfl (si_zipH (dH_h (List Int)) rfl Z.z_zip (se_var 0) (se_var 1)) (sg_tup rfl (sgs_cons (sg_nm 2 S.nd) (sgs_cons (sg_nm 3 S.nd) (sgs_nil)))) (sb_cons (ss_if (SW.st (sw_or (st_not (st_val (sc_call 1 c_law_whole (hr.mono (by decide)) (sa_cons (se_var 2) (sa_nil))))) (sw_or1 (st_ne hr (se_var 2) (se_var 3))))) (sb_cons (ss_ret (se_bl)) (sb_nil)) (sb_nil)) (sb_kl [2, 3] (sb_nil)))) (sb_cons (ss_ret (se_bl)) (sb_nil)))
  · unfold m_law_numbers at e
    rw [if_pos hl] at e
    exact e
abbrev nm_law_number : List Str := ["_law_cell", "_law_k", "_law_mixed", "_law_number_here"]
theorem sc_law_number : FnScope nm_law_number ["_law_cell", "_law_k"] (defScope s_law_number) := ⟨rfl, rfl, rfl, by decide +kernel, rfl, by decide +kernel, by decide +kernel⟩
theorem ok_law_number {f : Addr} {fd : FuncData} (F : Fun K "_law_number" "_law_number" s_law_number f fd) (Z : Zs mg)  : FnOk P w K mg base CX0 1 f fd ["_law_cell", "_law_k"] (spD K ct 2 m_law_number) := by
  refine (fn_ok (b := b_law_number) F sc_law_number fun cdv A outer s H E hr => ?_).imp (spD_imp fun ds st r st' hl e => ?_)
  · have S := sc_law_number
    exact sb_cons (ss_set 2 S.nd (se_mod (se_mul (se_add (se_add (se_mod (se_var 0) (se_pow (se_int) (se_int))) (se_mul (se_mul (se_var 1) (se_var 1)) (se_int))) (se_mul (se_int) (se_var 1))) (se_int)) (se_int))) (sb_cons (ss_set 3 S.nd (se_mod (se_add (se_var 0) (se_mul (se_var 1) (se_var 2))) (se_pow (se_int) (se_int)))) (sb_cons (ss_if (st_eq hr (se_mod (se_var 2) (se_int)) (se_int)) (sb_cons (ss_ret (se_mod (se_var 3) (se_int))) (sb_nil)) (sb_nil)) (sb_cons (ss_if (st_eq hr (se_mod (se_var 2) (se_int)) (se_int)) (sb_cons (ss_ret (se_mod (se_var 3) (se_pow (se_int) (se_int)))) (sb_nil)) (sb_nil)) (sb_cons (ss_ret (se_var 3)) (sb_nil)))))
  · unfold m_law_number at e
    rw [if_pos hl] at e
    exact e
abbrev nm_law_part : List Str := ["_law_word", "_law_numbers_here", "_law_number_here"]
theorem sc_law_part : FnScope nm_law_part ["_law_word", "_law_numbers_here"] (defScope s_law_part) := ⟨rfl, rfl, rfl, by decide +kernel, rfl, by decide +kernel, by decide +kernel⟩
theorem ok_law_part {f : Addr} {fd : FuncData} (F : Fun K "_law_part" "_law_part" s_law_part f fd) (Z : Zs mg)  : FnOk P w K mg base CX0 1 f fd ["_law_word", "_law_numbers_here"] (spD K ct 2 m_law_part) := by
  refine (fn_ok (b := b_law_part) F sc_law_part fun cdv A outer s H E hr => ?_).imp (spD_imp fun ds st r st' hl e => ?_)
  · have S := sc_law_part
    exact sb_cons (ss_ret (se_join (se_str) (se_add (se_lst (sa_cons (se_var 0) (sa_nil))) (se_lc (own := [("_law_number_here", 2)]) rfl S.nd (si_seq (se_var 1)) (blkOk_by (N := nm_law_part) (sc := defScope s_law_part) (by decide +kernel)) (fun _ _ _ _ _ => sg_nm 2 S.nd) (fun _ _ _ _ _ => sts_nil) (fun _ _ _ _ _ => se_strI rfl Z.z_str (se_var 2)))))) (sb_nil)
  · unfold m_law_part at e
    rw [if_pos hl] at e
    exact e
theorem ok_law_part_T {f : Addr} {fd : FuncData} (F : Fun K "_law_part" "_law_part" s_law_part f fd) (Z : Zs mg)  : FnOk P w K mg base CX0 1 f fd ["_law_word", "_law_numbers_here"] (spD K ct 2 m_law_part_T) := by
  refine (fn_ok (b := b_law_part_T) F sc_law_part fun cdv A outer s H E hr => ?_).imp (spD_imp fun ds st r st' hl e => ?_)
  · have S := sc_law_part
    exact sb_cons (ss_ret (se_join (se_str) (se_add (se_lst (sa_cons (se_var 0) (sa_nil))) (se_lc (own := [("_law_number_here", 2)]) rfl S.nd (si_seq (se_var 1)) (blkOk_by (N := nm_law_part) (sc := defScope s_law_part) (by decide +kernel)) (fun _ _ _ _ _ => sg_nm 2 S.nd) (fun _ _ _ _ _ => sts_nil) (fun _ _ _ _ _ => se_strI rfl Z.z_str (se_var 2)))))) (sb_nil)
  · unfold m_law_part_T at e
    rw [if_pos hl] at e
    exact e
abbrev nm_read_number : List Str := ["word", "sign"]
theorem sc_read_number : FnScope nm_read_number ["word"] (defScope s_read_number) := ⟨rfl, rfl, rfl, by decide +kernel, rfl, by decide +kernel, by decide +kernel⟩
theorem ok_read_number {f : Addr} {fd : FuncData} (F : Fun K "read_number" "read_number" s_read_number f fd) (Z : Zs mg) (g_FIGURES : mg "FIGURES" = some (.str "0123456789" t_FIGURES)) : FnOk P w K mg base CX0 1 f fd ["word"] (spD K ct 1 m_read_number) := by
  refine (fn_ok (b := b_read_number) F sc_read_number fun cdv A outer s H E hr => ?_).imp (spD_imp fun ds st r st' hl e => ?_)
  · have S := sc_read_number
    exact sb_cons (ss_if (st_not (st_chLL (se_int) (se_len rfl Z.z_len (se_var 0)) (se_int))) (sb_cons (ss_never) (sb_nil)) (sb_nil)) (sb_cons (ss_for PassesOwn.never rfl (si_sig (se_var 0)) (sg_nm 1 S.nd) (sb_cons (ss_if (st_ninS (se_var 1) ((se_const (pe_glob (v := .str "0123456789") rfl g_FIGURES ⟨_, rfl⟩) fun _ => .str _))) (sb_cons (ss_never) (sb_nil)) (sb_nil)) (sb_kl [1] (sb_nil)))) (sb_cons (ss_if (SW.st (sw_and (st_eq hr (se_idx hr (se_var 0) (se_int)) (se_str)) (sw_and1 (st_ne hr (se_var 0) (se_str))))) (sb_cons (ss_never) (sb_nil)) (sb_nil)) (sb_cons (ss_ret (se_intS rfl Z.z_int (se_var 0))) (sb_nil))))
  · unfold m_read_number at e
    rw [if_pos hl] at e
    exact e
abbrev nm_read_town : List Str := ["text", "told", "words", "names", "ropes", "callers", "part", "numbers", "word"]
theorem sc_read_town : FnScope nm_read_town ["text"] (defScope s_read_town) := ⟨rfl, rfl, rfl, by decide +kernel, rfl, by decide +kernel, by decide +kernel⟩
theorem ok_read_town {f : Addr} {fd : FuncData} (F : Fun K "read_town" "read_town" s_read_town f fd) (Z : Zs mg) (c_read_number : Cal P w K mg base ct "read_number" 1 ["word"] m_read_number) : FnOk P w K mg base CX0 2 f fd ["text"] (spD K ct 1 m_read_town) := by
  refine (fn_ok (b := b_read_town) F sc_read_town fun cdv A outer s H E hr => ?_).imp (spD_imp fun ds st r st' hl e => ?_)
  · have S := sc_read_town
    exact sb_cons (ss_set 1 S.nd (se_split (se_var 0) (se_str))) (sb_cons (ss_set 2 S.nd (se_split (se_idx hr (se_var 1) (se_int)) (se_str))) (sb_cons (ss_if (SW.st (sw_or (st_ne hr (se_idx hr (se_var 2) (se_int)) (se_str)) (sw_or1 (st_eq hr (se_len rfl Z.z_len (se_var 2)) (se_int))))) (sb_cons (ss_never) (sb_nil)) (sb_nil)) (sb_cons (ss_setLcN 3 (own := [("word", 8)]) rfl S.nd (si_seq (se_slc (se_var 2) (sp_some (se_int)) (sp_no))) (blkOk_by (N := nm_read_town) (sc := defScope s_read_town) (by decide +kernel)) (fun _ _ _ _ _ => sg_nm 8 S.nd) (fun _ _ _ _ _ => sts_nil) (fun _ _ _ _ _ => sc_call 1 c_read_number (hr.mono (by decide)) (sa_cons (se_var 8) (sa_nil)))) (sb_cons (ss_set 4 S.nd (se_new (se_lst (sa_nil)))) (sb_cons (ss_set 5 S.nd (se_new (se_lst (sa_nil)))) (sb_kl [2] (sb_cons (ss_for PassesOwn.never rfl (si_seq (se_slc (se_var 1) (sp_some (se_int)) (sp_no))) (sg_nm 6 S.nd) (sb_cons (ss_set 2 S.nd (se_split (se_var 6) (se_str))) (sb_cons (ss_setLc 7 (own := [("word", 8)]) rfl S.nd (si_seq (se_slc (se_var 2) (sp_some (se_int)) (sp_no))) (blkOk_by (N := nm_read_town) (sc := defScope s_read_town) (by decide +kernel)) (fun _ _ _ _ _ => sg_nm 8 S.nd) (fun _ _ _ _ _ => sts_nil) (fun _ _ _ _ _ => sc_call 1 c_read_number (hr.mono (by decide)) (sa_cons (se_var 8) (sa_nil)))) (sb_cons (ss_if (SW.st (sw_and (st_eq hr (se_idx hr (se_var 2) (se_int)) (se_str)) (sw_and (st_eq hr (se_len rfl Z.z_len (se_var 7)) (se_int)) (sw_and1 (st_eqs (dH_ok (List Tpl)) dI_ok hr (se_var 5) (se_lst (sa_nil))))))) (sb_cons (ss_mutH1 (dH_h (List Tpl)) PySem.F.slot_list_append PySem.F.type_list_append mt_append ms_app (se_var 4) (sa_cons (se_tuple rfl Z.z_tuple (se_var 7)) (sa_nil))) (sb_nil)) (sb_cons (ss_if (SW.st (sw_and (st_eq hr (se_idx hr (se_var 2) (se_int)) (se_str)) (sw_and1 (st_eq hr (se_len rfl Z.z_len (se_var 7)) (se_int))))) (sb_cons (ss_mutH1 (dH_h (List Tpl)) PySem.F.slot_list_append PySem.F.type_list_append mt_append ms_app (se_var 5) (sa_cons (se_tuple rfl Z.z_tuple (se_var 7)) (sa_nil))) (sb_nil)) (sb_cons (ss_never) (sb_nil))) (sb_nil))) (sb_kl [2, 6, 7] (sb_nil)))))) (sb_cons (ss_ret (se_tup (sa_cons (se_var 3) (sa_cons (se_var 4) (sa_cons (se_var 5) (sa_nil)))))) (sb_nil)))))))))
  · unfold m_read_town at e
    rw [if_pos hl] at e
    exact e
theorem ok_law_numbers_T {f : Addr} {fd : FuncData} (F : Fun K "_law_numbers" "_law_numbers" s_law_numbers f fd) (Z : Zs mg) (c_law_whole : Cal P w K mg base ct "_law_whole" 1 ["_law_found"] m_law_whole) : FnOk P w K mg base CX0 2 f fd ["_law_found", "_law_ought"] (spD K ct 2 m_law_numbers_T) := by
  refine (fn_ok (b := b_law_numbers_T) F sc_law_numbers fun cdv A outer s H E hr => ?_).imp (spD_imp fun ds st r st' hl e => ?_)
  · have S := sc_law_numbers
    exact sb_cons (ss_if (st_ne hr (se_len rfl Z.z_len (se_var 0)) (se_len rfl Z.z_len (se_var 1))) (sb_cons (ss_ret (se_bl)) (sb_nil)) (sb_nil)) (sb_cons (ss_for PassesOwn.never rfl (si_zipTT rfl Z.z_zip (se_var 0) (se_var 1)) (sg_tup rfl (sgs_cons (sg_nm 2 S.nd) (sgs_cons (sg_nm 3 S.nd) (sgs_nil)))) (sb_cons (ss_if (SW.st (sw_or (st_not (st_val (sc_call 1 c_law_whole (hr.mono (by decide)) (sa_cons (se_var 2) (sa_nil))))) (sw_or1 (st_ne hr (se_var 2) (se_var 3))))) (sb_cons (ss_ret (se_bl)) (sb_nil)) (sb_nil)) (sb_kl [2, 3] (sb_nil)))) (sb_cons (ss_ret (se_bl)) (sb_nil)))
  · unfold m_law_numbers_T at e
    rw [if_pos hl] at e
    exact e
abbrev nm_law_tuples : List Str := ["_law_found", "_law_ought", "_law_one", "_law_other"]
theorem sc_law_tuples : FnScope nm_law_tuples ["_law_found", "_law_ought"] (defScope s_law_tuples) := ⟨rfl, rfl, rfl, by decide +kernel, rfl, by decide +kernel, by decide +kernel⟩
theorem ok_law_tuples {f : Addr} {fd : FuncData} (F : Fun K "_law_tuples" "_law_tuples" s_law_tuples f fd) (Z : Zs mg) (c_law_numbers_T : Cal P w K mg base ct "_law_numbers" 2 ["_law_found", "_law_ought"] m_law_numbers_T) : FnOk P w K mg base CX0 3 f fd ["_law_found", "_law_ought"] (spD K ct 2 m_law_tuples) := by
  refine (fn_ok (b := b_law_tuples) F sc_law_tuples fun cdv A outer s H E hr => ?_).imp (spD_imp fun ds st r st' hl e => ?_)
  · have S := sc_law_tuples
    exact sb_cons (ss_if (SW.st (sw_or (st_not (st_val (se_isis (dH_ok (List Tpl)) rfl Z.z_isinstance rfl Z.z_list PyProof.Rows.boot_list (se_var 0)))) (sw_or1 (st_ne hr (se_lens (dH_ok (List Tpl)) rfl Z.z_len (se_var 0)) (se_len rfl Z.z_len (se_var 1)))))) (sb_cons (ss_ret (se_bl)) (sb_nil)) (sb_nil)) (sb_cons (ss_forS PassesOwn.never rfl (si_zipH (dH_h (List Tpl)) rfl Z.z_zip (se_var 0) (se_var 1)) (sg_tup rfl (sgs_cons (sg_nm 2 S.nd) (sgs_cons (sg_nm 3 S.nd) (sgs_nil)))) (sb_cons (ss_if (SW.st (sw_or (st_not (st_val (se_isi rfl Z.z_isinstance rfl Z.z_tuple PyProof.Rows.boot_tuple (se_var 2)))) (sw_or1 (st_not (st_val (sc_call 2 c_law_numbers_T (hr.mono (by decide)) (sa_cons (se_var 2) (sa_cons (se_var 3) (sa_nil))))))))) (sb_cons (ss_ret (se_bl)) (sb_nil)) (sb_nil)) (sb_kl [2, 3] (sb_nil)))) (sb_cons (ss_ret (se_bl)) (sb_nil)))
  · unfold m_law_tuples at e
    rw [if_pos hl] at e
    exact e
abbrev nm_law_read : List Str := ["_law_text", "_law_names", "_law_ropes", "_law_callers", "_law_found"]
theorem sc_law_read : FnScope nm_law_read ["_law_text", "_law_names", "_law_ropes", "_law_callers"] (defScope s_law_read) := ⟨rfl, rfl, rfl, by decide +kernel, rfl, by decide +kernel, by decide +kernel⟩
theorem ok_law_read {f : Addr} {fd : FuncData} (F : Fun K "_law_read" "_law_read" s_law_read f fd) (Z : Zs mg) (c_read_town : Cal P w K mg base ct "read_town" 2 ["text"] m_read_town) (c_law_numbers : Cal P w K mg base ct "_law_numbers" 2 ["_law_found", "_law_ought"] m_law_numbers) (c_law_tuples : Cal P w K mg base ct "_law_tuples" 3 ["_law_found", "_law_ought"] m_law_tuples) : FnOk P w K mg base CX0 4 f fd ["_law_text", "_law_names", "_law_ropes", "_law_callers"] (spD K ct 4 m_law_read) := by
  refine (fn_ok (b := b_law_read) F sc_law_read fun cdv A outer s H E hr => ?_).imp (spD_imp fun ds st r st' hl e => ?_)
  · have S := sc_law_read
    exact sb_cons (ss_set 4 S.nd (sc_call 1 c_read_town (hr.mono (by decide)) (sa_cons (se_var 0) (sa_nil)))) (sb_cons (ss_if (SW.st (sw_or (st_not (st_val (se_isi rfl Z.z_isinstance rfl Z.z_tuple PyProof.Rows.boot_tuple (se_var 4)))) (sw_or (st_ne hr (se_len rfl Z.z_len (se_var 4)) (se_int)) (sw_or1 (st_not (st_val (se_isis (dH_ok (List Int)) rfl Z.z_isinstance rfl Z.z_list PyProof.Rows.boot_list (se_idx hr (se_var 4) (se_int))))))))) (sb_cons (ss_ret (se_bl)) (sb_nil)) (sb_nil)) (sb_cons (ss_if (SW.st (sw_or (st_not (st_val (sc_call 2 c_law_numbers (hr.mono (by decide)) (sa_cons (se_idx hr (se_var 4) (se_int)) (sa_cons (se_var 1) (sa_nil)))))) (sw_or (st_not (st_val (sc_call 2 c_law_tuples (hr.mono (by decide)) (sa_cons (se_idx hr (se_var 4) (se_int)) (sa_cons (se_var 2) (sa_nil)))))) (sw_or1 (st_not (st_val (sc_call 2 c_law_tuples (hr.mono (by decide)) (sa_cons (se_idx hr (se_var 4) (se_int)) (sa_cons (se_var 3) (sa_nil)))))))))) (sb_cons (ss_ret (se_bl)) (sb_nil)) (sb_nil)) (sb_cons (ss_mutH0 (dH_h (List Int)) PySem.F.slot_list_clear PySem.F.type_list_clear mt_clear ms_clr (se_idx hr (se_var 4) (se_int))) (sb_cons (ss_mutH0 (dH_h (List Tpl)) PySem.F.slot_list_clear PySem.F.type_list_clear mt_clear ms_clr (se_idx hr (se_var 4) (se_int))) (sb_cons (ss_mutH0 (dH_h (List Tpl)) PySem.F.slot_list_clear PySem.F.type_list_clear mt_clear ms_clr (se_idx hr (se_var 4) (se_int))) (sb_cons (ss_ret (se_bl)) (sb_nil)))))))
  · unfold m_law_read at e
    rw [if_pos hl] at e
    exact e
abbrev nm_law : List Str := ["_law_script", "_law_first", "_law_names", "_law_k", "_law_ropes", "_law_callers", "_law_cell", "_law_told", "_law_text", "_law_rope", "_law_caller", "_law_name"]
theorem sc_law : FnScope nm_law ["_law_script"] (defScope s_law) := ⟨rfl, rfl, rfl, by decide +kernel, rfl, by decide +kernel, by decide +kernel⟩
theorem ok_law {f : Addr} {fd : FuncData} (F : Fun K "law" "law" s_law f fd) (Z : Zs mg) (c_law_cell_at : Cal P w K mg base ct "_law_cell_at" 1 ["_law_script", "_law_k"] m_law_cell_at) (c_law_number : Cal P w K mg base ct "_law_number" 1 ["_law_cell", "_law_k"] m_law_number) (c_law_part : Cal P w K mg base ct "_law_part" 1 ["_law_word", "_law_numbers_here"] m_law_part) (c_law_part_T : Cal P w K mg base ct "_law_part" 1 ["_law_word", "_law_numbers_here"] m_law_part_T) (c_law_read : Cal P w K mg base ct "_law_read" 4 ["_law_text", "_law_names", "_law_ropes", "_law_callers"] m_law_read) (c_law_numbers : Cal P w K mg base ct "_law_numbers" 2 ["_law_found", "_law_ought"] m_law_numbers) (c_read_number : Cal P w K mg base ct "read_number" 1 ["word"] m_read_number) : FnOk P w K mg base CX0 5 f fd ["_law_script"] (spD K ct 1 m_law) := by
  refine (fn_ok (b := b_law) F sc_law fun cdv A outer s H E hr => ?_).imp (spD_imp fun ds st r st' hl e => ?_)
  · have S := sc_law
    exact sb_cons (ss_set 1 S.nd (sc_call 2 c_law_cell_at (hr.mono (by decide)) (sa_cons (se_var 0) (sa_cons (se_int) (sa_nil))))) (sb_cons (ss_set 2 S.nd (se_lst (sa_cons (sc_call 2 c_law_number (hr.mono (by decide)) (sa_cons (se_div (se_var 1) (se_int)) (sa_cons (se_int) (sa_nil)))) (sa_nil)))) (sb_cons (ss_for PassesOwn.never rfl (si_rng1 rfl Z.z_range (se_mod (se_var 1) (se_int))) (sg_nm 3 S.nd) (sb_cons (ss_mut1 2 PySem.F.slot_list_append PySem.F.type_list_append mt_append ms_app (sa_cons (sc_call 2 c_law_number (hr.mono (by decide)) (sa_cons (sc_call 2 c_law_cell_at (hr.mono (by decide)) (sa_cons (se_var 0) (sa_cons (se_var 3) (sa_nil)))) (sa_cons (se_add (se_var 3) (se_int)) (sa_nil)))) (sa_nil))) (sb_kl [3] (sb_nil)))) (sb_cons (ss_set 4 S.nd (se_lst (sa_nil))) (sb_cons (ss_set 5 S.nd (se_lst (sa_nil))) (sb_cons (ss_for PassesOwn.never rfl (si_seq (se_slc (se_var 0) (sp_some (se_int)) (sp_some (se_int)))) (sg_nm 6 S.nd) (sb_cons (ss_if (st_eq hr (se_mod (se_var 6) (se_int)) (se_int)) (sb_cons (ss_mut1 5 PySem.F.slot_list_append PySem.F.type_list_append mt_append ms_app (sa_cons (se_tup (sa_cons (sc_call 2 c_law_number (hr.mono (by decide)) (sa_cons (se_div (se_var 6) (se_int)) (sa_cons (se_int) (sa_nil)))) (sa_cons (sc_call 2 c_law_number (hr.mono (by decide)) (sa_cons (se_div (se_var 6) (se_int)) (sa_cons (se_int) (sa_nil)))) (sa_nil)))) (sa_nil))) (sb_nil)) (sb_cons (ss_mut1 4 PySem.F.slot_list_append PySem.F.type_list_append mt_append ms_app (sa_cons (se_tuple rfl Z.z_tuple (se_lc (own := [("_law_k", 3)]) rfl S.nd (si_rng1 rfl Z.z_range (se_int)) (blkOk_by (N := nm_law) (sc := defScope s_law) (by decide +kernel)) (fun _ _ _ _ _ => sg_nm 3 S.nd) (fun _ _ _ _ _ => sts_nil) (fun _ _ _ _ _ => sc_call 2 c_law_number (hr.mono (by decide)) (sa_cons (se_div (se_var 6) (se_int)) (sa_cons (se_var 3) (sa_nil)))))) (sa_nil))) (sb_nil))) (sb_kl [6] (sb_nil)))) (sb_frz 2 (sb_frz 4 (sb_cons (ss_set 7 S.nd (se_add (se_lst (sa_cons (sc_call 2 c_law_part (hr.mono (by decide)) (sa_cons (se_str) (sa_cons (se_var 2) (sa_nil)))) (sa_nil))) (se_lc (own := [("_law_rope", 9)]) rfl S.nd (si_seq (se_var 4)) (blkOk_by (N := nm_law) (sc := defScope s_law) (by decide +kernel)) (fun _ _ _ _ _ => sg_nm 9 S.nd) (fun _ _ _ _ _ => sts_nil) (fun _ _ _ _ _ => sc_call 2 c_law_part_T (hr.mono (by decide)) (sa_cons (se_str) (sa_cons (se_var 9) (sa_nil))))))) (sb_frz 5 (sb_cons (ss_set 8 S.nd (se_join (se_str) (se_add (se_var 7) (se_lc (own := [("_law_caller", 10)]) rfl S.nd (si_seq (se_var 5)) (blkOk_by (N := nm_law) (sc := defScope s_law) (by decide +kernel)) (fun _ _ _ _ _ => sg_nm 10 S.nd) (fun _ _ _ _ _ => sts_nil) (fun _ _ _ _ _ => sc_call 2 c_law_part_T (hr.mono (by decide)) (sa_cons (se_str) (sa_cons (se_var 10) (sa_nil)))))))) (sb_cons (ss_if (SW.st (sw_or (st_not (st_val (sc_call 4 c_law_read (hr.mono (by decide)) (sa_cons (se_var 8) (sa_cons (se_var 2) (sa_cons (se_var 4) (sa_cons (se_var 5) (sa_nil)))))))) (sw_or1 (st_not (st_val (sc_call 4 c_law_read (hr.mono (by decide)) (sa_cons (se_var 8) (sa_cons (se_var 2) (sa_cons (se_var 4) (sa_cons (se_var 5) (sa_nil))))))))))) (sb_cons (ss_ret (se_bl)) (sb_nil)) (sb_nil)) (sb_cons (ss_ret (sc_call 2 c_law_numbers (hr.mono (by decide)) (sa_cons (se_new (se_lc (own := [("_law_name", 11)]) rfl S.nd (si_seq (se_var 2)) (blkOk_by (N := nm_law) (sc := defScope s_law) (by decide +kernel)) (fun _ _ _ _ _ => sg_nm 11 S.nd) (fun _ _ _ _ _ => sts_nil) (fun _ _ _ _ _ => sc_call 1 c_read_number (hr.mono (by decide)) (sa_cons (se_strI rfl Z.z_str (se_var 11)) (sa_nil))))) (sa_cons (se_var 2) (sa_nil))))) (sb_nil)))))))))))))
  · unfold m_law at e
    rw [if_pos hl] at e
    exact e
end
/-! law_cell_at -/
noncomputable def f_law_cell_at (script : Scr) (k : Int) : Option Int :=
  if (decide (k < (script.l.length : Int))) = true then (atI script.l k).bind fun r1 => some r1 else some (0 : Int)
theorem ev_law_cell_at (script : Scr) (k : Int) (st : Sto) : m_law_cell_at [en script, en k] st = (f_law_cell_at script k).map fun r => (Kx.sh.r (en r), st) := by
  refine Eq.trans (if_pos rfl) ?_
  exact ev_fn (ru_of (ru_ifp (ev_2tpp o2_lt (ev_var rfl) (ev_1tp o1_lens (ev_var rfl))) (ru_as (ru_retx (ev_2pp o2_idxs (ev_var rfl) (ev_var rfl)) (fun _ => rfl))) (ru_id (ru_retp (ev_int _) rfl))) (by rfl))
/-! law_whole -/
noncomputable def f_law_whole (found : Int) : Option Bool :=
  some (true && (!false))
theorem ev_law_whole (found : Int) (st : Sto) : m_law_whole [en found] st = (f_law_whole found).map fun r => (Kx.sh.r (en r), st) := by
  refine Eq.trans (if_pos rfl) ?_
  exact ev_fn (ru_of (ru_retp (ev_andpp (ev_1tp o1_isi_int (ev_var rfl)) (ev_notp (ev_1tp o1_isi_int_b (ev_var rfl)))) rfl) (by rfl))
/-! law_numbers -/
noncomputable def f_law_numbers (found : (Hd (List Int))) (ought : (List Int)) (st : Sto) : Option Bool :=
  (((getS (α := (List Int)) st found.g).bind fun u1 => some (u1.length : Int)).bind fun x2 => some (!decide (x2 = (ought.length : Int)))).bind fun p15 => if p15 = true then some false else (((some found).bind fun x3 => (some ought).bind fun m4 => (getS (α := (List Int)) st x3.g).bind fun l5 => some (zipT l5 m4)).bind fun l12 => forT (fun (x7 : (Tp2 Int Int)) (s6 : Unit) => (((f_law_whole x7.x0).bind fun p9 => some (!p9)).bind fun p10 => some (p10 || (!decide (x7.x0 = x7.x1)))).bind fun p11 => if p11 = true then some (Ct.rt false) else some (Ct.nx ())) l12 ()).bind fun c14 => c14.go (fun (s13 : Unit) => some true) (fun r => some r)
theorem ev_law_numbers (found : (Hd (List Int))) (ought : (List Int)) (st : Sto) : m_law_numbers [en found, en ought] st = (f_law_numbers found ought st).map fun r => (Kx.sh.r (en r), st) := by
  refine Eq.trans (if_pos rfl) ?_
  exact ev_fn (ru_of (ru_ifx (ev_2txp (o2_ne (by decide)) (ev_1h (st := st) o1_len (ev_var rfl)) (ev_1tp o1_len (ev_var rfl))) (ru_as (ru_retp (ev_bl _) rfl)) (ru_id (ru_joinc (E := (fun (s6 : Unit) => [.sh (en (found : (Hd (List Int)))), .sh (en (ought : (List Int))), .no, .no])) (F := fun r => r) (rc_forS (s0 := ()) (eis_zip (st := st) (ev_var rfl) (ev_var rfl) rfl) rfl (fun _ _ => rfl) (fun x7 s6 => ru_ifx (ev_orxp (ev_notx (ev_callp (ea_p (ev_var rfl) rfl (ea_nil)) (ev_law_whole x7.x0 st) rfl)) (ev_2tpp (o2_ne (by decide)) (ev_var rfl) (ev_var rfl))) (ru_as (ru_retp (ev_bl _) rfl)) (ru_id (ru_kl rfl (ru_nil rfl))))) (fun _ => rfl) (fun s13 => ru_retp (ev_bl _) rfl)))) (by rfl))
/-! law_number -/
noncomputable def f_law_number (cell : Int) (k : Int) : Option Int :=
  ((((((gPow (10 : Int) (60 : Int)).bind fun y1 => gMod cell y1).bind fun x3 => ((gMul k k).bind fun x2 => gMul x2 (11 : Int)).bind fun y4 => some (x3 + y4)).bind fun x5 => (gMul (3 : Int) k).bind fun y6 => some (x5 + y6)).bind fun x7 => gMul x7 (69621 : Int)).bind fun x8 => some (x8 % (2147483647 : Int))).bind fun mixed9 => (((gMul k mixed9).bind fun y10 => some (cell + y10)).bind fun x11 => (gPow (10 : Int) (60 : Int)).bind fun y12 => gMod x11 y12).bind fun number_here13 => if (decide ((mixed9 % (3 : Int)) = (0 : Int))) = true then some (number_here13 % (100 : Int)) else if (decide ((mixed9 % (3 : Int)) = (1 : Int))) = true then ((gPow (10 : Int) (7 : Int)).bind fun y14 => gMod number_here13 y14).bind fun r15 => some r15 else some number_here13
theorem ev_law_number (cell : Int) (k : Int) (st : Sto) : m_law_number [en cell, en k] st = (f_law_number cell k).map fun r => (Kx.sh.r (en r), st) := by
  refine Eq.trans (if_pos rfl) ?_
  exact ev_fn (ru_of (ru_setx (ev_modcx (c := 2147483647) (by decide) (ev_2xp o2_mul (ev_2txx o2_add (ev_2txx o2_add (ev_2px o2_mod (ev_var rfl) (ev_2pp o2_pow (ev_int _) (ev_int _))) (ev_2xp o2_mul (ev_2pp o2_mul (ev_var rfl) (ev_var rfl)) (ev_int _))) (ev_2pp o2_mul (ev_int _) (ev_var rfl))) (ev_int _))) rfl (fun mixed9 => ru_setx (ev_2xx o2_mod (ev_2tpx o2_add (ev_var rfl) (ev_2pp o2_mul (ev_var rfl) (ev_var rfl))) (ev_2pp o2_pow (ev_int _) (ev_int _))) rfl (fun number_here13 => ru_ifp (ev_2tpp (o2_eq (by decide)) (ev_modc (c := 3) (by decide) (ev_var rfl)) (ev_int _)) (ru_as (ru_retp (ev_modc (c := 100) (by decide) (ev_var rfl)) rfl)) (ru_id (ru_env [.sh (en (cell : Int)), .sh (en (k : Int)), .sh (en (mixed9 : Int)), .sh (en (number_here13 : Int))] rfl (ru_ifp (ev_2tpp (o2_eq (by decide)) (ev_modc (c := 3) (by decide) (ev_var rfl)) (ev_int _)) (ru_as (ru_retx (ev_2px o2_mod (ev_var rfl) (ev_2pp o2_pow (ev_int _) (ev_int _))) (fun _ => rfl))) (ru_id (ru_retp (ev_var rfl) rfl)))))))) (by rfl))
/-! law_part -/
noncomputable def f_law_part (word : Txt) (numbers_here : (List Int)) : Option Txt :=
  ((((lcT (fun (x1 : Int) => some true) (fun (x1 : Int) => strT x1) numbers_here).bind szG).bind fun y3 => catG ([word] : (List Txt)) y3).bind fun y4 => jnT (txM " ") y4).bind fun r5 => some r5
theorem ev_law_part (word : Txt) (numbers_here : (List Int)) (st : Sto) : m_law_part [en word, en numbers_here] st = (f_law_part word numbers_here).map fun r => (Kx.sh.r (en r), st) := by
  refine Eq.trans (if_pos rfl) ?_
  exact ev_fn (ru_of (ru_retx (ev_2px o2_join (ev_txt (txM " ")) (ev_2px o2_cat (ev_lstp (p := ([word] : (List Txt))) (ea_p (ev_var rfl) rfl (ea_nil)) rfl (Nat.le_of_ble_eq_true rfl)) (ev_lcx (ei_lstp (ev_var rfl) rfl) rfl (fun _ => rfl) (fun x1 => ev_yes) (fun x1 => ev_1p o1_strI (ev_var rfl)) rfl))) (fun _ => rfl)) (by rfl))
/-! law_part_T -/
noncomputable def f_law_part_T (word : Txt) (numbers_here : Tpl) : Option Txt :=
  ((((lcT (fun (x1 : Int) => some true) (fun (x1 : Int) => strT x1) (EnS.items numbers_here)).bind szG).bind fun y3 => catG ([word] : (List Txt)) y3).bind fun y4 => jnT (txM " ") y4).bind fun r5 => some r5
theorem ev_law_part_T (word : Txt) (numbers_here : Tpl) (st : Sto) : m_law_part_T [en word, en numbers_here] st = (f_law_part_T word numbers_here).map fun r => (Kx.sh.r (en r), st) := by
  refine Eq.trans (if_pos rfl) ?_
  exact ev_fn (ru_of (ru_retx (ev_2px o2_join (ev_txt (txM " ")) (ev_2px o2_cat (ev_lstp (p := ([word] : (List Txt))) (ea_p (ev_var rfl) rfl (ea_nil)) rfl (Nat.le_of_ble_eq_true rfl)) (ev_lcx (ei_seqp (ev_var rfl) rfl) rfl (fun _ => rfl) (fun x1 => ev_yes) (fun x1 => ev_1p o1_strI (ev_var rfl)) rfl))) (fun _ => rfl)) (by rfl))
/-! read_number -/
noncomputable def f_read_number (word : Txt) : Option Int :=
  (((lnT word).bind fun y1 => if decide ((1 : Int) ≤ y1) = true then (some (60 : Int)).bind fun z2 => some (decide (y1 ≤ z2)) else some false).bind fun p3 => some (!p3)).bind fun p14 => if p14 = true then none else (((some word).bind fun x4 => some (sigT x4)).bind fun l8 => foldT (fun (sign6 : Txt) (s5 : Unit) => (ninT sign6 (txM "0123456789")).bind fun p7 => if p7 = true then none else some ()) l8 ()).bind fun (s9 : Unit) => (((sgT word (0 : Int)).bind fun x10 => some (decide (x10 = (txM "0")))).bind fun p11 => some (p11 && (!decide (word = (txM "0"))))).bind fun p13 => if p13 = true then none else (intT word).bind fun r12 => some r12
theorem ev_read_number (word : Txt) (st : Sto) : m_read_number [en word] st = (f_read_number word).map fun r => (Kx.sh.r (en r), st) := by
  refine Eq.trans (if_pos rfl) ?_
  exact ev_fn (ru_of (ru_ifx (ev_notx (ev_chainy o2_le o2_le (ev_int _) (ev_1p o1_lenS (ev_var rfl)) (ev_int _))) (ru_as (ru_never)) (ru_id (ru_join (E := (fun (s5 : Unit) => [.sh (en (word : Txt)), .no])) (rn_for (s0 := ()) (ei_sigx (ev_var rfl)) rfl (fun _ _ => rfl) (fun sign6 s5 => ru_ifx (ev_2pp o2_ninS (ev_var rfl) (ev_txt (txM "0123456789"))) (ru_as (ru_never)) (ru_id (ru_kl rfl (ru_nil rfl))))) (fun s9 => ru_ifx (ev_andxp (ev_2txp (o2_eq (by decide)) (ev_2pp o2_sg (ev_var rfl) (ev_int _)) (ev_txt (txM "0"))) (ev_2tpp (o2_ne (by decide)) (ev_var rfl) (ev_txt (txM "0")))) (ru_as (ru_never)) (ru_id (ru_env [.sh (en (word : Txt)), .no] rfl (ru_retx (ev_1p o1_intS (ev_var rfl)) (fun _ => rfl)))))))) (by rfl))
/-! read_town -/
noncomputable def f_read_town (text : Txt) (st : Sto) : Option ((Tp3 (Hd (List Int)) (Hd (List Tpl)) (Hd (List Tpl))) × Sto) :=
  (splT text (txM "; ")).bind fun told1 => ((atI told1 (0 : Int)).bind fun x2 => splT x2 (txM " ")).bind fun words3 => (((atI words3 (0 : Int)).bind fun x4 => some (!decide (x4 = (txM "names")))).bind fun p5 => some (p5 || (decide ((words3.length : Int) = (1 : Int))))).bind fun p52 => if p52 = true then none else (((lcT (fun (x6 : Txt) => some true) (fun (x6 : Txt) => f_read_number x6) (cutG words3 (some (1 : Int)) none)).bind szG).bind fun x10 => some (newS st x10)).bind fun p13 => ((some ([] : (List Tpl))).bind fun x14 => some (newS p13.2 x14)).bind fun p17 => ((some ([] : (List Tpl))).bind fun x18 => some (newS p17.2 x18)).bind fun p21 => ((some (cutG told1 (some (1 : Int)) none)).bind fun l48 => foldT (fun (part24 : Txt) (p47 : ((Hd (List Tpl)) × (Hd (List Tpl))) × Sto) => (splT part24 (txM " ")).bind fun words25 => ((lcT (fun (x26 : Txt) => some true) (fun (x26 : Txt) => f_read_number x26) (cutG words25 (some (1 : Int)) none)).bind szG).bind fun numbers30 => ((((atI words25 (0 : Int)).bind fun x32 => some (decide (x32 = (txM "rope")))).bind fun p34 => if p34 = true then if (decide ((numbers30.length : Int) = (5 : Int))) = true then (getS (α := (List Tpl)) p47.2 p47.1.2.g).bind fun u33 => some (decide (u33 = ([] : (List Tpl)))) else some false else some false).bind fun p44 => if p44 = true then (some p47.1.1).bind fun y35 => (some (⟨numbers30⟩ : Tpl)).bind fun x37 => (mutS p47.2 y35 fun l => appG l x37).bind fun st36 => some (((p47.1.1, p47.1.2) : (Hd (List Tpl)) × (Hd (List Tpl))), st36) else (((atI words25 (0 : Int)).bind fun x38 => some (decide (x38 = (txM "caller")))).bind fun p39 => some (p39 && (decide ((numbers30.length : Int) = (2 : Int))))).bind fun p43 => if p43 = true then (some p47.1.2).bind fun y40 => (some (⟨numbers30⟩ : Tpl)).bind fun x42 => (mutS p47.2 y40 fun l => appG l x42).bind fun st41 => some (((p47.1.1, p47.1.2) : (Hd (List Tpl)) × (Hd (List Tpl))), st41) else none).bind fun (p46 : ((Hd (List Tpl)) × (Hd (List Tpl))) × Sto) => some (((p46.1.1, p46.1.2) : (Hd (List Tpl)) × (Hd (List Tpl))), p46.2)) l48 ((p17.1, p21.1), p21.2)).bind fun (p51 : ((Hd (List Tpl)) × (Hd (List Tpl))) × Sto) => some ((⟨p13.1, p51.1.1, p51.1.2⟩ : (Tp3 (Hd (List Int)) (Hd (List Tpl)) (Hd (List Tpl)))), p51.2)
theorem ev_read_town (text : Txt) (st : Sto) : m_read_town [en text] st = (f_read_town text st).map fun p => (Kx.sh.r (en p.1), p.2) := by
  refine Eq.trans (if_pos rfl) ?_
  exact ev_fnS (ru_of (ru_setx (ev_2pp o2_split (ev_var rfl) (ev_txt (txM "; "))) rfl (fun told1 => ru_setx (ev_2xp o2_split (ev_2pp o2_idx (ev_varo rfl) (ev_int _)) (ev_txt (txM " "))) rfl (fun words3 => ru_ifx (ev_orxp (ev_2txp (o2_ne (by decide)) (ev_2pp o2_idx (ev_varo rfl) (ev_int _)) (ev_txt (txM "names"))) (ev_2tpp (o2_eq (by decide)) (ev_1tp o1_len (ev_varo rfl)) (ev_int _))) (ru_as (ru_never)) (ru_id (ru_env [.sh (en (text : Txt)), .ow (en (told1 : (List Txt))), .ow (en (words3 : (List Txt))), .no, .no, .no, .no, .no, .no] rfl (ru_setX (evx_new (ev_lcx (ei_lstp (ev_slcp (ev_varo rfl) (ep_p (ev_int _)) (ep_no)) rfl) rfl (fun _ => rfl) (fun x6 => ev_yes) (fun x6 => ev_callp (ea_p (ev_var rfl) rfl (ea_nil)) (ev_read_number x6 st) rfl) rfl)) rfl (fun names12 st11 => ru_setX (evx_new (ev_lstp (p := ([] : (List Tpl))) (ea_nil) rfl (Nat.le_of_ble_eq_true rfl))) rfl (fun ropes16 st15 => ru_setX (evx_new (ev_lstp (p := ([] : (List Tpl))) (ea_nil) rfl (Nat.le_of_ble_eq_true rfl))) rfl (fun callers20 st19 => ru_kl rfl (ru_joinX (E := (fun (s22 : (Hd (List Tpl)) × (Hd (List Tpl))) => [.sh (en (text : Txt)), .ow (en (told1 : (List Txt))), .no, .sh (en (names12 : (Hd (List Int)))), .sh (en (s22.1 : (Hd (List Tpl)))), .sh (en (s22.2 : (Hd (List Tpl)))), .no, .no, .no])) (rnx_for (st := st19) (s0 := (ropes16, callers20)) (ei_lstp (ev_slcp (ev_varo rfl) (ep_p (ev_int _)) (ep_no)) rfl) rfl (fun _ _ => rfl) (fun part24 s22 st23 => ru_setx (ev_2pp o2_split (ev_var rfl) (ev_txt (txM " "))) rfl (fun words25 => ru_setx (ev_lcx (ei_lstp (ev_slcp (ev_varo rfl) (ep_p (ev_int _)) (ep_no)) rfl) rfl (fun _ => rfl) (fun x26 => ev_yes) (fun x26 => ev_callp (ea_p (ev_var rfl) rfl (ea_nil)) (ev_read_number x26 st23) rfl) rfl) rfl (fun numbers30 => ru_joinX (E := (fun (s31 : (Hd (List Tpl)) × (Hd (List Tpl))) => [.sh (en (text : Txt)), .ow (en (told1 : (List Txt))), .ow (en (words25 : (List Txt))), .sh (en (names12 : (Hd (List Int)))), .sh (en (s31.1 : (Hd (List Tpl)))), .sh (en (s31.2 : (Hd (List Tpl)))), .sh (en (part24 : Txt)), .ow (en (numbers30 : (List Int))), .no])) (rnx_of (ru_ifx (ev_andxx (ev_2txp (o2_eq (by decide)) (ev_2pp o2_idx (ev_varo rfl) (ev_int _)) (ev_txt (txM "rope"))) (ev_andpx (ev_2tpp (o2_eq (by decide)) (ev_1tp o1_len (ev_varo rfl)) (ev_int _)) (ev_2hi (st := st23) (o2_eq (by decide)) (ev_var rfl) (ev_lstp (p := ([] : (List Tpl))) (ea_nil) rfl (Nat.le_of_ble_eq_true rfl))))) (ru_sn (ru_appH (st := st23) (ev_var rfl) (ev_1tp o1_tofs (ev_varo rfl)) rfl (fun st36 => ru_nil (z := (((s22.1, s22.2) : (Hd (List Tpl)) × (Hd (List Tpl))), st36)) rfl))) (ru_sn (ru_env [.sh (en (text : Txt)), .ow (en (told1 : (List Txt))), .ow (en (words25 : (List Txt))), .sh (en (names12 : (Hd (List Int)))), .sh (en (s22.1 : (Hd (List Tpl)))), .sh (en (s22.2 : (Hd (List Tpl)))), .sh (en (part24 : Txt)), .ow (en (numbers30 : (List Int))), .no] rfl (ru_ifx (ev_andxp (ev_2txp (o2_eq (by decide)) (ev_2pp o2_idx (ev_varo rfl) (ev_int _)) (ev_txt (txM "caller"))) (ev_2tpp (o2_eq (by decide)) (ev_1tp o1_len (ev_varo rfl)) (ev_int _))) (ru_as (ru_appH (st := st23) (ev_var rfl) (ev_1tp o1_tofs (ev_varo rfl)) rfl (fun st41 => ru_id (ru_nil (z := (((s22.1, s22.2) : (Hd (List Tpl)) × (Hd (List Tpl))), st41)) rfl)))) (ru_as (ru_never))))))) (fun s31 st45 => ru_kl rfl (ru_nil (z := (((s31.1, s31.2) : (Hd (List Tpl)) × (Hd (List Tpl))), st45)) rfl)))))) (fun s49 st50 => ru_env [.sh (en (text : Txt)), .ow (en (told1 : (List Txt))), .no, .sh (en (names12 : (Hd (List Int)))), .sh (en (s49.1 : (Hd (List Tpl)))), .sh (en (s49.2 : (Hd (List Tpl)))), .no, .no, .no] rfl (ru_retp (z := (((⟨names12, s49.1, s49.2⟩ : (Tp3 (Hd (List Int)) (Hd (List Tpl)) (Hd (List Tpl)))) : (Tp3 (Hd (List Int)) (Hd (List Tpl)) (Hd (List Tpl)))), st50)) (ev_tupp (p := (⟨names12, s49.1, s49.2⟩ : (Tp3 (Hd (List Int)) (Hd (List Tpl)) (Hd (List Tpl))))) (ea_p (ev_var rfl) rfl (ea_p (ev_var rfl) rfl (ea_p (ev_var rfl) rfl (ea_nil)))) rfl (Nat.le_of_ble_eq_true rfl)) rfl)))))))))))) (by rfl))
/-! law_numbers_T -/
noncomputable def f_law_numbers_T (found : Tpl) (ought : Tpl) : Option Bool :=
  if (!decide ((found.l.length : Int) = (ought.l.length : Int))) = true then some false else (forT (fun (x2 : (Tp2 Int Int)) (s1 : Unit) => (((f_law_whole x2.x0).bind fun p4 => some (!p4)).bind fun p5 => some (p5 || (!decide (x2.x0 = x2.x1)))).bind fun p6 => if p6 = true then some (Ct.rt false) else some (Ct.nx ())) (zipT found.l ought.l) ()).bind fun c8 => c8.go (fun (s7 : Unit) => some true) (fun r => some r)
theorem ev_law_numbers_T (found : Tpl) (ought : Tpl) (st : Sto) : m_law_numbers_T [en found, en ought] st = (f_law_numbers_T found ought).map fun r => (Kx.sh.r (en r), st) := by
  refine Eq.trans (if_pos rfl) ?_
  exact ev_fn (ru_of (ru_ifp (ev_2tpp (o2_ne (by decide)) (ev_1tp o1_lenI (ev_var rfl)) (ev_1tp o1_lenI (ev_var rfl))) (ru_as (ru_retp (ev_bl _) rfl)) (ru_id (ru_joinc (E := (fun (s1 : Unit) => [.sh (en (found : Tpl)), .sh (en (ought : Tpl)), .no, .no])) (F := fun r => r) (rc_forp (s0 := ()) (ei_zipTT (ev_var rfl) rfl (ev_var rfl) rfl) rfl (fun _ _ => rfl) (fun x2 s1 => ru_ifx (ev_orxp (ev_notx (ev_callp (ea_p (ev_var rfl) rfl (ea_nil)) (ev_law_whole x2.x0 st) rfl)) (ev_2tpp (o2_ne (by decide)) (ev_var rfl) (ev_var rfl))) (ru_as (ru_retp (ev_bl _) rfl)) (ru_id (ru_kl rfl (ru_nil rfl))))) (fun _ => rfl) (fun s7 => ru_retp (ev_bl _) rfl)))) (by rfl))
/-! law_tuples -/
noncomputable def f_law_tuples (found : (Hd (List Tpl))) (ought : (List Tpl)) (st : Sto) : Option Bool :=
  ((((getS (α := (List Tpl)) st found.g).bind fun u1 => some true).bind fun p2 => some (!p2)).bind fun p5 => if p5 = true then some true else ((getS (α := (List Tpl)) st found.g).bind fun u3 => some (u3.length : Int)).bind fun x4 => some (!decide (x4 = (ought.length : Int)))).bind fun p17 => if p17 = true then some false else (((some found).bind fun x6 => (some ought).bind fun m7 => (getS (α := (List Tpl)) st x6.g).bind fun l8 => some (zipT l8 m7)).bind fun l14 => forT (fun (x10 : (Tp2 Tpl Tpl)) (s9 : Unit) => (if (!true) = true then some true else (f_law_numbers_T x10.x0 x10.x1).bind fun p12 => some (!p12)).bind fun p13 => if p13 = true then some (Ct.rt false) else some (Ct.nx ())) l14 ()).bind fun c16 => c16.go (fun (s15 : Unit) => some true) (fun r => some r)
theorem ev_law_tuples (found : (Hd (List Tpl))) (ought : (List Tpl)) (st : Sto) : m_law_tuples [en found, en ought] st = (f_law_tuples found ought st).map fun r => (Kx.sh.r (en r), st) := by
  refine Eq.trans (if_pos rfl) ?_
  exact ev_fn (ru_of (ru_ifx (ev_orxx (ev_notx (ev_1h (st := st) o1_isi_list (ev_var rfl))) (ev_2txp (o2_ne (by decide)) (ev_1h (st := st) o1_len (ev_var rfl)) (ev_1tp o1_len (ev_var rfl)))) (ru_as (ru_retp (ev_bl _) rfl)) (ru_id (ru_joinc (E := (fun (s9 : Unit) => [.sh (en (found : (Hd (List Tpl)))), .sh (en (ought : (List Tpl))), .no, .no])) (F := fun r => r) (rc_forS (s0 := ()) (eis_zip (st := st) (ev_var rfl) (ev_var rfl) rfl) rfl (fun _ _ => rfl) (fun x10 s9 => ru_ifx (ev_orpx (ev_notp (ev_1tp o1_isi_tupI (ev_var rfl))) (ev_notx (ev_callp (ea_p (ev_var rfl) rfl (ea_p (ev_var rfl) rfl (ea_nil))) (ev_law_numbers_T x10.x0 x10.x1 st) rfl))) (ru_as (ru_retp (ev_bl _) rfl)) (ru_id (ru_kl rfl (ru_nil rfl))))) (fun _ => rfl) (fun s15 => ru_retp (ev_bl _) rfl)))) (by rfl))
/-! law_read -/
noncomputable def f_law_read (text : Txt) (names : (List Int)) (ropes : (List Tpl)) (callers : (List Tpl)) (st : Sto) : Option (Bool × Sto) :=
  (f_read_town text st).bind fun p5 => (if (!true) = true then some true else if (!decide ((3 : Int) = (3 : Int))) = true then some true else ((getS (α := (List Int)) p5.2 p5.1.x0.g).bind fun u6 => some true).bind fun p7 => some (!p7)).bind fun p23 => if p23 = true then some (false, p5.2) else (((f_law_numbers p5.1.x0 names p5.2).bind fun p9 => some (!p9)).bind fun p15 => if p15 = true then some true else ((f_law_tuples p5.1.x1 ropes p5.2).bind fun p11 => some (!p11)).bind fun p14 => if p14 = true then some true else (f_law_tuples p5.1.x2 callers p5.2).bind fun p13 => some (!p13)).bind fun p22 => if p22 = true then some (false, p5.2) else (some p5.1.x0).bind fun y16 => (mutS p5.2 y16 fun _ => some []).bind fun st17 => (some p5.1.x1).bind fun y18 => (mutS st17 y18 fun _ => some []).bind fun st19 => (some p5.1.x2).bind fun y20 => (mutS st19 y20 fun _ => some []).bind fun st21 => some (true, st21)
theorem ev_law_read (text : Txt) (names : (List Int)) (ropes : (List Tpl)) (callers : (List Tpl)) (st : Sto) : m_law_read [en text, en names, en ropes, en callers] st = (f_law_read text names ropes callers st).map fun p => (Kx.sh.r (en p.1), p.2) := by
  refine Eq.trans (if_pos rfl) ?_
  exact ev_fnS (ru_of (ru_setX (evx_callX (F := fun (b1 : Unit) sq2 => f_read_town text sq2) (eax_of (ea_p (ev_var rfl) rfl (ea_nil))) (fun b1 sq2 => ev_read_town text sq2) (fun _ => rfl)) rfl (fun found4 st3 => ru_ifx (ev_orpx (ev_notp (ev_1tp o1_isi_tup3 (ev_var rfl))) (ev_orpx (ev_2tpp (o2_ne (by decide)) (ev_1tp o1_len3 (ev_var rfl)) (ev_int _)) (ev_notx (ev_1h (st := st3) o1_isi_list (ev_prj pj3_0 (ev_var rfl)))))) (ru_as (ru_retp (z := ((false : Bool), st3)) (ev_bl _) rfl)) (ru_id (ru_ifx (ev_orxx (ev_notx (ev_callp (ea_p (ev_prj pj3_0 (ev_var rfl)) rfl (ea_p (ev_var rfl) rfl (ea_nil))) (ev_law_numbers found4.x0 names st3) rfl)) (ev_orxx (ev_notx (ev_callp (ea_p (ev_prj pj3_1 (ev_var rfl)) rfl (ea_p (ev_var rfl) rfl (ea_nil))) (ev_law_tuples found4.x1 ropes st3) rfl)) (ev_notx (ev_callp (ea_p (ev_prj pj3_2 (ev_var rfl)) rfl (ea_p (ev_var rfl) rfl (ea_nil))) (ev_law_tuples found4.x2 callers st3) rfl)))) (ru_env [.sh (en (text : Txt)), .sh (en (names : (List Int))), .sh (en (ropes : (List Tpl))), .sh (en (callers : (List Tpl))), .sh (en (found4 : (Tp3 (Hd (List Int)) (Hd (List Tpl)) (Hd (List Tpl)))))] rfl (ru_as (ru_retp (z := ((false : Bool), st3)) (ev_bl _) rfl))) (ru_id (ru_clrH (st := st3) (ev_prj pj3_0 (ev_var rfl)) (fun st17 => ru_clrH (st := st17) (ev_prj pj3_1 (ev_var rfl)) (fun st19 => ru_clrH (st := st19) (ev_prj pj3_2 (ev_var rfl)) (fun st21 => ru_env [.sh (en (text : Txt)), .sh (en (names : (List Int))), .sh (en (ropes : (List Tpl))), .sh (en (callers : (List Tpl))), .sh (en (found4 : (Tp3 (Hd (List Int)) (Hd (List Tpl)) (Hd (List Tpl)))))] rfl (ru_retp (z := ((true : Bool), st21)) (ev_bl _) rfl)))))))))) (by rfl))
/-! law -/
noncomputable def f_law (script : Scr) (st : Sto) : Option (Bool × Sto) :=
  (f_law_cell_at script (0 : Int)).bind fun first2 => ((f_law_number (first2 / (12 : Int)) (0 : Int)).bind fun b4 => some ([b4] : (List Int))).bind fun names5 => ((rngG 0 (first2 % (12 : Int))).bind fun l12 => foldT (fun (k7 : Int) (s6 : (List Int)) => ((f_law_cell_at script k7).bind fun b9 => f_law_number b9 (k7 + (1 : Int))).bind fun y11 => (appG s6 y11).bind fun names10 => some names10) l12 names5).bind fun (s13 : (List Int)) => (foldT (fun (cell15 : Int) (s14 : (List Tpl) × (List Tpl)) => (if (decide ((cell15 % (3 : Int)) = (0 : Int))) = true then (((f_law_number (cell15 / (3 : Int)) (1 : Int)).bind fun x19 => (f_law_number (cell15 / (3 : Int)) (2 : Int)).bind fun b20 => some (x19, b20)).bind fun b21 => some (⟨[b21.1, b21.2]⟩ : Tpl)).bind fun y23 => (appG s14.2 y23).bind fun callers22 => some (s14.1, callers22) else (((rngG 0 (5 : Int)).bind fun l28 => (lcT (fun (x24 : Int) => some true) (fun (x24 : Int) => f_law_number (cell15 / (3 : Int)) x24) l28).bind szG).bind fun x29 => some (⟨x29⟩ : Tpl)).bind fun y31 => (appG s14.1 y31).bind fun ropes30 => some (ropes30, s14.2)).bind fun (s16 : (List Tpl) × (List Tpl)) => some (s16.1, s16.2)) (cutG script.l (some (1 : Int)) (some (25 : Int))) (([] : (List Tpl)), ([] : (List Tpl)))).bind fun (s32 : (List Tpl) × (List Tpl)) => (((f_law_part (txM "names") s13).bind fun b34 => some ([b34] : (List Txt))).bind fun x39 => ((lcT (fun (x35 : Tpl) => some true) (fun (x35 : Tpl) => f_law_part_T (txM "rope") x35) s32.1).bind szG).bind fun y40 => catG x39 y40).bind fun told41 => ((((lcT (fun (x42 : Tpl) => some true) (fun (x42 : Tpl) => f_law_part_T (txM "caller") x42) s32.2).bind szG).bind fun y46 => catG told41 y46).bind fun y47 => jnT (txM "; ") y47).bind fun text48 => (((f_law_read text48 s13 s32.1 s32.2 st).bind fun p52 => some (!p52.1, p52.2)).bind fun p57 => if p57.1 = true then some (true, p57.2) else (f_law_read text48 s13 s32.1 s32.2 p57.2).bind fun p56 => some (!p56.1, p56.2)).bind fun p71 => if p71.1 = true then some (false, p71.2) else (((((lcT (fun (x58 : Int) => some true) (fun (x58 : Int) => (strT x58).bind fun b61 => f_read_number b61) s13).bind szG).bind fun x62 => some (newS p71.2 x62)).bind fun p64 => (some ((), p64.2)).bind fun q65 => some ((p64.1, q65.1), q65.2)).bind fun q68 => (f_law_numbers q68.1.1 s13 q68.2).bind fun r => some (r, q68.2)).bind fun p69 => some (p69.1, p69.2)
theorem ev_law (script : Scr) (st : Sto) : m_law [en script] st = (f_law script st).map fun p => (Kx.sh.r (en p.1), p.2) := by
  refine Eq.trans (if_pos rfl) ?_
  exact ev_fnS (ru_of (ru_setx (ev_callp (ea_p (ev_var rfl) rfl (ea_p (ev_int _) rfl (ea_nil))) (ev_law_cell_at script (0 : Int) st) rfl) rfl (fun first2 => ru_setx (ev_lstx (F := fun (b4 : Int) => ([b4] : (List Int))) (ea_xp (ev_callp (ea_p (ev_divc (c := 12) (by decide) (by decide) (ev_var rfl)) rfl (ea_p (ev_int _) rfl (ea_nil))) (ev_law_number (first2 / (12 : Int)) (0 : Int) st) rfl) rfl (ea_nil)) (fun _ => rfl) (fun _ => Nat.le_of_ble_eq_true rfl)) rfl (fun names5 => ru_join (E := (fun (s6 : (List Int)) => [.sh (en (script : Scr)), .sh (en (first2 : Int)), .ow (en (s6 : (List Int))), .no, .no, .no, .no, .no, .no, .no, .no, .no])) (rn_for (s0 := names5) (ei_rng1p (ev_modc (c := 12) (by decide) (ev_var rfl))) rfl (fun _ _ => rfl) (fun k7 s6 => ru_appx rfl (ev_callx (F := fun (b9 : Int) => f_law_number b9 (k7 + (1 : Int))) (ea_xp (ev_callp (ea_p (ev_var rfl) rfl (ea_p (ev_var rfl) rfl (ea_nil))) (ev_law_cell_at script k7 st) rfl) rfl (ea_p (ev_2tpp o2_add (ev_var rfl) (ev_int _)) rfl (ea_nil))) (fun b9 => ev_law_number b9 (k7 + (1 : Int)) st) (fun _ => rfl)) rfl (fun names10 => ru_kl rfl (ru_nil rfl)))) (fun s13 => ru_setp (ev_lstp (p := ([] : (List Tpl))) (ea_nil) rfl (Nat.le_of_ble_eq_true rfl)) rfl (ru_setp (ev_lstp (p := ([] : (List Tpl))) (ea_nil) rfl (Nat.le_of_ble_eq_true rfl)) rfl (ru_join (E := (fun (s14 : (List Tpl) × (List Tpl)) => [.sh (en (script : Scr)), .sh (en (first2 : Int)), .ow (en (s13 : (List Int))), .no, .ow (en (s14.1 : (List Tpl))), .ow (en (s14.2 : (List Tpl))), .no, .no, .no, .no, .no, .no])) (rn_forp (s0 := (([] : (List Tpl)), ([] : (List Tpl)))) (ei_lstp (ev_slcs (ev_var rfl) (ep_p (ev_int _)) (ep_p (ev_int _))) rfl) rfl (fun _ _ => rfl) (fun cell15 s14 => ru_join (E := (fun (s16 : (List Tpl) × (List Tpl)) => [.sh (en (script : Scr)), .sh (en (first2 : Int)), .ow (en (s13 : (List Int))), .no, .ow (en (s16.1 : (List Tpl))), .ow (en (s16.2 : (List Tpl))), .sh (en (cell15 : Int)), .no, .no, .no, .no, .no])) (rn_of (ru_ifp (ev_2tpp (o2_eq (by decide)) (ev_modc (c := 3) (by decide) (ev_var rfl)) (ev_int _)) (ru_sn (ru_appx rfl (ev_tupx (F := fun (b21 : Int × (Int)) => (⟨[b21.1, b21.2]⟩ : Tpl)) (ea_xx (ev_callp (ea_p (ev_divc (c := 3) (by decide) (by decide) (ev_var rfl)) rfl (ea_p (ev_int _) rfl (ea_nil))) (ev_law_number (cell15 / (3 : Int)) (1 : Int) st) rfl) rfl (ea_xp (ev_callp (ea_p (ev_divc (c := 3) (by decide) (by decide) (ev_var rfl)) rfl (ea_p (ev_int _) rfl (ea_nil))) (ev_law_number (cell15 / (3 : Int)) (2 : Int) st) rfl) rfl (ea_nil))) (fun _ => rfl) (fun _ => Nat.le_of_ble_eq_true rfl)) rfl (fun callers22 => ru_nil (z := ((s14.1, callers22) : (List Tpl) × (List Tpl))) rfl))) (ru_sn (ru_appx rfl (ev_1tx o1_tofs (ev_lcx (ei_rng1p (ev_int _)) rfl (fun _ => rfl) (fun x24 => ev_yes) (fun x24 => ev_callp (ea_p (ev_divc (c := 3) (by decide) (by decide) (ev_var rfl)) rfl (ea_p (ev_var rfl) rfl (ea_nil))) (ev_law_number (cell15 / (3 : Int)) x24 st) rfl) rfl)) rfl (fun ropes30 => ru_nil (z := ((ropes30, s14.2) : (List Tpl) × (List Tpl))) rfl))))) (fun s16 => ru_kl rfl (ru_nil (z := ((s16.1, s16.2) : (List Tpl) × (List Tpl))) rfl)))) (fun s32 => ru_env [.sh (en (script : Scr)), .sh (en (first2 : Int)), .ow (en (s13 : (List Int))), .no, .ow (en (s32.1 : (List Tpl))), .ow (en (s32.2 : (List Tpl))), .no, .no, .no, .no, .no, .no] rfl (ru_frz rfl (ru_frz rfl (ru_setx (ev_2xx o2_cat (ev_lstx (F := fun (b34 : Txt) => ([b34] : (List Txt))) (ea_xp (ev_callp (ea_p (ev_txt (txM "names")) rfl (ea_p (ev_var rfl) rfl (ea_nil))) (ev_law_part (txM "names") s13 st) rfl) rfl (ea_nil)) (fun _ => rfl) (fun _ => Nat.le_of_ble_eq_true rfl)) (ev_lcx (ei_lstp (ev_var rfl) rfl) rfl (fun _ => rfl) (fun x35 => ev_yes) (fun x35 => ev_callp (ea_p (ev_txt (txM "rope")) rfl (ea_p (ev_var rfl) rfl (ea_nil))) (ev_law_part_T (txM "rope") x35 st) rfl) rfl)) rfl (fun told41 => ru_frz rfl (ru_env [.sh (en (script : Scr)), .sh (en (first2 : Int)), .sh (en (s13 : (List Int))), .no, .sh (en (s32.1 : (List Tpl))), .sh (en (s32.2 : (List Tpl))), .no, .ow (en (told41 : (List Txt))), .no, .no, .no, .no] rfl (ru_setx (ev_2px o2_join (ev_txt (txM "; ")) (ev_2px o2_cat (ev_varo rfl) (ev_lcx (ei_lstp (ev_var rfl) rfl) rfl (fun _ => rfl) (fun x42 => ev_yes) (fun x42 => ev_callp (ea_p (ev_txt (txM "caller")) rfl (ea_p (ev_var rfl) rfl (ea_nil))) (ev_law_part_T (txM "caller") x42 st) rfl) rfl))) rfl (fun text48 => ru_ifX (evx_or (evx_not (evx_callX (F := fun (b49 : Unit) sq50 => f_law_read text48 s13 s32.1 s32.2 sq50) (eax_of (ea_p (ev_var rfl) rfl (ea_p (ev_var rfl) rfl (ea_p (ev_var rfl) rfl (ea_p (ev_var rfl) rfl (ea_nil)))))) (fun b49 sq50 => ev_law_read text48 s13 s32.1 s32.2 sq50) (fun _ => rfl))) (fun st51 => evx_not (evx_callX (F := fun (b53 : Unit) sq54 => f_law_read text48 s13 s32.1 s32.2 sq54) (eax_of (ea_p (ev_var rfl) rfl (ea_p (ev_var rfl) rfl (ea_p (ev_var rfl) rfl (ea_p (ev_var rfl) rfl (ea_nil)))))) (fun b53 sq54 => ev_law_read text48 s13 s32.1 s32.2 sq54) (fun _ => rfl)))) (fun st55 => ru_as (ru_retp (z := ((false : Bool), st55)) (ev_bl _) rfl)) (fun st55 => ru_id (ru_retX (F := fun r70 st63 => (r70, st63)) (evx_callX (F := fun (b66 : (Hd (List Int)) × (Unit)) sq67 => (f_law_numbers b66.1 s13 sq67).bind fun r => some (r, sq67)) (eax_cons (evx_new (ev_lcx (ei_lstp (ev_var rfl) rfl) rfl (fun _ => rfl) (fun x58 => ev_yes) (fun x58 => ev_callx (F := fun (b61 : Txt) => f_read_number b61) (ea_xp (ev_1p o1_strI (ev_var rfl)) rfl (ea_nil)) (fun b61 => ev_read_number b61 st55) (fun _ => rfl)) rfl)) rfl (fun st63 => eax_p (ev_var rfl) rfl (eax_nil))) (fun b66 sq67 => rd_X (ev_law_numbers b66.1 s13 sq67)) (fun _ => rfl)) (fun _ _ => rfl))))))))))))))))) (by rfl))
/-! ### plain: lists by whole numbers, loops -/
def gI {α : Type} (l : List α) (i : Int) (z : α) : α := l.getD i.toNat z
theorem atI_g {α : Type} {l : List α} {i : Int} (z : α) (h0 : 0 ≤ i) (h1 : i < l.length) : atI l i = some (gI l i z) := by
  obtain ⟨k, rfl⟩ := Int.eq_ofNat_of_zero_le h0
  have hk : k < l.length := by omega
  rw [atI_nat (List.getElem?_eq_getElem hk)]
  unfold gI
  rw [List.getD_eq_getElem?_getD, Int.toNat_natCast, List.getElem?_eq_getElem hk]; rfl
theorem gI_get {α : Type} {l : List α} {i : Int} (z : α) {k : Nat} (hk : k < l.length) (h : i = k) : gI l i z = l[k] := by
  subst h
  unfold gI
  rw [List.getD_eq_getElem?_getD, Int.toNat_natCast, List.getElem?_eq_getElem hk]; rfl
theorem atI_mem {α : Type} {l : List α} {i : Int} (h0 : 0 ≤ i) (h1 : i < l.length) : ∃ x ∈ l, atI l i = some x := by
  obtain ⟨k, rfl⟩ := Int.eq_ofNat_of_zero_le h0
  have hk : k < l.length := by omega
  exact ⟨l[k], List.getElem_mem hk, atI_nat (List.getElem?_eq_getElem hk)⟩
theorem mem_rngI {lo x : Int} {n : Nat} : x ∈ rngI lo n ↔ lo ≤ x ∧ x < lo + n := by
  unfold rngI
  rw [List.mem_map]
  constructor
  · rintro ⟨k, hk, rfl⟩
    have := List.mem_range.mp hk
    omega
  · intro h
    exact ⟨(x - lo).toNat, List.mem_range.mpr (by omega), by omega⟩
theorem rngI_len (lo : Int) (n : Nat) : (rngI lo n).length = n := by unfold rngI; rw [List.length_map, List.length_range]
theorem rngG0 {j : Int} (h0 : 0 ≤ j) (h : j ≤ 1000000) : rngG 0 j = some (rngI 0 j.toNat) := by
  rw [rngG_of (by decide) (by omega), Int.sub_zero]
section
variable {α σ ρ : Type}
theorem foldT_app {step : α → σ → Option σ} : ∀ (l m : List α) (s : σ), foldT step (l ++ m) s = (foldT step l s).bind fun s' => foldT step m s'
  | [], m, s => rfl
  | x :: l, m, s => by
    rw [List.cons_append, foldT, foldT]
    cases step x s with
    | none => rfl
    | some s' => exact foldT_app l m s'
/-- a fold whose turns all go through -/
theorem foldT_pure {step : α → σ → Option σ} (g : σ → α → σ) (P : σ → Prop) : ∀ (l : List α) (s : σ), P s → (∀ x ∈ l, ∀ s, P s → step x s = some (g s x) ∧ P (g s x)) → foldT step l s = some (l.foldl g s) ∧ P (l.foldl g s)
  | [], s, hp, _ => ⟨rfl, hp⟩
  | x :: l, s, hp, h => by
    obtain ⟨h1, h2⟩ := h x List.mem_cons_self s hp
    rw [foldT, h1]
    exact foldT_pure g P l (g s x) h2 fun y hy => h y (List.mem_cons_of_mem _ hy)
/-- by the number of turns -/
theorem foldT_num {step : α → σ → Option σ} (P : Nat → σ → Prop) {l : List α} {s : σ} (h0 : P 0 s) (h : ∀ k x s, x ∈ l → k < l.length → P k s → ∃ s', step x s = some s' ∧ P (k + 1) s') : ∃ s', foldT step l s = some s' ∧ P l.length s' := by
  have key : ∀ (m : List α) (k : Nat) (s : σ), P k s → k + m.length = l.length → (∀ x ∈ m, x ∈ l) → ∃ s', foldT step m s = some s' ∧ P l.length s' := fun m => by
    induction m with
    | nil => intro k s hp hk _; exact ⟨s, rfl, by rw [← hk]; exact hp⟩
    | cons x m ih =>
      intro k s hp hk hm
      rw [List.length_cons] at hk
      obtain ⟨s1, h1, h2⟩ := h k x s (hm x List.mem_cons_self) (by omega) hp
      obtain ⟨s2, h3, h4⟩ := ih (k + 1) s1 h2 (by omega) fun y hy => hm y (List.mem_cons_of_mem _ hy)
      exact ⟨s2, by rw [foldT, h1]; exact h3, h4⟩
  exact key l 0 s h0 (by omega) fun _ h => h
theorem forT_nx {step : α → σ → Option (Ct ρ σ)} (g : σ → α → σ) (P : σ → Prop) : ∀ (l : List α) (s : σ), P s → (∀ x ∈ l, ∀ s, P s → step x s = some (.nx (g s x)) ∧ P (g s x)) → forT step l s = some (.nx (l.foldl g s)) ∧ P (l.foldl g s)
  | [], s, hp, _ => ⟨rfl, hp⟩
  | x :: l, s, hp, h => by
    obtain ⟨h1, h2⟩ := h x List.mem_cons_self s hp
    rw [forT, h1]
    exact forT_nx g P l (g s x) h2 fun y hy => h y (List.mem_cons_of_mem _ hy)
theorem forT_unit {step : α → Unit → Option (Ct ρ Unit)} {l : List α} (h : ∀ x ∈ l, step x () = some (.nx ())) : forT step l () = some (.nx ()) := (forT_nx (fun _ _ => ()) (fun _ => True) l () trivial fun x hx _ _ => ⟨h x hx, trivial⟩).1
/-- a while by a measure -/
theorem whT_ex {c : σ → Option Bool} {step : σ → Option σ} (P : σ → Prop) (μ : σ → Nat) (h : ∀ s, P s → (c s = some false) ∨ (c s = some true ∧ ∃ s', step s = some s' ∧ P s' ∧ μ s' < μ s)) : ∀ (n : Nat) (s : σ), P s → μ s < n → ∃ s', whT c step n s = some s' ∧ P s' ∧ c s' = some false
  | 0, s, _, hn => absurd hn (by omega)
  | n + 1, s, hp, hn => by
    rcases h s hp with hc | ⟨hc, s1, h1, h2, h3⟩
    · exact ⟨s, by rw [whT, hc]; rfl, hp, hc⟩
    · obtain ⟨s2, h4, h5⟩ := whT_ex P μ h n s1 h2 (by omega)
      exact ⟨s2, by rw [whT, hc]; show ((step s).bind _) = _; rw [h1]; exact h4, h5⟩
theorem lcT_ok [En α] {β : Type} [En β] {f : α → Option β} {F : α → β} {l : List α} (h : ∀ x ∈ l, f x = some (F x)) : lcT (fun _ => some true) f l = some (l.map F) := by
  induction l with
  | nil => rfl
  | cons x l ih =>
    rw [lcT, h x List.mem_cons_self, ih fun y hy => h y (List.mem_cons_of_mem _ hy)]; rfl
/-- a comprehension of what is so somehow -/
theorem lcT_ex [En α] {β : Type} [En β] {f : α → Option β} (P : β → Prop) {l : List α} (h : ∀ x ∈ l, ∃ y, f x = some y ∧ P y) : ∃ m, lcT (fun _ => some true) f l = some m ∧ m.length = l.length ∧ ∀ y ∈ m, P y := by
  induction l with
  | nil => exact ⟨[], rfl, rfl, fun y hy => absurd hy List.not_mem_nil⟩
  | cons x l ih =>
    obtain ⟨y, h1, h2⟩ := h x List.mem_cons_self
    obtain ⟨m, h3, h4, h5⟩ := ih fun y hy => h y (List.mem_cons_of_mem _ hy)
    refine ⟨y :: m, by rw [lcT, h1, h3]; rfl, by rw [List.length_cons, List.length_cons, h4], fun z hz => ?_⟩
    rcases List.mem_cons.mp hz with rfl | hz
    · exact h2
    · exact h5 z hz
end
theorem gMul_b {i j : Int} (h1 : i.natAbs ≤ 2 ^ 250) (h2 : j.natAbs ≤ 2 ^ 250) : gMul i j = some (i * j) := by
  have : 2 ^ 251 ≤ 2 ^ 400000 := Nat.pow_le_pow_right (by decide) (by decide)
  refine gMul_of ?_ ?_
  all_goals
    generalize 2 ^ 400000 = z at this
    omega
theorem gMod_b {i j : Int} (h : 0 < j) : gMod i j = some (i % j) := if_pos h
theorem gPow_10 {n : Int} (h : 0 ≤ n) (h2 : n ≤ 1000) : gPow 10 n = some (10 ^ n.toNat) := by
  unfold gPow
  rw [if_pos ⟨h, by omega, by decide⟩]
/-! ### plain: what a reading comes to -/
def Ok {β : Type} (t : Option β) (Q : β → Prop) : Prop := ∃ y, t = some y ∧ Q y
section
variable {α β σ ρ : Type}
theorem Ok.mk {y : β} {Q : β → Prop} (h : Q y) : Ok (some y) Q := ⟨y, rfl, h⟩
theorem Ok.bind {t : Option σ} {f : σ → Option β} {Q : β → Prop} (P : σ → Prop) (h : Ok t P) (k : ∀ s, P s → Ok (f s) Q) : Ok (t.bind f) Q := by
  obtain ⟨s, rfl, hp⟩ := h
  exact k s hp
theorem Ok.imp {t : Option β} {P Q : β → Prop} (h : Ok t P) (k : ∀ y, P y → Q y) : Ok t Q := let ⟨y, e, p⟩ := h; ⟨y, e, k y p⟩
theorem Ok.eq {t : Option β} {y : β} {Q : β → Prop} (e : t = some y) (h : Q y) : Ok t Q := ⟨y, e, h⟩
theorem Ok.at {l : List α} {i : Int} {Q : α → Prop} (h0 : 0 ≤ i) (h1 : i < l.length) (k : ∀ x ∈ l, Q x) : Ok (atI l i) Q := by
  obtain ⟨x, hx, e⟩ := atI_mem h0 h1
  exact ⟨x, e, k x hx⟩
theorem Ok.num {step : α → σ → Option σ} {l : List α} {s : σ} (P : Nat → σ → Prop) (h0 : P 0 s) (h : ∀ k x s, x ∈ l → k < l.length → P k s → Ok (step x s) (P (k + 1))) : Ok (foldT step l s) (P l.length) := foldT_num P h0 h
theorem Ok.wh {c : σ → Option Bool} {step : σ → Option σ} {n : Nat} {s : σ} (P : σ → Prop) (μ : σ → Nat) (h0 : P s) (hn : μ s < n) (h : ∀ s, P s → Ok (c s) fun b => b = true → Ok (step s) fun s' => P s' ∧ μ s' < μ s) : Ok (whT c step n s) fun s' => P s' ∧ c s' = some false := by
  obtain ⟨s', h1, h2, h3⟩ := whT_ex P μ (fun s hp => by
    obtain ⟨b, e, k⟩ := h s hp
    cases b with
    | false => exact .inl e
    | true => obtain ⟨s2, e2, h4, h5⟩ := k rfl; exact .inr ⟨e, s2, e2, h4, h5⟩) n s h0 hn
  exact ⟨s', h1, h2, h3⟩
theorem Ok.lc [En α] [En β] {f : α → Option β} {l : List α} (P : β → Prop) (hl : l.length ≤ 1000) (h : ∀ x ∈ l, Ok (f x) P) : Ok ((lcT (fun _ => some true) f l).bind szG) fun m => m.length = l.length ∧ ∀ y ∈ m, P y := by
  obtain ⟨m, h1, h2, h3⟩ := lcT_ex P h
  refine ⟨m, ?_, h2, h3⟩
  rw [h1]
  exact szG_of (by omega)
theorem Ok.app [En α] {l : List α} {x : α} {Q : List α → Prop} (h : l.length ≤ 1000) (k : Q (l ++ [x])) : Ok (appG l x) Q := ⟨_, appG_of h, k⟩
end
section
variable {α β σ ρ : Type}
end
/-! ### plain: texts -/
open TL in
theorem txt_ext {a b : Txt} (h : tl a.x = tl b.x) : a = b := by
  obtain ⟨a, _⟩ := a; obtain ⟨b, _⟩ := b
  have : a = b := ext_tl h
  subst this; rfl
theorem okT_of {x : Str} (h : ∀ c ∈ TL.tl x, c < 0x110000) : ∃ t, okT x = some t ∧ t.x = x := ⟨⟨x, strOk_l.mpr h⟩, okT_ok (strOk_l.mpr h), rfl⟩
theorem txt_cp (t : Txt) : ∀ c ∈ TL.tl t.x, c < 0x110000 := strOk_l.mp t.ok
/-- a number that a text may write -/
structure Nb (i : Int) : Prop where
  lo : 0 ≤ i
  hi : i < 10 ^ 60
theorem Nb.nat {i : Int} (h : Nb i) : i.toNat < 10 ^ 60 := by
  have := h.hi; have := h.lo; omega
theorem Nb.cast {i : Int} (h : Nb i) : ((i.toNat : Nat) : Int) = i := by have := h.lo; omega
theorem Nb.log {i : Int} (h : Nb i) : i.natAbs.log2 < 1920 := by
  have h1 : i.natAbs < 2 ^ 200 := by have := h.hi; have := h.lo; omega
  have := Nat.log2_lt (n := i.natAbs) (k := 200)
  by_cases h0 : i.natAbs = 0
  · rw [h0]; decide
  · have := (Nat.log2_lt h0).mpr h1
    omega
/-- a number's text -/
noncomputable def nt (i : Int) : Txt := (strT i).getD (txM "")
theorem strT_nt {i : Int} (h : Nb i) : strT i = some (nt i) ∧ TL.tl (nt i).x = TL.numL i.toNat := by
  have e0 : (Str.ofString (toString i)) = Str.ofString (toString ((i.toNat : Nat) : Int)) := by rw [h.cast]
  have e1 : TL.tl (Str.ofString (toString i)) = TL.numL i.toNat := by rw [e0, TL.tl_num]
  obtain ⟨t, h1, h2⟩ := okT_of (x := Str.ofString (toString i)) (by
    rw [e1]; intro c hc
    have := TL.numL_digits i.toNat c hc
    omega)
  have h3 : strT i = some t := by unfold strT; rw [if_pos h.log]; exact h1
  have h4 : nt i = t := by unfold nt; rw [h3]; rfl
  rw [h4]
  exact ⟨h3, by rw [h2, e1]⟩
theorem nt_len {i : Int} (h : Nb i) : 1 ≤ (nt i).x.length ∧ (nt i).x.length ≤ 60 := by
  rw [TL.len_tl, (strT_nt h).2]
  refine ⟨List.length_pos_iff.mpr (TL.numL_ne _), TL.numL_len (by decide) h.nat⟩
theorem nt_free {i : Int} (h : Nb i) {s : Nat} (hs : s < 48 ∨ 57 < s) : s ∉ TL.tl (nt i).x := by
  rw [(strT_nt h).2]; exact TL.numL_free hs
/-! joined and split -/
theorem joinL_mem {S : List Nat} : ∀ {ps : List (List Nat)} {c : Nat}, c ∈ TL.joinL S ps → c ∈ S ∨ ∃ p ∈ ps, c ∈ p
  | [], _, h => by cases h
  | [p], c, h => .inr ⟨p, List.mem_singleton.mpr rfl, h⟩
  | p :: q :: r, c, h => by
    rcases List.mem_append.mp h with h | h
    · exact .inr ⟨p, List.mem_cons_self .., h⟩
    · rcases List.mem_append.mp h with h | h
      · exact .inl h
      · rcases joinL_mem h with h | ⟨p', h1, h2⟩
        · exact .inl h
        · exact .inr ⟨p', List.mem_cons_of_mem _ h1, h2⟩
theorem joinL_len (S : List Nat) : ∀ ps : List (List Nat), (TL.joinL S ps).length ≤ (ps.map List.length).sum + ps.length * S.length
  | [] => Nat.zero_le _
  | [p] => by show p.length ≤ p.length + 0 + 1 * S.length; omega
  | p :: q :: r => by
    have := joinL_len S (q :: r)
    show (p ++ (S ++ TL.joinL S (q :: r))).length ≤ p.length + ((q :: r).map List.length).sum + ((q :: r).length + 1) * S.length
    rw [List.length_append, List.length_append, Nat.add_mul]
    omega
theorem sum_le {α : Type} (f : α → Nat) (k : Nat) : ∀ (l : List α), (∀ x ∈ l, f x ≤ k) → (l.map f).sum ≤ l.length * k
  | [], _ => Nat.zero_le _
  | x :: xs, h => by
    have h1 := h x (List.mem_cons_self ..)
    have h2 := sum_le f k xs fun y hy => h y (List.mem_cons_of_mem _ hy)
    rw [List.map_cons, List.sum_cons, List.length_cons, Nat.add_mul]
    omega
/-- texts joined by a sign or two -/
noncomputable def jn (sep : Txt) (ps : List Txt) : Txt := (jnT sep ps).getD (txM "")
theorem jnT_jn {sep : Txt} {ps : List Txt} {k : Nat} (hp : ∀ p ∈ ps, p.x.length ≤ k) (hz : ps.length * k + ps.length * sep.x.length ≤ 16777214) :
    jnT sep ps = some (jn sep ps) ∧ (jn sep ps).x = PySem.Txt.join sep.x (ps.map Txt.x) ∧ (jn sep ps).x.length ≤ ps.length * k + ps.length * sep.x.length ∧ TL.tl (jn sep ps).x = TL.joinL (TL.tl sep.x) (ps.map fun p => TL.tl p.x) := by
  have e1 : TL.tl (PySem.Txt.join sep.x (ps.map Txt.x)) = TL.joinL (TL.tl sep.x) (ps.map fun p => TL.tl p.x) := by
    rw [TL.join_eq, TL.tl_join, List.map_map]; rfl
  have h0 := sum_le (fun p : Txt => p.x.length) k ps hp
  have h0' : ((ps.map Txt.x).map (·.length)).sum = (ps.map fun p : Txt => p.x.length).sum := by rw [List.map_map]; rfl
  obtain ⟨t, h1, h2⟩ := okT_of (x := PySem.Txt.join sep.x (ps.map Txt.x)) (by
    rw [e1]; intro c hc
    rcases joinL_mem hc with hc | ⟨p, hp, hc⟩
    · exact txt_cp sep c hc
    · obtain ⟨u, _, rfl⟩ := List.mem_map.mp hp
      exact txt_cp u c hc)
  have h3 : jnT sep ps = some t := by
    unfold jnT
    rw [if_pos]
    · exact h1
    · rw [h0', List.length_map]
      omega
  have h4 : jn sep ps = t := by unfold jn; rw [h3]; rfl
  rw [h4]
  refine ⟨h3, h2, ?_, by rw [h2, e1]⟩
  rw [h2, TL.len_tl, e1]
  have h5 := joinL_len (TL.tl sep.x) (ps.map fun p => TL.tl p.x)
  rw [List.length_map, List.map_map] at h5
  have h6 : (ps.map (List.length ∘ fun p : Txt => TL.tl p.x)).sum = (ps.map fun p : Txt => p.x.length).sum := by
    exact congrArg List.sum (List.map_congr_left fun p _ => (TL.len_tl p.x).symm)
  rw [h6, ← TL.len_tl] at h5
  omega
theorem spl_of {sep t : Txt} {ps : List Txt} {s : Nat} {S : List Nat} (e : t.x = PySem.Txt.join sep.x (ps.map Txt.x)) (ey : TL.tl sep.x = s :: S) (hk : sep.x.cps.all (· < 256) = true) (hne : ps ≠ []) (hp : ∀ p ∈ ps, s ∉ TL.tl p.x) (hl : t.x.length ≤ 16777214) : splT t sep = some ps := by
  unfold splT
  rw [if_pos, e, TL.split_join ey hk (by simpa using hne) (by
    intro p hp'
    obtain ⟨u, hu, rfl⟩ := List.mem_map.mp hp'
    exact hp u hu)]
  · exact okTs_ok ps
  · refine ⟨?_, by show t.x.length + 2 ≤ 2 ^ 24; omega⟩
    have : sep.x.length ≠ 0 := by rw [TL.len_tl, ey]; simp
    simpa using this
theorem atI0 {α : Type} (a : α) (q : List α) : atI (a :: q) 0 = some a := by
  rw [atI_g a (Int.le_refl 0) (by rw [List.length_cons]; omega)]
  exact congrArg some (gI_get (l := a :: q) (i := 0) a (k := 0) (by rw [List.length_cons]; omega) rfl)
/-! a number, read -/
theorem numL_head : ∀ n : Nat, ∀ r : List Nat, TL.numL n = 48 :: r → n = 0 := by
  intro n
  induction n using Nat.strongRecOn with
  | _ n ih =>
    intro r h
    by_cases h10 : n < 10
    · rw [TL.numL_lt h10] at h
      have := (List.cons.inj h).1
      omega
    · rw [TL.numL_step (by omega)] at h
      cases hq : TL.numL (n / 10) with
      | nil => exact absurd hq (TL.numL_ne _)
      | cons a q =>
        rw [hq] at h
        have h1 := (List.cons.inj h).1
        subst h1
        have := ih (n / 10) (by omega) q hq
        omega
theorem nin_digit {t : Txt} {c : Nat} (h : t.x = ⟨#[c]⟩) (h1 : 48 ≤ c) (h2 : c ≤ 57) : ninT t (txM "0123456789") = some false := by
  unfold ninT
  rw [h]
  show some (!decide (c ∈ (("0123456789" : Str)).cps.toList)) = _
  have e : ("0123456789" : Str).cps.toList = [48, 49, 50, 51, 52, 53, 54, 55, 56, 57] := by decide +kernel
  rw [e]
  have : c ∈ [48, 49, 50, 51, 52, 53, 54, 55, 56, 57] := by
    simp only [List.mem_cons, List.not_mem_nil, or_false]; omega
  rw [decide_eq_true this]; rfl
theorem f_read_number_ok {i : Int} (h : Nb i) : f_read_number (nt i) = some i := by
  have hl := nt_len h
  have ht := (strT_nt h).2
  have e1 : lnT (nt i) = some ((nt i).x.length : Int) := if_pos (by show (nt i).x.length ≤ 2 ^ 24; omega)
  unfold f_read_number
  simp only [e1, Option.bind_some]
  rw [if_pos (decide_eq_true (by omega)), decide_eq_true (show ((nt i).x.length : Int) ≤ 60 by omega)]
  show (foldT _ (sigT (nt i)) ()).bind _ = _
  have hsig : ∀ t ∈ sigT (nt i), ∃ c, t.x = ⟨#[c]⟩ ∧ 48 ≤ c ∧ c ≤ 57 := by
    intro t ht'
    have : t.x ∈ (sigT (nt i)).map Txt.x := List.mem_map.mpr ⟨t, ht', rfl⟩
    rw [sigT_x] at this
    obtain ⟨c, hc, e⟩ := List.mem_map.mp this
    have hc : c ∈ TL.numL i.toNat := by rw [← ht]; exact hc
    have := TL.numL_digits _ c hc
    exact ⟨c, e.symm, this.1, this.2⟩
  rw [(foldT_pure (fun _ _ => ()) (fun _ => True) (sigT (nt i)) () trivial fun t ht' s _ => ⟨by
    obtain ⟨c, e, h1, h2⟩ := hsig t ht'
    rw [nin_digit e h1 h2]; rfl, trivial⟩).1]
  show (((sgT (nt i) 0).bind fun x10 => some (decide (x10 = txM "0"))).bind fun p11 => some (p11 && !decide (nt i = txM "0"))).bind _ = _
  obtain ⟨a, q, hq⟩ : ∃ a q, TL.numL i.toNat = a :: q := by
    cases hq : TL.numL i.toNat with
    | nil => exact absurd hq (TL.numL_ne _)
    | cons a q => exact ⟨a, q, rfl⟩
  have hcl : (nt i).x.cps.toList = a :: q := by rw [← hq]; exact ht
  obtain ⟨d, hd1, hd2⟩ := okT_of (x := ⟨#[a]⟩) (by
    intro c hc
    have e : c = a := by simpa [TL.tl] using hc
    have := TL.numL_digits i.toNat a (by rw [hq]; exact List.mem_cons_self ..)
    omega)
  have e2 : sgT (nt i) 0 = some d := by
    unfold sgT
    rw [if_pos (by show (nt i).x.length ≤ 2 ^ 24; omega), hcl]
    rw [atI0]; exact hd1
  rw [e2]
  have e3 : (decide (d = txM "0") && !decide (nt i = txM "0")) = false := by
    by_cases hc : d = txM "0"
    · have ha : a = 48 := by
        have : TL.tl d.x = TL.tl (txM "0").x := by rw [hc]
        rw [hd2] at this
        have e : TL.tl (txM "0").x = [48] := by decide +kernel
        rw [e] at this
        exact (List.cons.inj this).1
      subst ha
      have h0 := numL_head _ _ hq
      have : nt i = txM "0" := txt_ext (by rw [ht, h0]; decide +kernel)
      rw [decide_eq_true this]; simp
    · rw [decide_eq_false hc]; rfl
  show (if (decide (d = txM "0") && !decide (nt i = txM "0")) = true then none else (intT (nt i)).bind fun r12 => some r12) = _
  rw [e3, if_neg (by decide)]
  have e4 : (nt i).x = Str.ofString (toString ((i.toNat : Nat) : Int)) := TL.ext_tl (by rw [ht, TL.tl_num])
  have e5 : intT (nt i) = some i := by
    unfold intT
    rw [if_pos (by omega), e4, TL.int_num (Nat.le_trans (TL.numL_len (k := 60) (by decide) h.nat) (by decide)), h.cast]
  rw [e5]; rfl
theorem cutG_fr {α : Type} (xs : List α) (k : Nat) : cutG xs (some (k : Int)) none = xs.drop k := by
  unfold cutG
  rw [HT.sIx_nat, HT.sIx_none]
  by_cases h : k ≤ xs.length
  · rw [Nat.min_eq_left h, List.take_of_length_le (by rw [List.length_drop]; omega)]
  · rw [Nat.min_eq_right (by omega), List.drop_of_length_le (by omega), List.drop_of_length_le (by omega)]; simp
/-! ### plain: the store -/
class Inj (α : Type) [En α] : Prop where
  inj : ∀ a b : α, en a = en b → a = b
instance : Inj Int := ⟨fun a b h => D.int.inj h⟩
instance : Inj Bool := ⟨fun a b h => D.bl.inj h⟩
instance {τ : Type} : Inj (Hd τ) := ⟨fun a b h => by
  obtain ⟨a⟩ := a; obtain ⟨b⟩ := b
  have h : D.hnd a = D.hnd b := h
  cases h; rfl⟩
theorem map_inj {α : Type} [En α] [Inj α] : ∀ {l m : List α}, l.map en = m.map en → l = m
  | [], [], _ => rfl
  | [], _ :: _, h => by cases h
  | _ :: _, [], h => by cases h
  | x :: xs, y :: ys, h => by
    rw [List.map_cons, List.map_cons] at h
    obtain ⟨h1, h2⟩ := List.cons.inj h
    rw [Inj.inj x y h1, map_inj h2]
instance {α : Type} [En α] [Inj α] : Inj (List α) := ⟨fun a b h => map_inj (D.lst.inj h)⟩
section
variable {α β : Type} [En α] [En β]
theorem getS_of [Inj α] {st : Sto} {g : Nat} {x : α} (h : lookS st g = some (en x)) : getS st g = some x := by
  cases q : getS (α := α) st g with
  | none =>
    unfold getS at q
    rw [dif_pos ⟨x, h⟩] at q
    cases q
  | some y =>
    have e := getS_look q
    rw [h] at e
    rw [Inj.inj y x (Option.some.inj e).symm]
theorem look_put {st : Sto} {g g' : Nat} (x : α) (h : g < st.length) : lookS (putS st g x) g' = if g' = g then some (en x) else lookS st g' := by
  unfold putS
  split
  · rename_i e
    subst e
    exact lookS_of (List.getElem?_set_self h)
  · rename_i e
    unfold lookS
    rw [List.getElem?_set_ne (fun z => e z.symm)]
theorem len_put (st : Sto) (g : Nat) (x : α) : (putS st g x).length = st.length := List.length_set ..
theorem look_new (st : Sto) (x : α) (g : Nat) : lookS (newS st x).2 g = if g = st.length then some (en x) else lookS st g := by
  show lookS (st ++ [(kC, en x)]) g = _
  split
  · rename_i e
    subst e
    exact lookS_of (by rw [List.getElem?_append_right (Nat.le_refl _)]; simp)
  · rename_i e
    unfold lookS
    by_cases h : g < st.length
    · rw [List.getElem?_append_left h]
    · rw [List.getElem?_append_right (by omega), List.getElem?_eq_none (by simp; omega), List.getElem?_eq_none (by omega)]
theorem len_new (st : Sto) (x : α) : (newS st x).2.length = st.length + 1 := by
  show (st ++ [(kC, en x)]).length = _
  rw [List.length_append]; rfl
end
/-! ### plain: rows of truths behind handles -/
abbrev HdB := Hd (List Bool)
abbrev zHb : HdB := ⟨0⟩
structure Bls (st : Sto) (ws : List HdB) (bs : List (List Bool)) : Prop where
  len : ws.length = bs.length
  at_ : ∀ i : Int, 0 ≤ i → i < ws.length → lookS st (gI ws i zHb).g = some (en (gI bs i []))
  nd : (ws.map (·.g)).Nodup
theorem Bls.get {st : Sto} {ws : List HdB} {bs : List (List Bool)} (B : Bls st ws bs) {i : Int} (i0 : 0 ≤ i) (i1 : i < ws.length) : getS (α := List Bool) st (gI ws i zHb).g = some (gI bs i []) := getS_of (B.at_ i i0 i1)
/-! ### plain: towns' texts -/
theorem Ok.st {σ β : Type} {t : Option σ} {y : σ} {f : σ → Option β} {Q : β → Prop} (e : t = some y) (k : Ok (f y) Q) : Ok (t.bind f) Q := by rw [e]; exact k
theorem foldT_map_ind {α β σ : Type} {step : α → σ → Option σ} (g : β → α) (N : Nat) (P : List β → σ → Prop) : ∀ (l pre : List β) (s : σ), pre.length + l.length ≤ N → P pre s → (∀ pre x s, x ∈ l → pre.length < N → P pre s → Ok (step (g x) s) (P (pre ++ [x]))) → Ok (foldT step (l.map g) s) (P (pre ++ l))
  | [], pre, s, _, hp, _ => ⟨s, rfl, by rwa [List.append_nil]⟩
  | x :: l, pre, s, hN, hp, h => by
    rw [List.length_cons] at hN
    obtain ⟨s1, h1, h2⟩ := h pre x s List.mem_cons_self (by omega) hp
    obtain ⟨s2, h3, h4⟩ := foldT_map_ind g N P l (pre ++ [x]) s1 (by rw [List.length_append, List.length_singleton]; omega) h2 fun pre y s hy => h pre y s (List.mem_cons_of_mem _ hy)
    refine ⟨s2, ?_, by rwa [List.append_assoc] at h4⟩
    rw [List.map_cons, foldT, h1]; exact h3
/-- a word: short, no blank, no stop -/
structure Wd (w : Txt) : Prop where
  len : w.x.length ≤ 60
  b : 32 ∉ TL.tl w.x
  s : 59 ∉ TL.tl w.x
theorem nt_Wd {i : Int} (h : Nb i) : Wd (nt i) := ⟨(nt_len h).2, nt_free h (by decide), nt_free h (by decide)⟩
noncomputable def ptT (w : Txt) (ns : List Int) : Txt := jn (txM " ") (w :: ns.map nt)
theorem wds {w : Txt} {ns : List Int} (hw : Wd w) (hn : ∀ i ∈ ns, Nb i) : ∀ p ∈ w :: ns.map nt, Wd p := by
  intro p hp
  rcases List.mem_cons.mp hp with rfl | hp
  · exact hw
  · obtain ⟨i, hi, rfl⟩ := List.mem_map.mp hp
    exact nt_Wd (hn i hi)
structure PtOk (w : Txt) (ns : List Int) : Prop where
  jn : jnT (txM " ") (w :: ns.map nt) = some (ptT w ns)
  spl : splT (ptT w ns) (txM " ") = some (w :: ns.map nt)
  s : 59 ∉ TL.tl (ptT w ns).x
  len : (ptT w ns).x.length ≤ 6200
theorem ptT_ok {w : Txt} {ns : List Int} (hw : Wd w) (hn : ∀ i ∈ ns, Nb i) (hl : ns.length ≤ 99) : PtOk w ns := by
  have e1 : (txM " ").x.length = 1 := by decide +kernel
  have e2 : TL.tl (txM " ").x = [32] := by decide +kernel
  have hl' : (w :: ns.map nt).length ≤ 100 := by rw [List.length_cons, List.length_map]; omega
  have hz : (w :: ns.map nt).length * 60 + (w :: ns.map nt).length * (txM " ").x.length ≤ 16777214 := by rw [e1]; omega
  obtain ⟨h1, h2, h3, h4⟩ := jnT_jn (sep := txM " ") (ps := w :: ns.map nt) (k := 60) (fun p hp => (wds hw hn p hp).len) hz
  rw [e1] at h3
  refine ⟨h1, spl_of h2 e2 (by decide +kernel) (by simp) (fun p hp => (wds hw hn p hp).b) (by show (ptT w ns).x.length ≤ _; unfold ptT; omega), ?_, by unfold ptT; omega⟩
  show 59 ∉ TL.tl (jn (txM " ") (w :: ns.map nt)).x
  rw [h4, e2]
  intro hc
  rcases joinL_mem hc with hc | ⟨p, hp, hc⟩
  · exact absurd hc (by decide)
  · obtain ⟨u, hu, rfl⟩ := List.mem_map.mp hp
    exact (wds hw hn u hu).s hc
theorem strs_nt {ns : List Int} (hn : ∀ i ∈ ns, Nb i) (hl : ns.length ≤ 99) : ((lcT (fun (_ : Int) => some true) (fun (x1 : Int) => strT x1) ns).bind szG) = some (ns.map nt) := by
  rw [lcT_ok (F := nt) fun x hx => (strT_nt (hn x hx)).1]
  exact szG_of (by rw [List.length_map]; omega)
theorem f_law_part_ok {w : Txt} {ns : List Int} (hw : Wd w) (hn : ∀ i ∈ ns, Nb i) (hl : ns.length ≤ 99) : f_law_part w ns = some (ptT w ns) := by
  unfold f_law_part
  rw [strs_nt hn hl]
  simp only [Option.bind_some]
  rw [catG_of (by rw [List.length_map]; simp; omega)]
  simp only [Option.bind_some]
  exact (congrArg (fun t : Option Txt => t.bind fun r => some r) (ptT_ok hw hn hl).jn)
theorem f_law_part_T_ok {w : Txt} {ns : List Int} (hw : Wd w) (hn : ∀ i ∈ ns, Nb i) (hl : ns.length ≤ 99) : f_law_part_T w ⟨ns⟩ = some (ptT w ns) := f_law_part_ok hw hn hl
theorem reads_nt {ns : List Int} (hn : ∀ i ∈ ns, Nb i) (hl : ns.length ≤ 99) : ((lcT (fun (_ : Txt) => some true) (fun (x6 : Txt) => f_read_number x6) (ns.map nt)).bind szG) = some ns := by
  have e : (ns.map nt).map (fun t => (f_read_number t).getD 0) = ns := by
    rw [List.map_map]
    refine (List.map_congr_left (g := id) fun i hi => ?_).trans (List.map_id _)
    show (f_read_number (nt i)).getD 0 = i
    rw [f_read_number_ok (hn i hi)]; rfl
  rw [lcT_ok (F := fun t => (f_read_number t).getD 0) fun x hx => ?_]
  · rw [e]; exact szG_of (by omega)
  · obtain ⟨i, hi, rfl⟩ := List.mem_map.mp hx
    rw [f_read_number_ok (hn i hi)]; rfl
instance : Inj Tpl := ⟨fun a b h => by
  obtain ⟨a⟩ := a; obtain ⟨b⟩ := b
  have : a = b := map_inj (D.tup.inj h)
  rw [this]⟩
/-- three lists in the store, one behind the other -/
structure RT (st : Sto) (n : Nat) (ns : List Int) (R C : List Tpl) : Prop where
  a : lookS st n = some (en ns)
  b : lookS st (n + 1) = some (en R)
  c : lookS st (n + 2) = some (en C)
  l : st.length = n + 3
theorem RT.r {st : Sto} {n : Nat} {ns : List Int} {R C R' : List Tpl} (h : RT st n ns R C) : RT (putS st (n + 1) R') n ns R' C := by
  have hl : n + 1 < st.length := by rw [h.l]; omega
  refine ⟨?_, ?_, ?_, by rw [len_put]; exact h.l⟩
  · rw [look_put _ hl, if_neg (by omega)]; exact h.a
  · rw [look_put _ hl, if_pos rfl]
  · rw [look_put _ hl, if_neg (by omega)]; exact h.c
theorem RT.k {st : Sto} {n : Nat} {ns : List Int} {R C C' : List Tpl} (h : RT st n ns R C) : RT (putS st (n + 2) C') n ns R C' := by
  have hl : n + 2 < st.length := by rw [h.l]; omega
  refine ⟨?_, ?_, ?_, by rw [len_put]; exact h.l⟩
  · rw [look_put _ hl, if_neg (by omega)]; exact h.a
  · rw [look_put _ hl, if_neg (by omega)]; exact h.b
  · rw [look_put _ hl, if_pos rfl]
theorem Wd_names : Wd (txM "names") := ⟨by decide +kernel, by decide +kernel, by decide +kernel⟩
theorem Wd_rope : Wd (txM "rope") := ⟨by decide +kernel, by decide +kernel, by decide +kernel⟩
theorem Wd_caller : Wd (txM "caller") := ⟨by decide +kernel, by decide +kernel, by decide +kernel⟩
/-- what a town's text may tell -/
structure TT (ns : List Int) (R C : List Tpl) : Prop where
  n : ∀ i ∈ ns, Nb i
  n0 : ns ≠ []
  nl : ns.length ≤ 99
  r : ∀ t ∈ R, t.l.length = 5 ∧ ∀ i ∈ t.l, Nb i
  c : ∀ t ∈ C, t.l.length = 2 ∧ ∀ i ∈ t.l, Nb i
  l : R.length + C.length ≤ 99
noncomputable def partsT (ns : List Int) (R C : List Tpl) : List Txt := ptT (txM "names") ns :: (R.map (fun t => ptT (txM "rope") t.l) ++ C.map (fun t => ptT (txM "caller") t.l))
noncomputable def townT (ns : List Int) (R C : List Tpl) : Txt := jn (txM "; ") (partsT ns R C)
theorem TT.pts {ns : List Int} {R C : List Tpl} (h : TT ns R C) : ∀ p ∈ partsT ns R C, 59 ∉ TL.tl p.x ∧ p.x.length ≤ 6200 := by
  intro p hp
  rcases List.mem_cons.mp hp with rfl | hp
  · have := ptT_ok Wd_names h.n h.nl
    exact ⟨this.s, this.len⟩
  · rcases List.mem_append.mp hp with hp | hp
    · obtain ⟨t, ht, rfl⟩ := List.mem_map.mp hp
      have := ptT_ok Wd_rope (h.r t ht).2 (by rw [(h.r t ht).1]; decide)
      exact ⟨this.s, this.len⟩
    · obtain ⟨t, ht, rfl⟩ := List.mem_map.mp hp
      have := ptT_ok Wd_caller (h.c t ht).2 (by rw [(h.c t ht).1]; decide)
      exact ⟨this.s, this.len⟩
theorem TT.jn {ns : List Int} {R C : List Tpl} (h : TT ns R C) : jnT (txM "; ") (partsT ns R C) = some (townT ns R C) ∧ splT (townT ns R C) (txM "; ") = some (partsT ns R C) := by
  have e1 : (txM "; ").x.length = 2 := by decide +kernel
  have e2 : TL.tl (txM "; ").x = [59, 32] := by decide +kernel
  have hl : (partsT ns R C).length ≤ 100 := by
    have := h.l
    unfold partsT
    rw [List.length_cons, List.length_append, List.length_map, List.length_map]; omega
  obtain ⟨h1, h2, h3, h4⟩ := jnT_jn (sep := txM "; ") (ps := partsT ns R C) (k := 6200) (fun p hp => (h.pts p hp).2) (by rw [e1]; omega)
  rw [e1] at h3
  exact ⟨h1, spl_of h2 e2 (by decide +kernel) (by unfold partsT; simp) (fun p hp => (h.pts p hp).1) (by unfold townT; omega)⟩
theorem read_town_ok {ns : List Int} {R C : List Tpl} (h : TT ns R C) (st : Sto) : Ok (f_read_town (townT ns R C) st) fun r => r.1 = ⟨⟨st.length⟩, ⟨st.length + 1⟩, ⟨st.length + 2⟩⟩ ∧ RT r.2 st.length ns R C := by
  unfold f_read_town
  refine Ok.st h.jn.2 ?_
  have hnp := ptT_ok Wd_names h.n h.nl
  refine Ok.st (y := txM "names" :: ns.map nt) (by show (atI (ptT (txM "names") ns :: _) 0).bind _ = _; rw [atI0]; exact hnp.spl) ?_
  refine Ok.st (y := false) ?_ ?_
  · rw [atI0]
    show some ((!decide (txM "names" = txM "names")) || decide (((txM "names" :: ns.map nt).length : Int) = 1)) = some false
    rw [decide_eq_true rfl, decide_eq_false]; · rfl
    intro hc
    have : ns.length = 0 := by rw [List.length_cons, List.length_map] at hc; omega
    exact h.n0 (List.length_eq_zero_iff.mp this)
  rw [if_neg (by decide), show (1 : Int) = ((1 : Nat) : Int) from rfl, cutG_fr, cutG_fr]
  show Ok ((((lcT (fun (_ : Txt) => some true) (fun (x6 : Txt) => f_read_number x6) (ns.map nt)).bind szG).bind fun x10 => some (newS st x10)).bind _) _
  rw [reads_nt h.n h.nl]
  refine Ok.st rfl ?_
  refine Ok.st rfl ?_
  refine Ok.st rfl ?_
  have l1 := len_new st ns
  have l2 := len_new (newS st ns).2 ([] : List Tpl)
  have l3 := len_new (newS (newS st ns).2 ([] : List Tpl)).2 ([] : List Tpl)
  have R0 : RT (newS (newS (newS st ns).2 ([] : List Tpl)).2 ([] : List Tpl)).2 st.length ns [] [] := by
    refine ⟨?_, ?_, ?_, by omega⟩
    · rw [look_new, if_neg (by omega), look_new, if_neg (by omega), look_new, if_pos rfl]
    · rw [look_new, if_neg (by omega), look_new, if_pos (by omega)]
    · rw [look_new, if_pos (by omega)]
  have hp1 : (newS (newS st ns).2 ([] : List Tpl)).1 = (⟨st.length + 1⟩ : Hd (List Tpl)) := by show (⟨(newS st ns).2.length⟩ : Hd (List Tpl)) = _; rw [l1]
  have hp2 : (newS (newS (newS st ns).2 ([] : List Tpl)).2 ([] : List Tpl)).1 = (⟨st.length + 2⟩ : Hd (List Tpl)) := by show (⟨(newS (newS st ns).2 ([] : List Tpl)).2.length⟩ : Hd (List Tpl)) = _; rw [l2, l1]
  rw [hp1, hp2]
  refine Ok.bind (fun s : ((Hd (List Tpl)) × (Hd (List Tpl))) × Sto => s.1 = (⟨st.length + 1⟩, ⟨st.length + 2⟩) ∧ RT s.2 st.length ns R C) ?_ ?_
  · show Ok (foldT _ (R.map (fun t => ptT (txM "rope") t.l) ++ C.map (fun t => ptT (txM "caller") t.l)) _) _
    rw [foldT_app]
    refine Ok.bind (fun s : ((Hd (List Tpl)) × (Hd (List Tpl))) × Sto => s.1 = (⟨st.length + 1⟩, ⟨st.length + 2⟩) ∧ RT s.2 st.length ns R []) ?_ ?_
    · refine foldT_map_ind (fun t : Tpl => ptT (txM "rope") t.l) 99 (fun pre (s : ((Hd (List Tpl)) × (Hd (List Tpl))) × Sto) => s.1 = (⟨st.length + 1⟩, ⟨st.length + 2⟩) ∧ RT s.2 st.length ns pre []) R [] _ (by have := h.l; rw [List.length_nil]; omega) ⟨rfl, R0⟩ ?_
      rintro pre t ⟨⟨a, b⟩, st'⟩ ht hN ⟨e1, H⟩
      cases e1
      have hr := h.r t ht
      have pk := ptT_ok Wd_rope hr.2 (by rw [hr.1]; decide)
      refine Ok.st pk.spl ?_
      rw [cutG_fr]
      show Ok ((((lcT (fun (_ : Txt) => some true) (fun (x6 : Txt) => f_read_number x6) (t.l.map nt)).bind szG)).bind _) _
      rw [reads_nt hr.2 (by rw [hr.1]; decide)]
      refine Ok.st rfl ?_
      refine Ok.bind (fun s : ((Hd (List Tpl)) × (Hd (List Tpl))) × Sto => s.1 = (⟨st.length + 1⟩, ⟨st.length + 2⟩) ∧ RT s.2 st.length ns (pre ++ [t]) []) ?_ ?_
      · rw [atI0]
        refine Ok.st (y := true) ?_ ?_
        · show (if decide (txM "rope" = txM "rope") = true then if decide ((t.l.length : Int) = 5) = true then (getS (α := List Tpl) st' (st.length + 2)).bind fun u33 => some (decide (u33 = ([] : List Tpl))) else some false else some false) = some true
          rw [if_pos (decide_eq_true rfl), if_pos (decide_eq_true (by rw [hr.1]; rfl)), getS_of H.c]; rfl
        rw [if_pos rfl]
        refine Ok.st rfl (Ok.st rfl ?_)
        unfold mutS
        rw [getS_of H.b]
        simp only [Option.bind_some]
        rw [appG_of (by omega)]
        exact ⟨_, rfl, rfl, H.r⟩
      · rintro ⟨⟨a, b⟩, st2⟩ ⟨e1, H2⟩
        cases e1
        exact ⟨_, rfl, rfl, H2⟩
    · rintro ⟨⟨a, b⟩, st1⟩ ⟨e1, H1⟩
      cases e1
      refine foldT_map_ind (fun t : Tpl => ptT (txM "caller") t.l) 99 (fun pre (s : ((Hd (List Tpl)) × (Hd (List Tpl))) × Sto) => s.1 = (⟨st.length + 1⟩, ⟨st.length + 2⟩) ∧ RT s.2 st.length ns R pre) C [] _ (by have := h.l; rw [List.length_nil]; omega) ⟨rfl, H1⟩ ?_
      rintro pre t ⟨⟨a, b⟩, st'⟩ ht hN ⟨e1, H⟩
      cases e1
      have hr := h.c t ht
      have pk := ptT_ok Wd_caller hr.2 (by rw [hr.1]; decide)
      have hne : decide (txM "caller" = txM "rope") = false := by decide +kernel
      refine Ok.st pk.spl ?_
      rw [cutG_fr]
      show Ok ((((lcT (fun (_ : Txt) => some true) (fun (x6 : Txt) => f_read_number x6) (t.l.map nt)).bind szG)).bind _) _
      rw [reads_nt hr.2 (by rw [hr.1]; decide)]
      refine Ok.st rfl ?_
      refine Ok.bind (fun s : ((Hd (List Tpl)) × (Hd (List Tpl))) × Sto => s.1 = (⟨st.length + 1⟩, ⟨st.length + 2⟩) ∧ RT s.2 st.length ns R (pre ++ [t])) ?_ ?_
      · rw [atI0]
        refine Ok.st (y := false) ?_ ?_
        · show (if decide (txM "caller" = txM "rope") = true then if decide ((t.l.length : Int) = 5) = true then (getS (α := List Tpl) st' (st.length + 2)).bind fun u33 => some (decide (u33 = ([] : List Tpl))) else some false else some false) = some false
          rw [hne]; rfl
        rw [if_neg (by decide)]
        refine Ok.st (y := true) ?_ ?_
        · show some (decide (txM "caller" = txM "caller") && decide ((t.l.length : Int) = 2)) = some true
          rw [decide_eq_true rfl, decide_eq_true (by rw [hr.1]; rfl)]; rfl
        rw [if_pos rfl]
        refine Ok.st rfl (Ok.st rfl ?_)
        unfold mutS
        rw [getS_of H.c]
        simp only [Option.bind_some]
        rw [appG_of (by omega)]
        exact ⟨_, rfl, rfl, H.k⟩
      · rintro ⟨⟨a, b⟩, st2⟩ ⟨e1, H2⟩
        cases e1
        exact ⟨_, rfl, rfl, H2⟩
  · rintro ⟨⟨a, b⟩, st'⟩ ⟨h1, h2⟩
    cases h1
    exact ⟨_, rfl, rfl, h2⟩
/-! ### plain: the law -/
theorem cell_any (sc : Scr) {k : Int} (h : 0 ≤ k) : Ok (f_law_cell_at sc k) fun _ => True := by
  unfold f_law_cell_at
  split
  · rename_i c
    rw [atI_g 0 h (of_decide_eq_true c)]
    exact ⟨_, rfl, trivial⟩
  · exact ⟨_, rfl, trivial⟩
theorem number_ok (c : Int) {k : Int} (h0 : 0 ≤ k) (h1 : k ≤ 20) : Ok (f_law_number c k) Nb := by
  unfold f_law_number
  have e60 : gPow 10 60 = some ((10 : Int) ^ 60) := gPow_10 (by decide) (by decide)
  have e7 : gPow 10 7 = some ((10 : Int) ^ 7) := gPow_10 (by decide) (by decide)
  have p60 : (0 : Int) < 10 ^ 60 := by decide
  have hb0 := Int.emod_nonneg c (show (10 : Int) ^ 60 ≠ 0 by decide)
  have hb1 := Int.emod_lt_of_pos c p60
  have hkk : 0 ≤ k * k ∧ k * k ≤ 400 := by
    have : k.toNat * k.toNat ≤ 20 * 20 := Nat.mul_le_mul (by omega) (by omega)
    have e : k * k = ((k.toNat * k.toNat : Nat) : Int) := by rw [Int.natCast_mul, Int.toNat_of_nonneg h0]
    omega
  have g1 : gMul k k = some (k * k) := gMul_b (by omega) (by omega)
  have g2 : gMul (k * k) 11 = some (k * k * 11) := gMul_b (by omega) (by omega)
  have g3 : gMul 3 k = some (3 * k) := gMul_b (by omega) (by omega)
  have g4 : gMul (c % 10 ^ 60 + k * k * 11 + 3 * k) 69621 = some ((c % 10 ^ 60 + k * k * 11 + 3 * k) * 69621) := gMul_b (by omega) (by omega)
  refine Ok.st (y := (c % 10 ^ 60 + k * k * 11 + 3 * k) * 69621 % 2147483647) (by
    simp only [e60, Option.bind_some, gMod_b p60, g1, g2, g3, g4]) ?_
  generalize hm : (c % 10 ^ 60 + k * k * 11 + 3 * k) * 69621 % 2147483647 = m
  have m0 : 0 ≤ m ∧ m < 2147483647 := by omega
  have g5 : gMul k m = some (k * m) := gMul_b (by omega) (by omega)
  refine Ok.st (y := (c + k * m) % 10 ^ 60) (by simp only [e60, Option.bind_some, gMod_b p60, g5]) ?_
  have n0 := Int.emod_nonneg (c + k * m) (show (10 : Int) ^ 60 ≠ 0 by decide)
  have n1 := Int.emod_lt_of_pos (c + k * m) p60
  generalize (c + k * m) % 10 ^ 60 = n at n0 n1
  split
  · exact ⟨_, rfl, by omega, by omega⟩
  · split
    · simp only [e7, Option.bind_some, gMod_b (show (0 : Int) < 10 ^ 7 by decide)]
      exact ⟨_, rfl, by omega, by omega⟩
    · exact ⟨_, rfl, n0, n1⟩
theorem zipT_self {α : Type} : ∀ (l : List α), ∀ x ∈ zipT l l, x.x0 = x.x1
  | [], _, h => by cases h
  | a :: l, x, h => by
    rcases List.mem_cons.mp h with rfl | h
    · rfl
    · exact zipT_self l x h
theorem numbers_same {h : Hd (List Int)} {l : List Int} {st : Sto} (e : getS (α := List Int) st h.g = some l) : f_law_numbers h l st = some true := by
  unfold f_law_numbers
  simp only [e, Option.bind_some, decide_true, Bool.not_true, Bool.false_eq_true, if_false]
  rw [forT_unit fun x hx => ?_]
  · rfl
  · have := zipT_self l x hx
    simp [f_law_whole, this]
theorem numbers_T_same (t : Tpl) : f_law_numbers_T t t = some true := by
  unfold f_law_numbers_T
  rw [decide_eq_true rfl, if_neg (by decide), forT_unit fun x hx => ?_]
  · rfl
  · have := zipT_self t.l x hx
    simp [f_law_whole, this]
theorem tuples_same {h : Hd (List Tpl)} {l : List Tpl} {st : Sto} (e : getS (α := List Tpl) st h.g = some l) : f_law_tuples h l st = some true := by
  unfold f_law_tuples
  simp only [e, Option.bind_some, decide_true, Bool.not_true, Bool.false_eq_true, if_false]
  rw [forT_unit fun x hx => ?_]
  · rfl
  · have := zipT_self l x hx
    rw [this, numbers_T_same]; rfl
theorem law_read_ok {ns : List Int} {R C : List Tpl} (h : TT ns R C) (st : Sto) : Ok (f_law_read (townT ns R C) ns R C st) fun r => r.1 = true := by
  unfold f_law_read
  obtain ⟨⟨a, st1⟩, e1, e2, H⟩ := read_town_ok h st
  simp only at e2
  subst e2
  refine Ok.st e1 ?_
  have ga : getS (α := List Int) st1 st.length = some ns := getS_of H.a
  have gb : getS (α := List Tpl) st1 (st.length + 1) = some R := getS_of H.b
  have gc : getS (α := List Tpl) st1 (st.length + 2) = some C := getS_of H.c
  refine Ok.st (y := false) (by simp only [ga, Option.bind_some]; rfl) ?_
  rw [if_neg (by decide)]
  refine Ok.st (y := false) ?_ ?_
  · rw [numbers_same ga]
    show ((f_law_tuples (⟨st.length + 1⟩ : Hd (List Tpl)) R st1).bind fun p11 => some (!p11)).bind _ = _
    rw [tuples_same gb]
    show ((f_law_tuples (⟨st.length + 2⟩ : Hd (List Tpl)) C st1).bind fun p11 => some (!p11)) = _
    rw [tuples_same gc]; rfl
  rw [if_neg (by decide)]
  refine Ok.st rfl ?_
  refine Ok.st (y := putS (α := List Int) st1 st.length []) (by unfold mutS; simp only [ga, Option.bind_some]) ?_
  have hl : st1.length = st.length + 3 := H.l
  refine Ok.st rfl ?_
  have gb' : getS (α := List Tpl) (putS (α := List Int) st1 st.length []) (st.length + 1) = some R := getS_of (by rw [look_put _ (by omega), if_neg (by omega)]; exact H.b)
  refine Ok.st (y := putS (α := List Tpl) (putS (α := List Int) st1 st.length []) (st.length + 1) []) (by unfold mutS; simp only [gb', Option.bind_some]) ?_
  refine Ok.st rfl ?_
  have gc' : getS (α := List Tpl) (putS (α := List Tpl) (putS (α := List Int) st1 st.length []) (st.length + 1) []) (st.length + 2) = some C := getS_of (by
    rw [look_put _ (by rw [len_put]; omega), if_neg (by omega), look_put _ (by omega), if_neg (by omega)]; exact H.c)
  refine Ok.st (y := putS (α := List Tpl) (putS (α := List Tpl) (putS (α := List Int) st1 st.length []) (st.length + 1) []) (st.length + 2) []) (by unfold mutS; simp only [gc', Option.bind_some]) ?_
  exact ⟨_, rfl, rfl⟩
structure RC (k : Nat) (s : List Tpl × List Tpl) : Prop where
  l : s.1.length + s.2.length ≤ k
  r : ∀ t ∈ s.1, t.l.length = 5 ∧ ∀ i ∈ t.l, Nb i
  c : ∀ t ∈ s.2, t.l.length = 2 ∧ ∀ i ∈ t.l, Nb i
theorem cut24 {α : Type} (l : List α) : (cutG l (some 1) (some 25)).length ≤ 24 := by
  unfold cutG
  have e1 : HT.sIx l.length 0 (some (1 : Int)) = min 1 l.length := HT.sIx_nat _ _ 1
  have e2 : HT.sIx l.length l.length (some (25 : Int)) = min 25 l.length := HT.sIx_nat _ _ 25
  rw [List.length_take, List.length_drop, e1, e2]; omega
theorem law_plain (sc : Scr) (_ : sc.l.length ≤ 63) : Ok (f_law sc []) fun p => p.1 = true := by
  unfold f_law
  refine Ok.bind (fun _ => True) (cell_any sc (Int.le_refl 0)) fun first2 _ => ?_
  refine Ok.bind (fun s : List Int => s.length = 1 ∧ ∀ i ∈ s, Nb i) (Ok.bind Nb (number_ok _ (Int.le_refl 0) (by decide)) fun b hb => ⟨_, rfl, rfl, fun i hi => by rw [List.mem_singleton.mp hi]; exact hb⟩) fun names5 hn5 => ?_
  have r0 := Int.emod_nonneg first2 (show (12 : Int) ≠ 0 by decide)
  have r1 := Int.emod_lt_of_pos first2 (show (0 : Int) < 12 by decide)
  refine Ok.bind (fun s : List Int => (s ≠ [] ∧ s.length ≤ 99) ∧ ∀ i ∈ s, Nb i) ?_ ?_
  · rw [rngG0 r0 (by omega)]
    refine Ok.imp (Ok.num (fun k (s : List Int) => s.length = k + 1 ∧ ∀ i ∈ s, Nb i) ⟨hn5.1, hn5.2⟩ fun k x s hx hk hs => ?_) fun s hs => ⟨⟨fun e => ?_, ?_⟩, hs.2⟩
    · have hx := mem_rngI.mp hx
      rw [rngI_len] at hk
      refine Ok.bind Nb (Ok.bind (fun _ => True) (cell_any sc hx.1) fun b _ => number_ok b (by omega) (by omega)) fun y hy => ?_
      refine Ok.bind (fun s' => s' = s ++ [y]) (Ok.app (by omega) rfl) ?_
      rintro _ rfl
      refine ⟨_, rfl, by rw [List.length_append, hs.1]; rfl, fun i hi => ?_⟩
      rcases List.mem_append.mp hi with hi | hi
      · exact hs.2 i hi
      · rw [List.mem_singleton.mp hi]; exact hy
    · rw [e] at hs; simp at hs
    · rw [hs.1, rngI_len]; omega
  rintro ns ⟨⟨hn0, hnl⟩, hn⟩
  refine Ok.bind (fun s : List Tpl × List Tpl => RC 24 s) ?_ ?_
  · refine Ok.imp (Ok.num (fun k (s : List Tpl × List Tpl) => RC k s) ⟨Nat.le_refl _, fun _ h => (nomatch h), fun _ h => (nomatch h)⟩ fun k x s hx hk hs => ?_) fun s hs => ⟨Nat.le_trans hs.l (cut24 _), hs.r, hs.c⟩
    have h24 := cut24 sc.l
    refine Ok.bind (fun s => RC (k + 1) s) ?_ fun s' hs' => ⟨_, rfl, hs'⟩
    have hsl := hs.l
    split
    · refine Ok.bind (fun t : Tpl => t.l.length = 2 ∧ ∀ i ∈ t.l, Nb i) (Ok.bind (fun b : Int × Int => Nb b.1 ∧ Nb b.2) (Ok.bind Nb (number_ok _ (by decide) (by decide)) fun a ha => Ok.bind Nb (number_ok _ (by decide) (by decide)) fun b hb => ⟨_, rfl, ha, hb⟩) fun b hb => ⟨_, rfl, rfl, fun i hi => by
        rcases List.mem_cons.mp hi with rfl | hi
        · exact hb.1
        · rw [List.mem_singleton.mp hi]; exact hb.2⟩) fun t ht => ?_
      refine Ok.bind (fun s' => s' = s.2 ++ [t]) (Ok.app (by omega) rfl) ?_
      rintro _ rfl
      refine ⟨_, rfl, by show s.1.length + (s.2 ++ [t]).length ≤ k + 1; rw [List.length_append, List.length_singleton]; omega, hs.r, fun u hu => ?_⟩
      rcases List.mem_append.mp hu with hu | hu
      · exact hs.c u hu
      · rw [List.mem_singleton.mp hu]; exact ht
    · refine Ok.bind (fun t : Tpl => t.l.length = 5 ∧ ∀ i ∈ t.l, Nb i) ?_ fun t ht => ?_
      · rw [rngG0 (by decide) (by decide)]
        refine Ok.bind (fun l : List Int => l.length = 5 ∧ ∀ i ∈ l, Nb i) ?_ fun l hl => ⟨_, rfl, hl⟩
        refine Ok.imp (Ok.lc Nb (by rw [rngI_len]; decide) fun x hx => number_ok _ (mem_rngI.mp hx).1 (by have := (mem_rngI.mp hx).2; omega)) fun m hm => ⟨by rw [hm.1, rngI_len]; rfl, hm.2⟩
      refine Ok.bind (fun s' => s' = s.1 ++ [t]) (Ok.app (by omega) rfl) ?_
      rintro _ rfl
      refine ⟨_, rfl, by show (s.1 ++ [t]).length + s.2.length ≤ k + 1; rw [List.length_append, List.length_singleton]; omega, fun u hu => ?_, hs.c⟩
      rcases List.mem_append.mp hu with hu | hu
      · exact hs.r u hu
      · rw [List.mem_singleton.mp hu]; exact ht
  rintro ⟨R, C⟩ hRC
  have hrl : R.length + C.length ≤ 24 := hRC.l
  have hRl : R.length ≤ 100 := by omega
  have hCl : C.length ≤ 100 := by omega
  simp only []
  have T : TT ns R C := ⟨hn, hn0, hnl, hRC.r, hRC.c, by omega⟩
  have q1 : ((lcT (fun (x35 : Tpl) => some true) (fun (x35 : Tpl) => f_law_part_T (txM "rope") x35) R).bind szG) = some (R.map fun t => ptT (txM "rope") t.l) := by
    rw [lcT_ok (F := fun t : Tpl => ptT (txM "rope") t.l) fun x hx => f_law_part_T_ok Wd_rope (hRC.r x hx).2 (by rw [(hRC.r x hx).1]; decide)]
    exact szG_of (by rw [List.length_map]; exact Nat.le_trans hRl (by decide))
  have q2 : ((lcT (fun (x35 : Tpl) => some true) (fun (x35 : Tpl) => f_law_part_T (txM "caller") x35) C).bind szG) = some (C.map fun t => ptT (txM "caller") t.l) := by
    rw [lcT_ok (F := fun t : Tpl => ptT (txM "caller") t.l) fun x hx => f_law_part_T_ok Wd_caller (hRC.c x hx).2 (by rw [(hRC.c x hx).1]; decide)]
    exact szG_of (by rw [List.length_map]; exact Nat.le_trans hCl (by decide))
  refine Ok.st (y := ptT (txM "names") ns :: R.map fun t => ptT (txM "rope") t.l) ?_ ?_
  · rw [f_law_part_ok Wd_names hn hnl]
    simp only [Option.bind_some]
    rw [q1]
    simp only [Option.bind_some]
    exact catG_of (by rw [List.length_map]; simp; omega)
  refine Ok.st (y := townT ns R C) ?_ ?_
  · rw [q2]
    simp only [Option.bind_some]
    rw [catG_of (by rw [List.length_cons, List.length_map, List.length_map]; omega)]
    exact T.jn.1
  obtain ⟨⟨b1, st1⟩, e1, f1⟩ := law_read_ok T []
  obtain ⟨⟨b2, st2⟩, e2, f2⟩ := law_read_ok T st1
  simp only at f1 f2
  subst f1; subst f2
  refine Ok.st (y := (false, st2)) ?_ ?_
  · show (((f_law_read (townT ns R C) ns R C []).bind fun p52 => some (!p52.1, p52.2)).bind fun p57 => if p57.1 = true then some (true, p57.2) else (f_law_read (townT ns R C) ns R C p57.2).bind fun p56 => some (!p56.1, p56.2)) = _
    rw [e1]
    show (f_law_read (townT ns R C) ns R C st1).bind _ = _
    rw [e2]; rfl
  rw [if_neg (show ¬ (false : Bool) = true by decide)]
  have e3 : ((lcT (fun (x58 : Int) => some true) (fun (x58 : Int) => (strT x58).bind fun b61 => f_read_number b61) ns).bind szG) = some ns := by
    rw [lcT_ok (F := id) fun x hx => by rw [(strT_nt (hn x hx)).1]; exact f_read_number_ok (hn x hx), List.map_id]
    exact szG_of (by omega)
  refine Ok.bind (fun p => p.1 = true) ?_ fun p hp => ⟨_, rfl, hp⟩
  rw [e3]
  show Ok ((f_law_numbers (newS st2 ns).1 ns (newS st2 ns).2).bind fun r => some (r, (newS st2 ns).2)) _
  rw [numbers_same (getS_of (by
    show lookS (newS st2 ns).2 st2.length = _
    rw [look_new, if_pos rfl]))]
  exact ⟨_, rfl, rfl⟩
theorem law_true : ∀ ns : List Int, ns.length ≤ 63 → ∃ st', m_law [.scr ns] [] = some (.sh (.bl true), st') := fun ns h => by
  have := ev_law ⟨ns⟩ []
  obtain ⟨p, e, h⟩ := law_plain ⟨ns⟩ h
  rw [e] at this
  refine ⟨p.2, this.trans ?_⟩
  show some (Kx.sh.r (en p.1), p.2) = _
  rw [h]; rfl
theorem all_mk {l : PySem.W.OpenLaw} {w : World} {K : PySem.W.Frag} {h : Heap} {mg : Str → Option Value} {fa : Addr} (X : K.In h) (G : h.Ns mainGlobals mg) (hfa : mg "law" = some (.ref fa)) {od0 an0 : Option Addr} {sl0 : Array (Option Value)} {oc0 kV0 dc0 pm0 cd0 ct0 : Value} {f0 : Addr} {od1 an1 : Option Addr} {sl1 : Array (Option Value)} {oc1 kV1 dc1 pm1 cd1 ct1 : Value} {f1 : Addr} {od2 an2 : Option Addr} {sl2 : Array (Option Value)} {oc2 kV2 dc2 pm2 cd2 ct2 : Value} {f2 : Addr} {od3 an3 : Option Addr} {sl3 : Array (Option Value)} {oc3 kV3 dc3 pm3 cd3 ct3 : Value} {f3 : Addr} {od4 an4 : Option Addr} {sl4 : Array (Option Value)} {oc4 kV4 dc4 pm4 cd4 ct4 : Value} {f4 : Addr} {od6 an6 : Option Addr} {sl6 : Array (Option Value)} {oc6 kV6 dc6 pm6 cd6 ct6 : Value} {f6 : Addr} {od7 an7 : Option Addr} {sl7 : Array (Option Value)} {oc7 kV7 dc7 pm7 cd7 ct7 : Value} {f7 : Addr} {od9 an9 : Option Addr} {sl9 : Array (Option Value)} {oc9 kV9 dc9 pm9 cd9 ct9 : Value} {f9 : Addr} {od10 an10 : Option Addr} {sl10 : Array (Option Value)} {oc10 kV10 dc10 pm10 cd10 ct10 : Value} {f10 : Addr} {od11 an11 : Option Addr} {sl11 : Array (Option Value)} {oc11 kV11 dc11 pm11 cd11 ct11 : Value} {f11 : Addr} {t_FIGURES : Tok}
    (a0 : PySem.W.nsIn K mainGlobals "_law_cell_at" = some (some (.ref f0)))
    (l0 : K.lookup f0 = some ⟨oc0, od0, .func (PySem.W.fnOf "_law_cell_at" "_law_cell_at" (defArgs s_law_cell_at) (defBody s_law_cell_at) (defScope s_law_cell_at) .none kV0 dc0 pm0 an0 cd0 ct0), sl0⟩)
    (e0 : PySem.W.codeIn K cd0 "_law_cell_at" = true)
    (k0 : PySem.W.keepIn K (.ref f0) = true)
    (a1 : PySem.W.nsIn K mainGlobals "_law_whole" = some (some (.ref f1)))
    (l1 : K.lookup f1 = some ⟨oc1, od1, .func (PySem.W.fnOf "_law_whole" "_law_whole" (defArgs s_law_whole) (defBody s_law_whole) (defScope s_law_whole) .none kV1 dc1 pm1 an1 cd1 ct1), sl1⟩)
    (e1 : PySem.W.codeIn K cd1 "_law_whole" = true)
    (k1 : PySem.W.keepIn K (.ref f1) = true)
    (a2 : PySem.W.nsIn K mainGlobals "_law_numbers" = some (some (.ref f2)))
    (l2 : K.lookup f2 = some ⟨oc2, od2, .func (PySem.W.fnOf "_law_numbers" "_law_numbers" (defArgs s_law_numbers) (defBody s_law_numbers) (defScope s_law_numbers) .none kV2 dc2 pm2 an2 cd2 ct2), sl2⟩)
    (e2 : PySem.W.codeIn K cd2 "_law_numbers" = true)
    (k2 : PySem.W.keepIn K (.ref f2) = true)
    (a3 : PySem.W.nsIn K mainGlobals "_law_number" = some (some (.ref f3)))
    (l3 : K.lookup f3 = some ⟨oc3, od3, .func (PySem.W.fnOf "_law_number" "_law_number" (defArgs s_law_number) (defBody s_law_number) (defScope s_law_number) .none kV3 dc3 pm3 an3 cd3 ct3), sl3⟩)
    (e3 : PySem.W.codeIn K cd3 "_law_number" = true)
    (k3 : PySem.W.keepIn K (.ref f3) = true)
    (a4 : PySem.W.nsIn K mainGlobals "_law_part" = some (some (.ref f4)))
    (l4 : K.lookup f4 = some ⟨oc4, od4, .func (PySem.W.fnOf "_law_part" "_law_part" (defArgs s_law_part) (defBody s_law_part) (defScope s_law_part) .none kV4 dc4 pm4 an4 cd4 ct4), sl4⟩)
    (e4 : PySem.W.codeIn K cd4 "_law_part" = true)
    (k4 : PySem.W.keepIn K (.ref f4) = true)
    (a6 : PySem.W.nsIn K mainGlobals "read_number" = some (some (.ref f6)))
    (l6 : K.lookup f6 = some ⟨oc6, od6, .func (PySem.W.fnOf "read_number" "read_number" (defArgs s_read_number) (defBody s_read_number) (defScope s_read_number) .none kV6 dc6 pm6 an6 cd6 ct6), sl6⟩)
    (e6 : PySem.W.codeIn K cd6 "read_number" = true)
    (k6 : PySem.W.keepIn K (.ref f6) = true)
    (a7 : PySem.W.nsIn K mainGlobals "read_town" = some (some (.ref f7)))
    (l7 : K.lookup f7 = some ⟨oc7, od7, .func (PySem.W.fnOf "read_town" "read_town" (defArgs s_read_town) (defBody s_read_town) (defScope s_read_town) .none kV7 dc7 pm7 an7 cd7 ct7), sl7⟩)
    (e7 : PySem.W.codeIn K cd7 "read_town" = true)
    (k7 : PySem.W.keepIn K (.ref f7) = true)
    (a9 : PySem.W.nsIn K mainGlobals "_law_tuples" = some (some (.ref f9)))
    (l9 : K.lookup f9 = some ⟨oc9, od9, .func (PySem.W.fnOf "_law_tuples" "_law_tuples" (defArgs s_law_tuples) (defBody s_law_tuples) (defScope s_law_tuples) .none kV9 dc9 pm9 an9 cd9 ct9), sl9⟩)
    (e9 : PySem.W.codeIn K cd9 "_law_tuples" = true)
    (k9 : PySem.W.keepIn K (.ref f9) = true)
    (a10 : PySem.W.nsIn K mainGlobals "_law_read" = some (some (.ref f10)))
    (l10 : K.lookup f10 = some ⟨oc10, od10, .func (PySem.W.fnOf "_law_read" "_law_read" (defArgs s_law_read) (defBody s_law_read) (defScope s_law_read) .none kV10 dc10 pm10 an10 cd10 ct10), sl10⟩)
    (e10 : PySem.W.codeIn K cd10 "_law_read" = true)
    (k10 : PySem.W.keepIn K (.ref f10) = true)
    (a11 : PySem.W.nsIn K mainGlobals "law" = some (some (.ref f11)))
    (l11 : K.lookup f11 = some ⟨oc11, od11, .func (PySem.W.fnOf "law" "law" (defArgs s_law) (defBody s_law) (defScope s_law) .none kV11 dc11 pm11 an11 cd11 ct11), sl11⟩)
    (e11 : PySem.W.codeIn K cd11 "law" = true)
    (k11 : PySem.W.keepIn K (.ref f11) = true)
    (g_FIGURES : PySem.W.nsIn K mainGlobals "FIGURES" = some (some (.str "0123456789" t_FIGURES)))
    (z_bool : PySem.W.nsIn K mainGlobals "bool" = some none)
    (z_int : PySem.W.nsIn K mainGlobals "int" = some none)
    (z_isinstance : PySem.W.nsIn K mainGlobals "isinstance" = some none)
    (z_len : PySem.W.nsIn K mainGlobals "len" = some none)
    (z_list : PySem.W.nsIn K mainGlobals "list" = some none)
    (z_range : PySem.W.nsIn K mainGlobals "range" = some none)
    (z_str : PySem.W.nsIn K mainGlobals "str" = some none)
    (z_tuple : PySem.W.nsIn K mainGlobals "tuple" = some none)
    (z_zip : PySem.W.nsIn K mainGlobals "zip" = some none)
    (hl : ∀ ns : List Int, ns.length ≤ 63 → ∃ st', m_law [.scr ns] [] = some (.sh (.bl true), st')) :
    ∃ fd : FuncData, (∀ (s : Shared) (v : Value), BindsTo s fd ⟨[v], []⟩ [("_law_script", v)]) ∧ ∀ base : Heap, K.In base → base.Ns mainGlobals mg → FnOk l.prog w K mg base CX0 5 fa fd ["_law_script"] (spLaw K) := by
  have e := hfa.symm.trans (PySem.W.mg_of X G a11)
  cases e
  have Z : Zs mg := ⟨PySem.W.mg_none_of X G z_bool, PySem.W.mg_none_of X G z_int, PySem.W.mg_none_of X G z_isinstance, PySem.W.mg_none_of X G z_len, PySem.W.mg_none_of X G z_list, PySem.W.mg_none_of X G z_range, PySem.W.mg_none_of X G z_str, PySem.W.mg_none_of X G z_tuple, PySem.W.mg_none_of X G z_zip⟩
  have G_FIGURES := PySem.W.mg_of X G g_FIGURES
  refine ⟨PySem.W.fnOf "law" "law" (defArgs s_law) (defBody s_law) (defScope s_law) .none kV11 dc11 pm11 an11 cd11 ct11, fun s v => .of_eq rfl, fun base _ _ => ?_⟩
  have F_law_cell_at := fun_mk (st := s_law_cell_at) l0 e0 k0
  have C_law_cell_at : Cal l.prog w K mg base (fun _ => none) "_law_cell_at" 1 ["_law_script", "_law_k"] m_law_cell_at := ⟨f0, _, ok_law_cell_at F_law_cell_at Z , PySem.W.mg_of X G a0, F_law_cell_at.kp, (F_law_cell_at.binds (ps := ["_law_script", "_law_k"]) fun _ _ _ _ _ _ us hl => match us, hl with | [_, _], _ => rfl)⟩
  have F_law_whole := fun_mk (st := s_law_whole) l1 e1 k1
  have C_law_whole : Cal l.prog w K mg base (fun _ => none) "_law_whole" 1 ["_law_found"] m_law_whole := ⟨f1, _, ok_law_whole F_law_whole Z , PySem.W.mg_of X G a1, F_law_whole.kp, (F_law_whole.binds (ps := ["_law_found"]) fun _ _ _ _ _ _ us hl => match us, hl with | [_], _ => rfl)⟩
  have F_law_numbers := fun_mk (st := s_law_numbers) l2 e2 k2
  have C_law_numbers : Cal l.prog w K mg base (fun _ => none) "_law_numbers" 2 ["_law_found", "_law_ought"] m_law_numbers := ⟨f2, _, ok_law_numbers F_law_numbers Z C_law_whole, PySem.W.mg_of X G a2, F_law_numbers.kp, (F_law_numbers.binds (ps := ["_law_found", "_law_ought"]) fun _ _ _ _ _ _ us hl => match us, hl with | [_, _], _ => rfl)⟩
  have F_law_number := fun_mk (st := s_law_number) l3 e3 k3
  have C_law_number : Cal l.prog w K mg base (fun _ => none) "_law_number" 1 ["_law_cell", "_law_k"] m_law_number := ⟨f3, _, ok_law_number F_law_number Z , PySem.W.mg_of X G a3, F_law_number.kp, (F_law_number.binds (ps := ["_law_cell", "_law_k"]) fun _ _ _ _ _ _ us hl => match us, hl with | [_, _], _ => rfl)⟩
  have F_law_part := fun_mk (st := s_law_part) l4 e4 k4
  have C_law_part : Cal l.prog w K mg base (fun _ => none) "_law_part" 1 ["_law_word", "_law_numbers_here"] m_law_part := ⟨f4, _, ok_law_part F_law_part Z , PySem.W.mg_of X G a4, F_law_part.kp, (F_law_part.binds (ps := ["_law_word", "_law_numbers_here"]) fun _ _ _ _ _ _ us hl => match us, hl with | [_, _], _ => rfl)⟩
  have C_law_part_T : Cal l.prog w K mg base (fun _ => none) "_law_part" 1 ["_law_word", "_law_numbers_here"] m_law_part_T := ⟨f4, _, ok_law_part_T F_law_part Z , PySem.W.mg_of X G a4, F_law_part.kp, (F_law_part.binds (ps := ["_law_word", "_law_numbers_here"]) fun _ _ _ _ _ _ us hl => match us, hl with | [_, _], _ => rfl)⟩
  have F_read_number := fun_mk (st := s_read_number) l6 e6 k6
  have C_read_number : Cal l.prog w K mg base (fun _ => none) "read_number" 1 ["word"] m_read_number := ⟨f6, _, ok_read_number F_read_number Z G_FIGURES, PySem.W.mg_of X G a6, F_read_number.kp, (F_read_number.binds (ps := ["word"]) fun _ _ _ _ _ _ us hl => match us, hl with | [_], _ => rfl)⟩
  have F_read_town := fun_mk (st := s_read_town) l7 e7 k7
  have C_read_town : Cal l.prog w K mg base (fun _ => none) "read_town" 2 ["text"] m_read_town := ⟨f7, _, ok_read_town F_read_town Z C_read_number, PySem.W.mg_of X G a7, F_read_town.kp, (F_read_town.binds (ps := ["text"]) fun _ _ _ _ _ _ us hl => match us, hl with | [_], _ => rfl)⟩
  have C_law_numbers_T : Cal l.prog w K mg base (fun _ => none) "_law_numbers" 2 ["_law_found", "_law_ought"] m_law_numbers_T := ⟨f2, _, ok_law_numbers_T F_law_numbers Z C_law_whole, PySem.W.mg_of X G a2, F_law_numbers.kp, (F_law_numbers.binds (ps := ["_law_found", "_law_ought"]) fun _ _ _ _ _ _ us hl => match us, hl with | [_, _], _ => rfl)⟩
  have F_law_tuples := fun_mk (st := s_law_tuples) l9 e9 k9
  have C_law_tuples : Cal l.prog w K mg base (fun _ => none) "_law_tuples" 3 ["_law_found", "_law_ought"] m_law_tuples := ⟨f9, _, ok_law_tuples F_law_tuples Z C_law_numbers_T, PySem.W.mg_of X G a9, F_law_tuples.kp, (F_law_tuples.binds (ps := ["_law_found", "_law_ought"]) fun _ _ _ _ _ _ us hl => match us, hl with | [_, _], _ => rfl)⟩
  have F_law_read := fun_mk (st := s_law_read) l10 e10 k10
  have C_law_read : Cal l.prog w K mg base (fun _ => none) "_law_read" 4 ["_law_text", "_law_names", "_law_ropes", "_law_callers"] m_law_read := ⟨f10, _, ok_law_read F_law_read Z C_read_town C_law_numbers C_law_tuples, PySem.W.mg_of X G a10, F_law_read.kp, (F_law_read.binds (ps := ["_law_text", "_law_names", "_law_ropes", "_law_callers"]) fun _ _ _ _ _ _ us hl => match us, hl with | [_, _, _, _], _ => rfl)⟩
  have F_law := fun_mk (st := s_law) l11 e11 k11
  have G_law := ok_law (P := l.prog) (w := w) (base := base) (ct := fun _ => none) F_law Z C_law_cell_at C_law_number C_law_part C_law_part_T C_law_read C_law_numbers C_read_number
  exact law_ok G_law hl
theorem walk {l : PySem.W.OpenLaw} {q : Program} {loose : List Str} {XP : (Str → Option Value) → Heap → Prop} {YP : World → Heap → Prop} {d : DefRec} {K : Params → PySem.W.Frag} (hn : l.most = some 63) (hdf : d.params.defaults = [])
    (hY : ∀ (w : World) (h : Heap), YP w h → (K w.params).In h)
    (F : ∀ (w : World) (mg : Str → Option Value) (fa : Addr) (h : Heap), (K w.params).In h → h.Ns mainGlobals mg → mg d.name = some (.ref fa) →
      ∃ fd : FuncData, (∀ (s : Shared) (u : Value), BindsTo s fd ⟨[u], []⟩ [("_law_script", u)]) ∧ ∀ base : Heap, (K w.params).In base → base.Ns mainGlobals mg → FnOk l.prog w (K w.params) mg base CX0 5 fa fd ["_law_script"] (spLaw (K w.params))) :
    PySem.W.WalkO q loose XP YP l.row.toRowW d [] (fun f vs => PySem.call f vs) :=
  L2.walk_of (n := 63) (k := 5) (x := "_law_script") (CX := fun _ => CX0) (sp := fun w => spLaw (K w.params)) hn (by decide) hdf ⟨rfl, by decide, by decide⟩ hY F (fun _ _ a ns hl _ hS => ⟨a, ns, rfl, hS, hl, fun _ => rfl⟩) fun _ _ _ _ _ z => z
end Law
open PySem PySem.W PyProof.Rows in
set_option maxRecDepth 100000 in
set_option maxHeartbeats 0 in
theorem PySem.Challenge.cw_knotless_k37_town_read_holds : PySem.Challenge.rw_knotless_k37_town_read.Holds := by
  refine head0 ?_
  k_fill
  refine Law.walk (l := PySem.Challenge.rw_knotless_k37_town_read) rfl rfl (fun w h Y => PySem.W.kIn_of Y) ?F
  case F =>
    intro w mg fa h KX G hmg
    refine' Law.all_mk KX G hmg ?a0 ?l0 ?e0 ?k0 ?a1 ?l1 ?e1 ?k1 ?a2 ?l2 ?e2 ?k2 ?a3 ?l3 ?e3 ?k3 ?a4 ?l4 ?e4 ?k4 ?a6 ?l6 ?e6 ?k6 ?a7 ?l7 ?e7 ?k7 ?a9 ?l9 ?e9 ?k9 ?a10 ?l10 ?e10 ?k10 ?a11 ?l11 ?e11 ?k11 ?g_FIGURES ?z_bool ?z_int ?z_isinstance ?z_len ?z_list ?z_range ?z_str ?z_tuple ?z_zip Law.law_true
    (case a0 => k_is)
    (case l0 => k_is)
    (case e0 => k_is)
    (case k0 => k_is)
    (case a1 => k_is)
    (case l1 => k_is)
    (case e1 => k_is)
    (case k1 => k_is)
    (case a2 => k_is)
    (case l2 => k_is)
    (case e2 => k_is)
    (case k2 => k_is)
    (case a3 => k_is)
    (case l3 => k_is)
    (case e3 => k_is)
    (case k3 => k_is)
    (case a4 => k_is)
    (case l4 => k_is)
    (case e4 => k_is)
    (case k4 => k_is)
    (case a6 => k_is)
    (case l6 => k_is)
    (case e6 => k_is)
    (case k6 => k_is)
    (case a7 => k_is)
    (case l7 => k_is)
    (case e7 => k_is)
    (case k7 => k_is)
    (case a9 => k_is)
    (case l9 => k_is)
    (case e9 => k_is)
    (case k9 => k_is)
    (case a10 => k_is)
    (case l10 => k_is)
    (case e10 => k_is)
    (case k10 => k_is)
    (case a11 => k_is)
    (case l11 => k_is)
    (case e11 => k_is)
    (case k11 => k_is)
    (case g_FIGURES => k_is)
    (case z_bool => k_is)
    (case z_int => k_is)
    (case z_isinstance => k_is)
    (case z_len => k_is)
    (case z_list => k_is)
    (case z_range => k_is)
    (case z_str => k_is)
    (case z_tuple => k_is)
    (case z_zip => k_is)
