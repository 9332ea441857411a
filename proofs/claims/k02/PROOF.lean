import PyProof.Rows.All
import KE.OsRunLaw
import Wide.All
import OpenK.AllK
import Wide.FinOn
import HandS.ForMost
import HandS.IsInst
import HandS.Wide
import HandS.Deep
import HandS.Style
import HandS.SortInts
import HandS.Rev
import HandS.RevTup
import HandS.Conv
import KE.LtSeq
import HandS.More
import HandS.Strs
import HandS.DictTup
import HandS.ClsMeth
import HandS.Defaults
import HandS.TupSets
import KE.DataFind
import HandS.Finally
import KE.KDictCopyH
import HandS.ForExc
import HandS.ExcIs
import KE.RegKIsAll
import KE.OsRunLaw
import PySem.Challenge.RW_knotless_k02_town_refused
set_option Elab.async false
set_option linter.all false
set_option maxRecDepth 100000
set_option maxHeartbeats 4000000
set_option synthInstance.maxSize 2000
namespace Kn
open PySem L2
/-! data: what a value reads as -/
inductive D where
  | non | bl (b : Bool) | int (i : Int) | str (x : Str)
  | lst (ds : List D) | tup (ds : List D)
  | dic (kds : List (Key × D))
  | obj (c : Str) (ds : List D)
  | hnd (g : Nat)
  | scr (ns : List Int)
/-- shared heap and the objects by number -/
structure Wd where
  hs : Hp
  tp : Addr → Option (List V)
  rho : Nat → Option V
structure Wd.le (W W' : Wd) : Prop where
  hs : ∀ a o, W.hs a = some o → W'.hs a = some o
  tp : ∀ a o, W.tp a = some o → W'.tp a = some o
  rho : ∀ g v, W.rho g = some v → W'.rho g = some v
theorem Wd.le.refl (W : Wd) : W.le W := ⟨fun _ _ h => h, fun _ _ h => h, fun _ _ h => h⟩
theorem Wd.le.trans {A B C : Wd} (h : A.le B) (k : B.le C) : A.le C := ⟨fun a o e => k.1 a o (h.1 a o e), fun a o e => k.2 a o (h.2 a o e), fun g v e => k.3 g v (h.3 g v e)⟩
abbrev CT := Str → Option (Addr × List Str)
mutual
inductive Rep (K : PySem.W.Frag) (ct : CT) (W : Wd) : V → D → Prop
  | non : Rep K ct W .non .non
  | bl (b : Bool) : Rep K ct W (.bl b) (.bl b)
  | int (i : Int) : Rep K ct W (.int i) (.int i)
  | str (x : Str) : Rep K ct W (.str x) (.str x)
  | lst {a : Addr} {vs : List V} {ds : List D} : W.hs a = some (.lst vs) → RepL K ct W vs ds → Rep K ct W (.ref a) (.lst ds)
  | tup {a : Addr} {vs : List V} {ds : List D} : W.tp a = some vs → RepL K ct W vs ds → Rep K ct W (.ref a) (.tup ds)
  | dic {a : Addr} {kvs : List (Key × V)} {kds : List (Key × D)} : W.hs a = some (.dK kvs) → kvs.map (·.1) = kds.map (·.1) → RepL K ct W (kvs.map (·.2)) (kds.map (·.2)) → Rep K ct W (.ref a) (.dic kds)
  | obj {a C dx : Addr} {fs : List (Str × V)} {c : Str} {ns : List Str} {ds : List D} : W.hs a = some (.ins C dx fs) → ct c = some (C, ns) → fs.map (·.1) = ns.take ds.length → RepL K ct W (fs.map (·.2)) ds → Rep K ct W (.ref a) (.obj c ds)
  | hnd {g : Nat} {v : V} : W.rho g = some v → Rep K ct W v (.hnd g)
  | scr {a : Addr} {ns : List Int} : SqL K W.hs a (ns.map V.int) → Rep K ct W (.ref a) (.scr ns)
inductive RepL (K : PySem.W.Frag) (ct : CT) (W : Wd) : List V → List D → Prop
  | nil : RepL K ct W [] []
  | cons {v : V} {vs : List V} {d : D} {ds : List D} : Rep K ct W v d → RepL K ct W vs ds → RepL K ct W (v :: vs) (d :: ds)
end
section
variable {K : PySem.W.Frag} {ct : CT} {W W' : Wd}
theorem sq_mono {H H' : Hp} {a : Addr} {xs : List V} (e : ∀ a o, H a = some o → H' a = some o) (h : SqL K H a xs) : SqL K H' a xs := Same.seq (K := K) e h
mutual
theorem Rep.mono (l : W.le W') : ∀ {v : V} {d : D}, Rep K ct W v d → Rep K ct W' v d
  | _, _, .non => .non
  | _, _, .bl b => .bl b
  | _, _, .int i => .int i
  | _, _, .str x => .str x
  | _, _, .lst h r => .lst (l.1 _ _ h) (RepL.mono l r)
  | _, _, .scr h => .scr (sq_mono l.1 h)
  | _, _, .tup h r => .tup (l.2 _ _ h) (RepL.mono l r)
  | _, _, .dic h n r => .dic (l.1 _ _ h) n (RepL.mono l r)
  | _, _, .obj h c n r => .obj (l.1 _ _ h) c n (RepL.mono l r)
  | _, _, .hnd h => .hnd (l.3 _ _ h)
theorem RepL.mono (l : W.le W') : ∀ {vs : List V} {ds : List D}, RepL K ct W vs ds → RepL K ct W' vs ds
  | _, _, .nil => .nil
  | _, _, .cons h r => .cons (Rep.mono l h) (RepL.mono l r)
end
theorem RepL.length : ∀ {vs : List V} {ds : List D}, RepL K ct W vs ds → vs.length = ds.length
  | _, _, .nil => rfl
  | _, _, .cons _ r => congrArg (· + 1) (RepL.length r)
theorem RepL.get : ∀ {vs : List V} {ds : List D} {i : Nat} {d : D}, RepL K ct W vs ds → ds[i]? = some d → ∃ v, vs[i]? = some v ∧ Rep K ct W v d
  | _, _, _, _, .nil, e => by simp at e
  | _, _, 0, _, .cons h _, e => by simp at e; subst e; exact ⟨_, rfl, h⟩
  | _, _, i + 1, _, .cons _ r, e => RepL.get (i := i) r (by simpa using e)
theorem RepL.append : ∀ {vs ws : List V} {ds es : List D}, RepL K ct W vs ds → RepL K ct W ws es → RepL K ct W (vs ++ ws) (ds ++ es)
  | _, _, _, _, .nil, s => s
  | _, _, _, _, .cons h r, s => .cons h (RepL.append r s)
theorem RepL.take : ∀ {vs : List V} {ds : List D} (n : Nat), RepL K ct W vs ds → RepL K ct W (vs.take n) (ds.take n)
  | _, _, 0, _ => .nil
  | _, _, _ + 1, .nil => .nil
  | _, _, n + 1, .cons h r => .cons h (RepL.take n r)
theorem RepL.drop : ∀ {vs : List V} {ds : List D} (n : Nat), RepL K ct W vs ds → RepL K ct W (vs.drop n) (ds.drop n)
  | _, _, 0, r => r
  | _, _, _ + 1, .nil => .nil
  | _, _, n + 1, .cons _ r => RepL.drop n r
theorem RepL.set : ∀ {vs : List V} {ds : List D} {v : V} {d : D} (i : Nat), RepL K ct W vs ds → Rep K ct W v d → RepL K ct W (vs.set i v) (ds.set i d)
  | _, _, _, _, _, .nil, _ => .nil
  | _, _, _, _, 0, .cons _ r, h => .cons h r
  | _, _, _, _, i + 1, .cons g r, h => .cons g (RepL.set i r h)
theorem RepL.reverse {vs : List V} {ds : List D} (r : RepL K ct W vs ds) : RepL K ct W vs.reverse ds.reverse := by
  induction vs generalizing ds with
  | nil => cases r; exact .nil
  | cons v vs ih =>
    cases r with
    | cons h r =>
      rw [List.reverse_cons, List.reverse_cons]
      exact (ih r).append (.cons h .nil)
theorem RepL.rep {vs : List V} {ds : List D} (r : RepL K ct W vs ds) : ∀ k : Nat, RepL K ct W (List.replicate k vs).flatten (List.replicate k ds).flatten
  | 0 => .nil
  | k + 1 => by
    rw [List.replicate_succ, List.replicate_succ, List.flatten_cons, List.flatten_cons]
    exact r.append (RepL.rep r k)
theorem RepL.ints : ∀ {vs : List V} {ns : List Int}, RepL K ct W vs (ns.map D.int) → vs = ns.map V.int
  | _, [], .nil => rfl
  | _, n :: ns, .cons h r => by
    have e := RepL.ints (ns := ns) r
    cases h
    rw [e]; rfl
theorem RepL.of_ints : ∀ ns : List Int, RepL K ct W (ns.map V.int) (ns.map D.int)
  | [] => .nil
  | n :: ns => .cons (.int n) (RepL.of_ints ns)
end
/-! the state -/
inductive Lab where
  | slot (i : Nat) | ob (g : Nat)
  deriving DecidableEq
inductive Slot where
  | no | sh (d : D) | ow (d : D) | o2 (dss : List (List D)) | me (a : Addr) (d : D) | exc (a : Addr)
/-- a kind of object of the store -/
structure Kd where
  P : PySem.W.Frag → CT → Wd → Hp → V → D → Prop
  mono : ∀ {K ct W W' F v d}, P K ct W F v d → W.le W' → P K ct W' F v d
abbrev Sto := List (Kd × D)
section
variable (K : PySem.W.Frag) (ct : CT)
/-- a list, a dict or an instance of one's own at a -/
inductive Cell (W : Wd) (H : Hp) (a : Addr) : D → Prop
  | lst {vs : List V} {ds : List D} : H a = some (.lst vs) → RepL K ct W vs ds → Cell W H a (.lst ds)
  | dic {kvs : List (Key × V)} {kds : List (Key × D)} : H a = some (.dK kvs) → kvs.map (·.1) = kds.map (·.1) → RepL K ct W (kvs.map (·.2)) (kds.map (·.2)) → Cell W H a (.dic kds)
  | obj {C dx : Addr} {fs : List (Str × V)} {c : Str} {ns : List Str} {ds : List D} : H a = some (.ins C dx fs) → ct c = some (C, ns) → fs.map (·.1) = ns.take ds.length → RepL K ct W (fs.map (·.2)) ds → Cell W H a (.obj c ds)
/-- rows of one's own -/
inductive Rows (W : Wd) (H : Hp) (L : Addr → Option Lab) (l : Lab) : List V → List (List D) → Prop
  | nil : Rows W H L l [] []
  | cons {a : Addr} {vs : List V} {ds : List D} {ws : List V} {dss : List (List D)} : H a = some (.lst vs) → L a = some l → RepL K ct W vs ds → V.ref a ∉ ws → Rows W H L l ws dss → Rows W H L l (.ref a :: ws) (ds :: dss)
def SlotOk (W : Wd) (L : Addr → Option Lab) (H : Hp) (σ : St) (i : Nat) : Slot → Prop
  | .no => True
  | .sh d => ∃ v, σ[i]? = some (some v) ∧ Rep K ct W v d
  | .ow d => ∃ a, σ[i]? = some (some (.ref a)) ∧ L a = some (.slot i) ∧ Cell K ct W H a d
  | .me a d => σ[i]? = some (some (.ref a)) ∧ L a = some (.slot i) ∧ Cell K ct W H a d
  | .exc a => σ[i]? = some (some (.ref a))
  | .o2 dss => ∃ a ws, σ[i]? = some (some (.ref a)) ∧ L a = some (.slot i) ∧ H a = some (.lst ws) ∧ V.ref a ∉ ws ∧ Rows K ct W H L (.slot i) ws dss
structure Rel (F : Hp) (W : Wd) (L : Addr → Option Lab) (env : List Slot) (st : Sto) (σ : St) (H : Hp) : Prop where
  fr : ∀ a o, F a = some o → H a = some o ∧ L a = none ∧ W.hs a = none
  hs : ∀ a o, W.hs a = some o → H a = some o ∧ L a = none
  tp : ∀ a vs, W.tp a = some vs → H a = some (.tup vs)
  ob : ∀ g κ d, st[g]? = some (κ, d) → ∃ v, W.rho g = some v ∧ κ.P K ct W (fun a => if L a = some (.ob g) then H a else none) v d
  rh : ∀ g v, W.rho g = some v → g < st.length
  len : σ.length = env.length
  sl : ∀ i s, env[i]? = some s → SlotOk K ct W L H σ i s
end
inductive R where
  | sh (d : D) | ow (d : D) | bw (i : Nat) (d : D)
def R.d : R → D
  | .sh d => d
  | .ow d => d
  | .bw _ d => d
/-- a thing just made is shared at once -/
def R.pin : R → R
  | .ow d => .sh d
  | r => r
section
variable (K : PySem.W.Frag) (ct : CT)
def RepR (F : Hp) (W : Wd) (L : Addr → Option Lab) (H : Hp) (env : List Slot) (σ : St) (v : V) : R → Prop
  | .sh d => Rep K ct W v d
  | .ow d => ∃ a, v = .ref a ∧ L a = none ∧ W.hs a = none ∧ F a = none ∧ Cell K ct W H a d
  | .bw i d => env[i]? = some (.ow d) ∧ σ[i]? = some (some v)
/-- what stays readable -/
def RdR (W : Wd) (env : List Slot) (σ : St) (v : V) : R → Prop
  | .sh d => Rep K ct W v d
  | .ow _ => False
  | .bw i d => env[i]? = some (.ow d) ∧ σ[i]? = some (some v)
/-- readable as the heap is now -/
def RdH (W : Wd) (H : Hp) (v : V) (d : D) : Prop := Rep K ct W v d ∨ ∃ a, v = .ref a ∧ Cell K ct W H a d
end
section
variable {K : PySem.W.Frag} {ct : CT} {F H H' : Hp} {W W' : Wd} {L L' : Addr → Option Lab} {env : List Slot} {st : Sto} {σ : St} {v : V} {d : D} {r : R} {a p : Addr} {o : HO}
theorem Cell.mono {W W' : Wd} {H H' : Hp} (c : Cell K ct W H a d) (l : W.le W') (e : ∀ o, H a = some o → H' a = some o) : Cell K ct W' H' a d := by
  cases c with
  | lst h q => exact .lst (e _ h) (q.mono l)
  | dic h n q => exact .dic (e _ h) n (q.mono l)
  | obj h c n q => exact .obj (e _ h) c n (q.mono l)
theorem Cell.there (c : Cell K ct W H a d) : ∃ o, H a = some o := by
  cases c with
  | lst h q => exact ⟨_, h⟩
  | dic h n q => exact ⟨_, h⟩
  | obj h c n q => exact ⟨_, h⟩
theorem Rows.mono {W W' : Wd} {H H' : Hp} {L L' : Addr → Option Lab} {l : Lab} (lw : W.le W') (e : ∀ a o, L a = some l → H a = some o → H' a = some o ∧ L' a = some l) : ∀ {ws : List V} {dss : List (List D)}, Rows K ct W H L l ws dss → Rows K ct W' H' L' l ws dss
  | _, _, .nil => .nil
  | _, _, .cons h hl q n r => .cons (e _ _ hl h).1 (e _ _ hl h).2 (q.mono lw) n (Rows.mono lw e r)
/-- more shared, labels of what is there kept, what is there kept -/
theorem SlotOk.mono {W W' : Wd} {H H' : Hp} {L L' : Addr → Option Lab} {σ : St} {i : Nat} (lw : W.le W') (e : ∀ a o, L a = some (.slot i) → H a = some o → H' a = some o ∧ L' a = some (.slot i)) : ∀ {s : Slot}, SlotOk K ct W L H σ i s → SlotOk K ct W' L' H' σ i s
  | .no, _ => trivial
  | .sh d, ⟨v, h, q⟩ => ⟨v, h, q.mono lw⟩
  | .ow d, ⟨a, h, hl, c⟩ => by
    obtain ⟨o, ho⟩ := c.there
    exact ⟨a, h, (e a o hl ho).2, c.mono lw fun o h => (e a o hl h).1⟩
  | .me a d, ⟨h, hl, c⟩ => by
    obtain ⟨o, ho⟩ := c.there
    exact ⟨h, (e a o hl ho).2, c.mono lw fun o h => (e a o hl h).1⟩
  | .exc a, h => h
  | .o2 dss, ⟨a, ws, h, hl, hc, n, rr⟩ => ⟨a, ws, h, (e a _ hl hc).2, (e a _ hl hc).1, n, rr.mono lw e⟩
/-- the heap grows, nothing that was tracked is changed -/
theorem Rel.grow (I : Rel K ct F W L env st σ H) (e : ∀ a o, H a = some o → H' a = some o) : Rel K ct F W (fun a => if (H a).isSome then L a else none) env st σ H' := by
  have lab : ∀ a o, H a = some o → (if (H a).isSome then L a else none) = L a := fun a o h => by rw [h]; rfl
  refine ⟨fun a o h => ?_, fun a o h => ?_, fun a vs h => e a _ (I.tp a vs h), fun g κ d h => ?_, I.rh, I.len, fun i s h => ?_⟩
  · obtain ⟨h1, h2, h3⟩ := I.fr a o h
    exact ⟨e a o h1, (lab a o h1).trans h2, h3⟩
  · obtain ⟨h1, h2⟩ := I.hs a o h
    exact ⟨e a o h1, (lab a o h1).trans h2⟩
  · obtain ⟨v, h1, h2⟩ := I.ob g κ d h
    refine ⟨v, h1, ?_⟩
    have q : (fun a => if (if (H a).isSome then L a else none) = some (Lab.ob g) then H' a else none) = fun a => if L a = some (.ob g) then H a else none := by
      funext a
      cases h : H a with
      | none => simp
      | some o => simp [e a o h]
    rw [q]; exact h2
  · exact (I.sl i s h).mono (Wd.le.refl W) fun a o hl ho => ⟨e a o ho, (lab a o ho).trans hl⟩
/-- an object that is nobody's is shared -/
def Wd.add (W : Wd) (p : Addr) (o : HO) : Wd := ⟨upd W.hs p o, W.tp, W.rho⟩
def Wd.addT (W : Wd) (p : Addr) (vs : List V) : Wd := ⟨W.hs, fun a => if a = p then some vs else W.tp a, W.rho⟩
theorem Rel.le_add (I : Rel K ct F W L env st σ H) (h : H p = some o) : W.le (W.add p o) := by
  refine ⟨fun a u e => ?_, fun _ _ e => e, fun _ _ e => e⟩
  by_cases hp : a = p
  · subst hp
    have := (I.hs a u e).1
    rw [h] at this; cases this
    exact upd_same
  · show upd W.hs p o a = some u
    rw [upd_ne hp]; exact e
theorem Rel.share (I : Rel K ct F W L env st σ H) (h : H p = some o) (hl : L p = none) (hf : F p = none) : Rel K ct F (W.add p o) L env st σ H := by
  have le := I.le_add h
  refine ⟨fun a u e => ?_, fun a u e => ?_, I.tp, fun g κ d e => ?_, I.rh, I.len, fun i s e => (I.sl i s e).mono le fun a o hl ho => ⟨ho, hl⟩⟩
  · obtain ⟨h1, h2, h3⟩ := I.fr a u e
    refine ⟨h1, h2, ?_⟩
    have : a ≠ p := by rintro rfl; rw [hf] at e; cases e
    show upd W.hs p o a = none
    rw [upd_ne this]; exact h3
  · by_cases hp : a = p
    · subst hp
      have e : upd W.hs a o a = some u := e
      rw [upd_same] at e; cases e
      exact ⟨h, hl⟩
    · have e : upd W.hs p o a = some u := e
      rw [upd_ne hp] at e
      exact I.hs a u e
  · obtain ⟨v, h1, h2⟩ := I.ob g κ d e
    exact ⟨v, h1, κ.mono h2 le⟩
/-- a tuple is shared -/
theorem Rel.shareT {vs : List V} (I : Rel K ct F W L env st σ H) (h : H p = some (.tup vs)) : W.le (W.addT p vs) ∧ Rel K ct F (W.addT p vs) L env st σ H ∧ (W.addT p vs).tp p = some vs := by
  have le : W.le (W.addT p vs) := by
    refine ⟨fun _ _ e => e, fun a u e => ?_, fun _ _ e => e⟩
    show (if a = p then some vs else W.tp a) = some u
    by_cases hp : a = p
    · subst hp
      have := I.tp a u e
      rw [h] at this; cases this
      exact if_pos rfl
    · rw [if_neg hp]; exact e
  refine ⟨le, ⟨I.fr, I.hs, fun a u e => ?_, fun g κ d e => ?_, I.rh, I.len, fun i s e => (I.sl i s e).mono le fun a o hl ho => ⟨ho, hl⟩⟩, if_pos rfl⟩
  · have e : (if a = p then some vs else W.tp a) = some u := e
    by_cases hp : a = p
    · rw [if_pos hp] at e; cases e; rw [hp]; exact h
    · rw [if_neg hp] at e; exact I.tp a u e
  · obtain ⟨v, h1, h2⟩ := I.ob g κ d e
    exact ⟨v, h1, κ.mono h2 le⟩
/-- a new object -/
theorem Rel.laid (I : Rel K ct F W L env st σ H) (hp : H p = none) : Rel K ct F W (fun a => if (H a).isSome then L a else none) env st σ (upd H p o) ∧ (if (H p).isSome then L p else none) = none ∧ W.hs p = none ∧ F p = none := by
  refine ⟨I.grow fun a u e => by rw [upd_ne (ne_of_none e hp)]; exact e, by rw [hp]; rfl, ?_, ?_⟩
  · cases q : W.hs p with
    | none => rfl
    | some u => have := (I.hs p u q).1; rw [hp] at this; cases this
  · cases q : F p with
    | none => rfl
    | some u => have := (I.fr p u q).1; rw [hp] at this; cases this
/-- what was just made is shared -/
theorem Rel.pin (I : Rel K ct F W L env st σ H) (h : RepR K ct F W L H env σ v r) : ∃ W', W.le W' ∧ Rel K ct F W' L env st σ H ∧ RdR K ct W' env σ v r.pin := by
  cases r with
  | sh d => exact ⟨W, .refl W, I, h⟩
  | bw i d => exact ⟨W, .refl W, I, h⟩
  | ow d =>
    obtain ⟨a, rfl, hl, hw, hf, c⟩ := h
    cases c with
    | lst e q =>
      have le := I.le_add e
      refine ⟨_, le, I.share e hl hf, .lst ?_ (q.mono le)⟩
      exact upd_same
    | dic e n q =>
      have le := I.le_add e
      refine ⟨_, le, I.share e hl hf, .dic ?_ n (q.mono le)⟩
      exact upd_same
    | obj e c n q =>
      have le := I.le_add e
      exact ⟨_, le, I.share e hl hf, Rep.obj (show (W.add a _).hs a = some _ from upd_same) c n (q.mono le)⟩
theorem RdR.mono {W W' : Wd} (h : RdR K ct W env σ v r) (l : W.le W') : RdR K ct W' env σ v r := by
  cases r with
  | sh d => exact Rep.mono l h
  | ow d => exact h
  | bw i d => exact h
theorem Rel.look (I : Rel K ct F W L env st σ H) (h : RdR K ct W env σ v r) : RdH K ct W H v r.d := by
  cases r with
  | sh d => exact .inl h
  | ow d => exact h.elim
  | bw i d =>
    obtain ⟨h1, h2⟩ := h
    obtain ⟨a, e, _, c⟩ := I.sl i _ h1
    rw [h2] at e; cases e
    exact .inr ⟨a, rfl, c⟩
theorem RdH.list {ds : List D} (h : RdH K ct W H v (.lst ds)) (I : Rel K ct F W L env st σ H) : ∃ a vs, v = .ref a ∧ H a = some (.lst vs) ∧ RepL K ct W vs ds := by
  rcases h with h | ⟨a, rfl, c⟩
  · cases h with
    | lst h q => exact ⟨_, _, rfl, (I.hs _ _ h).1, q⟩
  · cases c with
    | lst h q => exact ⟨a, _, rfl, h, q⟩
/-- the items of a list -/
def D.seqL : D → Option (List D)
  | .lst ds => some ds
  | .scr ns => some (ns.map D.int)
  | _ => none
theorem RdH.seqL {ds : List D} (h : RdH K ct W H v d) (e : d.seqL = some ds) (I : Rel K ct F W L env st σ H) : ∃ a vs, v = .ref a ∧ SqL K H a vs ∧ RepL K ct W vs ds := by
  cases d <;> simp only [D.seqL, Option.some.injEq, reduceCtorEq] at e
  · subst e
    obtain ⟨a, vs, e1, e2, e3⟩ := h.list I
    exact ⟨a, vs, e1, SqL.of e2, e3⟩
  · subst e
    rcases h with h | ⟨a, rfl, c⟩
    · cases h with
      | scr h => exact ⟨_, _, rfl, sq_mono (fun a o e => (I.hs a o e).1) h, RepL.of_ints _⟩
    · cases c
theorem RdH.tup {ds : List D} (h : RdH K ct W H v (.tup ds)) (I : Rel K ct F W L env st σ H) : ∃ a vs, v = .ref a ∧ H a = some (.tup vs) ∧ RepL K ct W vs ds := by
  rcases h with h | ⟨a, rfl, c⟩
  · cases h with
    | tup h q => exact ⟨_, _, rfl, I.tp _ _ h, q⟩
  · cases c
theorem RdH.int {i : Int} (h : RdH K ct W H v (.int i)) : v = .int i := by
  rcases h with h | ⟨a, rfl, c⟩
  · cases h; rfl
  · cases c
theorem RdH.bl {i : Bool} (h : RdH K ct W H v (.bl i)) : v = .bl i := by
  rcases h with h | ⟨a, rfl, c⟩
  · cases h; rfl
  · cases c
theorem RdH.str {i : Str} (h : RdH K ct W H v (.str i)) : v = .str i := by
  rcases h with h | ⟨a, rfl, c⟩
  · cases h; rfl
  · cases c
theorem RdH.non (h : RdH K ct W H v .non) : v = .non := by
  rcases h with h | ⟨a, rfl, c⟩
  · cases h; rfl
  · cases c
end
/-! readings by functions -/
abbrev Sem := List Slot → Sto → Option (R × Sto)
abbrev SemA := List Slot → Sto → Option (List R × Sto)
section
variable (K : PySem.W.Frag) (ct : CT)
def tE (e : Sem) : TE := fun σ H Q => ∃ F W L env st r st', Rel K ct F W L env st σ H ∧ e env st = some (r, st') ∧
  ∀ v H' W' L', W.le W' → Rel K ct F W' L' env st' σ H' → RepR K ct F W' L' H' env σ v r → Q v H'
def tT (e : Sem) : TT := fun σ H Q => ∃ F W L env st b st', Rel K ct F W L env st σ H ∧ e env st = some (.sh (.bl b), st') ∧
  ∀ H' W' L', W.le W' → Rel K ct F W' L' env st' σ H' → Q b H'
inductive RdRs (W : Wd) (env : List Slot) (σ : St) : List V → List R → Prop
  | nil : RdRs W env σ [] []
  | cons {v : V} {vs : List V} {r : R} {rs : List R} : RdR K ct W env σ v r → RdRs W env σ vs rs → RdRs W env σ (v :: vs) (r :: rs)
def tA (e : SemA) : TA := fun σ H Q => ∃ F W L env st rs st', Rel K ct F W L env st σ H ∧ e env st = some (rs, st') ∧
  ∀ vs H' W' L', W.le W' → Rel K ct F W' L' env st' σ H' → RdRs K ct W' env σ vs rs → Q vs H'
end
structure SE (X : Cx) (ct : CT) (x : Expr) (e : Sem) : Prop where
  pe : PE X x (tE X.K ct e)
structure ST (X : Cx) (ct : CT) (x : Expr) (e : Sem) : Prop where
  pt : PT X x (tT X.K ct e)
structure SW (X : Cx) (ct : CT) (x : Expr) (e : Sem) : Prop where
  pw : PW X x (tT X.K ct e)
structure SA (X : Cx) (ct : CT) (xs : List Expr) (e : SemA) : Prop where
  pa : PA X xs (tA X.K ct e)
theorem pe_mono {X : Cx} {x : Expr} {t t' : TE} (h : PE X x t) (k : ∀ σ H Q, t' σ H Q → t σ H Q) : PE X x t' := ⟨fun pins s σ H Q I q => h.run pins s σ H Q I (k σ H Q q)⟩
theorem pt_mono {X : Cx} {x : Expr} {t t' : TT} (h : PT X x t) (k : ∀ σ H Q, t' σ H Q → t σ H Q) : PT X x t' := ⟨fun pins s σ H Q I q => h.run pins s σ H Q I (k σ H Q q)⟩
theorem pw_mono {X : Cx} {x : Expr} {t t' : TT} (h : PW X x t) (k : ∀ σ H Q, t' σ H Q → t σ H Q) : PW X x t' := ⟨fun wh pins s σ H Q I q => h.run wh pins s σ H Q I (k σ H Q q)⟩
theorem pa_mono {X : Cx} {x : List Expr} {t t' : TA} (h : PA X x t) (k : ∀ σ H Q, t' σ H Q → t σ H Q) : PA X x t' := ⟨fun pos pins s σ H Q I q => h.run pos pins s σ H Q I (k σ H Q q)⟩
theorem RdRs.mono {K : PySem.W.Frag} {ct : CT} {W W' : Wd} {env : List Slot} {σ : St} (l : W.le W') : ∀ {vs : List V} {rs : List R}, RdRs K ct W env σ vs rs → RdRs K ct W' env σ vs rs
  | _, _, .nil => .nil
  | _, _, .cons h r => .cons (h.mono l) (RdRs.mono l r)
end Kn
namespace Kn
open PySem L2
section
variable {X : Cx} {ct : CT} {pos : Pos}
theorem R.pin_d (r : R) : r.pin.d = r.d := by cases r <;> rfl
/-! names and constants -/
def eVar (i : Nat) : Sem := fun env st => match env[i]? with
  | some (.sh d) => some (.sh d, st)
  | some (.ow d) => some (.bw i d, st)
  | _ => none
def eC (d : D) : Sem := fun _ st => some (.sh d, st)
theorem se_var (i : Nat) {x : Str} (hN : X.N[i]? = some x := by rfl) (hv : Vis X.env.scope x := by first | exact Or.inl rfl | exact Or.inr (Or.inl rfl) | exact Or.inr (Or.inr rfl)) (hd : (x == ("__debug__" : Str)) = false := by decide)
    (hcd : (x == ("__classdict__" : Str)) = false := by decide) : SE X ct (.Name x pos) (eVar i) := by
  refine ⟨pe_mono (pe_var hN hv hd hcd) fun σ H Q ⟨F, W, L, env, st, r, st', I, e, k⟩ => ?_⟩
  unfold eVar at e
  split at e
  · rename_i d he
    cases e
    obtain ⟨v, h1, h2⟩ := I.sl i _ he
    exact ⟨v, h1, k v H W L (.refl W) I h2⟩
  · rename_i d he
    cases e
    obtain ⟨a, h1, h2⟩ := I.sl i _ he
    exact ⟨_, h1, k _ H W L (.refl W) I ⟨he, h1⟩⟩
  · cases e
theorem se_const {x : Expr} {v : V} {d : D} (h : PE X x (tC v)) (r : ∀ W, Rep X.K ct W v d) : SE X ct x (eC d) := by
  refine ⟨pe_mono h fun σ H Q ⟨F, W, L, env, st, r', st', I, e, k⟩ => ?_⟩
  cases e
  exact k v H W L (.refl W) I (r W)
theorem se_int {i j} : SE X ct (.Constant (.int i) j pos) (eC (.int i)) := se_const pe_int fun _ => .int i
theorem se_bl {i j} : SE X ct (.Constant (.bool i) j pos) (eC (.bl i)) := se_const pe_bl fun _ => .bl i
/-! two operands -/
def e2 (f : D → D → Option R) (a b : Sem) : Sem := fun env st => (a env st).bind fun p => (b env p.2).bind fun q => (f p.1.d q.1.d).map fun r => (r, q.2)
def e1 (f : D → Option R) (a : Sem) : Sem := fun env st => (a env st).bind fun p => (f p.1.d).map fun r => (r, p.2)
def OpS (K : PySem.W.Frag) (ct : CT) (rr : R2) (f : D → D → Option R) : Prop := ∀ F W L env st σ H x y d1 d2 r Q, Rel K ct F W L env st σ H → RdH K ct W H x d1 → RdH K ct W H y d2 → f d1 d2 = some r →
  (∀ v H' W' L', W.le W' → Rel K ct F W' L' env st σ H' → RepR K ct F W' L' H' env σ v r → Q v H') → rr x y H Q
def UnS (K : PySem.W.Frag) (ct : CT) (rr : V → Hp → VK → Prop) (f : D → Option R) : Prop := ∀ F W L env st σ H x d1 r Q, Rel K ct F W L env st σ H → RdH K ct W H x d1 → f d1 = some r →
  (∀ v H' W' L', W.le W' → Rel K ct F W' L' env st σ H' → RepR K ct F W' L' H' env σ v r → Q v H') → rr x H Q
theorem bind2 {α β : Type} {o : Option α} {f : α → Option β} {b : β} (h : o.bind f = some b) : ∃ a, o = some a ∧ f a = some b := by
  cases o with
  | none => cases h
  | some a => exact ⟨a, rfl, h⟩
theorem map2 {α β : Type} {o : Option α} {f : α → β} {b : β} (h : o.map f = some b) : ∃ a, o = some a ∧ f a = b := by
  cases o with
  | none => cases h
  | some a => exact ⟨a, rfl, Option.some.inj h⟩
theorem tE_e2 {K : PySem.W.Frag} {rr : R2} {f : D → D → Option R} {a b : Sem} (os : OpS K ct rr f) {σ : St} {H : Hp} {Q : VK} (h : tE K ct (e2 f a b) σ H Q) : tOp rr (tE K ct a) (tE K ct b) σ H Q := by
  obtain ⟨F, W, L, env, st, r, st', I, e, k⟩ := h
  obtain ⟨⟨r1, st1⟩, h1, e⟩ := bind2 e
  obtain ⟨⟨r2, st2⟩, h2, e⟩ := bind2 e
  obtain ⟨r3, h3, e⟩ := map2 e
  cases e
  refine ⟨F, W, L, env, st, r1, st1, I, h1, fun x H1 W1 L1 l1 I1 p1 => ?_⟩
  obtain ⟨W1', m1, J1, q1⟩ := I1.pin p1
  refine ⟨F, W1', L1, env, st1, r2, st2, J1, h2, fun y H2 W2 L2 l2 I2 p2 => ?_⟩
  obtain ⟨W2', m2, J2, q2⟩ := I2.pin p2
  have q1' := J2.look (q1.mono (l2.trans m2))
  have q2' := J2.look q2
  rw [R.pin_d] at q1' q2'
  exact os F W2' L2 env st2 σ H2 x y _ _ _ Q J2 q1' q2' h3 fun v H' W' L' l' I' p' => k v H' W' L' (l1.trans (m1.trans (l2.trans (m2.trans l')))) I' p'
theorem tE_e1 {K : PySem.W.Frag} {rr : V → Hp → VK → Prop} {f : D → Option R} {a : Sem} (os : UnS K ct rr f) {σ : St} {H : Hp} {Q : VK} (h : tE K ct (e1 f a) σ H Q) : tUn rr (tE K ct a) σ H Q := by
  obtain ⟨F, W, L, env, st, r, st', I, e, k⟩ := h
  obtain ⟨⟨r1, st1⟩, h1, e⟩ := bind2 e
  obtain ⟨r3, h3, e⟩ := map2 e
  cases e
  refine ⟨F, W, L, env, st, r1, st1, I, h1, fun x H1 W1 L1 l1 I1 p1 => ?_⟩
  obtain ⟨W1', m1, J1, q1⟩ := I1.pin p1
  have q1' := J1.look q1
  rw [R.pin_d] at q1'
  exact os F W1' L1 env st1 σ H1 x _ _ Q J1 q1' h3 fun v H' W' L' l' I' p' => k v H' W' L' (l1.trans (m1.trans l')) I' p'
theorem se_op {op : Operator} {rr : R2} {f : D → D → Option R} {x y : Expr} {a b : Sem} (ho : OpR X (binaryOp op) rr) (os : OpS X.K ct rr f) (ha : SE X ct x a) (hb : SE X ct y b) : SE X ct (.BinOp x op y pos) (e2 f a b) :=
  ⟨pe_mono (pe_op ho ha.pe hb.pe) fun _ _ _ h => tE_e2 os h⟩
theorem se_un {op : UnaryOp} {rr : V → Hp → VK → Prop} {f : D → Option R} {x : Expr} {a : Sem} (ho : UnR X (unaryOp op) rr) (os : UnS X.K ct rr f) (ha : SE X ct x a) : SE X ct (.UnaryOp op x pos) (e1 f a) :=
  ⟨pe_mono (pe_un ho ha.pe) fun _ _ _ h => tE_e1 os h⟩
theorem se_cmp {op : CmpOp} {rr : R2} {f : D → D → Option R} {x y : Expr} {a b : Sem} (ho : OpR X (compareOp op) rr) (os : OpS X.K ct rr f) (hm : behindInMarks op y = false) (ha : SE X ct x a) (hb : SE X ct y b) : SE X ct (.Compare x [op] [y] pos) (e2 f a b) :=
  ⟨pe_mono (pe_cmpR ho ha.pe hb.pe hm) fun _ _ _ h => tE_e2 os h⟩
theorem tT_tE {K : PySem.W.Frag} {a : Sem} {σ : St} {H : Hp} {Q : Bool → Hp → Prop} (h : tT K ct a σ H Q) : tE K ct a σ H (fun x H' => ∃ k, x = .bl k ∧ Q k H') := by
  obtain ⟨F, W, L, env, st, b, st', I, e, k⟩ := h
  refine ⟨F, W, L, env, st, _, st', I, e, fun v H' W' L' l I' p => ⟨b, ?_, k H' W' L' l I'⟩⟩
  cases (show Rep K ct W' v (.bl b) from p)
  rfl
theorem st_cmp {op : CmpOp} {rr : R2} {f : D → D → Option R} {x y : Expr} {a b : Sem} (ho : OpR X (compareOp op) rr) (os : OpS X.K ct rr f) (hm : behindInMarks op y = false) (ha : SE X ct x a) (hb : SE X ct y b) : ST X ct (.Compare x [op] [y] pos) (e2 f a b) :=
  ⟨pt_mono (pt_cmpR ho ha.pe hb.pe hm) fun _ _ _ h => tE_e2 os (tT_tE h)⟩
/-- a truth as a test -/
theorem st_val {x : Expr} {a : Sem} (h : SE X ct x a) (he : ∀ whole, isTrue x X.env whole = (do let v ← whole; standAt x.pos; holding [v] (truthy v)) := by intro _; rfl) : ST X ct x a :=
  ⟨pt_mono (pt_val h.pe he) fun _ _ _ h => tT_tE h⟩
/-! chains: a op b op' c -/
def eChain (f g : D → D → Option R) (a b c : Sem) : Sem := fun env st => (a env st).bind fun p => (b env p.2).bind fun q => (f p.1.d q.1.d).bind fun r => match r with
  | .sh (.bl true) => (c env q.2).bind fun u => (g q.1.d u.1.d).map fun r => (r, u.2)
  | .sh (.bl false) => some (.sh (.bl false), q.2)
  | _ => none
theorem tE_chain {K : PySem.W.Frag} {rr rr' : R2} {f g : D → D → Option R} {a b c : Sem} (os : OpS K ct rr f) (os' : OpS K ct rr' g) {σ : St} {H : Hp} {Q : VK} (h : tE K ct (eChain f g a b c) σ H Q) : tChain rr rr' (tE K ct a) (tE K ct b) (tE K ct c) σ H Q := by
  obtain ⟨F, W, L, env, st, r, st', I, e, k⟩ := h
  obtain ⟨⟨r1, st1⟩, h1, e⟩ := bind2 e
  obtain ⟨⟨r2, st2⟩, h2, e⟩ := bind2 e
  obtain ⟨r3, h3, e⟩ := bind2 e
  refine ⟨F, W, L, env, st, r1, st1, I, h1, fun x H1 W1 L1 l1 I1 p1 => ?_⟩
  obtain ⟨W1', m1, J1, q1⟩ := I1.pin p1
  refine ⟨F, W1', L1, env, st1, r2, st2, J1, h2, fun y H2 W2 L2 l2 I2 p2 => ?_⟩
  obtain ⟨W2', m2, J2, q2⟩ := I2.pin p2
  have q1' := J2.look (q1.mono (l2.trans m2))
  have q2' := J2.look q2
  rw [R.pin_d] at q1' q2'
  refine os F W2' L2 env st2 σ H2 x y _ _ _ _ J2 q1' q2' h3 fun v H3 W3 L3 l3 I3 p3 => ?_
  have le3 := l1.trans (m1.trans (l2.trans (m2.trans l3)))
  cases r3 with
  | ow d => cases e
  | bw i d => cases e
  | sh d =>
    cases d with
    | bl b =>
      cases (show Rep K ct W3 v (.bl b) from p3)
      refine ⟨b, rfl, ?_⟩
      cases b with
      | false =>
        cases e
        exact iteF (k _ _ _ _ le3 I3 (.bl false))
      | true =>
        refine iteT ?_
        obtain ⟨⟨r4, st4⟩, h4, e⟩ := bind2 e
        obtain ⟨r5, h5, e⟩ := map2 e
        cases e
        refine ⟨F, W3, L3, env, st2, r4, st4, I3, h4, fun z H4 W4 L4 l4 I4 p4 => ?_⟩
        obtain ⟨W4', m4, J4, q4⟩ := I4.pin p4
        have q4' := J4.look q4
        have q2'' := J4.look (q2.mono (l3.trans (l4.trans m4)))
        rw [R.pin_d] at q4' q2''
        exact os' F W4' L4 env st4 σ H4 y z _ _ _ Q J4 q2'' q4' h5 fun v H' W' L' l' I' p' => k v H' W' L' (le3.trans (l4.trans (m4.trans l'))) I' p'
    | _ => cases e
theorem st_chain {op op' : CmpOp} {rr rr' : R2} {f g : D → D → Option R} {x y z : Expr} {a b c : Sem} (ho : OpR X (compareOp op) rr) (os : OpS X.K ct rr f) (ho' : OpR X (compareOp op') rr') (os' : OpS X.K ct rr' g) (ha : SE X ct x a) (hb : SE X ct y b) (hc : SE X ct z c)
    (hm : lastMarks [op, op'] [y, z] = false := by with_unfolding_all rfl) : ST X ct (.Compare x [op, op'] [y, z] pos) (eChain f g a b c) := ⟨pt_mono (pt_chain ho ho' ha.pe hb.pe hc.pe hm) fun _ _ _ h => tE_chain os os' (tT_tE h)⟩
/-! and, or, not, if-else -/
def eAnd (a b : Sem) : Sem := fun env st => (a env st).bind fun p => match p.1 with
  | .sh (.bl true) => b env p.2
  | .sh (.bl false) => some (.sh (.bl false), p.2)
  | _ => none
def eOr (a b : Sem) : Sem := fun env st => (a env st).bind fun p => match p.1 with
  | .sh (.bl false) => b env p.2
  | .sh (.bl true) => some (.sh (.bl true), p.2)
  | _ => none
def eNot (a : Sem) : Sem := fun env st => (a env st).bind fun p => match p.1 with
  | .sh (.bl b) => some (.sh (.bl (!b)), p.2)
  | _ => none
def eIf (c a b : Sem) : Sem := fun env st => (c env st).bind fun p => match p.1 with
  | .sh (.bl true) => a env p.2
  | .sh (.bl false) => b env p.2
  | _ => none
theorem eAnd_inv {a b : Sem} {env st r st'} (h : eAnd a b env st = some (r, st')) : (∃ st1, a env st = some (.sh (.bl true), st1) ∧ b env st1 = some (r, st')) ∨ (a env st = some (.sh (.bl false), st') ∧ r = .sh (.bl false)) := by
  obtain ⟨⟨r1, st1⟩, h1, h⟩ := bind2 h
  cases r1 with
  | sh d =>
    cases d with
    | bl b =>
      cases b with
      | true => exact .inl ⟨st1, h1, h⟩
      | false => cases h; exact .inr ⟨h1, rfl⟩
    | _ => cases h
  | _ => cases h
theorem eOr_inv {a b : Sem} {env st r st'} (h : eOr a b env st = some (r, st')) : (∃ st1, a env st = some (.sh (.bl false), st1) ∧ b env st1 = some (r, st')) ∨ (a env st = some (.sh (.bl true), st') ∧ r = .sh (.bl true)) := by
  obtain ⟨⟨r1, st1⟩, h1, h⟩ := bind2 h
  cases r1 with
  | sh d =>
    cases d with
    | bl b =>
      cases b with
      | false => exact .inl ⟨st1, h1, h⟩
      | true => cases h; exact .inr ⟨h1, rfl⟩
    | _ => cases h
  | _ => cases h
theorem eNot_inv {a : Sem} {env st r st'} (h : eNot a env st = some (r, st')) : ∃ k, a env st = some (.sh (.bl k), st') ∧ r = .sh (.bl (!k)) := by
  obtain ⟨⟨r1, st1⟩, h1, h⟩ := bind2 h
  cases r1 with
  | sh d =>
    cases d with
    | bl k => cases h; exact ⟨k, h1, rfl⟩
    | _ => cases h
  | _ => cases h
theorem st_not {x : Expr} {a : Sem} (h : ST X ct x a) : ST X ct (.UnaryOp .Not x pos) (eNot a) := by
  refine ⟨pt_mono (pt_not h.pt) fun σ H Q ⟨F, W, L, env, st, b, st', I, e, k⟩ => ?_⟩
  obtain ⟨k', h1, h2⟩ := eNot_inv e
  cases h2
  refine ⟨F, W, L, env, st, k', st', I, h1, fun H' W' L' l I' => ?_⟩
  exact k H' W' L' l I'
variable {rest : List Expr} {x y : Expr} {a b c : Sem}
theorem sw_and1 (h : ST X ct x a) : SW X ct (.BoolOp .And [x] pos) a := ⟨pw_and1 h.pt⟩
theorem sw_or1 (h : ST X ct x a) : SW X ct (.BoolOp .Or [x] pos) a := ⟨pw_or1 h.pt⟩
theorem sw_and (h : ST X ct x a) (k : SW X ct (.BoolOp .And (y :: rest) pos) b) : SW X ct (.BoolOp .And (x :: y :: rest) pos) (eAnd a b) := by
  refine ⟨pw_mono (pw_and h.pt k.pw) fun σ H Q ⟨F, W, L, env, st, r, st', I, e, k⟩ => ?_⟩
  rcases eAnd_inv e with ⟨st1, h1, h2⟩ | ⟨h1, h2⟩
  · refine ⟨F, W, L, env, st, true, st1, I, h1, fun H' W' L' l I' => ?_⟩
    exact iteT ⟨F, W', L', env, st1, r, st', I', h2, fun H2 W2 L2 l2 I2 => k H2 W2 L2 (l.trans l2) I2⟩
  · cases h2
    refine ⟨F, W, L, env, st, false, st', I, h1, fun H' W' L' l I' => ?_⟩
    exact iteF (k H' W' L' l I')
theorem sw_or (h : ST X ct x a) (k : SW X ct (.BoolOp .Or (y :: rest) pos) b) : SW X ct (.BoolOp .Or (x :: y :: rest) pos) (eOr a b) := by
  refine ⟨pw_mono (pw_or h.pt k.pw) fun σ H Q ⟨F, W, L, env, st, r, st', I, e, k⟩ => ?_⟩
  rcases eOr_inv e with ⟨st1, h1, h2⟩ | ⟨h1, h2⟩
  · refine ⟨F, W, L, env, st, false, st1, I, h1, fun H' W' L' l I' => ?_⟩
    exact iteF ⟨F, W', L', env, st1, r, st', I', h2, fun H2 W2 L2 l2 I2 => k H2 W2 L2 (l.trans l2) I2⟩
  · cases h2
    refine ⟨F, W, L, env, st, true, st', I, h1, fun H' W' L' l I' => ?_⟩
    exact iteT (k H' W' L' l I')
theorem SW.st (h : SW X ct x a) : ST X ct x a := ⟨h.pw.pt⟩
end
end Kn
namespace Kn
open PySem L2
/-! data as the library's -/
mutual
def D.py : D → PyData
  | .non => .none
  | .bl b => .bool b
  | .int i => .int i
  | .str x => .str x
  | .lst ds => .list (D.pyL ds)
  | .tup ds => .tuple (D.pyL ds)
  | .scr ns => .list (ns.map .int)
  | _ => .dict []
def D.pyL : List D → List PyData
  | [] => []
  | d :: ds => d.py :: D.pyL ds
end
theorem D.pyL_eq : ∀ ds : List D, D.pyL ds = ds.map D.py
  | [] => rfl
  | d :: ds => by rw [D.pyL, D.pyL_eq ds]; rfl
theorem dp_ints (K : PySem.W.Frag) (H : Hp) : ∀ ns : List Int, DpAll K H (ns.map V.int) (ns.map PyData.int)
  | [] => .nil
  | n :: ns => .cons (.int n) (dp_ints K H ns)
section
variable {K : PySem.W.Frag} {ct : CT} {W : Wd} {H : Hp}
mutual
theorem Rep.dp (e : ∀ a o, W.hs a = some o → H a = some o) (e' : ∀ a vs, W.tp a = some vs → H a = some (.tup vs)) : ∀ {v : V} {d : D}, Rep K ct W v d → d.py.canLay0 = true → Dp K H v d.py
  | _, _, .non, _ => .non
  | _, _, .bl b, _ => .bl b
  | _, _, .int i, _ => .int i
  | _, _, .str x, _ => .str x
  | _, _, .lst h r, c => by
    rw [D.py] at c ⊢
    exact .lst (SqL.of (e _ _ h)) (RepL.dp e e' r (by simpa [PyData.canLay0] using c))
  | _, _, .tup h r, c => by
    rw [D.py] at c ⊢
    exact .tup (SqT.of (e' _ _ h)) (RepL.dp e e' r (by simpa [PyData.canLay0] using c))
  | _, _, .scr h, c => by
    rw [D.py]
    exact .lst (sq_mono e h) (dp_ints K H _)
  | _, _, .dic h _ r, c => by simp [D.py, PyData.canLay0] at c
  | _, _, .obj h _ _ r, c => by simp [D.py, PyData.canLay0] at c
  | _, _, .hnd h, c => by simp [D.py, PyData.canLay0] at c
theorem RepL.dp (e : ∀ a o, W.hs a = some o → H a = some o) (e' : ∀ a vs, W.tp a = some vs → H a = some (.tup vs)) : ∀ {vs : List V} {ds : List D}, RepL K ct W vs ds → PyData.canLayAll0 (D.pyL ds) = true → DpAll K H vs (D.pyL ds)
  | _, _, .nil, _ => by rw [D.pyL]; exact .nil
  | _, _, .cons h r, c => by
    rw [D.pyL] at c ⊢
    rw [PyData.canLayAll0, Bool.and_eq_true] at c
    exact .cons (Rep.dp e e' h c.1) (RepL.dp e e' r c.2)
end
theorem RdH.dp {F : Hp} {L : Addr → Option Lab} {env : List Slot} {st : Sto} {σ : St} {v : V} {d : D} (h : RdH K ct W H v d) (I : Rel K ct F W L env st σ H) (c : SeqAt.shaped d.py = true) : Dp K H v d.py := by
  have c := SeqAt.canLay_of_shaped c
  rcases h with h | ⟨a, rfl, cl⟩
  · exact h.dp (fun a o e => (I.hs a o e).1) I.tp c
  · cases cl with
    | lst h q =>
      rw [D.py] at c ⊢
      exact .lst (SqL.of h) (q.dp (fun a o e => (I.hs a o e).1) I.tp (by simpa [PyData.canLay0] using c))
    | dic h _ q => simp [D.py, PyData.canLay0] at c
    | obj h _ _ q => simp [D.py, PyData.canLay0] at c
end
/-! operators -/
section
variable {X : Cx} {ct : CT} {pos : Pos}
theorem fresh_out {K : PySem.W.Frag} {F H : Hp} {W : Wd} {L : Addr → Option Lab} {env : List Slot} {st : Sto} {σ : St} {Q : VK} {d : D} {o : HO} {p : Addr} (I : Rel K ct F W L env st σ H) (hp : H p = none) (c : Cell K ct W (upd H p o) p d)
    (k : ∀ v H' W' L', W.le W' → Rel K ct F W' L' env st σ H' → RepR K ct F W' L' H' env σ v (.ow d) → Q v H') : Q (.ref p) (upd H p o) := by
  obtain ⟨I', h1, h2, h3⟩ := I.laid (o := o) hp
  exact k _ _ W _ (.refl W) I' ⟨p, rfl, h1, h2, h3, c⟩
theorem tup_out {K : PySem.W.Frag} {F H : Hp} {W : Wd} {L : Addr → Option Lab} {env : List Slot} {st : Sto} {σ : St} {Q : VK} {ds : List D} {vs : List V} {p : Addr} (I : Rel K ct F W L env st σ H) (hp : H p = none) (r : RepL K ct W vs ds)
    (k : ∀ v H' W' L', W.le W' → Rel K ct F W' L' env st σ H' → RepR K ct F W' L' H' env σ v (.sh (.tup ds)) → Q v H') : Q (.ref p) (upd H p (.tup vs)) := by
  obtain ⟨I', _⟩ := I.laid (o := .tup vs) hp
  obtain ⟨le, J, e⟩ := I'.shareT (p := p) upd_same
  exact k _ _ _ _ le J (Rep.tup e (r.mono le))
def fAdd : D → D → Option R
  | .int i, .int j => some (.sh (.int (i + j)))
  | .str a, .str b => if a.length + b.length ≤ sizeLine then some (.sh (.str (a ++ b))) else none
  | .lst a, .lst b => if a.length + b.length ≤ sizeLine then some (.ow (.lst (a ++ b))) else none
  | .tup (a :: as), .tup (b :: bs) => if (a :: as).length + (b :: bs).length ≤ sizeLine then some (.sh (.tup ((a :: as) ++ (b :: bs)))) else none
  | _, _ => none
def rrAdd (K : PySem.W.Frag) : R2 := fun x y H Q => (rI0 fun i j => .int (i + j)) x y H Q ∨ (∃ i j, x = .str i ∧ y = .str j ∧ i.length + j.length ≤ sizeLine ∧ Q (.str (i ++ j)) H) ∨ rCat x y H Q ∨ rCatT K x y H Q
theorem op_addA : OpR X (binaryOp .Add) (rrAdd X.K) := OpR.or op_add (OpR.or op_add_str (OpR.or op_cat op_catT))
theorem os_add {K : PySem.W.Frag} : OpS K ct (rrAdd K) fAdd := by
  intro F W L env st σ H x y d1 d2 r Q I h1 h2 e k
  unfold fAdd at e
  split at e
  · cases e
    exact .inl ⟨_, _, h1.int, h2.int, k _ H W L (.refl W) I (.int _)⟩
  · split at e <;> cases e
    rename_i c
    exact .inr (.inl ⟨_, _, h1.str, h2.str, c, k _ H W L (.refl W) I (.str _)⟩)
  · split at e <;> cases e
    rename_i c
    obtain ⟨a, vs, rfl, g1, q1⟩ := h1.list I
    obtain ⟨b, ws, rfl, g2, q2⟩ := h2.list I
    refine .inr (.inr (.inl ⟨a, b, vs, ws, rfl, rfl, g1, g2, by rw [q1.length, q2.length]; exact c, fun p hp => ?_⟩))
    exact fresh_out I hp (.lst upd_same (q1.append q2)) k
  · split at e <;> cases e
    rename_i c
    obtain ⟨a, vs, rfl, g1, q1⟩ := h1.tup I
    obtain ⟨b, ws, rfl, g2, q2⟩ := h2.tup I
    refine .inr (.inr (.inr ⟨a, b, vs, ws, rfl, rfl, SqT.of g1, SqT.of g2, ?_, by rw [q1.length, q2.length]; exact c, ?_⟩))
    · rintro rfl; cases q1
    · refine ⟨?_, fun _ p hp => tup_out I hp (q1.append q2) k⟩
      rintro rfl; cases q2
  · cases e
theorem se_add {x y : Expr} {a b : Sem} (ha : SE X ct x a) (hb : SE X ct y b) : SE X ct (.BinOp x .Add y pos) (e2 fAdd a b) := se_op op_addA os_add ha hb
/-- a rule over two ints -/
def fI (g : Int → Int → Option Int) : D → D → Option R
  | .int i, .int j => (g i j).map fun k => .sh (.int k)
  | _, _ => none
theorem os_I {K : PySem.W.Frag} {C : Int → Int → Prop} {f : Int → Int → Int} {g : Int → Int → Option Int} (h : ∀ i j k, g i j = some k → C i j ∧ k = f i j) : OpS K ct (rI C fun i j => .int (f i j)) (fI g) := by
  intro F W L env st σ H x y d1 d2 r Q I h1 h2 e k
  unfold fI at e
  split at e
  · obtain ⟨m, e1, e2⟩ := map2 e
    subst e2
    obtain ⟨c, rfl⟩ := h _ _ _ e1
    exact ⟨_, _, h1.int, h2.int, c, k _ H W L (.refl W) I (.int _)⟩
  · cases e
def gSub' : Int → Int → Option Int := fun i j => some (i - j)
def gMul : Int → Int → Option Int := fun i j => if i.natAbs.log2 + j.natAbs.log2 < 1000000 then some (i * j) else none
def gDiv : Int → Int → Option Int := fun i j => if 0 < j ∧ j.natAbs.log2 < 9000 then some (i / j) else none
def gMod : Int → Int → Option Int := fun i j => if 0 < j then some (i % j) else none
def gPow : Int → Int → Option Int := fun i j => if 0 ≤ j ∧ j ≤ 1000000 ∧ i.natAbs < 2 ^ 64 then some (i ^ j.toNat) else none
variable {x y : Expr} {a b : Sem}
theorem ifs {α : Type} {c : Prop} [Decidable c] {v w : α} (h : (if c then some v else none) = some w) : c ∧ w = v := by
  split at h
  · exact ⟨by assumption, (Option.some.inj h).symm⟩
  · cases h
theorem opI0' {f : Value → Value → PySem.Sem Value} {g : Int → Int → V} (h : OpR X f (rI0 g)) : OpR X f (rI (fun _ _ => True) g) := fun pins s σ H x y v u Q I rx ry ⟨i, j, e1, e2, _, q⟩ => h pins s σ H x y v u Q I rx ry ⟨i, j, e1, e2, q⟩
theorem se_sub (ha : SE X ct x a) (hb : SE X ct y b) : SE X ct (.BinOp x .Sub y pos) (e2 (fI gSub') a b) := se_op (opI0' op_sub) (os_I (f := fun i j => i - j) fun i j k h => ⟨trivial, (Option.some.inj h).symm⟩) ha hb
/-- a product of ints, or a list so many times -/
def fMul : D → D → Option R
  | .int i, .int j => (gMul i j).map fun k => .sh (.int k)
  | .lst ds, .int k => if -(2 ^ 63) ≤ k ∧ k < 2 ^ 63 ∧ ds.length * k.toNat ≤ sizeLine then some (.ow (.lst (List.replicate k.toNat ds).flatten)) else none
  | _, _ => none
theorem op_mulA : OpR X (binaryOp .Mult) (fun x y H Q => (rI CMulW fun i j => .int (i * j)) x y H Q ∨ rRep x y H Q) := OpR.or op_mulW op_rep
theorem os_mul {K : PySem.W.Frag} : OpS K ct (fun x y H Q => (rI CMulW fun i j => .int (i * j)) x y H Q ∨ rRep x y H Q) fMul := by
  intro F W L env st σ H x y d1 d2 r Q I h1 h2 e k
  unfold fMul at e
  split at e
  · obtain ⟨m, e1, e2⟩ := map2 e
    subst e2
    obtain ⟨c, rfl⟩ := ifs e1
    exact .inl ⟨_, _, h1.int, h2.int, c, k _ H W L (.refl W) I (.int _)⟩
  · obtain ⟨c, rfl⟩ := ifs e
    obtain ⟨a, vs, rfl, g1, q1⟩ := h1.list I
    refine .inr ⟨a, _, vs, rfl, h2.int, g1, c.1, c.2.1, by rw [q1.length]; exact c.2.2, fun p hp => ?_⟩
    exact fresh_out I hp (.lst upd_same (q1.rep _)) k
  · cases e
theorem se_mul (ha : SE X ct x a) (hb : SE X ct y b) : SE X ct (.BinOp x .Mult y pos) (e2 fMul a b) := se_op op_mulA os_mul ha hb
theorem se_div (ha : SE X ct x a) (hb : SE X ct y b) : SE X ct (.BinOp x .FloorDiv y pos) (e2 (fI gDiv) a b) := se_op op_fdivW (os_I (C := CDivW) (f := fun i j => i / j) fun i j k h => ⟨(ifs h).1, (ifs h).2⟩) ha hb
theorem se_mod (ha : SE X ct x a) (hb : SE X ct y b) : SE X ct (.BinOp x .Mod y pos) (e2 (fI gMod) a b) := se_op op_mod (os_I (C := fun _ j => 0 < j) (f := fun i j => i % j) fun i j k h => ⟨(ifs h).1, (ifs h).2⟩) ha hb
theorem se_pow (ha : SE X ct x a) (hb : SE X ct y b) : SE X ct (.BinOp x .Pow y pos) (e2 (fI gPow) a b) := se_op op_pow (os_I (C := CPow) (f := fun i j => i ^ j.toNat) fun i j k h => ⟨(ifs h).1, (ifs h).2⟩) ha hb
def fNeg : D → Option R
  | .int i => some (.sh (.int (-i)))
  | _ => none
theorem se_neg (ha : SE X ct x a) : SE X ct (.UnaryOp .USub x pos) (e1 fNeg a) := by
  refine se_un un_neg (fun F W L env st σ H v d r Q I h e k => ?_) ha
  unfold fNeg at e
  split at e <;> cases e
  exact ⟨_, h.int, k _ H W L (.refl W) I (.int _)⟩
/-! comparisons -/
def fC (g : Int → Int → Bool) : D → D → Option R
  | .int i, .int j => some (.sh (.bl (g i j)))
  | _, _ => none
theorem os_C {K : PySem.W.Frag} {g : Int → Int → Bool} : OpS K ct (rI0 fun i j => .bl (g i j)) (fC g) := by
  intro F W L env st σ H x y d1 d2 r Q I h1 h2 e k
  unfold fC at e
  split at e <;> cases e
  exact ⟨_, _, h1.int, h2.int, k _ H W L (.refl W) I (.bl _)⟩
abbrev fLt := fC fun i j => decide (i < j)
abbrev fLe := fC fun i j => decide (i ≤ j)
abbrev fGt := fC fun i j => decide (j < i)
abbrev fGe := fC fun i j => decide (j ≤ i)
theorem st_lt (ha : SE X ct x a) (hb : SE X ct y b) : ST X ct (.Compare x [.Lt] [y] pos) (e2 fLt a b) := st_cmp op_lt os_C (nomark _) ha hb
theorem st_gt (ha : SE X ct x a) (hb : SE X ct y b) : ST X ct (.Compare x [.Gt] [y] pos) (e2 fGt a b) := st_cmp op_gt os_C (nomark _) ha hb
theorem st_ge (ha : SE X ct x a) (hb : SE X ct y b) : ST X ct (.Compare x [.GtE] [y] pos) (e2 fGe a b) := st_cmp op_ge os_C (nomark _) ha hb
theorem st_chLL {z : Expr} {c : Sem} (ha : SE X ct x a) (hb : SE X ct y b) (hc : SE X ct z c) (hm : lastMarks [.LtE, .LtE] [y, z] = false := by with_unfolding_all rfl) : ST X ct (.Compare x [.LtE, .LtE] [y, z] pos) (eChain fLe fLe a b c) := st_chain op_le os_C op_le os_C ha hb hc hm
theorem st_chLT {z : Expr} {c : Sem} (ha : SE X ct x a) (hb : SE X ct y b) (hc : SE X ct z c) (hm : lastMarks [.LtE, .Lt] [y, z] = false := by with_unfolding_all rfl) : ST X ct (.Compare x [.LtE, .Lt] [y, z] pos) (eChain fLe fLt a b c) := st_chain op_le os_C op_lt os_C ha hb hc hm
def D.ok (d : D) : Bool := SeqAt.shaped d.py
def D.eq (d e : D) : Bool := PyData.eqv d.py e.py
def fEq (d e : D) : Option R := if d.ok = true ∧ e.ok = true then some (.sh (.bl (d.eq e))) else none
def fNe (d e : D) : Option R := if d.ok = true ∧ e.ok = true then some (.sh (.bl (!d.eq e))) else none
theorem os_eq {K : PySem.W.Frag} : OpS K ct (rEqD K) fEq := by
  intro F W L env st σ H x y d1 d2 r Q I h1 h2 e k
  obtain ⟨c, rfl⟩ := ifs e
  exact ⟨_, _, h1.dp I c.1, h2.dp I c.2, c.1, c.2, k _ H W L (.refl W) I (.bl _)⟩
theorem os_ne {K : PySem.W.Frag} : OpS K ct (rNeD K) fNe := by
  intro F W L env st σ H x y d1 d2 r Q I h1 h2 e k
  obtain ⟨c, rfl⟩ := ifs e
  exact ⟨_, _, h1.dp I c.1, h2.dp I c.2, c.1, c.2, k _ H W L (.refl W) I (.bl _)⟩
theorem se_eq {k : Nat} (hr : Room k X.A) (ha : SE X ct x a) (hb : SE X ct y b) : SE X ct (.Compare x [.Eq] [y] pos) (e2 fEq a b) := se_cmp (op_eqD hr.units) os_eq (nomark _) ha hb
theorem st_eq {k : Nat} (hr : Room k X.A) (ha : SE X ct x a) (hb : SE X ct y b) : ST X ct (.Compare x [.Eq] [y] pos) (e2 fEq a b) := st_cmp (op_eqD hr.units) os_eq (nomark _) ha hb
theorem st_ne {k : Nat} (hr : Room k X.A) (ha : SE X ct x a) (hb : SE X ct y b) : ST X ct (.Compare x [.NotEq] [y] pos) (e2 fNe a b) := st_cmp (op_neD hr.units) os_ne (nomark _) ha hb
/-- is None -/
def D.isN : D → Bool
  | .non => true
  | _ => false
def fIsN (d : D) : Option R := match d with
  | .hnd _ => none
  | d => some (.sh (.bl d.isN))
def fNotN (d : D) : Option R := match d with
  | .hnd _ => none
  | d => some (.sh (.bl (!d.isN)))
theorem RdH.isN {K : PySem.W.Frag} {W : Wd} {H : Hp} {v : V} {d : D} (h : RdH K ct W H v d) (n : ∀ g, d ≠ .hnd g) : decide (v = .non) = d.isN := by
  rcases h with h | ⟨a, rfl, c⟩
  · cases h <;> first | rfl | (rename_i g _; exact absurd rfl (n _))
  · cases c <;> rfl
/-- in, not in: a list, a tuple of flat things, a dict -/
def D.flat : D → Bool
  | .non | .bl _ | .int _ | .str _ => true
  | _ => false
def D.key : D → Option Key
  | .int i => some (.inl i)
  | .str x => some (.inr x)
  | _ => none
def valD (kds : List (Key × D)) (k : Key) : Option D := (kds.find? fun kv => decide (kv.1 = k)).map (·.2)
def fInB (x y : D) : Option Bool := match y with
  | .lst ds => if x.ok = true ∧ y.ok = true then some (ds.any fun z => z.eq x) else none
  | .scr ns => if x.ok = true then some ((ns.map D.int).any fun z => z.eq x) else none
  | .tup ds => if x.flat = true ∧ ds.all D.flat = true then some (ds.any fun z => z.eq x) else none
  | .dic kds => x.key.map fun k => (valD kds k).isSome
  | _ => none
def fIn (x y : D) : Option R := (fInB x y).map fun b => .sh (.bl b)
theorem RdH.dic {K : PySem.W.Frag} {F H : Hp} {W : Wd} {L : Addr → Option Lab} {env : List Slot} {st : Sto} {σ : St} {v : V} {kds : List (Key × D)} (h : RdH K ct W H v (.dic kds)) (I : Rel K ct F W L env st σ H) :
    ∃ a kvs, v = .ref a ∧ H a = some (.dK kvs) ∧ kvs.map (·.1) = kds.map (·.1) ∧ RepL K ct W (kvs.map (·.2)) (kds.map (·.2)) := by
  rcases h with h | ⟨a, rfl, c⟩
  · cases h with
    | dic h n q => exact ⟨_, _, rfl, (I.hs _ _ h).1, n, q⟩
  · cases c with
    | dic h n q => exact ⟨a, _, rfl, h, n, q⟩
theorem valD_rep {K : PySem.W.Frag} {W : Wd} (k : Key) : ∀ {kvs : List (Key × V)} {kds : List (Key × D)}, kvs.map (·.1) = kds.map (·.1) → RepL K ct W (kvs.map (·.2)) (kds.map (·.2)) →
    (valV kvs k = none ∧ valD kds k = none) ∨ ∃ v d, valV kvs k = some v ∧ valD kds k = some d ∧ Rep K ct W v d
  | [], [], _, _ => .inl ⟨rfl, rfl⟩
  | [], _ :: _, n, _ => by cases n
  | _ :: _, [], n, _ => by cases n
  | (k1, v) :: kvs, (k2, d) :: kds, n, r => by
    simp only [List.map_cons, List.cons.injEq] at n
    obtain ⟨n1, n2⟩ := n
    cases r with
    | cons h r =>
      by_cases e : k1 = k
      · have e2 : k2 = k := n1.symm.trans e
        exact .inr ⟨v, d, valV_pos e, by simp [valD, List.find?_cons, e2], h⟩
      · have e2 : ¬ k2 = k := fun q => e (n1.trans q)
        have q1 : valV ((k1, v) :: kvs) k = valV kvs k := valV_neg e
        have q2 : valD ((k2, d) :: kds) k = valD kds k := by simp [valD, List.find?_cons, e2]
        rw [q1, q2]
        exact valD_rep k n2 r
theorem D.key_v {K : PySem.W.Frag} {W : Wd} {H : Hp} {v : V} {d : D} {k : Key} (h : RdH K ct W H v d) (e : d.key = some k) : v = kV k := by
  cases d <;> simp only [D.key, Option.some.injEq, reduceCtorEq] at e
  · subst e; exact h.int
  · subst e; exact h.str
theorem any_pyL (x : D) : ∀ ds : List D, (D.pyL ds).any (fun z => PyData.eqv z x.py) = ds.any fun z => z.eq x
  | [] => rfl
  | d :: ds => by rw [D.pyL, List.any_cons, List.any_cons, any_pyL x ds]; rfl
theorem Rep.flat {K : PySem.W.Frag} {W : Wd} {v : V} {d : D} (h : Rep K ct W v d) (f : d.flat = true) : flatV v = true := by
  cases h <;> first | rfl | (cases f; done)
theorem Rep.eqV {K : PySem.W.Frag} {W : Wd} {v w : V} {d e : D} (h : Rep K ct W v d) (k : Rep K ct W w e) (f : d.flat = true) (g : e.flat = true) : eqV v w = d.eq e := by
  cases h <;> first | (cases f; done) | (cases k <;> first | (cases g; done) | (unfold D.eq; simp only [D.py, PyData.eqv, L2.eqV]))
theorem RdH.rep {K : PySem.W.Frag} {W : Wd} {H : Hp} {v : V} {d : D} (h : RdH K ct W H v d) (f : d.flat = true) : Rep K ct W v d := by
  rcases h with h | ⟨a, rfl, c⟩
  · exact h
  · cases c <;> cases f
theorem inV_eq {K : PySem.W.Frag} {W : Wd} {x : V} {d : D} (h : Rep K ct W x d) (f : d.flat = true) : ∀ {vs : List V} {ds : List D}, RepL K ct W vs ds → ds.all D.flat = true → vs.all flatV = true ∧ inV x vs = ds.any fun z => z.eq d
  | _, _, .nil, _ => ⟨rfl, rfl⟩
  | _, _, .cons q r, g => by
    rw [List.all_cons, Bool.and_eq_true] at g
    obtain ⟨h1, h2⟩ := inV_eq h f r g.2
    unfold inV at h2 ⊢
    rw [List.all_cons, List.any_cons, List.any_cons, q.flat g.1, h1, h2, q.eqV h g.1 f]
    exact ⟨rfl, rfl⟩
theorem shaped_ints : ∀ ns : List Int, SeqAt.shaped (.list (ns.map PyData.int)) = true := fun ns => by
  have c : ∀ ns : List Int, PyData.canLayAll0 (ns.map PyData.int) = true := fun ns => by
    induction ns with
    | nil => rfl
    | cons n ns ih =>
      rw [List.map_cons, PyData.canLayAll0, ih]
      rfl
  have d : ∀ ns : List Int, PyData.depthAll (ns.map PyData.int) = 0 := fun ns => by
    induction ns with
    | nil => rfl
    | cons n ns ih =>
      rw [List.map_cons, PyData.depthAll, ih]
      rfl
  unfold SeqAt.shaped
  rw [PyData.canLay0, PyData.depth, c, d]
  rfl
theorem os_in {K : PySem.W.Frag} (neg : Bool) : OpS K ct (fun x y H Q => (if neg then rNotInD K else rInD K) x y H Q ∨ rIn K neg x y H Q ∨ ∃ a o, y = .ref a ∧ DGet H a x o ∧ Q (.bl (if neg then !o.isSome else o.isSome)) H) (fun x y => (fInB x y).map fun b => .sh (.bl (if neg then !b else b))) := by
  intro F W L env st σ H x y d1 d2 r Q I h1 h2 e k
  obtain ⟨m, e1, e2⟩ := map2 e
  subst e2
  unfold fInB at e1
  split at e1
  · rename_i ds
    obtain ⟨c, rfl⟩ := ifs e1
    have g2 := h2.dp I c.2
    have s2 : SeqAt.shaped (D.py (.lst ds)) = true := c.2
    rw [D.py] at g2 s2
    refine .inl ?_
    rw [← any_pyL] at k
    cases neg with
    | true => exact ⟨_, _, h1.dp I c.1, g2, c.1, s2, k _ H W L (.refl W) I (.bl _)⟩
    | false => exact ⟨_, _, h1.dp I c.1, g2, c.1, s2, k _ H W L (.refl W) I (.bl _)⟩
  · rename_i ns
    obtain ⟨c, rfl⟩ := ifs e1
    have s2 : SeqAt.shaped (D.py (.scr ns)) = true := by rw [D.py]; exact shaped_ints ns
    have g2 := h2.dp I s2
    rw [D.py] at g2 s2
    have pe : (ns.map PyData.int) = D.pyL (ns.map D.int) := by rw [D.pyL_eq, List.map_map]; exact List.map_congr_left fun n _ => rfl
    rw [pe] at g2 s2
    refine .inl ?_
    rw [← any_pyL] at k
    cases neg with
    | true => exact ⟨_, _, h1.dp I c, g2, c, s2, k _ H W L (.refl W) I (.bl _)⟩
    | false => exact ⟨_, _, h1.dp I c, g2, c, s2, k _ H W L (.refl W) I (.bl _)⟩
  · obtain ⟨c, rfl⟩ := ifs e1
    obtain ⟨a, vs, rfl, g, q⟩ := h2.tup I
    obtain ⟨f1, f2⟩ := inV_eq (h1.rep c.1) c.1 q c.2
    refine .inr (.inl ⟨a, vs, rfl, .inr (SqT.of g), (h1.rep c.1).flat c.1, f1, ?_⟩)
    rw [f2]
    exact k _ H W L (.refl W) I (.bl _)
  · rename_i kds
    obtain ⟨ky, ek, rfl⟩ := map2 e1
    obtain ⟨a, kvs, rfl, g, n, q⟩ := h2.dic I
    refine .inr (.inr ⟨a, valV kvs ky, rfl, ?_, ?_⟩)
    · rw [D.key_v h1 ek]; exact DGet.k g
    · have e : (valV kvs ky).isSome = (valD kds ky).isSome := by
        rcases valD_rep ky n q with ⟨e1, e2⟩ | ⟨v, d, e1, e2, _⟩ <;> rw [e1, e2] <;> rfl
      rw [e]
      exact k _ H W L (.refl W) I (.bl _)
  · cases e1
theorem op_inDict (hu : X.A.units + 1 < cLine) : OpR X (compareOp .In) (fun x y H Q => ∃ a o, y = .ref a ∧ DGet H a x o ∧ Q (.bl o.isSome) H) := by
  intro pins s σ H x y v u Q I rx ry ⟨a, o, e, g, q⟩
  subst e
  cases (show u = Value.ref a from ry)
  exact d_in hu I g rx fun s' I' => ⟨.bl _, H, I', rfl, q⟩
theorem op_inA {k : Nat} (hr : Room k X.A) : OpR X (compareOp .In) (fun x y H Q => rInD X.K x y H Q ∨ rIn X.K false x y H Q ∨ ∃ a o, y = .ref a ∧ DGet H a x o ∧ Q (.bl o.isSome) H) := OpR.or (op_inD (by have := hr.un; omega)) (OpR.or op_in_seq (op_inDict (hu_of hr)))
theorem st_in {k : Nat} (hr : Room k X.A) (ha : SE X ct x a) (hb : SE X ct y b) (hm : behindInMarks .In y = false := by with_unfolding_all rfl) : ST X ct (.Compare x [.In] [y] pos) (e2 fIn a b) := st_cmp (op_inA hr) (os_in false) hm ha hb
end
end Kn
namespace Kn
open PySem L2
section
variable {X : Cx} {ct : CT} {pos : Pos} {x y : Expr} {a b : Sem}
/-! an item -/
def fIdx : D → D → Option R
  | .lst ds, .int i => (atI ds i).map .sh
  | .scr ns, .int i => (atI ns i).map fun n => .sh (.int n)
  | .tup ds, .int i => (atI ds i).map .sh
  | .str z, .int i => if z.length ≤ sizeLine then (atI z.cps.toList i).map fun c => .sh (.str ⟨#[c]⟩) else none
  | .dic kds, d => d.key.bind fun k => (valD kds k).map .sh
  | _, _ => none
theorem atI_rep {K : PySem.W.Frag} {W : Wd} {vs : List V} {ds : List D} {i : Int} {d : D} (r : RepL K ct W vs ds) (h : atI ds i = some d) : ∃ v, atI vs i = some v ∧ Rep K ct W v d := by
  unfold atI at h ⊢
  obtain ⟨j, h1, h2⟩ := bind2 h
  obtain ⟨v, h3, h4⟩ := r.get h2
  refine ⟨v, ?_, h4⟩
  rw [r.length, h1]
  exact h3
theorem ix_dict (hu : X.A.units + 1 < cLine) : IxR X (fun x y H Q => ∃ a v, x = .ref a ∧ DGet H a y (some v) ∧ Q v H) := by
  intro value slice pins s σ H x y v u Q I rx ry ⟨a, w, e, g, q⟩ hs
  subst e
  cases (show v = Value.ref a from rx)
  exact PyProof.Rows.tail_any (dict_typeIs I g) PySem.F.slot_dict_getitem.lookup (d_getItem hu I g ry fun w' s3 I3 rw' => ⟨w, H, I3, rw', q⟩) hs
theorem os_idx {K : PySem.W.Frag} : OpS K ct (fun x y H Q => (∃ a v, x = .ref a ∧ DGet H a y (some v) ∧ Q v H) ∨ rIx K x y H Q) fIdx := by
  intro F W L env st σ H x y d1 d2 r Q I h1 h2 e k
  have go : ∀ (v : V) (d : D), Rep K ct W v d → r = .sh d → Q v H := fun v d h e => k v H W L (.refl W) I (by rw [e]; exact h)
  unfold fIdx at e
  split at e
  · obtain ⟨d, e1, rfl⟩ := map2 e
    obtain ⟨a, vs, rfl, g, q⟩ := h1.list I
    obtain ⟨v, h3, h4⟩ := atI_rep q e1
    exact .inr (.inl ⟨a, vs, _, v, rfl, h2.int, SqL.of g, h3, go v d h4 rfl⟩)
  · rename_i ns i
    obtain ⟨n, e1, rfl⟩ := map2 e
    obtain ⟨a, vs, rfl, g, q⟩ := h1.seqL (ds := ns.map D.int) rfl I
    have e2 : atI (ns.map D.int) i = some (.int n) := by
      unfold atI at e1 ⊢
      obtain ⟨j, e3, e4⟩ := bind2 e1
      rw [List.length_map, e3]
      show (ns.map D.int)[j]? = _
      rw [List.getElem?_map, e4]; rfl
    obtain ⟨v, h3, h4⟩ := atI_rep q e2
    exact .inr (.inl ⟨a, vs, _, v, rfl, h2.int, g, h3, go v _ h4 rfl⟩)
  · obtain ⟨d, e1, rfl⟩ := map2 e
    obtain ⟨a, vs, rfl, g, q⟩ := h1.tup I
    obtain ⟨v, h3, h4⟩ := atI_rep q e1
    exact .inr (.inr (.inl ⟨a, vs, _, v, rfl, h2.int, SqT.of g, h3, go v d h4 rfl⟩))
  · split at e
    · rename_i c
      obtain ⟨m, e1, rfl⟩ := map2 e
      exact .inr (.inr (.inr ⟨_, _, m, h1.str, h2.int, c, e1, go _ _ (.str _) rfl⟩))
    · cases e
  · obtain ⟨ky, ek, e⟩ := bind2 e
    obtain ⟨d, e1, rfl⟩ := map2 e
    obtain ⟨a, kvs, rfl, g, n, q⟩ := h1.dic I
    rcases valD_rep ky n q with ⟨_, e2⟩ | ⟨v, d', e2, e3, h⟩
    · rw [e1] at e2; cases e2
    · rw [e1] at e3; cases e3
      refine .inl ⟨a, v, rfl, ?_, go v d h rfl⟩
      rw [D.key_v h2 ek, ← e2]
      exact DGet.k g
  · cases e
theorem se_idx {k : Nat} (hr : Room k X.A) (ha : SE X ct x a) (hb : SE X ct y b) (hs : PlainIx y := by exact fun _ _ => rfl) : SE X ct (.Subscript x y pos) (e2 fIdx a b) :=
  ⟨pe_mono (pe_ix (IxR.or (ix_dict (hu_of hr)) ix_seq) ha.pe hb.pe hs) fun _ _ _ h => tE_e2 os_idx h⟩
/-! slices -/
def cutG {α : Type} (xs : List α) (lo hi : Option Int) : List α := (xs.drop (HT.sIx xs.length 0 lo)).take (HT.sIx xs.length xs.length hi - HT.sIx xs.length 0 lo)
theorem RepL.cut {K : PySem.W.Frag} {W : Wd} {vs : List V} {ds : List D} (r : RepL K ct W vs ds) (lo hi : Option Int) : RepL K ct W (cutV vs lo hi) (cutG ds lo hi) := by
  unfold cutV cutG
  rw [r.length]
  exact (r.drop _).take _
theorem cutG_map {α β : Type} (f : α → β) (xs : List α) (lo hi : Option Int) : cutG (xs.map f) lo hi = (cutG xs lo hi).map f := by
  unfold cutG
  rw [List.length_map, List.map_take, List.map_drop]
abbrev SemP := List Slot → Sto → Option (Option Int × Sto)
def pNo : SemP := fun _ st => some (none, st)
def pSome (e : Sem) : SemP := fun env st => (e env st).bind fun p => match p.1.d with
  | .int i => some (some i, p.2)
  | _ => none
def tP (K : PySem.W.Frag) (ct : CT) (e : SemP) : TO := fun σ H Q => ∃ F W L env st r st', Rel K ct F W L env st σ H ∧ e env st = some (r, st') ∧
  ∀ H' W' L', W.le W' → Rel K ct F W' L' env st' σ H' → Q r H'
structure SP' (X : Cx) (ct : CT) (x : Option Expr) (e : SemP) : Prop where
  po : PO X x (tP X.K ct e)
theorem po_mono {x : Option Expr} {t t' : TO} (h : PO X x t) (k : ∀ σ H Q, t' σ H Q → t σ H Q) : PO X x t' := ⟨fun pins s σ H Q I q => h.run pins s σ H Q I (k σ H Q q)⟩
theorem sp_no : SP' X ct none pNo := ⟨po_mono po_none fun σ H Q ⟨F, W, L, env, st, r, st', I, e, k⟩ => by cases e; exact k H W L (.refl W) I⟩
theorem sp_some (ha : SE X ct x a) : SP' X ct (some x) (pSome a) := by
  refine ⟨po_mono (po_some ha.pe) fun σ H Q ⟨F, W, L, env, st, r, st', I, e, k⟩ => ?_⟩
  obtain ⟨⟨r1, st1⟩, h1, e⟩ := bind2 e
  refine ⟨F, W, L, env, st, r1, st1, I, h1, fun v H1 W1 L1 l1 I1 p1 => ?_⟩
  obtain ⟨W1', m1, J1, q1⟩ := I1.pin p1
  have q1' := J1.look q1
  rw [R.pin_d] at q1'
  split at e
  · rename_i i ei
    cases e
    have ei : r1.d = .int i := ei
    rw [ei] at q1'
    exact ⟨i, q1'.int, k _ _ _ (l1.trans m1) J1⟩
  · cases e
def fSlc (d : D) (lo hi : Option Int) : Option R := match d with
  | .lst ds => some (.ow (.lst (cutG ds lo hi)))
  | .scr ns => some (.ow (.lst ((cutG ns lo hi).map .int)))
  | .tup ds => if ¬ (HT.sIx ds.length 0 lo = 0 ∧ HT.sIx ds.length ds.length hi = ds.length) then some (.sh (.tup (cutG ds lo hi))) else none
  | _ => none
def eSlc (a : Sem) (lo hi : SemP) : Sem := fun env st => (a env st).bind fun p => (lo env p.2).bind fun l => (hi env l.2).bind fun h => (fSlc p.1.d l.1 h.1).map fun r => (r, h.2)
theorem se_slc {lo hi : Option Expr} {l h : SemP} {p2 : Pos} (ha : SE X ct x a) (hl : SP' X ct lo l) (hh : SP' X ct hi h) : SE X ct (.Subscript x (.Slice lo hi none p2) pos) (eSlc a l h) := by
  refine ⟨pe_mono (pe_slice (SlR.or sl_list sl_tup) ha.pe hl.po hh.po) fun σ H Q ⟨F, W, L, env, st, r, st', I, e, k⟩ => ?_⟩
  obtain ⟨⟨r1, st1⟩, h1, e⟩ := bind2 e
  obtain ⟨⟨o1, st2⟩, h2, e⟩ := bind2 e
  obtain ⟨⟨o2, st3⟩, h3, e⟩ := bind2 e
  obtain ⟨r4, h4, e⟩ := map2 e
  cases e
  refine ⟨F, W, L, env, st, r1, st1, I, h1, fun v H1 W1 L1 l1 I1 p1 => ?_⟩
  obtain ⟨W1', m1, J1, q1⟩ := I1.pin p1
  refine ⟨F, W1', L1, env, st1, o1, st2, J1, h2, fun H2 W2 L2 l2 I2 => ?_⟩
  refine ⟨F, W2, L2, env, st2, o2, st3, I2, h3, fun H3 W3 L3 l3 I3 => ?_⟩
  have q3 := I3.look (q1.mono (l2.trans l3))
  rw [R.pin_d] at q3
  have k' : ∀ v H' W' L', W3.le W' → Rel X.K ct F W' L' env st3 σ H' → RepR X.K ct F W' L' H' env σ v r → Q v H' := fun v H' W' L' l' => k v H' W' L' (l1.trans (m1.trans (l2.trans (l3.trans l'))))
  have h4 : fSlc r1.d o1 o2 = some r := h4
  unfold fSlc at h4
  split at h4
  · rename_i ds ed
    cases h4
    rw [ed] at q3
    obtain ⟨a, vs, rfl, g, q⟩ := q3.list I3
    exact .inl ⟨a, vs, rfl, SqL.of g, fun p hp => fresh_out I3 hp (.lst upd_same (q.cut o1 o2)) k'⟩
  · rename_i ns ed
    cases h4
    rw [ed] at q3
    obtain ⟨a, vs, rfl, g, q⟩ := q3.seqL (ds := ns.map D.int) rfl I3
    refine .inl ⟨a, vs, rfl, g, fun p hp => fresh_out I3 hp (.lst upd_same ?_) k'⟩
    rw [← cutG_map]
    exact q.cut o1 o2
  · rename_i ds ed
    obtain ⟨c, rfl⟩ := ifs h4
    rw [ed] at q3
    obtain ⟨a, vs, rfl, g, q⟩ := q3.tup I3
    exact .inr ⟨a, vs, rfl, SqT.of g, by rw [q.length]; exact c, fun p hp => tup_out I3 hp (q.cut o1 o2) k'⟩
  · cases h4
/-! argument lists, displays -/
def aNil : SemA := fun _ st => some ([], st)
def aCons (e : Sem) (as : SemA) : SemA := fun env st => (e env st).bind fun p => (as env p.2).map fun q => (p.1.pin :: q.1, q.2)
theorem sa_nil : SA X ct [] aNil := ⟨pa_mono pa_nil fun σ H Q ⟨F, W, L, env, st, r, st', I, e, k⟩ => by cases e; exact k [] H W L (.refl W) I .nil⟩
theorem sa_cons {es : List Expr} {as : SemA} (ha : SE X ct x a) (hr : SA X ct es as) (hs : starEach (x :: es) X.env = (false, eval x X.env) :: starEach es X.env := by rfl) : SA X ct (x :: es) (aCons a as) := by
  refine ⟨pa_mono (pa_cons ha.pe hr.pa hs) fun σ H Q ⟨F, W, L, env, st, r, st', I, e, k⟩ => ?_⟩
  obtain ⟨⟨r1, st1⟩, h1, e⟩ := bind2 e
  obtain ⟨⟨rs, st2⟩, h2, e⟩ := map2 e
  cases e
  refine ⟨F, W, L, env, st, r1, st1, I, h1, fun v H1 W1 L1 l1 I1 p1 => ?_⟩
  obtain ⟨W1', m1, J1, q1⟩ := I1.pin p1
  refine ⟨F, W1', L1, env, st1, rs, st2, J1, h2, fun vs H2 W2 L2 l2 I2 qs => ?_⟩
  exact k _ H2 W2 L2 (l1.trans (m1.trans l2)) I2 (.cons (q1.mono l2) qs)
/-- all shared -/
def valsR : List R → Option (List D)
  | [] => some []
  | .sh d :: rs => (valsR rs).map fun ds => d :: ds
  | _ :: _ => none
theorem RdRs.vals {K : PySem.W.Frag} {W : Wd} {env : List Slot} {σ : St} : ∀ {vs : List V} {rs : List R} {ds : List D}, RdRs K ct W env σ vs rs → valsR rs = some ds → RepL K ct W vs ds
  | _, _, _, .nil, e => by cases e; exact .nil
  | _, _, _, .cons (r := .sh d) h q, e => by
    obtain ⟨ds', e1, rfl⟩ := map2 e
    exact .cons h (q.vals e1)
  | _, _, _, .cons (r := .ow d) h q, e => by cases e
  | _, _, _, .cons (r := .bw i d) h q, e => by cases e
def eTup (as : SemA) : Sem := fun env st => (as env st).bind fun p => (valsR p.1).bind fun ds => if ds.length ≤ sizeLine then some (.sh (.tup ds), p.2) else none
def eLst (as : SemA) : Sem := fun env st => (as env st).bind fun p => (valsR p.1).bind fun ds => if ds.length ≤ sizeLine then some (.ow (.lst ds), p.2) else none
variable {es : List Expr} {as : SemA}
theorem se_tup {x1} (ha : SA X ct es as) : SE X ct (.Tuple es x1 pos) (eTup as) := by
  refine ⟨pe_mono (pe_tup ha.pa) fun σ H Q ⟨F, W, L, env, st, r, st', I, e, k⟩ => ?_⟩
  obtain ⟨⟨rs, st1⟩, h1, e⟩ := bind2 e
  obtain ⟨ds, h2, e⟩ := bind2 e
  obtain ⟨c, e⟩ := ifs e
  cases e
  refine ⟨F, W, L, env, st, rs, st1, I, h1, fun vs H1 W1 L1 l1 I1 qs => ?_⟩
  have q := qs.vals h2
  exact ⟨by rw [q.length]; exact c, fun p hp => tup_out I1 hp q fun v H' W' L' l' => k v H' W' L' (l1.trans l')⟩
theorem se_lst (ha : SA X ct es as) : SE X ct (.List es pos) (eLst as) := by
  refine ⟨pe_mono (pe_lst ha.pa) fun σ H Q ⟨F, W, L, env, st, r, st', I, e, k⟩ => ?_⟩
  obtain ⟨⟨rs, st1⟩, h1, e⟩ := bind2 e
  obtain ⟨ds, h2, e⟩ := bind2 e
  obtain ⟨c, e⟩ := ifs e
  cases e
  refine ⟨F, W, L, env, st, rs, st1, I, h1, fun vs H1 W1 L1 l1 I1 qs => ?_⟩
  have q := qs.vals h2
  exact ⟨by rw [q.length]; exact c, fun p hp => fresh_out I1 hp (.lst upd_same q) fun v H' W' L' l' => k v H' W' L' (l1.trans l')⟩
/-! calls of built-ins -/
theorem se_b1 {id : String} {n : Str} {rr : List V → Hp → VK → Prop} {f : D → Option R} {p : Pos} (hc : CallR X (.builtin id) rr) (os : UnS X.K ct (fun x H Q => rr [x] H Q) f) (hg : Gl X n) (hm : X.mg n = none) (hv : bootBuiltins n = some (.builtin id)) (ha : SE X ct x a)
    (hn : n ≠ "__name__" := by decide) (hdb : (n == ("__debug__" : Str)) = false := by decide) (he : starEach [x] X.env = (false, eval x X.env) :: starEach [] X.env := by rfl) (hpl : (backTo pos (starEach [] X.env)).any (·.1) = false := by rfl) : SE X ct (.Call (.Name n p) [x] [] pos) (e1 f a) :=
  ⟨pe_mono (pe_callB hc hg hm hv (pa_cons ha.pe pa_nil he) hn hdb he hpl) fun _ _ _ h => tE_e1 os h⟩
theorem se_t1 {T : String} {n : Str} {rr : List V → Hp → VK → Prop} {f : D → Option R} {p : Pos} (hc : CallR X (.type T) rr) (os : UnS X.K ct (fun x H Q => rr [x] H Q) f) (hg : Gl X n) (hm : X.mg n = none) (hv : bootBuiltins n = some (.type T)) (ha : SE X ct x a)
    (hn : n ≠ "__name__" := by decide) (hdb : (n == ("__debug__" : Str)) = false := by decide) (he : starEach [x] X.env = (false, eval x X.env) :: starEach [] X.env := by rfl) (hpl : (backTo pos (starEach [] X.env)).any (·.1) = false := by rfl) : SE X ct (.Call (.Name n p) [x] [] pos) (e1 f a) :=
  ⟨pe_mono (pe_callTy hc hg hm hv (pa_cons ha.pe pa_nil he) hn hdb he hpl) fun _ _ _ h => tE_e1 os h⟩
variable {p : Pos}
def fLen : D → Option R
  | .lst ds => some (.sh (.int ds.length))
  | .scr ns => some (.sh (.int ns.length))
  | .tup ds => some (.sh (.int ds.length))
  | .dic kds => some (.sh (.int kds.length))
  | .str z => if z.length ≤ sizeLine then some (.sh (.int z.length)) else none
  | _ => none
theorem us_len : UnS X.K ct (fun x H Q => (∃ p ys, [x] = [V.ref p] ∧ (SqL X.K H p ys ∨ SqT X.K H p ys) ∧ Q (.int ys.length) H) ∨ (∃ d kvs, [x] = [V.ref d] ∧ H d = some (.dK kvs) ∧ Q (.int kvs.length) H) ∨ ∃ z, [x] = [V.str z] ∧ z.length ≤ sizeLine ∧ Q (.int z.length) H) fLen := by
  intro F W L env st σ H x d r Q I h e k
  have go : ∀ n : Nat, r = .sh (.int n) → Q (.int n) H := fun n e => k _ H W L (.refl W) I (by rw [e]; exact .int _)
  unfold fLen at e
  split at e
  · cases e
    obtain ⟨a, vs, rfl, g, q⟩ := h.list I
    exact .inl ⟨a, vs, rfl, .inl (SqL.of g), by rw [q.length]; exact go _ rfl⟩
  · rename_i ns
    cases e
    obtain ⟨a, vs, rfl, g, q⟩ := h.seqL (ds := ns.map D.int) rfl I
    exact .inl ⟨a, vs, rfl, .inl g, by rw [q.length, List.length_map]; exact go _ rfl⟩
  · cases e
    obtain ⟨a, vs, rfl, g, q⟩ := h.tup I
    exact .inl ⟨a, vs, rfl, .inr (SqT.of g), by rw [q.length]; exact go _ rfl⟩
  · cases e
    obtain ⟨a, kvs, rfl, g, n, q⟩ := h.dic I
    refine .inr (.inl ⟨a, kvs, rfl, g, ?_⟩)
    have := congrArg List.length n
    rw [List.length_map, List.length_map] at this
    rw [this]; exact go _ rfl
  · obtain ⟨c, rfl⟩ := ifs e
    exact .inr (.inr ⟨_, by rw [h.str], c, go _ rfl⟩)
  · cases e
theorem se_len (hg : Gl X "len") (hm : X.mg "len" = none) (ha : SE X ct x a) (he : starEach [x] X.env = (false, eval x X.env) :: starEach [] X.env := by rfl) (hpl : (backTo pos (starEach [] X.env)).any (·.1) = false := by rfl) :
    SE X ct (.Call (.Name "len" p) [x] [] pos) (e1 fLen a) := se_b1 (CallR.or call_len_seq (CallR.or call_lenD call_len_str)) us_len hg hm PySem.boot_len ha (by decide) (by decide) he hpl
def fLofs : D → Option R
  | .lst ds => some (.ow (.lst ds))
  | .scr ns => some (.ow (.lst (ns.map .int)))
  | .tup ds => some (.ow (.lst ds))
  | _ => none
theorem se_list (hg : Gl X "list") (hm : X.mg "list" = none) (ha : SE X ct x a) (he : starEach [x] X.env = (false, eval x X.env) :: starEach [] X.env := by rfl) (hpl : (backTo pos (starEach [] X.env)).any (·.1) = false := by rfl) :
    SE X ct (.Call (.Name "list" p) [x] [] pos) (e1 fLofs a) := by
  refine se_t1 call_list_of ?_ hg hm PyProof.Rows.boot_list ha (by decide) (by decide) he hpl
  intro F W L env st σ H x d r Q I h e k
  unfold fLofs at e
  split at e
  · cases e
    obtain ⟨a, vs, rfl, g, q⟩ := h.list I
    exact ⟨a, vs, rfl, .inl (SqL.of g), fun p hp => fresh_out I hp (.lst upd_same q) k⟩
  · rename_i ns
    cases e
    obtain ⟨a, vs, rfl, g, q⟩ := h.seqL (ds := ns.map D.int) rfl I
    exact ⟨a, vs, rfl, .inl g, fun p hp => fresh_out I hp (.lst upd_same q) k⟩
  · cases e
    obtain ⟨a, vs, rfl, g, q⟩ := h.tup I
    exact ⟨a, vs, rfl, .inr (SqT.of g), fun p hp => fresh_out I hp (.lst upd_same q) k⟩
  · cases e
def fTofs : D → Option R
  | .lst ds => some (.sh (.tup ds))
  | .tup ds => some (.sh (.tup ds))
  | _ => none
theorem se_tuple (hg : Gl X "tuple") (hm : X.mg "tuple" = none) (ha : SE X ct x a) (he : starEach [x] X.env = (false, eval x X.env) :: starEach [] X.env := by rfl) (hpl : (backTo pos (starEach [] X.env)).any (·.1) = false := by rfl) :
    SE X ct (.Call (.Name "tuple" p) [x] [] pos) (e1 fTofs a) := by
  refine se_t1 call_tuple_of ?_ hg hm PyProof.Rows.boot_tuple ha (by decide) (by decide) he hpl
  intro F W L env st σ H x d r Q I h e k
  unfold fTofs at e
  split at e
  · cases e
    obtain ⟨a, vs, rfl, g, q⟩ := h.list I
    exact ⟨a, vs, rfl, .inl ⟨SqL.of g, fun p hp => tup_out I hp q k⟩⟩
  · cases e
    have h0 := h
    obtain ⟨a, vs, rfl, g, q⟩ := h.tup I
    refine ⟨a, vs, rfl, .inr ⟨SqT.of g, k _ H W L (.refl W) I ?_⟩⟩
    rcases h0 with h | ⟨a', e', c⟩
    · exact h
    · cases c
  · cases e
def fInt : D → Option R
  | .int i => some (.sh (.int i))
  | .bl k => some (.sh (.int (if k then 1 else 0)))
  | _ => none
theorem se_toint (hg : Gl X "int") (hm : X.mg "int" = none) (ha : SE X ct x a) (he : starEach [x] X.env = (false, eval x X.env) :: starEach [] X.env := by rfl) (hpl : (backTo pos (starEach [] X.env)).any (·.1) = false := by rfl) :
    SE X ct (.Call (.Name "int" p) [x] [] pos) (e1 fInt a) := by
  refine se_t1 call_int1 ?_ hg hm PyProof.Rows.boot_int ha (by decide) (by decide) he hpl
  intro F W L env st σ H x d r Q I h e k
  unfold fInt at e
  split at e <;> cases e
  · exact .inl ⟨_, by rw [h.int], k _ H W L (.refl W) I (.int _)⟩
  · exact .inr ⟨_, by rw [h.bl], k _ H W L (.refl W) I (.int _)⟩
/-- a list of ints, of bools -/
def D.ints : D → Option (List Int)
  | .int i => some [i]
  | _ => none
/-- isinstance(x, T), T a built-in class -/
def D.ty : D → Option String
  | .non => some "NoneType"
  | .bl _ => some "bool"
  | .int _ => some "int"
  | .str _ => some "str"
  | .lst _ => some "list"
  | .tup _ => some "tuple"
  | .dic _ => some "dict"
  | _ => none
def fIsi (T : String) (d : D) : Option R := d.ty.bind fun t => (kitB t T).map fun b => .sh (.bl b)
end
end Kn
namespace Kn
open PySem L2
inductive Out where
  | nx | rt (r : R) | bk | ct
abbrev SemS := List Slot → Sto → Option (Out × List Slot × Sto)
abbrev SemG := D → List Slot → Option (List Slot)
abbrev SemI := List Slot → Sto → Option (List D × Sto)
section
variable (K : PySem.W.Frag) (ct : CT)
def OutOk (F : Hp) (W : Wd) (env' : List Slot) (st' : Sto) (D : Ends) : Out → Prop
  | .nx => ∀ σ' H' W' L', W.le W' → Rel K ct F W' L' env' st' σ' H' → D.nx σ' H'
  | .bk => ∀ σ' H' W' L', W.le W' → Rel K ct F W' L' env' st' σ' H' → D.bk σ' H'
  | .ct => ∀ σ' H' W' L', W.le W' → Rel K ct F W' L' env' st' σ' H' → D.ct σ' H'
  | .rt r => ∀ v σ' H' W' L', W.le W' → Rel K ct F W' L' env' st' σ' H' → RepR K ct F W' L' H' env' σ' v r → D.rt v H'
def tSm (s : SemS) : TS := fun D σ H => ∃ F W L env st o env' st', Rel K ct F W L env st σ H ∧ s env st = some (o, env', st') ∧ OutOk K ct F W env' st' D o
/-- only the slots ts differ -/
def OffTs (ts : List Nat) (σ σ' : St) : Prop := σ'.length = σ.length ∧ ∀ j : Nat, j ∉ ts → σ'[j]? = σ[j]?
def OffTe (ts : List Nat) (e e' : List Slot) : Prop := e'.length = e.length ∧ ∀ j : Nat, j ∉ ts → e'[j]? = e[j]?
def tG (ts : List Nat) (g : SemG) : TG := fun v σ H Q => ∃ F W L env st d env', Rel K ct F W L env st σ H ∧ Rep K ct W v d ∧ g d env = some env' ∧
  ∀ σ', OffTs ts σ σ' → OffTe ts env env' → Rel K ct F W L env' st σ' H → Q σ' H
def tGs (ts : List Nat) (g : List D → List Slot → Option (List Slot)) : TGs := fun vs σ H Q => ∃ F W L env st ds env', Rel K ct F W L env st σ H ∧ RepL K ct W vs ds ∧ g ds env = some env' ∧
  ∀ σ', OffTs ts σ σ' → OffTe ts env env' → Rel K ct F W L env' st σ' H → Q σ' H
/-- J walks ds -/
def Wk (J : It) (W0 : Wd) (ds : List D) : Prop := ∀ F W L env st σ H (i : Nat), W0.le W → Rel K ct F W L env st σ H →
  (∀ d, ds[i]? = some d → J.go i H ∧ ∀ x H', J.yld i H x H' → ∃ W' L', W.le W' ∧ Rel K ct F W' L' env st σ H' ∧ Rep K ct W' x d) ∧ (ds.length ≤ i → J.stop i H)
def tI (e : SemI) : TI := fun σ H R => ∃ F W L env st ds st', Rel K ct F W L env st σ H ∧ e env st = some (ds, st') ∧
  ∀ J H' W' L', W.le W' → Rel K ct F W' L' env st' σ H' → Wk K ct J W' ds → R J H'
end
structure SS (X : Cx) (ct : CT) (x : Stmt) (s : SemS) : Prop where
  ps : PS X x (tSm X.K ct s)
structure SB (X : Cx) (ct : CT) (x : List Stmt) (s : SemS) : Prop where
  pss : PSs X x (tSm X.K ct s)
structure SG (X : Cx) (ct : CT) (x : Expr) (ts : List Nat) (g : SemG) : Prop where
  pg : PG X x (tG X.K ct ts g)
structure SGs (X : Cx) (ct : CT) (x : List Expr) (ts : List Nat) (g : List D → List Slot → Option (List Slot)) : Prop where
  pgs : PGs X x (tGs X.K ct ts g)
structure SI (X : Cx) (ct : CT) (tg x : Expr) (e : SemI) : Prop where
  pi : PI X tg x (tI X.K ct e)
theorem ps_mono {X : Cx} {x : Stmt} {t t' : TS} (h : PS X x t) (k : ∀ D σ H, t' D σ H → t D σ H) : PS X x t' := ⟨fun pins s σ H D I q => h.run pins s σ H D I (k D σ H q)⟩
theorem pss_mono {X : Cx} {x : List Stmt} {t t' : TS} (h : PSs X x t) (k : ∀ D σ H, t' D σ H → t D σ H) : PSs X x t' := ⟨fun pins s σ H D I q => h.run pins s σ H D I (k D σ H q)⟩
theorem pg_mono {X : Cx} {x : Expr} {t t' : TG} (h : PG X x t) (k : ∀ v σ H Q, t' v σ H Q → t v σ H Q) : PG X x t' := ⟨fun pins s σ H v u Q I r q => h.run pins s σ H v u Q I r (k v σ H Q q)⟩
theorem pgs_mono {X : Cx} {x : List Expr} {t t' : TGs} (h : PGs X x t) (k : ∀ v σ H Q, t' v σ H Q → t v σ H Q) : PGs X x t' := ⟨fun pins s σ H v u Q I r q => h.run pins s σ H v u Q I r (k v σ H Q q)⟩
theorem pi_mono {X : Cx} {tg x : Expr} {t t' : TI} (h : PI X tg x t) (k : ∀ σ H R, t' σ H R → t σ H R) : PI X tg x t' := ⟨fun pins s σ H R I q => h.run pins s σ H R I (k σ H R q)⟩
theorem ps_or {X : Cx} {x : Stmt} {t t' : TS} (h : PS X x t) (h' : PS X x t') : PS X x (fun D σ H => t D σ H ∨ t' D σ H) := ⟨fun pins s σ H D I q => q.elim (h.run pins s σ H D I) (h'.run pins s σ H D I)⟩
theorem pi_or {X : Cx} {tg x : Expr} {t t' : TI} (h : PI X tg x t) (h' : PI X tg x t') : PI X tg x (fun σ H R => t σ H R ∨ t' σ H R) := ⟨fun pins s σ H R I q => q.elim (h.run pins s σ H R I) (h'.run pins s σ H R I)⟩
section
variable {K : PySem.W.Frag} {ct : CT} {F H H' : Hp} {W W' : Wd} {L L' : Addr → Option Lab} {env env' : List Slot} {st st' : Sto} {σ : St} {v : V} {d : D} {r : R} {a p : Addr} {o : HO} {D : Ends} {u : Out}
theorem OutOk.mono (h : OutOk K ct F W env' st' D u) (l : W.le W') : OutOk K ct F W' env' st' D u := by
  cases u with
  | nx => exact fun σ' H' W2 L2 l2 => h σ' H' W2 L2 (l.trans l2)
  | bk => exact fun σ' H' W2 L2 l2 => h σ' H' W2 L2 (l.trans l2)
  | ct => exact fun σ' H' W2 L2 l2 => h σ' H' W2 L2 (l.trans l2)
  | rt r => exact fun v σ' H' W2 L2 l2 => h v σ' H' W2 L2 (l.trans l2)
theorem getset {α : Type} {l : List α} {i j : Nat} {x y : α} (h : (l.set i x)[j]? = some y) : (j = i ∧ y = x ∧ i < l.length) ∨ (j ≠ i ∧ l[j]? = some y) := by
  by_cases e : i = j
  · subst e
    by_cases hi : i < l.length
    · rw [List.getElem?_set_self hi] at h
      exact .inl ⟨rfl, (Option.some.inj h).symm, hi⟩
    · rw [List.getElem?_eq_none (by simpa using hi)] at h
      cases h
  · rw [List.getElem?_set_ne e] at h
    exact .inr ⟨fun z => e z.symm, h⟩
theorem SlotOk.at' {σ' : St} {i : Nat} {s : Slot} (h : SlotOk K ct W L H σ i s) (e : σ'[i]? = σ[i]?) : SlotOk K ct W L H σ' i s := by
  cases s with
  | no => trivial
  | sh d => obtain ⟨v, h1, h2⟩ := h; exact ⟨v, e.trans h1, h2⟩
  | ow d => obtain ⟨a, h1, h2⟩ := h; exact ⟨a, e.trans h1, h2⟩
  | o2 d => obtain ⟨a, ws, h1, h2⟩ := h; exact ⟨a, ws, e.trans h1, h2⟩
  | me a d => obtain ⟨h1, h2⟩ := h; exact ⟨e.trans h1, h2⟩
  | exc a => exact e.trans h
/-- a slot takes a shared value -/
theorem Rel.setSh (I : Rel K ct F W L env st σ H) (i : Nat) (h : Rep K ct W v d) : Rel K ct F W L (env.set i (.sh d)) st (σ.set i (some v)) H := by
  refine ⟨I.fr, I.hs, I.tp, I.ob, I.rh, by rw [List.length_set, List.length_set]; exact I.len, fun j s e => ?_⟩
  rcases getset e with ⟨rfl, rfl, hi⟩ | ⟨hj, e⟩
  · refine ⟨v, ?_, h⟩
    rw [List.getElem?_set_self (by rw [I.len]; exact hi)]
  · exact (I.sl j s e).at' (List.getElem?_set_ne (Ne.symm hj))
/-- a slot takes a thing just made for one's own -/
theorem Rel.setOw (I : Rel K ct F W L env st σ H) (i : Nat) (hl : L a = none) (hw : W.hs a = none) (hf : F a = none) (c : Cell K ct W H a d) :
    Rel K ct F W (fun b => if b = a then some (.slot i) else L b) (env.set i (.ow d)) st (σ.set i (some (.ref a))) H := by
  have lab : ∀ b, b ≠ a → (if b = a then some (Lab.slot i) else L b) = L b := fun b h => if_neg h
  refine ⟨fun b u e => ?_, fun b u e => ?_, I.tp, fun g κ x e => ?_, I.rh, by rw [List.length_set, List.length_set]; exact I.len, fun j s e => ?_⟩
  · have nb : b ≠ a := by rintro rfl; rw [hf] at e; cases e
    obtain ⟨h1, h2, h3⟩ := I.fr b u e
    exact ⟨h1, (lab b nb).trans h2, h3⟩
  · have nb : b ≠ a := by rintro rfl; rw [hw] at e; cases e
    obtain ⟨h1, h2⟩ := I.hs b u e
    exact ⟨h1, (lab b nb).trans h2⟩
  · obtain ⟨v, h1, h2⟩ := I.ob g κ x e
    refine ⟨v, h1, ?_⟩
    have q : (fun b => if (if b = a then some (Lab.slot i) else L b) = some (.ob g) then H b else none) = fun b => if L b = some (.ob g) then H b else none := by
      funext b
      by_cases hb : b = a
      · subst hb; simp [hl]
      · rw [lab b hb]
    rw [q]; exact h2
  · rcases getset e with ⟨rfl, rfl, hi⟩ | ⟨hj, e⟩
    · exact ⟨a, by rw [List.getElem?_set_self (by rw [I.len]; exact hi)], if_pos rfl, c⟩
    · refine SlotOk.at' (σ := σ) ?_ (List.getElem?_set_ne (Ne.symm hj))
      refine (I.sl j s e).mono (.refl W) fun b u hb hu => ⟨hu, ?_⟩
      have nb : b ≠ a := by rintro rfl; rw [hl] at hb; cases hb
      exact (lab b nb).trans hb
/-- a slot's own thing is changed -/
theorem Rel.updOw' (I : Rel K ct F W L env st σ H) {i : Nat} (hs : σ[i]? = some (some (.ref a))) (hl : L a = some (.slot i)) (hn : ∀ xs, H a ≠ some (.tup xs)) {d' : Kn.D} (c' : Cell K ct W (upd H a o) a d') :
    Rel K ct F W L (env.set i (.ow d')) st σ (upd H a o) := by
  have ne : ∀ b, L b ≠ some (.slot i) → (upd H a o) b = H b := fun b h => upd_ne (by rintro rfl; exact h hl)
  refine ⟨fun b u e => ?_, fun b u e => ?_, fun b vs e => ?_, fun g κ x e => ?_, I.rh, by rw [List.length_set]; exact I.len, fun j s e => ?_⟩
  · obtain ⟨h1, h2, h3⟩ := I.fr b u e
    exact ⟨by rw [ne b (by rw [h2]; exact fun z => nomatch z)]; exact h1, h2, h3⟩
  · obtain ⟨h1, h2⟩ := I.hs b u e
    exact ⟨by rw [ne b (by rw [h2]; exact fun z => nomatch z)]; exact h1, h2⟩
  · rw [upd_ne (by rintro rfl; exact hn _ (I.tp _ _ e))]
    exact I.tp b vs e
  · obtain ⟨v, h1, h2⟩ := I.ob g κ x e
    refine ⟨v, h1, ?_⟩
    have q : (fun b => if L b = some (.ob g) then (upd H a o) b else none) = fun b => if L b = some (.ob g) then H b else none := by
      funext b
      by_cases hb : L b = some (.ob g)
      · rw [if_pos hb, if_pos hb, ne b (by rw [hb]; exact fun z => nomatch z)]
      · rw [if_neg hb, if_neg hb]
    rw [q]; exact h2
  · rcases getset e with ⟨rfl, rfl, hi⟩ | ⟨hj, e⟩
    · exact ⟨a, hs, hl, c'⟩
    · refine (I.sl j s e).mono (.refl W) fun b u hb hu => ⟨?_, hb⟩
      rw [ne b (by rw [hb]; intro z; cases z; exact hj rfl)]; exact hu
/-- a label is taken away -/
theorem Rel.unlab (I : Rel K ct F W L env st σ H) {i : Nat} (hl : L a = some (.slot i)) : Rel K ct F W (fun b => if b = a then none else L b) (env.set i .no) st σ H := by
  have lab : ∀ b, b ≠ a → (if b = a then none else L b) = L b := fun b h => if_neg h
  refine ⟨fun b u e => ?_, fun b u e => ?_, I.tp, fun g κ x e => ?_, I.rh, by rw [List.length_set]; exact I.len, fun j s e => ?_⟩
  · obtain ⟨h1, h2, h3⟩ := I.fr b u e
    refine ⟨h1, ?_, h3⟩
    by_cases hb : b = a
    · exact if_pos hb
    · exact (lab b hb).trans h2
  · obtain ⟨h1, h2⟩ := I.hs b u e
    refine ⟨h1, ?_⟩
    by_cases hb : b = a
    · exact if_pos hb
    · exact (lab b hb).trans h2
  · obtain ⟨v, h1, h2⟩ := I.ob g κ x e
    refine ⟨v, h1, ?_⟩
    have q : (fun b => if (if b = a then none else L b) = some (.ob g) then H b else none) = fun b => if L b = some (.ob g) then H b else none := by
      funext b
      by_cases hb : b = a
      · subst hb; simp [hl]
      · rw [lab b hb]
    rw [q]; exact h2
  · rcases getset e with ⟨rfl, rfl, hi⟩ | ⟨hj, e⟩
    · trivial
    · refine (I.sl j s e).mono (.refl W) fun b u hb hu => ⟨hu, ?_⟩
      have nb : b ≠ a := by rintro rfl; rw [hl] at hb; cases hb; exact hj rfl
      exact (lab b nb).trans hb
/-- a slot's own thing is shared -/
theorem Rel.freeze (I : Rel K ct F W L env st σ H) {i : Nat} (he : env[i]? = some (.ow d)) : ∃ W' L', W.le W' ∧ Rel K ct F W' L' (env.set i (.sh d)) st σ H := by
  obtain ⟨a, h1, h2, c⟩ := I.sl i _ he
  have J := I.unlab h2
  have na : (fun b => if b = a then none else L b) a = none := if_pos rfl
  have hf : F a = none := by
    cases q : F a with
    | none => rfl
    | some u => have := (I.fr a u q).2.1; rw [h2] at this; cases this
  have hw : W.hs a = none := by
    cases q : W.hs a with
    | none => rfl
    | some u => have := (I.hs a u q).2; rw [h2] at this; cases this
  obtain ⟨W', le, J', q⟩ := J.pin (v := .ref a) (r := .ow d) ⟨a, rfl, na, hw, hf, c⟩
  refine ⟨W', (fun b => if b = a then none else L b), le, ?_⟩
  have s := J'.setSh (v := .ref a) (d := d) i q
  rw [List.set_set] at s
  have e : σ.set i (some (.ref a)) = σ := by
    refine List.ext_getElem? fun j => ?_
    by_cases hj : i = j
    · subst hj
      rw [List.getElem?_set_self (List.getElem?_eq_some_iff.mp h1).1, h1]
    · rw [List.getElem?_set_ne hj]
  rw [e] at s
  exact s
end
section
variable {X : Cx} {ct : CT} {pos : Pos} {x y : Expr} {a b c : Sem} {sx : Stmt} {sxs rest : List Stmt} {f g : SemS}
/-! blocks -/
def sNil : SemS := fun env st => some (.nx, env, st)
def sSeq (f g : SemS) : SemS := fun env st => (f env st).bind fun p => match p with
  | (.nx, env', st') => g env' st'
  | q => some q
theorem sb_nil : SB X ct [] sNil := ⟨pss_mono pss_nil fun D σ H ⟨F, W, L, env, st, o, env', st', I, e, k⟩ => by cases e; exact k σ H W L (.refl W) I⟩
theorem tSm_seq {K : PySem.W.Frag} {D : Ends} {σ : St} {H : Hp} (h : tSm K ct (sSeq f g) D σ H) : tSeq (tSm K ct f) (tSm K ct g) D σ H := by
  obtain ⟨F, W, L, env, st, o, env', st', I, e, k⟩ := h
  obtain ⟨⟨o1, env1, st1⟩, h1, e⟩ := bind2 e
  cases o1 with
  | nx => exact ⟨F, W, L, env, st, .nx, env1, st1, I, h1, fun σ' H' W' L' l I' => ⟨F, W', L', env1, st1, o, env', st', I', e, k.mono l⟩⟩
  | bk => cases e; exact ⟨F, W, L, env, st, .bk, _, _, I, h1, k⟩
  | ct => cases e; exact ⟨F, W, L, env, st, .ct, _, _, I, h1, k⟩
  | rt r => cases e; exact ⟨F, W, L, env, st, .rt r, _, _, I, h1, k⟩
theorem sb_cons (h : SS X ct sx f) (k : SB X ct rest g) : SB X ct (sx :: rest) (sSeq f g) := ⟨pss_mono (pss_cons h.ps k.pss) fun _ _ _ h => tSm_seq h⟩
/-- own things shared ahead of a statement -/
def sFrz (i : Nat) (f : SemS) : SemS := fun env st => match env[i]? with
  | some (.ow d) => f (env.set i (.sh d)) st
  | _ => f env st
/-! targets -/
def gNm (i : Nat) : SemG := fun d env => some (env.set i (.sh d))
def gL : List SemG → List D → List Slot → Option (List Slot)
  | [], [], env => some env
  | g :: gs, d :: ds, env => (g d env).bind fun env' => gL gs ds env'
  | _, _, _ => none
def gTp (gs : List SemG) : SemG := fun d env => match d with
  | .tup ds => gL gs ds env
  | _ => none
theorem offSet {α : Type} (l : List α) (i : Nat) (x : α) : (l.set i x).length = l.length ∧ ∀ j : Nat, j ∉ [i] → (l.set i x)[j]? = l[j]? :=
  ⟨List.length_set, fun j hj => List.getElem?_set_ne (by rintro rfl; exact hj List.mem_cons_self)⟩
theorem sg_nm (i : Nat) {n : Str} (hN : X.N.Nodup) (hi : X.N[i]? = some n := by rfl) (hx : Loc X.env.scope n := by first | exact .inl rfl | exact .inr rfl) (hf : X.fn n = true ∨ X.env.scope.names.lookup n = some .local := by first | exact .inl rfl | exact .inr rfl) : SG X ct (.Name n pos) [i] (gNm i) := by
  refine ⟨pg_mono (pg_name hN hi hx hf) fun v σ H Q ⟨F, W, L, env, st, d, env', I, r, e, k⟩ => ?_⟩
  cases e
  exact k _ (offSet _ _ _) (offSet _ _ _) (I.setSh i r)
theorem sgs_nil : SGs X ct [] [] (gL []) := by
  refine ⟨pgs_mono pgs_nil fun v σ H Q ⟨F, W, L, env, st, ds, env', I, r, e, k⟩ => ?_⟩
  cases r with
  | nil => cases e; exact ⟨rfl, k σ ⟨rfl, fun _ _ => rfl⟩ ⟨rfl, fun _ _ => rfl⟩ I⟩
  | cons => cases e
theorem offTrans {α : Type} {ts us : List Nat} {l m n : List α} (h : m.length = l.length ∧ ∀ j : Nat, j ∉ ts → m[j]? = l[j]?) (k : n.length = m.length ∧ ∀ j : Nat, j ∉ us → n[j]? = m[j]?) : n.length = l.length ∧ ∀ j : Nat, j ∉ ts ++ us → n[j]? = l[j]? :=
  ⟨k.1.trans h.1, fun j hj => (k.2 j fun z => hj (List.mem_append_right _ z)).trans (h.2 j fun z => hj (List.mem_append_left _ z))⟩
theorem sgs_cons {xs : List Expr} {ts us : List Nat} {g : SemG} {gs : List SemG} (h : SG X ct x ts g) (k : SGs X ct xs us (gL gs)) (hs : (assignEach (x :: xs) X.env).map (·.2) = assign x X.env :: (assignEach xs X.env).map (·.2) := by rfl) : SGs X ct (x :: xs) (ts ++ us) (gL (g :: gs)) := by
  refine ⟨pgs_mono (pgs_cons h.pg k.pgs hs) fun v σ H Q ⟨F, W, L, env, st, ds, env', I, r, e, k⟩ => ?_⟩
  cases r with
  | nil => cases e
  | cons h r =>
    obtain ⟨env1, e1, e⟩ := bind2 e
    refine ⟨_, _, rfl, F, W, L, env, st, _, env1, I, h, e1, fun σ' o1 o2 I1 => ?_⟩
    exact ⟨F, W, L, env1, st, _, env', I1, r, e, fun σ2 o3 o4 I2 => k σ2 (offTrans o1 o3) (offTrans o2 o4) I2⟩
theorem gL_len : ∀ {gs : List SemG} {ds : List D} {e e' : List Slot}, gL gs ds e = some e' → ds.length = gs.length
  | [], [], _, _, _ => rfl
  | [], _ :: _, _, _, h => by cases h
  | _ :: _, [], _, _, h => by cases h
  | g :: gs, d :: ds, e, e', h => by
    obtain ⟨e1, _, h⟩ := bind2 h
    exact congrArg (· + 1) (gL_len h)
theorem sg_tup {xs : List Expr} {n : Nat} {ts : List Nat} {gs : List SemG} (hc : X.calm = true) (h : SGs X ct xs ts (gL gs)) (hn : (assignEach xs X.env).length = gs.length := by rfl) (hst : (assignEach xs X.env).findIdx? (·.1) = none := by rfl) : SG X ct (.Tuple xs n pos) ts (gTp gs) := by
  refine ⟨pg_mono (pg_tup hc h.pgs hn hst) fun v σ H Q ⟨F, W, L, env, st, d, env', I, r, e, k⟩ => ?_⟩
  cases d <;> try (cases e; done)
  cases r with
  | tup h q =>
    refine ⟨_, _, rfl, SqT.of (I.tp _ _ h), by rw [q.length]; exact gL_len e, F, W, L, env, st, _, env', I, q, e, k⟩
/-! assignments -/
def sSet (i : Nat) (e : Sem) : SemS := fun env st => (e env st).bind fun p => match p.1 with
  | .sh d => some (.nx, env.set i (.sh d), p.2)
  | .ow d => some (.nx, env.set i (.ow d), p.2)
  | .bw _ _ => none
theorem tSm_set {K : PySem.W.Frag} {i : Nat} {D : Ends} {σ : St} {H : Hp} (h : tSm K ct (sSet i a) D σ H) : tAsg (tE K ct a) (gName i) D σ H := by
  obtain ⟨F, W, L, env, st, o, env', st', I, e, k⟩ := h
  obtain ⟨⟨r1, st1⟩, h1, e⟩ := bind2 e
  refine ⟨F, W, L, env, st, r1, st1, I, h1, fun v H1 W1 L1 l1 I1 p1 => ?_⟩
  cases r1 with
  | sh d => cases e; exact k _ H1 W1 L1 l1 (I1.setSh i p1)
  | ow d =>
    cases e
    obtain ⟨a, rfl, h1, h2, h3, c⟩ := p1
    exact k _ H1 W1 _ l1 (I1.setOw i h1 h2 h3 c)
  | bw j d => cases e
theorem ss_set (i : Nat) {n : Str} {pos' : Pos} (hN : X.N.Nodup) (he : SE X ct x a) (hi : X.N[i]? = some n := by rfl) (hx : Loc X.env.scope n := by first | exact .inl rfl | exact .inr rfl) (hs : swapsWith x (some (.Name n pos')) pos.line X.env = pure false := by rfl)
    (hf : X.fn n = true ∨ X.env.scope.names.lookup n = some .local := by first | exact .inl rfl | exact .inr rfl) : SS X ct (.Assign [.Name n pos'] x pos) (sSet i a) := ⟨ps_mono (ps_set hN hi hx he.pe hs hf) fun _ _ _ h => tSm_set h⟩
/-- into a tuple of names -/
def sAsg (e : Sem) (g : SemG) : SemS := fun env st => (e env st).bind fun p => match p.1.pin with
  | .sh d => (g d env).map fun env' => (.nx, env', p.2)
  | _ => none
theorem ss_asg {tg : Expr} {ts : List Nat} {g : SemG} (he : SE X ct x a) (hg : SG X ct tg ts g) (hs : swapsWithSole [tg] x pos.line X.env = pure false := by rfl) (hw : swappedStores [tg] x X.env = pure none := by rfl)
    (h1 : (assignEach [tg] X.env).map (·.2) = [assign tg X.env] := by rfl) : SS X ct (.Assign [tg] x pos) (sAsg a g) := by
  refine ⟨ps_mono (ps_asg he.pe hg.pg hs hw h1) fun D σ H ⟨F, W, L, env, st, o, env', st', I, e, k⟩ => ?_⟩
  obtain ⟨⟨r1, st1⟩, h1, e⟩ := bind2 e
  refine ⟨F, W, L, env, st, r1, st1, I, h1, fun v H1 W1 L1 l1 I1 p1 => ?_⟩
  obtain ⟨W1', m1, J1, q1⟩ := I1.pin p1
  obtain ⟨d, env1, hr, e1, rfl, rfl, rfl⟩ : ∃ d env1, r1.pin = .sh d ∧ g d env = some env1 ∧ o = .nx ∧ env' = env1 ∧ st' = st1 := by
    clear p1 q1 J1 I1 k h1
    dsimp only at e
    split at e
    · rename_i d hr
      obtain ⟨env1, e1, e2⟩ := map2 e
      cases e2
      exact ⟨d, _, hr, e1, rfl, rfl, rfl⟩
    · cases e
  rw [hr] at q1
  exact ⟨F, W1', L1, env, _, d, _, J1, q1, e1, fun σ' _ _ I' => k σ' H1 W1' L1 (l1.trans m1) I'⟩
/-- a, b = x, y -/
def sPar (i j : Nat) (as : SemA) : SemS := fun env st => (as env st).bind fun p => match p.1 with
  | [.sh d, .sh e] => some (.nx, (env.set i (.sh d)).set j (.sh e), p.2)
  | _ => none
/-- x op= e -/
def sAug (i : Nat) (f : D → D → Option R) (e : Sem) : SemS := fun env st => match env[i]? with
  | some (.sh d) => (e env st).bind fun p => (f d p.1.d).bind fun r => match r with
    | .sh d' => some (.nx, env.set i (.sh d'), p.2)
    | _ => none
  | _ => none
theorem ss_aug (i : Nat) {n : Str} {op : Operator} {g : Int → Int → Int} {pos' : Pos} (ho : PIp X op (ipI g)) (hN : X.N.Nodup) (he : SE X ct x a) (hi : X.N[i]? = some n := by rfl) (hx : Loc X.env.scope n := by first | exact .inl rfl | exact .inr rfl)
    (hf : X.fn n = true ∨ X.env.scope.names.lookup n = some .local := by first | exact .inl rfl | exact .inr rfl) : SS X ct (.AugAssign (.Name n pos') op x pos) (sAug i (fI fun i j => some (g i j)) a) := by
  refine ⟨ps_mono (ps_aug hN hi hx he.pe ho hf) fun D σ H ⟨F, W, L, env, st, o, env', st', I, e, k⟩ => ?_⟩
  unfold sAug at e
  split at e
  · rename_i d hd
    obtain ⟨v, hv, rv⟩ := I.sl i _ hd
    obtain ⟨⟨r1, st1⟩, h1, e⟩ := bind2 e
    obtain ⟨r2, h2, e⟩ := bind2 e
    refine ⟨v, hv, F, W, L, env, st, r1, st1, I, h1, fun w H1 W1 L1 l1 I1 p1 => ?_⟩
    obtain ⟨W1', m1, J1, q1⟩ := I1.pin p1
    have q1' := J1.look q1
    rw [R.pin_d] at q1'
    unfold fI at h2
    split at h2
    · rename_i n m _ e2 _
      cases h2
      cases e
      have e2 : r1.d = _ := e2
      rw [e2] at q1'
      cases rv
      exact ⟨_, _, rfl, q1'.int, k _ _ _ _ (l1.trans m1) (J1.setSh i (.int _))⟩
    · cases h2
  · cases e
theorem ss_augadd (i : Nat) {n : Str} {pos' : Pos} (hN : X.N.Nodup) (he : SE X ct x a) (hi : X.N[i]? = some n := by rfl) (hx : Loc X.env.scope n := by first | exact .inl rfl | exact .inr rfl)
    (hf : X.fn n = true ∨ X.env.scope.names.lookup n = some .local := by first | exact .inl rfl | exact .inr rfl) : SS X ct (.AugAssign (.Name n pos') .Add x pos) (sAug i (fI fun i j => some (i + j)) a) := ss_aug i (g := fun i j => i + j) ip_add hN he hi hx hf
/-! small statements -/
def sEx (e : Sem) : SemS := fun env st => (e env st).map fun p => (.nx, env, p.2)
theorem ss_ex (he : SE X ct x a) (hs : swapsWith x none pos.line X.env = pure false := by rfl) : SS X ct (.Expr x pos) (sEx a) := by
  refine ⟨ps_mono (ps_expr he.pe hs) fun D σ H ⟨F, W, L, env, st, o, env', st', I, e, k⟩ => ?_⟩
  obtain ⟨⟨r1, st1⟩, h1, e⟩ := map2 e
  cases e
  exact ⟨F, W, L, env, st, r1, _, I, h1, fun v H1 W1 L1 l1 I1 _ => k _ H1 W1 L1 l1 I1⟩
def sRet (e : Sem) : SemS := fun env st => (e env st).map fun p => (.rt p.1, env, p.2)
theorem ss_ret (he : SE X ct x a) : SS X ct (.Return (some x) pos) (sRet a) := by
  refine ⟨ps_mono (ps_ret he.pe) fun D σ H ⟨F, W, L, env, st, o, env', st', I, e, k⟩ => ?_⟩
  obtain ⟨⟨r1, st1⟩, h1, e⟩ := map2 e
  cases e
  exact ⟨F, W, L, env, st, r1, _, I, h1, fun v H1 W1 L1 l1 I1 p => k v _ H1 W1 L1 l1 I1 p⟩
def sRetN : SemS := fun env st => some (.rt (.sh .non), env, st)
/-- what is never come to -/
def sNever : SemS := fun _ _ => none
theorem ss_never : SS X ct sx sNever := ⟨ps_mono ps_never fun D σ H ⟨F, W, L, env, st, o, env', st', I, e, k⟩ => by cases e⟩
def R.tr : R → Option Bool
  | .sh (.bl b) => some b
  | _ => none
theorem R.tr_eq : ∀ {r : R} {b : Bool}, r.tr = some b → r = .sh (.bl b)
  | .sh (.bl _), _, e => by cases e; rfl
  | .sh .non, _, e => nomatch e
  | .sh (.int _), _, e => nomatch e
  | .sh (.str _), _, e => nomatch e
  | .sh (.lst _), _, e => nomatch e
  | .sh (.tup _), _, e => nomatch e
  | .sh (.dic _), _, e => nomatch e
  | .sh (.obj _ _), _, e => nomatch e
  | .sh (.hnd _), _, e => nomatch e
  | .sh (.scr _), _, e => nomatch e
  | .ow _, _, e => nomatch e
  | .bw _ _, _, e => nomatch e
def sIf (c : Sem) (f g : SemS) : SemS := fun env st => (c env st).bind fun p => p.1.tr.bind fun k => if k = true then f env p.2 else g env p.2
theorem ss_if {s1 s2 : List Stmt} (hc : ST X ct x c) (hf : SB X ct s1 f) (hg : SB X ct s2 g) : SS X ct (.If x s1 s2 pos) (sIf c f g) := by
  refine ⟨ps_mono (ps_if hc.pt hf.pss hg.pss) fun D σ H ⟨F, W, L, env, st, o, env', st', I, e, k⟩ => ?_⟩
  obtain ⟨⟨r1, st1⟩, h1, e⟩ := bind2 e
  obtain ⟨b, hb, e⟩ := bind2 e
  have hb := R.tr_eq hb
  rw [show r1 = _ from hb] at h1
  refine ⟨F, W, L, env, st, b, st1, I, h1, fun H1 W1 L1 l1 I1 => ?_⟩
  cases b with
  | true => exact iteT ⟨F, W1, L1, env, st1, o, env', st', I1, e, k.mono l1⟩
  | false => exact iteF ⟨F, W1, L1, env, st1, o, env', st', I1, e, k.mono l1⟩
/-- while, at most n turns -/
def whL (c : Sem) (f : SemS) : Nat → List Slot → Sto → Option (Out × List Slot × Sto)
  | 0, _, _ => none
  | n + 1, env, st => (c env st).bind fun p => p.1.tr.bind fun k => if k = true then (f env p.2).bind fun q => match q with
      | (.nx, env', st') => whL c f n env' st'
      | (.ct, env', st') => whL c f n env' st'
      | (.bk, env', st') => some (.nx, env', st')
      | (.rt r, env', st') => some (.rt r, env', st')
    else some (.nx, env, p.2)
def sWhl (n : Nat) (c : Sem) (f : SemS) : SemS := fun env st => whL c f n env st
theorem ss_whl (n : Nat) {s1 : List Stmt} (hp : PassesOwn (model X.prog X.w) X.A X.env X.xe) (hc : ST X ct x c) (hf : SB X ct s1 f) : SS X ct (.While x s1 [] pos) (sWhl n c f) := by
  refine ⟨ps_mono (ps_while hp hc.pt hf.pss) fun D σ H ⟨F, W, L, env, st, o, env', st', I, e, k⟩ => ?_⟩
  refine ⟨fun m σ H => ∃ W1 L1 env1 st1, W.le W1 ∧ Rel X.K ct F W1 L1 env1 st1 σ H ∧ whL c f m env1 st1 = some (o, env', st'), ⟨n, W, L, env, st, .refl W, I, e⟩, ?_⟩
  rintro m σ H ⟨W1, L1, env1, st1, l1, I1, e1⟩
  cases m with
  | zero => cases e1
  | succ m =>
    obtain ⟨⟨r1, st2⟩, h1, e1⟩ := bind2 e1
    obtain ⟨b, hb, e1⟩ := bind2 e1
    have hb := R.tr_eq hb
    rw [show r1 = _ from hb] at h1
    cases b with
    | false =>
      have e1 : some (Out.nx, env1, st2) = some (o, env', st') := e1
      cases e1
      exact ⟨F, W1, L1, _, st1, false, _, I1, h1, fun H2 W2 L2 l2 I2 => iteF (k _ _ _ _ (l1.trans l2) I2)⟩
    | true =>
      have e1 : ((f env1 st2).bind fun q => match q with
        | (.nx, env', st') => whL c f m env' st'
        | (.ct, env', st') => whL c f m env' st'
        | (.bk, env', st') => some (.nx, env', st')
        | (.rt r, env', st') => some (.rt r, env', st')) = some (o, env', st') := e1
      obtain ⟨⟨o2, env2, st3⟩, h2, e2⟩ := bind2 e1
      refine ⟨F, W1, L1, env1, st1, true, st2, I1, h1, fun H2 W2 L2 l2 I2 => iteT ?_⟩
      refine ⟨fun σ' H' => ∃ W3 L3 env3 st3, W.le W3 ∧ Rel X.K ct F W3 L3 env3 st3 σ' H' ∧ whL c f m env3 st3 = some (o, env', st'), fun σ' H' q => ⟨m, Nat.lt_succ_self m, q⟩, ?_⟩
      refine ⟨F, W2, L2, env1, st2, o2, env2, st3, I2, h2, ?_⟩
      cases o2 with
      | nx => exact fun σ' H' W3 L3 l3 I3 => ⟨W3, L3, env2, st3, l1.trans (l2.trans l3), I3, e2⟩
      | ct => exact fun σ' H' W3 L3 l3 I3 => ⟨W3, L3, env2, st3, l1.trans (l2.trans l3), I3, e2⟩
      | bk => cases e2; exact fun σ' H' W3 L3 l3 I3 => k _ _ _ _ (l1.trans (l2.trans l3)) I3
      | rt r => cases e2; exact fun v σ' H' W3 L3 l3 I3 => k v _ _ _ _ (l1.trans (l2.trans l3)) I3
/-! for -/
def forL (g : SemG) (f : SemS) : List D → List Slot → Sto → Option (Out × List Slot × Sto)
  | [], env, st => some (.nx, env, st)
  | d :: ds, env, st => (g d env).bind fun env1 => (f env1 st).bind fun q => match q with
    | (.nx, env', st') => forL g f ds env' st'
    | (.ct, env', st') => forL g f ds env' st'
    | (.bk, env', st') => some (.nx, env', st')
    | (.rt r, env', st') => some (.rt r, env', st')
def sFor (it : SemI) (g : SemG) (f : SemS) : SemS := fun env st => (it env st).bind fun p => forL g f p.1 env p.2
theorem ss_for {tg : Expr} {ts : List Nat} {g : SemG} {it : SemI} {s1 : List Stmt} (hp : PassesOwn (model X.prog X.w) X.A X.env X.xe) (hc : X.calm = true) (hi : SI X ct tg x it) (hg : SG X ct tg ts g) (hf : SB X ct s1 f) (hs : ∀ z, foldedSetIterable x X.env z = pure z := by intro _; rfl) :
    SS X ct (.For tg x s1 [] pos) (sFor it g f) := by
  refine ⟨ps_mono (ps_for hp hc hi.pi hg.pg hf.pss hs) fun D σ H ⟨F, W, L, env, st, o, env', st', I, e, k⟩ => ?_⟩
  obtain ⟨⟨ds, st1⟩, h1, e⟩ := bind2 e
  refine ⟨F, W, L, env, st, ds, st1, I, h1, fun J H1 W1 L1 l1 I1 wk => ?_⟩
  refine ⟨fun i m σ H => m = ds.length - i ∧ i ≤ ds.length ∧ ∃ W2 L2 env2 st2, W1.le W2 ∧ Rel X.K ct F W2 L2 env2 st2 σ H ∧ forL g f (ds.drop i) env2 st2 = some (o, env', st'), ⟨_, rfl, Nat.zero_le _, W1, L1, env, st1, .refl W1, I1, e⟩, ?_⟩
  rintro i m σ H ⟨rfl, hi, W2, L2, env2, st2, l2, I2, e2⟩
  have wk2 := wk F W2 L2 env2 st2 σ H i l2 I2
  by_cases hlt : i < ds.length
  · rw [List.drop_eq_getElem_cons hlt] at e2
    obtain ⟨env3, h3, e2⟩ := bind2 e2
    obtain ⟨⟨o4, env4, st4⟩, h4, e2⟩ := bind2 e2
    obtain ⟨go, yl⟩ := wk2.1 ds[i] (List.getElem?_eq_getElem hlt)
    refine .inr ⟨go, fun σ' H' => i + 1 ≤ ds.length ∧ ∃ W2 L2 env2 st2, W1.le W2 ∧ Rel X.K ct F W2 L2 env2 st2 σ' H' ∧ forL g f (ds.drop (i + 1)) env2 st2 = some (o, env', st'), fun σ' H' q => ⟨_, by omega, rfl, q⟩, fun v H' y => ?_⟩
    obtain ⟨W3, L3, l3, I3, r3⟩ := yl v H' y
    refine ⟨F, W3, L3, env2, st2, _, env3, I3, r3, h3, fun σ3 _ _ I3' => ?_⟩
    refine ⟨F, W3, L3, env3, st2, o4, env4, st4, I3', h4, ?_⟩
    have ll := l2.trans l3
    cases o4 with
    | nx => exact fun σ' H' W5 L5 l5 I5 => ⟨hlt, W5, L5, env4, st4, ll.trans l5, I5, e2⟩
    | ct => exact fun σ' H' W5 L5 l5 I5 => ⟨hlt, W5, L5, env4, st4, ll.trans l5, I5, e2⟩
    | bk => cases e2; exact fun σ' H' W5 L5 l5 I5 => k _ _ _ _ (l1.trans (ll.trans l5)) I5
    | rt r => cases e2; exact fun v σ' H' W5 L5 l5 I5 => k v _ _ _ _ (l1.trans (ll.trans l5)) I5
  · have ei : i = ds.length := by omega
    rw [ei, List.drop_length] at e2
    cases e2
    exact .inl ⟨wk2.2 (by omega), k _ _ _ _ (l1.trans l2) I2⟩
end
end Kn
namespace Kn
open PySem L2
section
variable {X : Cx} {ct : CT} {pos : Pos} {x y : Expr} {a b c : Sem} {es : List Expr} {as : SemA}
/-! a list of one's own is changed by its methods -/
def MuS (rr : V → List V → Hp → VK → Prop) (f : List D → List D → Option (List D)) : Prop := ∀ K ct W H l vs ds ws xs ds' Q, H l = some (.lst vs) → RepL K ct W vs ds → RepL K ct W ws xs → f xs ds = some ds' →
  (∀ v vs', RepL K ct W vs' ds' → Q v (upd H l (.lst vs'))) → rr (.ref l) ws H Q
def sMut (i : Nat) (f : List D → List D → Option (List D)) (as : SemA) : SemS := fun env st => (as env st).bind fun p => (valsR p.1).bind fun xs => match env[i]? with
  | some (.ow (.lst ds)) => (f xs ds).map fun ds' => (.nx, env.set i (.ow (.lst ds')), p.2)
  | _ => none
theorem tSm_mut {K : PySem.W.Frag} {i : Nat} {rr : V → List V → Hp → VK → Prop} {f : List D → List D → Option (List D)} (ms : MuS rr f) {D : Ends} {σ : St} {H : Hp} (h : tSm K ct (sMut i f as) D σ H) :
    ∃ l vs, σ[i]? = some (some (.ref l)) ∧ H l = some (.lst vs) ∧ tA K ct as σ H fun ws H2 => rr (.ref l) ws H2 fun _ H3 => D.nx σ H3 := by
  obtain ⟨F, W, L, env, st, o, env', st', I, e, k⟩ := h
  obtain ⟨⟨rs, st1⟩, h1, e⟩ := bind2 e
  obtain ⟨xs, h2, e⟩ := bind2 e
  split at e
  · rename_i ds he
    obtain ⟨ds', h3, e3⟩ := map2 e
    cases e3
    obtain ⟨l, s1, s2, c⟩ := I.sl i _ he
    cases c with
    | lst g q =>
      refine ⟨l, _, s1, g, F, W, L, env, st, rs, _, I, h1, fun ws H2 W2 L2 l2 I2 qs => ?_⟩
      obtain ⟨l', t1, t2, c2⟩ := I2.sl i _ he
      rw [s1] at t1; cases t1
      cases c2 with
      | lst g2 q2 =>
        refine ms _ _ _ _ _ _ _ _ _ _ _ g2 q2 (qs.vals h2) h3 fun v vs' q' => ?_
        exact k _ _ _ _ l2 (I2.updOw' s1 t2 (fun xs z => by rw [g2] at z; cases z) (.lst upd_same q'))
  · cases e
theorem ss_mut1 {id : String} {name n : Str} {rr : V → List V → Hp → VK → Prop} {f : List D → List D → Option (List D)} {apos cpos npos : Pos} (i : Nat) (slot : PySem.Slot "list" name id) (hty : typeOf (.builtin id) = pure (.type "method_descriptor")) (hm : MtR X id rr) (ms : MuS rr f) (ha : SA X ct (x :: es) as)
    (hN : X.N[i]? = some n := by rfl) (hv : Vis X.env.scope n := by first | exact Or.inl rfl | exact Or.inr (Or.inl rfl) | exact Or.inr (Or.inr rfl)) (hd : (n == ("__debug__" : Str)) = false := by decide)
    (hcd : (n == ("__classdict__" : Str)) = false := by decide) (hbase : attributeBase (.Name n npos) name X.env (eval (.Name n npos) X.env) = eval (.Name n npos) X.env := by rfl)
    (hfew : ((backTo cpos (starEach (x :: es) X.env)).all (fun x => !x.1) && (backToKw cpos (keywordEach [] X.env)).all (fun x => x.1.isSome)
      && decide ((x :: es).length + ([] : List Keyword).length + (if ([] : List Keyword).isEmpty then 0 else 1) < 30)) = true := by rfl)
    (hline : (apos.endLine == cpos.line) = true := by rfl) (hs : starEach (x :: es) X.env = (false, eval x X.env) :: starEach es X.env := by rfl) (hplain : (backTo cpos (starEach es X.env)).any (·.1) = false := by rfl)
    (hsw : swapsWith (.Call (.Attribute (.Name n npos) name apos) (x :: es) [] cpos) none pos.line X.env = pure false := by rfl) :
    SS X ct (.Expr (.Call (.Attribute (.Name n npos) name apos) (x :: es) [] cpos) pos) (sMut i f as) := by
  refine ⟨ps_mono (ps_expr (pe_bm PySem.F.plainAttrs_list slot hty hm (pe_var hN hv hd hcd) ha.pa hbase hfew hline hs hplain) hsw) fun D σ H h => ?_⟩
  obtain ⟨l, vs, s1, g, t⟩ := tSm_mut ms h
  exact ⟨_, s1, .inl ⟨rfl, _, SqL.of g⟩, t⟩
def fApp (xs ds : List D) : Option (List D) := match xs with
  | [d] => if ds.length < sizeLine then some (ds ++ [d]) else none
  | _ => none
theorem ms_app : MuS rAppend fApp := by
  intro K ct W H l vs ds ws xs ds' Q g q qx e k
  unfold fApp at e
  split at e
  · obtain ⟨c, rfl⟩ := ifs e
    cases qx with
    | cons h r =>
      cases r
      exact ⟨l, vs, _, rfl, rfl, g, by rw [q.length]; exact c, k _ _ (q.append (.cons h .nil))⟩
  · cases e
def fClr (xs _ : List D) : Option (List D) := match xs with
  | [] => some []
  | _ => none
def fPop (xs ds : List D) : Option (List D) := match xs with
  | [] => if ds ≠ [] then some ds.dropLast else none
  | _ => none
theorem RepL.dropLast {K : PySem.W.Frag} {W : Wd} {vs : List V} {ds : List D} (r : RepL K ct W vs ds) : RepL K ct W vs.dropLast ds.dropLast := by
  rw [List.dropLast_eq_take, List.dropLast_eq_take, r.length]
  exact r.take _
def fIns (xs ds : List D) : Option (List D) := match xs with
  | [.int i, d] => if ds.length < sizeLine ∧ 0 ≤ i ∧ i < 2 ^ 63 then some (ds.take i.toNat ++ [d] ++ ds.drop i.toNat) else none
  | _ => none
theorem ms_ins : MuS (fun x vs H Q => ∃ (l : Addr) (xs : List V) (i : Int) (y : V), x = .ref l ∧ vs = [.int i, y] ∧ H l = some (.lst xs) ∧ xs.length < sizeLine ∧ 0 ≤ i ∧ i < 2 ^ 63 ∧ Q .non (upd H l (.lst (xs.take i.toNat ++ [y] ++ xs.drop i.toNat)))) fIns := by
  intro K ct W H l vs ds ws xs ds' Q g q qx e k
  unfold fIns at e
  split at e
  · obtain ⟨c, rfl⟩ := ifs e
    cases qx with
    | cons h r =>
      cases r with
      | cons h2 r =>
        cases r
        cases h
        exact ⟨l, vs, _, _, rfl, rfl, g, by rw [q.length]; exact c.1, c.2.1, c.2.2, k _ _ (((q.take _).append (.cons h2 .nil)).append (q.drop _))⟩
  · cases e
/-! an item of one's own list or dict is stored -/
def putD (kds : List (Key × D)) (k : Key) (d : D) : List (Key × D) := if (valD kds k).isSome = true then kds.map fun kv => if kv.1 = k then (kv.1, d) else kv else kds ++ [(k, d)]
def setItm : D → D → D → Option D
  | .lst ds, .int k, d => (ixN ds.length k).map fun j => .lst (ds.set j d)
  | .dic kds, i, d => i.key.bind fun k => if kds.length < sizeLine then some (.dic (putD kds k d)) else none
  | _, _, _ => none
def sSub (i : Nat) (ix e : Sem) : SemS := fun env st => (e env st).bind fun p => (ix env p.2).bind fun q => match p.1.pin, env[i]? with
  | .sh d, some (.ow c) => (setItm c q.1.d d).map fun c' => (.nx, env.set i (.ow c'), q.2)
  | _, _ => none
theorem put_rep {K : PySem.W.Frag} {W : Wd} {k : Key} {v : V} {d : D} (h : Rep K ct W v d) {kvs : List (Key × V)} {kds : List (Key × D)} (n : kvs.map (·.1) = kds.map (·.1)) (r : RepL K ct W (kvs.map (·.2)) (kds.map (·.2))) :
    (putK kvs k v).map (·.1) = (putD kds k d).map (·.1) ∧ RepL K ct W ((putK kvs k v).map (·.2)) ((putD kds k d).map (·.2)) := by
  have sm : (valV kvs k).isSome = (valD kds k).isSome := by
    rcases valD_rep k n r with ⟨e1, e2⟩ | ⟨v, d, e1, e2, _⟩ <;> rw [e1, e2] <;> rfl
  have mp : ∀ {kvs : List (Key × V)} {kds : List (Key × D)}, kvs.map (·.1) = kds.map (·.1) → RepL K ct W (kvs.map (·.2)) (kds.map (·.2)) →
      (kvs.map fun kv => if kv.1 = k then (kv.1, v) else kv).map (·.1) = (kds.map fun kv => if kv.1 = k then (kv.1, d) else kv).map (·.1) ∧
      RepL K ct W ((kvs.map fun kv => if kv.1 = k then (kv.1, v) else kv).map (·.2)) ((kds.map fun kv => if kv.1 = k then (kv.1, d) else kv).map (·.2)) := by
    intro kvs
    induction kvs with
    | nil =>
      intro kds n r
      cases kds with
      | nil => exact ⟨rfl, .nil⟩
      | cons => cases n
    | cons p kvs ih =>
      intro kds n r
      cases kds with
      | nil => cases n
      | cons q kds =>
        simp only [List.map_cons, List.cons.injEq] at n
        cases r with
        | cons h1 r =>
          obtain ⟨i1, i2⟩ := ih n.2 r
          simp only [List.map_cons]
          by_cases e : p.1 = k
          · have e2 : q.1 = k := n.1.symm.trans e
            rw [if_pos e, if_pos e2]
            exact ⟨by rw [i1]; show p.1 :: _ = q.1 :: _; rw [n.1], .cons h i2⟩
          · have e2 : ¬ q.1 = k := fun z => e (n.1.trans z)
            rw [if_neg e, if_neg e2]
            exact ⟨by rw [i1, n.1], .cons h1 i2⟩
  unfold putK putD
  rw [valV_any, sm]
  split
  · exact mp n r
  · rw [List.map_append, List.map_append, List.map_append, List.map_append, n]
    exact ⟨rfl, r.append (.cons h .nil)⟩
theorem ss_sub (i : Nat) {n : Str} {npos tpos : Pos} {k : Nat} (hr : Room k X.A) (hix : SE X ct y b) (he : SE X ct x a)
    (hN : X.N[i]? = some n := by rfl) (hv : Vis X.env.scope n := by first | exact Or.inl rfl | exact Or.inr (Or.inl rfl) | exact Or.inr (Or.inr rfl)) (hd : (n == ("__debug__" : Str)) = false := by decide) (hcd : (n == ("__classdict__" : Str)) = false := by decide)
    (ha : ∀ v, assign (.Subscript (.Name n npos) y tpos) X.env v = (do
      let ov ← holding [v] (eval (.Name n npos) X.env)
      let iv ← holding [v, ov] (eval y X.env)
      standAt tpos
      holding [v, ov, iv] (setItem ov iv v)
      release [v, ov, iv] []) := by intro _; rfl)
    (hs : swapsWithSole [.Subscript (.Name n npos) y tpos] x pos.line X.env = pure false := by rfl) (hw : swappedStores [.Subscript (.Name n npos) y tpos] x X.env = pure none := by rfl)
    (h1 : (assignEach [.Subscript (.Name n npos) y tpos] X.env).map (·.2) = [assign (.Subscript (.Name n npos) y tpos) X.env] := by rfl)
    (hsd : swapsWith x (some (.Subscript (.Name n npos) y tpos)) pos.line X.env = pure false := by rfl) : SS X ct (.Assign [.Subscript (.Name n npos) y tpos] x pos) (sSub i b a) := by
  have hvr : PE X (.Name n npos) (tVar i) := pe_var hN hv hd hcd
  refine ⟨ps_mono (ps_or (ps_asg he.pe (pg_sub hvr hix.pe set_list ha) hs hw h1) (ps_dput (hu_of hr) hvr hix.pe he.pe hsd)) fun D σ H ⟨F, W, L, env, st, o, env', st', I, e, k⟩ => ?_⟩
  obtain ⟨⟨r1, st1⟩, h1, e⟩ := bind2 e
  obtain ⟨⟨r2, st2⟩, h2, e⟩ := bind2 e
  obtain ⟨d, c, c', hr1, hc, hset, rfl, rfl, rfl⟩ : ∃ d c c', r1.pin = .sh d ∧ env[i]? = some (.ow c) ∧ setItm c r2.d d = some c' ∧ o = .nx ∧ env' = env.set i (.ow c') ∧ st' = st2 := by
    clear k h1 h2
    dsimp only at e
    split at e
    · rename_i d c e1 e2
      obtain ⟨c', e3, e4⟩ := map2 e
      cases e4
      exact ⟨d, c, c', e1, e2, e3, rfl, rfl, rfl⟩
    · cases e
  obtain ⟨l, s1, s2, cl⟩ := I.sl i _ hc
  have go : ∀ {H2 : Hp} {W2 : Wd} {L2 : Addr → Option Lab} {HH : HO}, W.le W2 → Rel X.K ct F W2 L2 env st' σ H2 → Cell X.K ct W2 (upd H2 l HH) l c' → L2 l = some (.slot i) → (∀ xs, H2 l ≠ some (.tup xs)) → D.nx σ (upd H2 l HH) := fun l2 I2 c2 hl hn => k _ _ _ _ l2 (I2.updOw' s1 hl hn c2)
  cases cl with
  | lst g q =>
    rename_i vs ds
    refine .inl ⟨F, W, L, env, st, r1, st1, I, h1, fun v H1 W1 L1 l1 I1 p1 => ⟨_, s1, ?_⟩⟩
    obtain ⟨W1', m1, J1, q1⟩ := I1.pin p1
    rw [hr1] at q1
    refine ⟨F, W1', L1, env, st1, r2, _, J1, h2, fun w H2 W2 L2 l2 I2 p2 => ?_⟩
    obtain ⟨W2', m2, J2, q2⟩ := I2.pin p2
    have q2' := J2.look q2
    rw [R.pin_d] at q2'
    have hset : setItm (.lst ds) r2.d d = some c' := hset
    cases hr2 : r2.d <;> rw [hr2] at hset q2' <;> try (cases hset; done)
    obtain ⟨j, e1, rfl⟩ := map2 hset
    obtain ⟨l', t1, t2, c2⟩ := J2.sl i _ hc
    rw [s1] at t1; cases t1
    cases c2 with
    | lst g2 q3 =>
      refine ⟨l, _, _, j, rfl, q2'.int, g2, by rw [q3.length]; exact e1, ?_⟩
      exact go (l1.trans (m1.trans (l2.trans m2))) J2 (.lst upd_same (q3.set j (q1.mono (l2.trans m2)))) t2 (fun xs z => by rw [g2] at z; cases z)
  | dic g n q =>
    rename_i kvs kds
    refine .inr ⟨F, W, L, env, st, r1, st1, I, h1, fun v H1 W1 L1 l1 I1 p1 => ⟨_, s1, ?_⟩⟩
    obtain ⟨W1', m1, J1, q1⟩ := I1.pin p1
    rw [hr1] at q1
    refine ⟨F, W1', L1, env, st1, r2, _, J1, h2, fun w H2 W2 L2 l2 I2 p2 => ?_⟩
    obtain ⟨W2', m2, J2, q2⟩ := I2.pin p2
    have q2' := J2.look q2
    rw [R.pin_d] at q2'
    have hset : setItm (.dic kds) r2.d d = some c' := hset
    obtain ⟨ky, ek, hset⟩ := bind2 hset
    obtain ⟨cz, rfl⟩ := ifs hset
    obtain ⟨l', t1, t2, c2⟩ := J2.sl i _ hc
    rw [s1] at t1; cases t1
    cases c2 with
    | dic g2 n2 q3 =>
      rename_i kvs2
      have hlen : kvs2.length = kds.length := by
        have := congrArg List.length n2
        rw [List.length_map, List.length_map] at this
        exact this
      refine ⟨l, _, rfl, by rw [Kn.D.key_v q2' ek]; exact DPut.k g2 (by rw [hlen]; exact cz), ?_⟩
      obtain ⟨z1, z2⟩ := put_rep (k := ky) (q1.mono (l2.trans m2)) n2 q3
      exact go (l1.trans (m1.trans (l2.trans m2))) J2 (.dic upd_same z1 z2) t2 (fun xs z => by rw [g2] at z; cases z)
  | obj => cases hset
/-- {} -/
def eDnew : Sem := fun _ st => some (.ow (.dic []), st)
/-! what is walked -/
variable {tg : Expr}
theorem wk_list {K : PySem.W.Frag} {W0 : Wd} {l : Addr} {vs : List V} {ds : List D} (h : SqL K W0.hs l vs) (r : RepL K ct W0 vs ds) : Wk K ct (Itl K l) W0 ds := by
  intro F W L env st σ H i le I
  have hs : SqL K H l vs := sq_mono (fun a o e => (I.hs a o (le.1 a o e)).1) h
  refine ⟨fun d hd => ?_, fun hi => ⟨vs, hs, by rw [r.length]; exact hi⟩⟩
  obtain ⟨v, hv, hr⟩ := r.get hd
  exact ⟨⟨vs, v, hs, hv⟩, fun x H' ⟨e, y⟩ => by
    subst e
    have e2 := y vs hs
    rw [hv] at e2; cases e2
    exact ⟨W, L, .refl W, I, hr.mono le⟩⟩
theorem wk_tup {K : PySem.W.Frag} {W0 : Wd} {l : Addr} {vs : List V} {ds : List D} (h : W0.tp l = some vs) (r : RepL K ct W0 vs ds) : Wk K ct (Itt K l) W0 ds := by
  intro F W L env st σ H i le I
  have hs : SqT K H l vs := SqT.of (I.tp _ _ (le.2 _ _ h))
  refine ⟨fun d hd => ?_, fun hi => ⟨vs, hs, by rw [r.length]; exact hi⟩⟩
  obtain ⟨v, hv, hr⟩ := r.get hd
  exact ⟨⟨vs, v, hs, hv⟩, fun x H' ⟨e, y⟩ => by
    subst e
    have e2 := y vs hs
    rw [hv] at e2; cases e2
    exact ⟨W, L, .refl W, I, hr.mono le⟩⟩
def D.seq : D → Option (List D)
  | .lst ds => some ds
  | .scr ns => some (ns.map D.int)
  | .tup ds => some ds
  | _ => none
def R.sh? : R → Option D
  | .sh d => some d
  | .ow d => some d
  | .bw _ _ => none
theorem R.sh_pin : ∀ {r : R} {d : D}, r.sh? = some d → r.pin = .sh d
  | .sh _, _, e => by cases e; rfl
  | .ow _, _, e => by cases e; rfl
  | .bw _ _, _, e => by cases e
def iSeq (a : Sem) : SemI := fun env st => (a env st).bind fun p => p.1.sh?.bind fun d => d.seq.map fun ds => (ds, p.2)
theorem si_seq (ha : SE X ct x a) : SI X ct tg x (iSeq a) := by
  refine ⟨pi_mono (pi_or (pi_list ha.pe) (pi_tup ha.pe)) fun σ H RR ⟨F, W, L, env, st, ds, st', I, e, k⟩ => ?_⟩
  obtain ⟨⟨r1, st1⟩, h1, e⟩ := bind2 e
  obtain ⟨d, h2, e⟩ := bind2 e
  obtain ⟨ds', h3, e⟩ := map2 e
  cases e
  have hp := R.sh_pin h2
  have out : (∀ v H1 W1 L1, W.le W1 → Rel X.K ct F W1 L1 env st1 σ H1 → Rep X.K ct W1 v d → ∃ a, v = .ref a ∧ (∃ vs, SqL X.K W1.hs a vs ∧ RepL X.K ct W1 vs ds)) ∨
      (∀ v H1 W1 L1, W.le W1 → Rel X.K ct F W1 L1 env st1 σ H1 → Rep X.K ct W1 v d → ∃ a, v = .ref a ∧ (∃ vs, W1.tp a = some vs ∧ RepL X.K ct W1 vs ds)) := by
    cases d <;> simp only [D.seq, Option.some.injEq, reduceCtorEq] at h3
    · subst h3
      refine .inl fun v H1 W1 L1 _ _ r => ?_
      cases r with
      | lst h q => exact ⟨_, rfl, _, SqL.of h, q⟩
    · subst h3
      refine .inr fun v H1 W1 L1 _ _ r => ?_
      cases r with
      | tup h q => exact ⟨_, rfl, _, h, q⟩
    · subst h3
      refine .inl fun v H1 W1 L1 _ _ r => ?_
      cases r with
      | scr h => exact ⟨_, rfl, _, h, RepL.of_ints _⟩
  rcases out with out | out
  · refine .inl ⟨F, W, L, env, st, r1, st1, I, h1, fun v H1 W1 L1 l1 I1 p1 => ?_⟩
    obtain ⟨W1', m1, J1, q1⟩ := I1.pin p1
    rw [hp] at q1
    obtain ⟨l, rfl, vs, g, q⟩ := out v H1 W1' L1 (l1.trans m1) J1 q1
    exact ⟨l, rfl, ⟨vs, sq_mono (fun a o e => (J1.hs a o e).1) g⟩, k _ H1 W1' L1 (l1.trans m1) J1 (wk_list g q)⟩
  · refine .inr ⟨F, W, L, env, st, r1, st1, I, h1, fun v H1 W1 L1 l1 I1 p1 => ?_⟩
    obtain ⟨W1', m1, J1, q1⟩ := I1.pin p1
    rw [hp] at q1
    obtain ⟨l, rfl, vs, g, q⟩ := out v H1 W1' L1 (l1.trans m1) J1 q1
    exact ⟨l, rfl, ⟨vs, SqT.of (J1.tp _ _ g)⟩, k _ H1 W1' L1 (l1.trans m1) J1 (wk_tup g q)⟩
/-- lo, lo + 1, .. -/
def rngD (lo : Int) (n : Nat) : List D := (List.range n).map fun (k : Nat) => D.int (lo + k)
theorem wk_rng {K : PySem.W.Frag} {W0 : Wd} (lo : Int) (n : Nat) : Wk K ct (Itr lo n) W0 (rngD lo n) := by
  intro F W L env st σ H i le I
  have hl : (rngD lo n).length = n := by unfold rngD; rw [List.length_map, List.length_range]
  refine ⟨fun d hd => ?_, fun hi => by rw [hl] at hi; exact hi⟩
  have hi : i < n := by
    have := (List.getElem?_eq_some_iff.mp hd).1
    rw [hl] at this; exact this
  have e : d = .int (lo + i) := by
    unfold rngD at hd
    rw [List.getElem?_map, List.getElem?_range hi] at hd
    exact (Option.some.inj hd).symm
  subst e
  exact ⟨hi, fun x H' ⟨e1, e2⟩ => by subst e1; subst e2; exact ⟨W, L, .refl W, I, .int _⟩⟩
/-- within the bounds of a range -/
structure Rg (j : Int) : Prop where
  lo : -(2 ^ 62) ≤ j
  hi : j < 2 ^ 62
noncomputable instance (j : Int) : Decidable (Rg j) := Classical.propDecidable _
theorem Rg.of {j : Int} (h : -1000000 ≤ j ∧ j ≤ 1000000) : Rg j := ⟨by omega, by omega⟩
noncomputable def iRng1' (a : Sem) : SemI := fun env st => (a env st).bind fun p => match p.1.d with
  | .int j => if Rg j then some (rngD 0 j.toNat, p.2) else none
  | _ => none
theorem si_rng1 {p : Pos} (hg : Gl X "range") (hm : X.mg "range" = none) (ha : SE X ct x a) (he : starEach [x] X.env = (false, eval x X.env) :: starEach [] X.env := by rfl) (hs : starEach [x] X.env = [(false, eval x X.env)] := by rfl) : SI X ct tg (.Call (.Name "range" p) [x] [] pos) (iRng1' a) := by
  refine ⟨pi_mono (pi_range1 hg hm (pa_cons ha.pe pa_nil he) hs) fun σ H RR ⟨F, W, L, env, st, ds, st', I, e, k⟩ => ?_⟩
  obtain ⟨⟨r1, st1⟩, h1, e⟩ := bind2 e
  refine ⟨F, W, L, env, st, r1, st1, I, h1, fun v H1 W1 L1 l1 I1 p1 => ?_⟩
  obtain ⟨W1', m1, J1, q1⟩ := I1.pin p1
  have q1' := J1.look q1
  rw [R.pin_d] at q1'
  cases hr : r1.d <;> rw [show ((r1, st1) : R × Sto).1.d = _ from hr] at e <;> try (cases e; done)
  obtain ⟨c, e⟩ := ifs e
  cases e
  rw [hr] at q1'
  exact ⟨_, by rw [q1'.int], c.1, c.2, k _ _ _ _ (l1.trans m1) J1 (wk_rng 0 _)⟩
noncomputable def iRng2' (a b : Sem) : SemI := fun env st => (a env st).bind fun p => (b env p.2).bind fun q => match p.1.d, q.1.d with
  | .int i, .int j => if Rg i ∧ Rg j then some (rngD i (j - i).toNat, q.2) else none
  | _, _ => none
def enumF : Nat → List D → List D
  | _, [] => []
  | k, d :: ds => .tup [.int k, d] :: enumF (k + 1) ds
theorem enumF_len : ∀ (k : Nat) (ds : List D), (enumF k ds).length = ds.length
  | _, [] => rfl
  | k, d :: ds => congrArg (· + 1) (enumF_len (k + 1) ds)
theorem enumF_get : ∀ (k : Nat) (ds : List D) (i : Nat) (d : D), (enumF k ds)[i]? = some d → ∃ e, ds[i]? = some e ∧ d = .tup [.int ((k + i : Nat) : Int), e]
  | _, [], i, d, h => by simp [enumF] at h
  | k, e :: ds, 0, d, h => ⟨e, rfl, by simp [enumF] at h; exact h.symm⟩
  | k, e :: ds, i + 1, d, h => by
    obtain ⟨e', h1, h2⟩ := enumF_get (k + 1) ds i d (by simpa [enumF] using h)
    exact ⟨e', by simpa using h1, by rw [h2]; congr 4; omega⟩
theorem tup_new {K : PySem.W.Frag} {F H : Hp} {W : Wd} {L : Addr → Option Lab} {env : List Slot} {st : Sto} {σ : St} {ds : List D} {vs : List V} {p : Addr} (I : Rel K ct F W L env st σ H) (hp : H p = none) (r : RepL K ct W vs ds) :
    ∃ W' L', W.le W' ∧ Rel K ct F W' L' env st σ (upd H p (.tup vs)) ∧ Rep K ct W' (.ref p) (.tup ds) := by
  obtain ⟨I', _⟩ := I.laid (o := .tup vs) hp
  obtain ⟨le, J, e⟩ := I'.shareT (p := p) upd_same
  exact ⟨_, _, le, J, Rep.tup e (r.mono le)⟩
theorem wk_enum {K : PySem.W.Frag} {W0 : Wd} {l : Addr} {vs : List V} {ds : List D} (h : SqL K W0.hs l vs) (r : RepL K ct W0 vs ds) : Wk K ct (Ite K l) W0 (enumF 0 ds) := by
  intro F W L env st σ H i le I
  have hs : SqL K H l vs := sq_mono (fun a o e => (I.hs a o (le.1 a o e)).1) h
  refine ⟨fun d hd => ?_, fun hi => ⟨vs, hs, by rw [r.length]; rw [enumF_len] at hi; exact hi⟩⟩
  obtain ⟨e, he, rfl⟩ := enumF_get 0 ds i d hd
  obtain ⟨v, hv, hr⟩ := r.get he
  refine ⟨⟨vs, v, hs, hv⟩, fun x H' ⟨T, w, e1, e2, e3, e4⟩ => ?_⟩
  subst e1 e3
  have e5 := e4 vs hs
  rw [hv] at e5; cases e5
  rw [Nat.zero_add]
  exact tup_new I e2 (.cons (.int _) (.cons (hr.mono le) .nil))
def iEnum' (a : Sem) : SemI := fun env st => (a env st).bind fun p => p.1.sh?.bind fun d => d.seqL.map fun ds => (enumF 0 ds, p.2)
theorem rep_seqL {K : PySem.W.Frag} {W : Wd} {v : V} {d : D} {ds : List D} (h : Rep K ct W v d) (e : d.seqL = some ds) : ∃ a vs, v = .ref a ∧ SqL K W.hs a vs ∧ RepL K ct W vs ds := by
  cases d <;> simp only [D.seqL, Option.some.injEq, reduceCtorEq] at e
  · subst e
    cases h with
    | lst h q => exact ⟨_, _, rfl, SqL.of h, q⟩
  · subst e
    cases h with
    | scr h => exact ⟨_, _, rfl, h, RepL.of_ints _⟩
theorem si_enum {p tpos : Pos} {elts : List Expr} {kk : Nat} (hg : Gl X "enumerate") (hm : X.mg "enumerate" = none) (ha : SE X ct x a) (he : starEach [x] X.env = (false, eval x X.env) :: starEach [] X.env := by rfl) (hs : starEach [x] X.env = [(false, eval x X.env)] := by rfl) :
    SI X ct (.Tuple elts kk tpos) (.Call (.Name "enumerate" p) [x] [] pos) (iEnum' a) := by
  refine ⟨pi_mono (pi_enum hg hm (pa_cons ha.pe pa_nil he) hs) fun σ H RR ⟨F, W, L, env, st, ds, st', I, e, k⟩ => ?_⟩
  obtain ⟨⟨r1, st1⟩, h1, e⟩ := bind2 e
  obtain ⟨d, h2, e⟩ := bind2 e
  obtain ⟨ds', h3, e⟩ := map2 e
  cases e
  refine ⟨F, W, L, env, st, r1, st1, I, h1, fun v H1 W1 L1 l1 I1 p1 => ?_⟩
  obtain ⟨W1', m1, J1, q1⟩ := I1.pin p1
  rw [R.sh_pin h2] at q1
  obtain ⟨l, vs, rfl, g, q⟩ := rep_seqL q1 h3
  exact ⟨l, vs, rfl, sq_mono (fun a o e => (J1.hs a o e).1) g, k _ _ _ _ (l1.trans m1) J1 (wk_enum g q)⟩
def zipD : List D → List D → List D
  | d :: ds, e :: es => .tup [d, e] :: zipD ds es
  | _, _ => []
def iZip' (a b : Sem) : SemI := fun env st => (a env st).bind fun p => p.1.sh?.bind fun d => d.seqL.bind fun ds => (b env p.2).bind fun q => q.1.sh?.bind fun e => e.seqL.map fun es => (zipD ds es, q.2)
end
end Kn
namespace Kn
open PySem L2
section
variable {X : Cx} {ct : CT} {pos : Pos} {x y : Expr} {a b c : Sem} {es : List Expr} {as : SemA}
/-! list comprehensions -/
def wipeE (env : List Slot) : List Nat → List Slot
  | [] => env
  | v :: vs => (wipeE env vs).set v .no
theorem wipeE_len (env : List Slot) : ∀ vs, (wipeE env vs).length = env.length
  | [] => rfl
  | v :: vs => by rw [wipeE, List.length_set, wipeE_len env vs]
theorem wipeE_out {env : List Slot} {i : Nat} : ∀ {vs : List Nat}, i ∉ vs → (wipeE env vs)[i]? = env[i]?
  | [], _ => rfl
  | v :: vs, h => by
    rw [wipeE, List.getElem?_set_ne fun e => h (by rw [e]; exact List.mem_cons_self)]
    exact wipeE_out fun m => h (List.mem_cons_of_mem _ m)
theorem wipeE_in {env : List Slot} {i : Nat} {s : Slot} : ∀ {vs : List Nat}, i ∈ vs → (wipeE env vs)[i]? = some s → s = .no
  | v :: vs, h, e => by
    rw [wipeE] at e
    rcases getset e with ⟨_, e, _⟩ | ⟨hj, e⟩
    · exact e
    · rcases List.mem_cons.mp h with h | h
      · exact absurd h hj
      · exact wipeE_in h e
theorem wipe_in {σ : St} {i : Nat} : ∀ {vs : List Nat}, i ∈ vs → i < σ.length → (wipe σ vs)[i]? = some none
  | v :: vs, h, hi => by
    unfold wipe
    by_cases e : v = i
    · subst e
      rw [List.getElem?_set_self (by rw [wipe_length]; exact hi)]
    · rw [List.getElem?_set_ne e]
      rcases List.mem_cons.mp h with h | h
      · exact absurd h.symm e
      · exact wipe_in h hi
theorem wipe_again {σ σ' : St} {vs : List Nat} (hl : σ'.length = σ.length) (h : ∀ j : Nat, j ∉ vs → σ'[j]? = (wipe σ vs)[j]?) : wipe σ' vs = wipe σ vs := by
  refine List.ext_getElem? fun j => ?_
  by_cases hj : j ∈ vs
  · by_cases hi : j < σ.length
    · rw [wipe_in hj hi, wipe_in hj (by rw [hl]; exact hi)]
    · rw [List.getElem?_eq_none (by rw [wipe_length]; omega), List.getElem?_eq_none (by rw [wipe_length]; omega)]
  · rw [wipe_out hj, h j hj]
theorem Rel.wiped {K : PySem.W.Frag} {F H : Hp} {W : Wd} {L : Addr → Option Lab} {env : List Slot} {st : Sto} {σ : St} (I : Rel K ct F W L env st σ H) (vs : List Nat) : Rel K ct F W L (wipeE env vs) st (wipe σ vs) H := by
  refine ⟨I.fr, I.hs, I.tp, I.ob, I.rh, by rw [wipe_length, wipeE_len]; exact I.len, fun j s e => ?_⟩
  by_cases hj : j ∈ vs
  · rw [wipeE_in hj e]; trivial
  · rw [wipeE_out hj] at e
    exact (I.sl j s e).at' (wipe_out hj)
def Slot.okW : Slot → Bool
  | .no => true
  | .sh _ => true
  | _ => false
/-- back out of the block -/
theorem Rel.back {K : PySem.W.Frag} {F H1 H : Hp} {W W1 : Wd} {L L1 : Addr → Option Lab} {env env1 : List Slot} {st st1 : Sto} {σ σ1 : St} {F0 : Hp} {vs : List Nat} (I0 : Rel K ct F0 W L env st σ H) (le : W.le W1) (I1 : Rel K ct F W1 L1 env1 st1 σ1 H1)
    (hs : ∀ j : Nat, j ∉ vs → σ1[j]? = σ[j]?) (he : ∀ j : Nat, j ∉ vs → env1[j]? = env[j]?) (hv : ∀ j : Nat, j ∈ vs → ∀ s, env[j]? = some s → s.okW = true) : Rel K ct F W1 L1 env st1 σ H1 := by
  refine ⟨I1.fr, I1.hs, I1.tp, I1.ob, I1.rh, I0.len, fun j s e => ?_⟩
  by_cases hj : j ∈ vs
  · have h0 := I0.sl j s e
    have ok := hv j hj s e
    cases s with
    | no => trivial
    | sh d =>
      obtain ⟨v, h1, h2⟩ := h0
      exact ⟨v, h1, h2.mono le⟩
    | ow d => cases ok
    | o2 d => cases ok
    | me a d => cases ok
    | exc a => cases ok
  · rw [← he j hj] at e
    exact (I1.sl j s e).at' (hs j hj).symm
def lcL (g : SemG) (c a : Sem) (vs : List Nat) (env : List Slot) : List D → Sto → Option (List D × Sto)
  | [], st => some ([], st)
  | d :: ds, st => (g d (wipeE env vs)).bind fun env1 => (c env1 st).bind fun p => p.1.tr.bind fun k => if k = true then (a env1 p.2).bind fun q => q.1.sh?.bind fun e => (lcL g c a vs env ds q.2).map fun r => (e :: r.1, r.2)
    else lcL g c a vs env ds p.2
def eLc (it : SemI) (vs : List Nat) (g : SemG) (c a : Sem) : Sem := fun env st => (it env st).bind fun p => if vs.all (fun j => (env[j]?.map Slot.okW).getD true) = true then (lcL g c a vs env p.1 p.2).bind fun q => if q.1.length ≤ sizeLine then some (.ow (.lst q.1), q.2) else none else none
/-- the tests of a clause -/
structure STs (X : Cx) (ct : CT) (x : List Expr) (e : Sem) : Prop where
  pts : PTs X x (tT X.K ct e)
def eYes : Sem := fun _ st => some (.sh (.bl true), st)
theorem pts_mono {x : List Expr} {t t' : TT} (h : PTs X x t) (k : ∀ σ H Q, t' σ H Q → t σ H Q) : PTs X x t' := ⟨fun pins s σ H Q I q => h.run pins s σ H Q I (k σ H Q q)⟩
theorem sts_nil : STs X ct [] eYes := ⟨pts_mono pts_nil fun σ H Q ⟨F, W, L, env, st, r, st', I, e, k⟩ => by cases e; exact k H W L (.refl W) I⟩
theorem sts_one (h : ST X ct x a) : STs X ct [x] a := ⟨pts_one h.pt⟩
theorem frame_add {K : PySem.W.Frag} {F H : Hp} {W : Wd} {L : Addr → Option Lab} {env : List Slot} {st : Sto} {σ : St} {p : Addr} {o : HO} (I : Rel K ct F W L env st σ H) (h : H p = some o) (hl : L p = none) (hw : W.hs p = none) : Rel K ct (upd F p o) W L env st σ H := by
  refine ⟨fun b u e => ?_, I.hs, I.tp, I.ob, I.rh, I.len, I.sl⟩
  by_cases hb : b = p
  · subst hb; rw [upd_same] at e; cases e; exact ⟨h, hl, hw⟩
  · rw [upd_ne hb] at e; exact I.fr b u e
theorem frame_sub {K : PySem.W.Frag} {F H : Hp} {W : Wd} {L : Addr → Option Lab} {env : List Slot} {st : Sto} {σ : St} {p : Addr} {o : HO} (I : Rel K ct (upd F p o) W L env st σ H) (hf : F p = none) : Rel K ct F W L env st σ H := by
  refine ⟨fun b u e => ?_, I.hs, I.tp, I.ob, I.rh, I.len, I.sl⟩
  have nb : b ≠ p := by rintro rfl; rw [hf] at e; cases e
  exact I.fr b u (by rw [upd_ne nb]; exact e)
/-- the frame's own list is changed -/
theorem frame_upd {K : PySem.W.Frag} {F H : Hp} {W : Wd} {L : Addr → Option Lab} {env : List Slot} {st : Sto} {σ : St} {p : Addr} {o o' : HO} (hn : ∀ xs, o ≠ .tup xs) (I : Rel K ct (upd F p o) W L env st σ H) : Rel K ct (upd F p o') W L env st σ (upd H p o') := by
  obtain ⟨h1, h2, h3⟩ := I.fr p o upd_same
  refine ⟨fun b u e => ?_, fun b u e => ?_, fun b vs e => ?_, fun g κ d e => ?_, I.rh, I.len, fun i s e => (I.sl i s e).mono (.refl W) fun b u hl hu => ⟨?_, hl⟩⟩
  · by_cases hb : b = p
    · subst hb; rw [upd_same] at e; cases e; exact ⟨upd_same, h2, h3⟩
    · rw [upd_ne hb] at e
      rw [upd_ne hb]
      exact I.fr b u (by rw [upd_ne hb]; exact e)
  · have nb : b ≠ p := by rintro rfl; rw [h3] at e; cases e
    rw [upd_ne nb]
    exact I.hs b u e
  · have g := I.tp b vs e
    rw [upd_ne (by rintro rfl; rw [h1] at g; cases g; exact hn _ rfl)]
    exact g
  · obtain ⟨v, e1, e2⟩ := I.ob g κ d e
    refine ⟨v, e1, ?_⟩
    have q : (fun b => if L b = some (.ob g) then (upd H p o') b else none) = fun b => if L b = some (.ob g) then H b else none := by
      funext b
      by_cases hb : b = p
      · subst hb; simp [h2]
      · rw [upd_ne hb]
    rw [q]; exact e2
  · have nb : b ≠ p := by rintro rfl; rw [h2] at hl; cases hl
    rw [upd_ne nb]; exact hu
theorem tE_lc {K : PySem.W.Frag} {it : SemI} {vs ts : List Nat} {g : SemG} (hts : ∀ j ∈ ts, j ∈ vs) {σ : St} {H : Hp} {Q : VK} (h : tE K ct (eLc it vs g c a) σ H Q) : tLc (tI K ct it) (tG K ct ts g) (tT K ct c) (tE K ct a) vs σ H Q := by
  obtain ⟨F, W, L, env, st, r, st', I, e, k⟩ := h
  obtain ⟨⟨ds, st1⟩, h1, e⟩ := bind2 e
  have okv : vs.all (fun j => (env[j]?.map Slot.okW).getD true) = true ∧ ((lcL g c a vs env ds st1).bind fun q => if q.1.length ≤ sizeLine then some (R.ow (.lst q.1), q.2) else none) = some (r, st') := by
    dsimp only at e
    split at e
    · exact ⟨by assumption, e⟩
    · cases e
  obtain ⟨okv, e⟩ := okv
  obtain ⟨⟨out, st2⟩, h2, e⟩ := bind2 e
  obtain ⟨hz, e⟩ := ifs e
  cases e
  have hz : out.length ≤ sizeLine := hz
  have ok : ∀ j : Nat, j ∈ vs → ∀ s, env[j]? = some s → s.okW = true := fun j hj s e => by
    have := List.all_eq_true.mp okv j hj
    rw [e] at this
    exact this
  refine ⟨F, W, L, env, st, ds, st1, I, h1, fun J H1 W1 L1 l1 I1 wk p hp => ?_⟩
  -- the new list at p
  obtain ⟨I2, n1, n2, n3⟩ := I1.laid (o := HO.lst []) hp
  have I3 := frame_add I2 (p := p) (o := HO.lst []) upd_same n1 n2
  refine ⟨fun i m H => m = ds.length - i ∧ i ≤ ds.length ∧ ∃ W2 L2 st5 acc accd rest, W1.le W2 ∧ Rel K ct (upd F p (.lst acc)) W2 L2 env st5 σ H ∧ RepL K ct W2 acc accd ∧ lcL g c a vs env (ds.drop i) st5 = some (rest, st2) ∧ accd ++ rest = out,
    ⟨_, rfl, Nat.zero_le _, W1, _, st1, [], [], out, .refl W1, I3, .nil, h2, rfl⟩, ?_⟩
  rintro i m H ⟨rfl, hi, W2, L2, st3, acc, accd, rest, l2, I4, ra, e2, eo⟩
  have wk2 := wk _ W2 L2 env st3 σ H i l2 I4
  have wk3 := wk _ W2 L2 (wipeE env vs) st3 (wipe σ vs) H i l2 (I4.wiped vs)
  by_cases hlt : i < ds.length
  · rw [List.drop_eq_getElem_cons hlt] at e2
    obtain ⟨env3, h3, e2⟩ := bind2 e2
    obtain ⟨⟨r4, st4⟩, h4, e2⟩ := bind2 e2
    obtain ⟨kb, hkb, e2⟩ := bind2 e2
    have hkb := R.tr_eq hkb
    rw [show r4 = _ from hkb] at h4
    obtain ⟨go, yl⟩ := wk3.1 ds[i] (List.getElem?_eq_getElem hlt)
    refine .inr ⟨go, fun H' => i + 1 ≤ ds.length ∧ ∃ W2 L2 st5 acc accd rest, W1.le W2 ∧ Rel K ct (upd F p (.lst acc)) W2 L2 env st5 σ H' ∧ RepL K ct W2 acc accd ∧ lcL g c a vs env (ds.drop (i + 1)) st5 = some (rest, st2) ∧ accd ++ rest = out, fun H' q => ⟨_, by omega, rfl, q⟩, fun v H' y => ?_⟩
    obtain ⟨W3, L3, l3, I5, r5⟩ := yl v H' y
    refine ⟨_, W3, L3, wipeE env vs, st3, _, env3, I5, r5, h3, fun σ3 o1 o2 I6 => ?_⟩
    have hs : ∀ j : Nat, j ∉ vs → σ3[j]? = (wipe σ vs)[j]? := fun j hj => o1.2 j fun z => hj (hts j z)
    have hs' : ∀ j : Nat, j ∉ vs → σ3[j]? = σ[j]? := fun j hj => (hs j hj).trans (wipe_out hj)
    have he : ∀ j : Nat, j ∉ vs → env3[j]? = env[j]? := fun j hj => (o2.2 j fun z => hj (hts j z)).trans (wipeE_out hj)
    refine ⟨wipe_again (by rw [o1.1, wipe_length]) hs, ?_⟩
    refine ⟨_, W3, L3, env3, st3, kb, st4, I6, h4, fun H6 W6 L6 l6 I7 => ?_⟩
    have ll := l2.trans (l3.trans l6)
    cases kb with
    | true =>
      refine iteT ?_
      have e2 : ((a env3 st4).bind fun q => q.1.sh?.bind fun e => (lcL g c a vs env (ds.drop (i + 1)) q.2).map fun r => (e :: r.1, r.2)) = some (rest, st2) := e2
      obtain ⟨⟨r7, st7⟩, h7, e2⟩ := bind2 e2
      obtain ⟨d7, h8, e2⟩ := bind2 e2
      obtain ⟨⟨rest', st8⟩, h9, e2⟩ := map2 e2
      cases e2
      refine ⟨_, W6, L6, env3, st4, r7, st7, I7, h7, fun v7 H7 W7 L7 l7 I8 p8 => ?_⟩
      obtain ⟨W8, m8, J8, q8⟩ := I8.pin p8
      rw [R.sh_pin h8] at q8
      have le := l3.trans (l6.trans (l7.trans m8))
      have hacc : H7 p = some (.lst acc) := (J8.fr p _ upd_same).1
      have I9 := Rel.back (vs := vs) I4 le J8 hs' he ok
      refine ⟨acc, hacc, ?_, hlt, W8, L7, st7, acc ++ [v7], accd ++ [d7], rest', l2.trans le, frame_upd (o := HO.lst acc) (fun xs z => nomatch z) I9, (ra.mono le).append (.cons q8 .nil), h9, ?_⟩
      · rw [ra.length]
        have := congrArg List.length eo
        rw [List.length_append, List.length_cons] at this
        omega
      · rw [← eo, List.append_assoc]; rfl
    | false =>
      refine iteF ?_
      have e2 : lcL g c a vs env (ds.drop (i + 1)) st4 = some (rest, st2) := e2
      have I9 := Rel.back (vs := vs) I4 (l3.trans l6) I7 hs' he ok
      exact ⟨hlt, W6, L6, st4, acc, accd, rest, ll, I9, ra.mono (l3.trans l6), e2, eo⟩
  · have ei : i = ds.length := by omega
    rw [ei, List.drop_length] at e2
    cases e2
    rw [List.append_nil] at eo
    subst eo
    refine .inl ⟨wk2.2 (by omega), ?_⟩
    obtain ⟨f1, f2, f3⟩ := I4.fr p _ upd_same
    exact k _ _ _ _ (l1.trans l2) (frame_sub I4 n3) ⟨p, rfl, f2, f3, n3, .lst f1 ra⟩
theorem se_lc {tg : Expr} {ifs : List Expr} {scope : Scope} {own : List (Str × Nat)} {it : SemI} {ts : List Nat} {g : SemG} (hc : X.calm = true) (hN : X.N.Nodup) (hi : SI X ct tg x it) (ok : BlkOk X.N X.env.scope scope own)
    (hg : ∀ (s : Shared) (H : Hp) (C : Addr) (cl : List (Str × Addr)) (fp : List Addr), SG (X.blk s H scope (compEnvC scope cl C X.env) fp) ct tg ts g) (ht : ∀ (s : Shared) (H : Hp) (C : Addr) (cl : List (Str × Addr)) (fp : List Addr), STs (X.blk s H scope (compEnvC scope cl C X.env) fp) ct ifs c)
    (he : ∀ (s : Shared) (H : Hp) (C : Addr) (cl : List (Str × Addr)) (fp : List Addr), SE (X.blk s H scope (compEnvC scope cl C X.env) fp) ct y a) (hts : ∀ j ∈ ts, j ∈ own.map (·.2) := by decide) (hs : ∀ z, foldedSetIterable x X.env z = pure z := by intro _; rfl) :
    SE X ct (.ListComp y [⟨tg, x, ifs, 0⟩] scope pos) (eLc it (own.map (·.2)) g c a) :=
  ⟨pe_mono (pe_lc (te := tE X.K ct a) (tt := tT X.K ct c) (g := tG X.K ct ts g) hc hN hi.pi ok (fun s H C cl fp => (hg s H C cl fp).pg) (fun s H C cl fp => (ht s H C cl fp).pts) (fun s H C cl fp => (he s H C cl fp).pe) hs) fun _ _ _ h => tE_lc hts h⟩
end
/-! ### what a def promises -/
abbrev Fn := List D → Sto → Option (R × Sto)
def spD (K : PySem.W.Frag) (ct : CT) (n : Nat) (m : Fn) : Sp := fun vs H Q _ => ∃ F W L st ds r st', Rel K ct F W L [] st [] H ∧ RepL K ct W vs ds ∧ ds.length = n ∧ m ds st = some (r, st') ∧
  ∀ v H' W' L', W.le W' → Rel K ct F W' L' [] st' [] H' → RepR K ct F W' L' H' [] [] v r → Q v H'
def R.outR : R → R
  | .bw _ d => .ow d
  | r => r
/-- a body as a function; k: how many names -/
def runB (k : Nat) (f : SemS) : Fn := fun ds st => (f (ds.map .sh ++ List.replicate (k - ds.length) .no) st).bind fun p => match p.1 with
  | .nx => some (.sh .non, p.2.2)
  | .rt r => some (r.outR, p.2.2)
  | _ => none
section
variable {K : PySem.W.Frag} {ct : CT}
theorem spD_imp {n : Nat} {m m' : Fn} (h : ∀ ds st r st', ds.length = n → m' ds st = some (r, st') → m ds st = some (r, st')) : ∀ vs H Q E, spD K ct n m' vs H Q E → spD K ct n m vs H Q E := by
  rintro vs H Q E ⟨F, W, L, st, ds, r, st', I, q, hl, e, k⟩
  exact ⟨F, W, L, st, ds, r, st', I, q, hl, h _ _ _ _ hl e, k⟩
theorem rel_start {F H : Hp} {W : Wd} {L : Addr → Option Lab} {st : Sto} {vs : List V} {ds : List D} {N : List Str} (I : Rel K ct F W L [] st [] H) (q : RepL K ct W vs ds) (hN : vs.length ≤ N.length) :
    Rel K ct F W L (ds.map .sh ++ List.replicate (N.length - ds.length) .no) st (L2.start N vs) H := by
  have hl := q.length
  refine ⟨I.fr, I.hs, I.tp, I.ob, I.rh, ?_, fun i s e => ?_⟩
  · unfold L2.start
    rw [List.length_append, List.length_map, List.length_replicate, List.length_append, List.length_map, List.length_replicate, hl]
  · by_cases hi : i < ds.length
    · rw [List.getElem?_append_left (by simpa using hi), List.getElem?_map] at e
      obtain ⟨d, hd, rfl⟩ := Option.map_eq_some_iff.mp e
      obtain ⟨v, hv, hr⟩ := q.get hd
      refine ⟨v, ?_, hr⟩
      unfold L2.start
      rw [List.getElem?_append_left (by rw [List.length_map]; omega), List.getElem?_map, hv]
      rfl
    · rw [List.getElem?_append_right (by simpa using hi), List.getElem?_replicate] at e
      split at e
      · cases e; trivial
      · cases e
/-- the slots are forgotten -/
theorem rel_end {F H : Hp} {W : Wd} {L : Addr → Option Lab} {env : List Slot} {st : Sto} {σ : St} {v : V} {r : R} (I : Rel K ct F W L env st σ H) (p : RepR K ct F W L H env σ v r) :
    ∃ L', Rel K ct F W L' [] st [] H ∧ RepR K ct F W L' H [] [] v r.outR := by
  refine ⟨fun b => match L b with | some (.slot _) => none | z => z, ?_, ?_⟩
  · refine ⟨fun b u e => ?_, fun b u e => ?_, I.tp, fun g κ d e => ?_, I.rh, rfl, fun i s e => by simp at e⟩
    · obtain ⟨h1, h2, h3⟩ := I.fr b u e
      exact ⟨h1, by simp only [h2], h3⟩
    · obtain ⟨h1, h2⟩ := I.hs b u e
      exact ⟨h1, by simp only [h2]⟩
    · obtain ⟨v, h1, h2⟩ := I.ob g κ d e
      refine ⟨v, h1, ?_⟩
      have q : (fun b => if (match L b with | some (.slot _) => none | z => z) = some (Lab.ob g) then H b else none) = fun b => if L b = some (.ob g) then H b else none := by
        funext b
        cases hb : L b with
        | none => rfl
        | some l => cases l with
          | slot i => simp
          | ob g' => rfl
      rw [q]; exact h2
  · cases r with
    | sh d => exact p
    | ow d =>
      obtain ⟨a, h1, h2, h3⟩ := p
      exact ⟨a, h1, by simp only [h2], h3⟩
    | bw i d =>
      obtain ⟨h1, h2⟩ := p
      obtain ⟨a, e1, e2, c⟩ := I.sl i _ h1
      rw [h2] at e1; cases e1
      refine ⟨a, rfl, by simp only [e2], ?_, ?_, c⟩
      · cases q : W.hs a with
        | none => rfl
        | some u => have := (I.hs a u q).2; rw [e2] at this; cases this
      · cases q : F a with
        | none => rfl
        | some u => have := (I.fr a u q).2.1; rw [e2] at this; cases this
/-- THE RULE for a def: its body as a function -/
theorem fn_ok {P : Program} {w : World} {mg : Str → Option Value} {base : Heap} {name qual : Str} {st : Stmt} {f : Addr} {fd : FuncData} {N ps : List Str} {k : Nat} {b : SemS} (F : Fun K name qual st f fd) (S : FnScope N ps (defScope st))
    (hb : ∀ (cdv : Value) (A : Around) (outer : List Env) (s : Shared) (H : Hp) (E : XK), Room k (A.deeper (PyProof.Rows.envOfC qual (defScope st) s.heap.objs.size f cdv)) → SB (cxOf CX0 P w K mg base N qual (defScope st) f cdv A outer s H E).nox ct (defBody st) b) :
    FnOk P w K mg base CX0 (k + 1) f fd ps (spD K ct ps.length (runB N.length b)) := by
  refine F.ok S (fun vs H Q E h => ?_) (fun cdv A outer s H vs Q E hr h => ?_)
  · obtain ⟨F, W, L, st, ds, r, st', I, q, hl, e, k⟩ := h
    rw [q.length]; exact hl
  · obtain ⟨F, W, L, st, ds, r, st', I, q, hl, e, kk⟩ := h
    refine ⟨_, (hb cdv A outer s H E hr).pss, ?_⟩
    obtain ⟨⟨o, env', st1⟩, h1, e⟩ := bind2 e
    have hpl : ps.length ≤ N.length := by have := congrArg List.length S.pre; rw [List.length_take] at this; omega
    refine ⟨F, W, L, _, st, o, env', st1, rel_start I q (by rw [q.length, hl]; exact hpl), h1, ?_⟩
    cases o with
    | nx =>
      cases e
      intro σ' H' W' L' l I'
      obtain ⟨L2, I2, p2⟩ := rel_end I' (v := .non) (r := .sh .non) .non
      exact kk _ _ _ _ l I2 p2
    | rt r1 =>
      cases e
      intro v σ' H' W' L' l I' p
      obtain ⟨L2, I2, p2⟩ := rel_end I' p
      exact kk _ _ _ _ l I2 p2
    | bk => cases e
    | ct => cases e
end
/-! ### calls of defs -/
section
variable {X : Cx} {ct : CT} {pos : Pos} {x y : Expr} {a b c : Sem} {es : List Expr} {as : SemA}
def eCall (n : Nat) (m : Fn) (as : SemA) : Sem := fun env st => (as env st).bind fun p => (valsR p.1).bind fun ds => if ds.length = n then m ds p.2 else none
/-- the call by shared values -/
theorem call_out {K : PySem.W.Frag} {F H : Hp} {W : Wd} {L : Addr → Option Lab} {env : List Slot} {st st' : Sto} {σ : St} {vs : List V} {ds : List D} {n : Nat} {m : Fn} {r : R} {Q : VK} {E : XK} (I : Rel K ct F W L env st σ H) (q : RepL K ct W vs ds) (hl : ds.length = n) (e : m ds st = some (r, st'))
    (k : ∀ v H' W' L', W.le W' → Rel K ct F W' L' env st' σ H' → RepR K ct F W' L' H' env σ v r → Q v H') : spD K ct n m vs H Q E := by
  -- all that is no object's and not shared is the frame's
  refine ⟨fun b => match L b, W.hs b with | some (.ob _), _ => none | _, some _ => none | _, none => H b, W, fun b => match L b with | some (.ob g) => some (.ob g) | _ => none, st, ds, r, st', ?_, q, hl, e, ?_⟩
  · refine ⟨fun b u e => ?_, fun b u e => ?_, I.tp, fun g κ d e => ?_, I.rh, rfl, fun i s e => by simp at e⟩
    · cases hb : L b with
      | none =>
        cases hw : W.hs b with
        | none => simp only [hb, hw] at e; exact ⟨e, rfl, rfl⟩
        | some z => simp only [hb, hw] at e; cases e
      | some l =>
        cases l with
        | slot i =>
          cases hw : W.hs b with
          | none => simp only [hb, hw] at e; exact ⟨e, rfl, rfl⟩
          | some z => simp only [hb, hw] at e; cases e
        | ob g => simp only [hb] at e; cases e
    · obtain ⟨h1, h2⟩ := I.hs b u e
      exact ⟨h1, by simp only [h2]⟩
    · obtain ⟨v, h1, h2⟩ := I.ob g κ d e
      refine ⟨v, h1, ?_⟩
      have q : (fun b => if (match L b with | some (.ob g) => some (Lab.ob g) | _ => none) = some (Lab.ob g) then H b else none) = fun b => if L b = some (.ob g) then H b else none := by
        funext b
        cases hb : L b with
        | none => simp
        | some l => cases l with
          | slot i => simp
          | ob g' => rfl
      rw [q]; exact h2
  · intro v H' W' L' l I' p
    -- the frame's part
    have own : ∀ b i u, L b = some (.slot i) → H b = some u → H' b = some u ∧ L' b = none ∧ W'.hs b = none := fun b i u hb hu => by
      have hw : W.hs b = none := by
        cases q : W.hs b with
        | none => rfl
        | some z => have := (I.hs b z q).2; rw [hb] at this; cases this
      exact I'.fr b u (by simp only [hb, hw]; exact hu)
    refine k v H' W' (fun b => match L b, H b with | some (.slot i), some _ => some (.slot i) | _, _ => L' b) l ?_ ?_
    · have off : ∀ b, L' b = none ∨ (∀ i u, ¬ (L b = some (.slot i) ∧ H b = some u)) := fun b => by
        by_cases z : ∃ i u, L b = some (.slot i) ∧ H b = some u
        · obtain ⟨i, u, z1, z2⟩ := z
          exact .inl (own b i u z1 z2).2.1
        · exact .inr fun i u q => z ⟨i, u, q⟩
      have lab : ∀ b, (∀ i u, ¬ (L b = some (.slot i) ∧ H b = some u)) → (match L b, H b with | some (.slot i), some _ => some (Lab.slot i) | _, _ => L' b) = L' b := fun b z => by
        split
        · rename_i i u h1 h2
          exact absurd ⟨h1, h2⟩ (z i u)
        · rfl
      refine ⟨fun b u e => ?_, fun b u e => ?_, I'.tp, fun g κ d e => ?_, I'.rh, I.len, fun i s e => ?_⟩
      · obtain ⟨h1, h2, h3⟩ := I.fr b u e
        obtain ⟨g1, g2, g3⟩ := I'.fr b u (by simp only [h2, h3]; exact h1)
        exact ⟨g1, by simp only [h2]; exact g2, g3⟩
      · obtain ⟨g1, g2⟩ := I'.hs b u e
        refine ⟨g1, ?_⟩
        have z : ∀ i w, ¬ (L b = some (.slot i) ∧ H b = some w) := fun i w ⟨z1, z2⟩ => by
          rw [(own b i w z1 z2).2.2] at e; cases e
        rw [lab b z]; exact g2
      · obtain ⟨w, g1, g2⟩ := I'.ob g κ d e
        refine ⟨w, g1, ?_⟩
        have q : (fun b => if (match L b, H b with | some (.slot i), some _ => some (Lab.slot i) | _, _ => L' b) = some (Lab.ob g) then H' b else none) = fun b => if L' b = some (.ob g) then H' b else none := by
          funext b
          by_cases z : ∃ i u, L b = some (.slot i) ∧ H b = some u
          · obtain ⟨i, u, z1, z2⟩ := z
            simp only [z1, z2, (own b i u z1 z2).2.1]
            simp
          · rw [lab b fun i u q => z ⟨i, u, q⟩]
        rw [q]; exact g2
      · refine (I.sl i s e).mono l fun b u hb hu => ?_
        exact ⟨(own b i u hb hu).1, by simp only [hb, hu]⟩
    · cases r with
      | sh d => exact p
      | ow d =>
        obtain ⟨b, h1, h2, h3, h4, h5⟩ := p
        have hb : ∀ i u, ¬ (L b = some (.slot i) ∧ H b = some u) := fun i u ⟨z1, z2⟩ => by
          have hw : W.hs b = none := by
            cases q : W.hs b with
            | none => rfl
            | some z => have := (I.hs b z q).2; rw [z1] at this; cases this
          simp only [z1, hw, z2] at h4
          cases h4
        refine ⟨b, h1, ?_, h3, ?_, h5⟩
        · dsimp only
          split
          · rename_i i u z1 z2; exact absurd ⟨z1, z2⟩ (hb i u)
          · exact h2
        · cases q : F b with
          | none => rfl
          | some u =>
            obtain ⟨g1, g2, g3⟩ := I.fr b u q
            simp only [g2, g3] at h4
            rw [h4] at g1; cases g1
      | bw i d => exact absurd p.1 (by simp)
theorem tE_call {K : PySem.W.Frag} {n : Nat} {m : Fn} {E : XK} {σ : St} {H : Hp} {Q : VK} (h : tE K ct (eCall n m as) σ H Q) : tCall (spD K ct n m) [] E (tA K ct as) σ H Q := by
  obtain ⟨F, W, L, env, st, r, st', I, e, k⟩ := h
  obtain ⟨⟨rs, st1⟩, h1, e⟩ := bind2 e
  obtain ⟨ds, h2, e⟩ := bind2 e
  have hl : ds.length = n ∧ m ds st1 = some (r, st') := by
    dsimp only at e
    split at e
    · exact ⟨by assumption, e⟩
    · cases e
  refine ⟨F, W, L, env, st, rs, st1, I, h1, fun vs H1 W1 L1 l1 I1 qs => ?_⟩
  show spD K ct n m (vs ++ []) H1 Q E
  rw [List.append_nil]
  exact call_out I1 (qs.vals h2) hl.1 hl.2 fun v H' W' L' l' => k v H' W' L' (l1.trans l')
theorem se_call {k n : Nat} {f : Addr} {fd : FuncData} {ps : List Str} {m : Fn} {nm : Str} {p : Pos} (G : FnOk X.prog X.w X.K X.mg X.base CX0 k f fd ps (spD X.K ct n m)) (hr : Room k X.A) (hm : X.mg nm = some (.ref f)) (hk : PySem.W.keepIn X.K (.ref f) = true) (hb : Binds X.K fd ps []) (ha : SA X ct (x :: es) as) (hg : Gl X nm := by rfl)
    (hdb : (nm == ("__debug__" : Str)) = false := by decide) (he : starEach (x :: es) X.env = (false, eval x X.env) :: starEach es X.env := by rfl) (hpl : (backTo pos (starEach es X.env)).any (·.1) = false := by rfl) :
    SE X ct (.Call (.Name nm p) (x :: es) [] pos) (eCall n m as) := ⟨pe_mono (pe_call G hr hg hm hk hb .nil pass0 ha.pa hdb he hpl) fun _ _ _ h => tE_call h⟩
/-! flat things and tuples of such -/
mutual
def D.imm : D → Bool
  | .non | .bl _ | .int _ | .str _ => true
  | .tup ds => D.immL ds
  | _ => false
def D.immL : List D → Bool
  | [] => true
  | d :: ds => d.imm && D.immL ds
end
/-! no number of an object is in it -/
mutual
def D.nh : D → Bool
  | .hnd _ => false
  | .dic _ => false
  | .lst ds => D.nhL ds
  | .tup ds => D.nhL ds
  | .obj _ ds => D.nhL ds
  | _ => true
def D.nhL : List D → Bool
  | [] => true
  | d :: ds => d.nh && D.nhL ds
end
mutual
theorem Rep.nh {K : PySem.W.Frag} {W W' : Wd} (l : ∀ a o, W.hs a = some o → W'.hs a = some o) (l2 : ∀ a o, W.tp a = some o → W'.tp a = some o) : ∀ {v : V} {d : D}, Rep K ct W v d → d.nh = true → Rep K ct W' v d
  | _, _, .non, _ => .non
  | _, _, .bl b, _ => .bl b
  | _, _, .int i, _ => .int i
  | _, _, .str x, _ => .str x
  | _, _, .lst h r, n => .lst (l _ _ h) (RepL.nh l l2 r (by rw [D.nh] at n; exact n))
  | _, _, .tup h r, n => .tup (l2 _ _ h) (RepL.nh l l2 r (by rw [D.nh] at n; exact n))
  | _, _, .dic h _ r, n => by simp [D.nh] at n
  | _, _, .obj h c z r, n => .obj (l _ _ h) c z (RepL.nh l l2 r (by rw [D.nh] at n; exact n))
  | _, _, .hnd h, n => by simp [D.nh] at n
  | _, _, .scr h, _ => .scr (sq_mono l h)
theorem RepL.nh {K : PySem.W.Frag} {W W' : Wd} (l : ∀ a o, W.hs a = some o → W'.hs a = some o) (l2 : ∀ a o, W.tp a = some o → W'.tp a = some o) : ∀ {vs : List V} {ds : List D}, RepL K ct W vs ds → D.nhL ds = true → RepL K ct W' vs ds
  | _, _, .nil, _ => .nil
  | _, _, .cons h r, n => by
    rw [D.nhL, Bool.and_eq_true] at n
    exact .cons (Rep.nh l l2 h n.1) (RepL.nh l l2 r n.2)
end
/-- by things of one's own too, where the answer is flat and the store is not asked -/
def eCallP (n : Nat) (m : Fn) (as : SemA) : Sem := fun env st => (as env st).bind fun p => if p.1.length = n ∧ D.nhL (p.1.map R.d) = true then (m (p.1.map R.d) []).bind fun q => match q.1 with
  | .sh d => if d.imm = true then some (.sh d, p.2) else none
  | _ => none else none
end
end Kn
namespace Kn
open PySem L2
/-! a def that may be called, by its name -/
structure Cal (P : Program) (w : World) (K : PySem.W.Frag) (mg : Str → Option Value) (base : Heap) (ct : CT) (nm : Str) (k : Nat) (ps : List Str) (m : Fn) : Prop where
  ex : ∃ f fd, FnOk P w K mg base CX0 k f fd ps (spD K ct ps.length m) ∧ mg nm = some (.ref f) ∧ PySem.W.keepIn K (.ref f) = true ∧ Binds K fd ps []
theorem Cal.of {P : Program} {w : World} {K : PySem.W.Frag} {mg : Str → Option Value} {base : Heap} {ct : CT} {nm qual : Str} {k : Nat} {ps : List Str} {m : Fn} {st : Stmt} {f : Addr} {fd : FuncData} (F : Fun K nm qual st f fd) (hm : mg nm = some (.ref f)) (hb : Binds K fd ps [])
    (G : FnOk P w K mg base CX0 k f fd ps (spD K ct ps.length m)) : Cal P w K mg base ct nm k ps m := ⟨f, fd, G, hm, F.kp, hb⟩
/-- by a function that says less -/
theorem Cal.imp {P : Program} {w : World} {K : PySem.W.Frag} {mg : Str → Option Value} {base : Heap} {ct : CT} {nm : Str} {k : Nat} {ps : List Str} {m m' : Fn} (c : Cal P w K mg base ct nm k ps m) (h : ∀ ds st r st', ds.length = ps.length → m' ds st = some (r, st') → m ds st = some (r, st')) : Cal P w K mg base ct nm k ps m' := by
  obtain ⟨f, fd, G, h1, h2, h3⟩ := c.ex
  exact ⟨f, fd, G.imp (spD_imp h), h1, h2, h3⟩
section
variable {X : Cx} {ct : CT} {pos : Pos} {x : Expr} {es : List Expr} {as : SemA} {k : Nat} {ps : List Str} {m : Fn} {nm : Str} {p : Pos}
theorem sc_call (n : Nat) (c : Cal X.prog X.w X.K X.mg X.base ct nm k ps m) (hr : Room k X.A) (ha : SA X ct (x :: es) as) (hn : ps.length = n := by rfl) (hg : Gl X nm := by rfl)
    (hdb : (nm == ("__debug__" : Str)) = false := by decide) (he : starEach (x :: es) X.env = (false, eval x X.env) :: starEach es X.env := by rfl) (hpl : (backTo pos (starEach es X.env)).any (·.1) = false := by rfl) :
    SE X ct (.Call (.Name nm p) (x :: es) [] pos) (eCall n m as) := by
  subst hn
  obtain ⟨f, fd, G, h1, h2, h3⟩ := c.ex
  exact se_call G hr h1 h2 h3 ha hg hdb he hpl
end
/-! the law's own entry -/
def spLaw (K : PySem.W.Frag) : Sp := fun vs H Q _ => ∃ (a : Addr) (ns : List Int), vs = [.ref a] ∧ SqL K H a (ns.map V.int) ∧ ns.length ≤ 63 ∧ ∀ H', Q (.bl true) H'
theorem law_ok {P : Program} {w : World} {K : PySem.W.Frag} {mg : Str → Option Value} {base : Heap} {ct : CT} {x : Str} {k : Nat} {m : Fn} {f : Addr} {fd : FuncData} (G : FnOk P w K mg base CX0 k f fd [x] (spD K ct 1 m)) (h : ∀ ns : List Int, ns.length ≤ 63 → ∃ st', m [.scr ns] [] = some (.sh (.bl true), st')) :
    FnOk P w K mg base CX0 k f fd [x] (spLaw K) := by
  refine G.imp fun vs H Q E q => ?_
  obtain ⟨a, ns, rfl, hs, hl, q⟩ := q
  obtain ⟨st', e⟩ := h ns hl
  refine ⟨fun _ => none, ⟨H, fun _ => none, fun _ => none⟩, fun _ => none, [], [.scr ns], _, st', ?_, .cons (.scr hs) .nil, rfl, e, fun v H' W' L' l I' p => ?_⟩
  · exact ⟨fun _ _ e => (nomatch e), fun b u e => ⟨e, rfl⟩, fun _ _ e => (nomatch e), fun g κ d e => by simp at e, fun g v e => (nomatch e), rfl, fun i s e => by simp at e⟩
  · cases (show Rep K ct W' v (.bl true) from p)
    exact q H'
end Kn
namespace Kn
open PySem L2
/-! ### evaluating the functions (no program in sight) -/
theorem forL_nx {g : SemG} {f : SemS} {d ds env env1 st env' st'} (h1 : g d env = some env1) (h : f env1 st = some (.nx, env', st')) : forL g f (d :: ds) env st = forL g f ds env' st' := by
  rw [forL, h1]; show ((f env1 st).bind _) = _; rw [h]; rfl
theorem eqv_int (i j : Int) : (D.int i).eq (.int j) = decide (i = j) := by unfold D.eq; simp [D.py, PyData.eqv]; exact Bool.beq_eq_decide_eq i j
theorem fEq_int (i j : Int) : fEq (.int i) (.int j) = some (.sh (.bl (decide (i = j)))) := by unfold fEq; rw [eqv_int]; rfl
theorem fNe_int (i j : Int) : fNe (.int i) (.int j) = some (.sh (.bl (!decide (i = j)))) := by unfold fNe; rw [eqv_int]; rfl
theorem atI_map {α β : Type} (f : α → β) (xs : List α) (i : Int) : atI (xs.map f) i = (atI xs i).map f := by
  unfold atI
  rw [List.length_map]
  cases ixN xs.length i with
  | none => rfl
  | some j => show (xs.map f)[j]? = (xs[j]?).map f; rw [List.getElem?_map]
theorem kit_int_int : kitB "int" "int" = some true := by decide +kernel
theorem kit_int_bool : kitB "int" "bool" = some false := by decide +kernel
theorem kit_bool_bool : kitB "bool" "bool" = some true := by decide +kernel
theorem kit_bool_int : kitB "bool" "int" = some true := by decide +kernel
theorem kit_list_list : kitB "list" "list" = some true := by decide +kernel
theorem kit_tuple_tuple : kitB "tuple" "tuple" = some true := by decide +kernel
theorem cutG_to {α : Type} (xs : List α) (k : Nat) : cutG xs none (some (k : Int)) = xs.take k := by
  unfold cutG
  rw [HT.sIx_none, HT.sIx_nat, List.drop_zero, Nat.sub_zero]
  by_cases h : k ≤ xs.length
  · rw [Nat.min_eq_left h]
  · rw [Nat.min_eq_right (by omega), List.take_of_length_le (Nat.le_refl _)]
    exact (List.take_of_length_le (by omega)).symm
section
variable {env env' : List Slot} {st st' : Sto} {a b c : Sem} {f g : SemS} {i j n : Nat} {d : D} {as : SemA}
@[simp] theorem x_seq : sSeq f g env st = (f env st).bind fun p => match p with
  | (.nx, env', st') => g env' st'
  | q => some q := rfl
@[simp] theorem x_nil : sNil env st = some (.nx, env, st) := rfl
@[simp] theorem x_set : sSet i a env st = (a env st).bind fun p => match p.1 with
  | .sh d => some (.nx, env.set i (.sh d), p.2)
  | .ow d => some (.nx, env.set i (.ow d), p.2)
  | .bw _ _ => none := rfl
@[simp] theorem x_var : eVar i env st = match env[i]? with
  | some (.sh d) => some (.sh d, st)
  | some (.ow d) => some (.bw i d, st)
  | _ => none := rfl
@[simp] theorem x_c : eC d env st = some (.sh d, st) := rfl
@[simp] theorem x_e2 {o} : e2 o a b env st = (a env st).bind fun p => (b env p.2).bind fun q => (o p.1.d q.1.d).map fun r => (r, q.2) := rfl
@[simp] theorem x_e1 {o} : e1 o a env st = (a env st).bind fun p => (o p.1.d).map fun r => (r, p.2) := rfl
@[simp] theorem x_d1 : (R.sh d).d = d := rfl
@[simp] theorem x_d2 : (R.ow d).d = d := rfl
@[simp] theorem x_d3 : (R.bw i d).d = d := rfl
@[simp] theorem x_p1 : (R.sh d).pin = .sh d := rfl
@[simp] theorem x_p2 : (R.ow d).pin = .sh d := rfl
@[simp] theorem x_p3 : (R.bw i d).pin = .bw i d := rfl
@[simp] theorem x_s1 : (R.sh d).sh? = some d := rfl
@[simp] theorem x_s2 : (R.ow d).sh? = some d := rfl
@[simp] theorem x_o1 : (R.sh d).outR = .sh d := rfl
@[simp] theorem x_o2 : (R.ow d).outR = .ow d := rfl
@[simp] theorem x_o3 : (R.bw i d).outR = .ow d := rfl
@[simp] theorem x_if : sIf c f g env st = (c env st).bind fun p => p.1.tr.bind fun k => if k = true then f env p.2 else g env p.2 := rfl
@[simp] theorem x_tr {k : Bool} : (R.sh (.bl k)).tr = some k := rfl
@[simp] theorem x_ret : sRet a env st = (a env st).map fun p => (.rt p.1, env, p.2) := rfl
@[simp] theorem x_retN : sRetN env st = some (.rt (.sh .non), env, st) := rfl
@[simp] theorem x_ex : sEx a env st = (a env st).map fun p => (.nx, env, p.2) := rfl
@[simp] theorem x_frz : sFrz i f env st = match env[i]? with
  | some (.ow d) => f (env.set i (.sh d)) st
  | _ => f env st := rfl
@[simp] theorem x_aug {o} : sAug i o a env st = match env[i]? with
  | some (.sh d) => (a env st).bind fun p => (o d p.1.d).bind fun r => match r with
    | .sh d' => some (.nx, env.set i (.sh d'), p.2)
    | _ => none
  | _ => none := rfl
@[simp] theorem x_sub : sSub i a b env st = (b env st).bind fun p => (a env p.2).bind fun q => match p.1.pin, env[i]? with
  | .sh d, some (.ow c) => (setItm c q.1.d d).map fun c' => (.nx, env.set i (.ow c'), q.2)
  | _, _ => none := rfl
@[simp] theorem x_asg {o} : sAsg a o env st = (a env st).bind fun p => match p.1.pin with
  | .sh d => (o d env).map fun env' => (.nx, env', p.2)
  | _ => none := rfl
@[simp] theorem x_par : sPar i j as env st = (as env st).bind fun p => match p.1 with
  | [.sh d, .sh e] => some (.nx, (env.set i (.sh d)).set j (.sh e), p.2)
  | _ => none := rfl
@[simp] theorem x_mut {o} : sMut i o as env st = (as env st).bind fun p => (valsR p.1).bind fun xs => match env[i]? with
  | some (.ow (.lst ds)) => (o xs ds).map fun ds' => (.nx, env.set i (.ow (.lst ds')), p.2)
  | _ => none := rfl
@[simp] theorem x_anil : aNil env st = some ([], st) := rfl
@[simp] theorem x_acons : aCons a as env st = (a env st).bind fun p => (as env p.2).map fun q => (p.1.pin :: q.1, q.2) := rfl
@[simp] theorem x_v0 : valsR [] = some [] := rfl
@[simp] theorem x_v1 {rs} : valsR (.sh d :: rs) = (valsR rs).map fun ds => d :: ds := rfl
@[simp] theorem x_tup : eTup as env st = (as env st).bind fun p => (valsR p.1).bind fun ds => if ds.length ≤ sizeLine then some (.sh (.tup ds), p.2) else none := rfl
@[simp] theorem x_lst : eLst as env st = (as env st).bind fun p => (valsR p.1).bind fun ds => if ds.length ≤ sizeLine then some (.ow (.lst ds), p.2) else none := rfl
@[simp] theorem x_dnew : eDnew env st = some (.ow (.dic []), st) := rfl
@[simp] theorem x_call {m} : eCall n m as env st = (as env st).bind fun p => (valsR p.1).bind fun ds => if ds.length = n then m ds p.2 else none := rfl
@[simp] theorem x_for {it o} : sFor it o f env st = (it env st).bind fun p => forL o f p.1 env p.2 := rfl
@[simp] theorem x_whl : sWhl n c f env st = whL c f n env st := rfl
@[simp] theorem x_nm : gNm i d env = some (env.set i (.sh d)) := rfl
@[simp] theorem x_tp {gs} {ds} : gTp gs (.tup ds) env = gL gs ds env := rfl
@[simp] theorem x_gl0 : gL [] [] env = some env := rfl
@[simp] theorem x_gl1 {o gs ds} : gL (o :: gs) (d :: ds) env = (o d env).bind fun env' => gL gs ds env' := rfl
@[simp] theorem x_iseq : iSeq a env st = (a env st).bind fun p => p.1.sh?.bind fun d => d.seq.map fun ds => (ds, p.2) := rfl
@[simp] theorem x_seq1 {ds} : (D.lst ds).seq = some ds := rfl
@[simp] theorem x_seq2 {ds} : (D.tup ds).seq = some ds := rfl
@[simp] theorem x_seq3 {ns} : (D.scr ns).seq = some (ns.map D.int) := rfl
@[simp] theorem x_seql1 {ds} : (D.lst ds).seqL = some ds := rfl
@[simp] theorem x_seql2 {ns} : (D.scr ns).seqL = some (ns.map D.int) := rfl
@[simp] theorem x_rng1 : iRng1' a env st = (a env st).bind fun p => match p.1.d with
  | .int j => if Rg j then some (rngD 0 j.toNat, p.2) else none
  | _ => none := rfl
@[simp] theorem x_rng2 : iRng2' a b env st = (a env st).bind fun p => (b env p.2).bind fun q => match p.1.d, q.1.d with
  | .int i, .int j => if Rg i ∧ Rg j then some (rngD i (j - i).toNat, q.2) else none
  | _, _ => none := rfl
@[simp] theorem x_enum : iEnum' a env st = (a env st).bind fun p => p.1.sh?.bind fun d => d.seqL.map fun ds => (enumF 0 ds, p.2) := rfl
@[simp] theorem x_zip : iZip' a b env st = (a env st).bind fun p => p.1.sh?.bind fun d => d.seqL.bind fun ds => (b env p.2).bind fun q => q.1.sh?.bind fun e => e.seqL.map fun es => (zipD ds es, q.2) := rfl
@[simp] theorem x_slc {l h} : eSlc a l h env st = (a env st).bind fun p => (l env p.2).bind fun l => (h env l.2).bind fun h => (fSlc p.1.d l.1 h.1).map fun r => (r, h.2) := rfl
@[simp] theorem x_pno : pNo env st = some (none, st) := rfl
@[simp] theorem x_psome : pSome a env st = (a env st).bind fun p => match p.1.d with
  | .int i => some (some i, p.2)
  | _ => none := rfl
@[simp] theorem x_yes : eYes env st = some (.sh (.bl true), st) := rfl
@[simp] theorem x_lc {it vs o} : eLc it vs o c a env st = (it env st).bind fun p => if vs.all (fun j => (env[j]?.map Slot.okW).getD true) = true then (lcL o c a vs env p.1 p.2).bind fun q => if q.1.length ≤ sizeLine then some (.ow (.lst q.1), q.2) else none else none := rfl
@[simp] theorem x_and : eAnd a b env st = (a env st).bind fun p => match p.1 with
  | .sh (.bl true) => b env p.2
  | .sh (.bl false) => some (.sh (.bl false), p.2)
  | _ => none := rfl
@[simp] theorem x_or : eOr a b env st = (a env st).bind fun p => match p.1 with
  | .sh (.bl false) => b env p.2
  | .sh (.bl true) => some (.sh (.bl true), p.2)
  | _ => none := rfl
@[simp] theorem x_not : eNot a env st = (a env st).bind fun p => match p.1 with
  | .sh (.bl b) => some (.sh (.bl (!b)), p.2)
  | _ => none := rfl
@[simp] theorem x_eif : eIf c a b env st = (c env st).bind fun p => match p.1 with
  | .sh (.bl true) => a env p.2
  | .sh (.bl false) => b env p.2
  | _ => none := rfl
@[simp] theorem x_okw1 : Slot.okW .no = true := rfl
@[simp] theorem x_okw2 : Slot.okW (.sh d) = true := rfl
@[simp] theorem x_add {i j : Int} : fAdd (.int i) (.int j) = some (.sh (.int (i + j))) := rfl
@[simp] theorem x_I {o} {i j : Int} : fI o (.int i) (.int j) = (o i j).map fun k => .sh (.int k) := rfl
@[simp] theorem x_gsub {i j : Int} : gSub' i j = some (i - j) := rfl
@[simp] theorem x_C {o} {i j : Int} : fC o (.int i) (.int j) = some (.sh (.bl (o i j))) := rfl
@[simp] theorem x_eqi {i j : Int} : fEq (.int i) (.int j) = some (.sh (.bl (decide (i = j)))) := fEq_int i j
@[simp] theorem x_nei {i j : Int} : fNe (.int i) (.int j) = some (.sh (.bl (!decide (i = j)))) := fNe_int i j
@[simp] theorem x_len1 {ds : List D} : fLen (.lst ds) = some (.sh (.int ds.length)) := rfl
@[simp] theorem x_len2 {ds : List D} : fLen (.tup ds) = some (.sh (.int ds.length)) := rfl
@[simp] theorem x_len3 {ns : List Int} : fLen (.scr ns) = some (.sh (.int ns.length)) := rfl
@[simp] theorem x_len4 {kds : List (Key × D)} : fLen (.dic kds) = some (.sh (.int kds.length)) := rfl
@[simp] theorem x_idx1 {ds : List D} {i : Int} : fIdx (.lst ds) (.int i) = (atI ds i).map .sh := rfl
@[simp] theorem x_idx2 {ds : List D} {i : Int} : fIdx (.tup ds) (.int i) = (atI ds i).map .sh := rfl
@[simp] theorem x_idx3 {ns : List Int} {i : Int} : fIdx (.scr ns) (.int i) = (atI ns i).map fun n => .sh (.int n) := rfl
@[simp] theorem x_isn1 : fIsN .non = some (.sh (.bl true)) := rfl
@[simp] theorem x_isn2 {i : Int} : fIsN (.int i) = some (.sh (.bl false)) := rfl
@[simp] theorem x_isn3 {ds} : fIsN (.tup ds) = some (.sh (.bl false)) := rfl
@[simp] theorem x_isn4 {ds} : fIsN (.lst ds) = some (.sh (.bl false)) := rfl
@[simp] theorem x_ntn1 : fNotN .non = some (.sh (.bl false)) := rfl
@[simp] theorem x_ntn2 {i : Int} : fNotN (.int i) = some (.sh (.bl true)) := rfl
@[simp] theorem x_ntn3 {ds} : fNotN (.tup ds) = some (.sh (.bl true)) := rfl
@[simp] theorem x_ntn4 {ds} : fNotN (.lst ds) = some (.sh (.bl true)) := rfl
@[simp] theorem x_int1 {i : Int} : fInt (.int i) = some (.sh (.int i)) := rfl
@[simp] theorem x_int2 {k : Bool} : fInt (.bl k) = some (.sh (.int (if k then 1 else 0))) := rfl
@[simp] theorem x_isi_ii {i : Int} : fIsi "int" (.int i) = some (.sh (.bl true)) := by unfold fIsi; simp [D.ty, kit_int_int]
@[simp] theorem x_isi_bi {i : Int} : fIsi "bool" (.int i) = some (.sh (.bl false)) := by unfold fIsi; simp [D.ty, kit_int_bool]
@[simp] theorem x_isi_bb {i : Bool} : fIsi "bool" (.bl i) = some (.sh (.bl true)) := by unfold fIsi; simp [D.ty, kit_bool_bool]
@[simp] theorem x_isi_ib {i : Bool} : fIsi "int" (.bl i) = some (.sh (.bl true)) := by unfold fIsi; simp [D.ty, kit_bool_int]
@[simp] theorem x_isi_ll {ds} : fIsi "list" (.lst ds) = some (.sh (.bl true)) := by unfold fIsi; simp [D.ty, kit_list_list]
@[simp] theorem x_isi_tt {ds} : fIsi "tuple" (.tup ds) = some (.sh (.bl true)) := by unfold fIsi; simp [D.ty, kit_tuple_tuple]
@[simp] theorem x_slc1 {ds l h} : fSlc (.lst ds) l h = some (.ow (.lst (cutG ds l h))) := rfl
@[simp] theorem x_slc2 {ns : List Int} {l h} : fSlc (.scr ns) l h = some (.ow (.lst ((cutG ns l h).map .int))) := rfl
@[simp] theorem x_tofs1 {ds} : fLofs (.lst ds) = some (.ow (.lst ds)) := rfl
@[simp] theorem x_tofs2 {ds} : fLofs (.tup ds) = some (.ow (.lst ds)) := rfl
@[simp] theorem x_gmod {i j : Int} : gMod i j = if 0 < j then some (i % j) else none := rfl
@[simp] theorem x_wipe0 : wipeE env [] = env := rfl
@[simp] theorem x_wipe1 {v vs} : wipeE env (v :: vs) = (wipeE env vs).set v .no := rfl
@[simp] theorem x_app : fApp [d] ds = if ds.length < sizeLine then some (ds ++ [d]) else none := rfl
end
theorem gDiv_of {i j : Int} (h : 0 < j) (h2 : j < 2 ^ 8000) : gDiv i j = some (i / j) := by
  unfold gDiv
  rw [if_pos]
  refine ⟨h, ?_⟩
  have := PySem.Flt.log2_lt_of (n := j.natAbs) (k := 8000) (by decide) (by omega)
  omega
theorem gMul_of {i j : Int} (h1 : i.natAbs < 2 ^ 400000) (h2 : j.natAbs < 2 ^ 400000) : gMul i j = some (i * j) := by
  unfold gMul
  rw [if_pos]
  have a := PySem.Flt.log2_lt_of (k := 400000) (by decide) h1
  have b := PySem.Flt.log2_lt_of (k := 400000) (by decide) h2
  omega
/-- data that may be compared, so deep at most -/
def D.okN (k : Nat) (d : D) : Prop := d.py.canLay0 = true ∧ d.py.depth ≤ k
theorem okN_ok {k : Nat} {d : D} (h : d.okN k) (hk : k ≤ 64) : d.ok = true := by
  unfold D.ok SeqAt.shaped
  rw [h.1, decide_eq_true (Nat.le_trans h.2 hk)]; rfl
theorem okN_mono {k m : Nat} {d : D} (h : d.okN k) (hk : k ≤ m) : d.okN m := ⟨h.1, Nat.le_trans h.2 hk⟩
theorem okN_int {k : Nat} (i : Int) : (D.int i).okN k := ⟨rfl, Nat.zero_le _⟩
theorem okN_non {k : Nat} : D.non.okN k := ⟨rfl, Nat.zero_le _⟩
theorem okN_all {k : Nat} : ∀ {ds : List D}, (∀ d ∈ ds, d.okN k) → PyData.canLayAll0 (D.pyL ds) = true ∧ PyData.depthAll (D.pyL ds) ≤ k
  | [], _ => ⟨rfl, Nat.zero_le _⟩
  | d :: ds, h => by
    obtain ⟨h1, h2⟩ := okN_all (ds := ds) fun e he => h e (List.mem_cons_of_mem _ he)
    obtain ⟨h3, h4⟩ := h d List.mem_cons_self
    rw [D.pyL, PyData.canLayAll0, PyData.depthAll, h1, h3]
    exact ⟨rfl, Nat.max_le.mpr ⟨h4, h2⟩⟩
theorem okN_lst {k : Nat} {ds : List D} (h : ∀ d ∈ ds, d.okN k) : (D.lst ds).okN (k + 1) := by
  obtain ⟨h1, h2⟩ := okN_all h
  exact ⟨by rw [D.py, PyData.canLay0]; exact h1, by rw [D.py, PyData.depth]; omega⟩
theorem okN_tup {k : Nat} {ds : List D} (h : ∀ d ∈ ds, d.okN k) : (D.tup ds).okN (k + 1) := by
  obtain ⟨h1, h2⟩ := okN_all h
  exact ⟨by rw [D.py, PyData.canLay0]; exact h1, by rw [D.py, PyData.depth]; omega⟩
theorem cutG_mid {α : Type} (xs : List α) (i k : Nat) : cutG xs (some (i : Int)) (some (k : Int)) = (xs.take k).drop i := by
  unfold cutG
  rw [HT.sIx_nat, HT.sIx_nat, List.drop_take]
  by_cases h : i ≤ xs.length
  · rw [Nat.min_eq_left h]
    by_cases h2 : k ≤ xs.length
    · rw [Nat.min_eq_left h2]
    · rw [Nat.min_eq_right (show xs.length ≤ k by omega), List.take_of_length_le (by simp), List.take_of_length_le (by simp; omega)]
  · have e1 : xs.drop i = [] := List.drop_of_length_le (by omega)
    have e2 : xs.drop (min i xs.length) = [] := List.drop_of_length_le (by omega)
    rw [e1, e2]; simp
@[simp] theorem x_sz {k : Nat} (h : k ≤ 1000) : k ≤ sizeLine := Nat.le_trans h (by decide)
@[simp] theorem x_sz2 {k : Nat} (h : k ≤ 1000) : k < sizeLine := Nat.lt_of_le_of_lt h (by decide)
end Kn
namespace Kn
open PySem L2
/-! ### list(range(..)), list(reversed(..)), {k: v}, reversed walks -/
section
open PySem.Spec PyProof.Rows
variable {prog : Program} {w : World} {A : Around} {s : Shared}
end
section
open PySem.Spec PyProof.Rows
end
section
variable {X : Cx} {ct : CT} {x y : Expr} {a b : Sem} {pos p p2 pos2 : Pos} {tg : Expr}
noncomputable def eLrg (a : Sem) : Sem := fun env st => (a env st).bind fun p => match p.1.d with
  | .int j => if Rg j ∧ j ≤ 1000 then some (.ow (.lst (rngD 0 j.toNat)), p.2) else none
  | _ => none
theorem rgV_rep {K : PySem.W.Frag} {W : Wd} (j : Int) : RepL K ct W (rgV 0 j) (rngD 0 j.toNat) := by
  unfold rngD rgV
  have : ∀ l : List Nat, RepL K ct W (l.map fun k => V.int (0 + (k : Nat))) (l.map fun k => D.int (0 + (k : Nat))) := fun l => by
    induction l with
    | nil => exact .nil
    | cons k l ih => exact .cons (.int _) ih
  simpa using this (List.range j.toNat)
theorem se_lrg (hc : X.calm = true) (hg : Gl X "list") (hm : X.mg "list" = none) (hg2 : Gl X "range") (hm2 : X.mg "range" = none) (ha : SE X ct x a) (s1 : starEach [x] X.env = (false, eval x X.env) :: starEach [] X.env := by rfl)
    (s2 : starEach [.Call (.Name "range" p2) [x] [] pos2] X.env = (false, eval (.Call (.Name "range" p2) [x] [] pos2) X.env) :: starEach [] X.env := by rfl) :
    SE X ct (.Call (.Name "list" p) [.Call (.Name "range" p2) [x] [] pos2] [] pos) (eLrg a) := by
  refine ⟨pe_mono (pe_listRg hc hg hm (prg_1 hg2 hm2 ha.pe s1) s2) fun σ H Q ⟨F, W, L, env, st, r, st', I, e, k⟩ => ?_⟩
  obtain ⟨⟨r1, st1⟩, h1, e⟩ := bind2 e
  refine ⟨F, W, L, env, st, r1, st1, I, h1, fun v H1 W1 L1 l1 I1 p1 => ?_⟩
  obtain ⟨W1', m1, J1, q1⟩ := I1.pin p1
  have q1' := J1.look q1
  rw [R.pin_d] at q1'
  cases hr : r1.d <;> rw [show ((r1, st1) : R × Sto).1.d = _ from hr] at e <;> try (cases e; done)
  rename_i j
  obtain ⟨c, e⟩ := ifs e
  cases e
  rw [hr] at q1'
  refine ⟨j, q1'.int, ?_, fun q hq => fresh_out J1 hq (.lst upd_same (rgV_rep j)) fun v H' W' L' l' => k v H' W' L' (l1.trans (m1.trans l'))⟩
  exact ⟨by decide, by decide, c.1.1, c.1.2, by have := c.2; omega⟩
def fLrev : D → Option R
  | .lst ds => some (.ow (.lst ds.reverse))
  | _ => none
/-- for x in reversed(xs) -/
def iRevd (a : Sem) : SemI := fun env st => (a env st).bind fun p => p.1.sh?.bind fun d => match d with
  | .lst ds => some (ds.reverse, p.2)
  | _ => none
/-- one that stands aside -/
theorem Rel.aside {K : PySem.W.Frag} {F H : Hp} {W : Wd} {L : Addr → Option Lab} {env : List Kn.Slot} {st : Sto} {σ : St} {q : Addr} {o : HO} (I : Rel K ct F W L env st σ H) (hq : H q = none) :
    Rel K ct (upd F q o) W (fun a => if (H a).isSome then L a else none) env st σ (upd H q o) := by
  obtain ⟨I', h1, h2, h3⟩ := I.laid (o := o) hq
  refine ⟨fun b u e => ?_, I'.hs, I'.tp, I'.ob, I'.rh, I'.len, I'.sl⟩
  by_cases hb : b = q
  · subst hb
    rw [upd_same] at e; cases e
    exact ⟨upd_same, h1, h2⟩
  · rw [upd_ne hb] at e
    exact I'.fr b u e
/-- {k: v} -/
def eD1 (a b : Sem) : Sem := fun env st => (a env st).bind fun p => (b env p.2).bind fun q => match p.1.pin, q.1.pin with
  | .sh d, .sh d' => d.key.map fun ky => (.ow (.dic [(ky, d')]), q.2)
  | _, _ => none
/-! evaluating -/
variable {env env' : List Kn.Slot} {st st' : Sto} {ds : List D}
@[simp] theorem x_lrev : fLrev (.lst ds) = some (.ow (.lst ds.reverse)) := rfl
@[simp] theorem x_lrg : eLrg a env st = (a env st).bind fun p => match p.1.d with
  | .int j => if Rg j ∧ j ≤ 1000 then some (.ow (.lst (rngD 0 j.toNat)), p.2) else none
  | _ => none := rfl
@[simp] theorem x_revd : iRevd a env st = (a env st).bind fun p => p.1.sh?.bind fun d => match d with
  | .lst ds => some (ds.reverse, p.2)
  | _ => none := rfl
@[simp] theorem x_d1e : eD1 a b env st = (a env st).bind fun p => (b env p.2).bind fun q => match p.1.pin, q.1.pin with
  | .sh d, .sh d' => d.key.map fun ky => (.ow (.dic [(ky, d')]), q.2)
  | _, _ => none := rfl
@[simp] theorem x_key1 {i : Int} : (D.int i).key = some (.inl i) := rfl
end
end Kn
namespace Kn
open PySem L2
/-! ### plain lemmas -/
/-- a loop's turns, each to its end -/
inductive Runs (g : SemG) (f : SemS) (st : Sto) : List D → List Slot → List Slot → Prop
  | nil {env : List Slot} : Runs g f st [] env env
  | cons {d : D} {ds : List D} {env env1 env2 env' : List Slot} : g d env = some env1 → f env1 st = some (.nx, env2, st) → Runs g f st ds env2 env' → Runs g f st (d :: ds) env env'
theorem Runs.forL {g : SemG} {f : SemS} {st : Sto} {ds : List D} {env env' : List Slot} (h : Runs g f st ds env env') : Kn.forL g f ds env st = some (.nx, env', st) := by
  induction h with
  | nil => rfl
  | cons h1 h2 _ ih => rw [forL_nx h1 h2, ih]
theorem ixN_nat {n i : Nat} (h : i < n) : ixN n (i : Int) = some i := by
  unfold ixN
  simp; omega
section
variable {d : D} {i j k : Int} {f g : D → D → Option R} {a b c : Sem} {env : List Slot} {st : Sto} {n : Nat} {m : Fn} {as : SemA} {ds : List D}
@[simp] theorem x_neg : fNeg (.int i) = some (.sh (.int (-i))) := rfl
@[simp] theorem x_chain : eChain f g a b c env st = (a env st).bind fun p => (b env p.2).bind fun q => (f p.1.d q.1.d).bind fun r => match r with
  | .sh (.bl true) => (c env q.2).bind fun u => (g q.1.d u.1.d).map fun r => (r, u.2)
  | .sh (.bl false) => some (.sh (.bl false), q.2)
  | _ => none := rfl
@[simp] theorem x_callp : eCallP n m as env st = (as env st).bind fun p => if p.1.length = n ∧ D.nhL (p.1.map R.d) = true then (m (p.1.map R.d) []).bind fun q => match q.1 with
  | .sh d => if d.imm = true then some (.sh d, p.2) else none
  | _ => none else none := rfl
@[simp] theorem x_clr : fClr [] ds = some [] := rfl
@[simp] theorem x_pop : fPop [] ds = if ds ≠ [] then some ds.dropLast else none := rfl
end
/-! ### equality of plain data -/
mutual
def D.pl : D → Bool
  | .non => true
  | .int _ => true
  | .str x => PyData.strOk x
  | .lst ds => D.plL ds
  | .tup ds => D.plL ds
  | _ => false
def D.plL : List D → Bool
  | [] => true
  | d :: ds => d.pl && D.plL ds
end
mutual
theorem eq_pl : ∀ {d e : D}, d.pl = true → e.pl = true → (PyData.eqv d.py e.py = true ↔ d = e)
  | .str _, .non, _, _ => by simp [D.py, PyData.eqv]
  | .non, .str _, _, _ => by simp [D.py, PyData.eqv]
  | .str _, .int _, _, _ => by simp [D.py, PyData.eqv]
  | .int _, .str _, _, _ => by simp [D.py, PyData.eqv]
  | .str _, .lst _, _, _ => by simp [D.py, PyData.eqv]
  | .lst _, .str _, _, _ => by simp [D.py, PyData.eqv]
  | .str _, .tup _, _, _ => by simp [D.py, PyData.eqv]
  | .tup _, .str _, _, _ => by simp [D.py, PyData.eqv]
  | .str a, .str b, _, _ => by simp [D.py, PyData.eqv]
  | .non, .non, _, _ => by simp [D.py, PyData.eqv]
  | .non, .int _, _, _ => by simp [D.py, PyData.eqv]
  | .non, .lst _, _, _ => by simp [D.py, PyData.eqv]
  | .non, .tup _, _, _ => by simp [D.py, PyData.eqv]
  | .int _, .non, _, _ => by simp [D.py, PyData.eqv]
  | .int _, .int _, _, _ => by simp [D.py, PyData.eqv]
  | .int _, .lst _, _, _ => by simp [D.py, PyData.eqv]
  | .int _, .tup _, _, _ => by simp [D.py, PyData.eqv]
  | .lst _, .non, _, _ => by simp [D.py, PyData.eqv]
  | .lst _, .int _, _, _ => by simp [D.py, PyData.eqv]
  | .lst ds, .lst es, h, k => by
    rw [D.pl] at h k
    rw [D.py, D.py, PyData.eqv, eqL_pl h k]; simp
  | .lst _, .tup _, _, _ => by simp [D.py, PyData.eqv]
  | .tup _, .non, _, _ => by simp [D.py, PyData.eqv]
  | .tup _, .int _, _, _ => by simp [D.py, PyData.eqv]
  | .tup _, .lst _, _, _ => by simp [D.py, PyData.eqv]
  | .tup ds, .tup es, h, k => by
    rw [D.pl] at h k
    rw [D.py, D.py, PyData.eqv, eqL_pl h k]; simp
theorem eqL_pl : ∀ {ds es : List D}, D.plL ds = true → D.plL es = true → (PyData.eqvAll (D.pyL ds) (D.pyL es) = true ↔ ds = es)
  | [], [], _, _ => by simp [D.pyL, PyData.eqvAll]
  | [], _ :: _, _, _ => by simp [D.pyL, PyData.eqvAll]
  | _ :: _, [], _, _ => by simp [D.pyL, PyData.eqvAll]
  | d :: ds, e :: es, h, k => by
    rw [D.plL, Bool.and_eq_true] at h k
    rw [D.pyL, D.pyL, PyData.eqvAll, Bool.and_eq_true, eq_pl h.1 k.1, eqL_pl h.2 k.2]; simp
end
theorem plL_all {ds : List D} (h : ∀ d ∈ ds, d.pl = true) : D.plL ds = true := by
  induction ds with
  | nil => rfl
  | cons d ds ih => rw [D.plL, h d List.mem_cons_self, ih fun e he => h e (List.mem_cons_of_mem _ he)]; rfl
/-- plain, so deep at most -/
structure D.Pn (k : Nat) (d : D) : Prop where
  pl : d.pl = true
  ok : d.okN k
theorem Pn_int {k : Nat} (i : Int) : (D.int i).Pn k := ⟨rfl, okN_int i⟩
theorem Pn_non {k : Nat} : D.non.Pn k := ⟨rfl, okN_non⟩
theorem okN_str {k : Nat} {x : Str} (h : PyData.strOk x = true) : (D.str x).okN k := ⟨h, Nat.zero_le _⟩
theorem Pn_str {k : Nat} {x : Str} (h : PyData.strOk x = true) : (D.str x).Pn k := ⟨h, okN_str h⟩
theorem Pn_lst {k : Nat} {ds : List D} (h : ∀ d ∈ ds, d.Pn k) : (D.lst ds).Pn (k + 1) := ⟨by rw [D.pl]; exact plL_all fun d hd => (h d hd).pl, okN_lst fun d hd => (h d hd).ok⟩
theorem Pn_tup {k : Nat} {ds : List D} (h : ∀ d ∈ ds, d.Pn k) : (D.tup ds).Pn (k + 1) := ⟨by rw [D.pl]; exact plL_all fun d hd => (h d hd).pl, okN_tup fun d hd => (h d hd).ok⟩
theorem Pn_mono {k m : Nat} {d : D} (h : d.Pn k) (hk : k ≤ m) : d.Pn m := ⟨h.pl, okN_mono h.ok hk⟩
theorem nhL_all {ds : List D} (h : ∀ d ∈ ds, d.nh = true) : D.nhL ds = true := by
  induction ds with
  | nil => rfl
  | cons d ds ih => rw [D.nhL, h d List.mem_cons_self, ih fun e he => h e (List.mem_cons_of_mem _ he)]; rfl
@[simp] theorem x_mul {i j : Int} : fMul (.int i) (.int j) = (gMul i j).map fun k => .sh (.int k) := rfl
@[simp] theorem x_imm_bl {b : Bool} : (D.bl b).imm = true := rfl
@[simp] theorem x_imm_int {i : Int} : (D.int i).imm = true := rfl
@[simp] theorem x_imm_non : D.non.imm = true := rfl
theorem eq_bl (a b : Bool) : (D.bl a).eq (.bl b) = decide (a = b) := by cases a <;> cases b <;> simp [D.eq, D.py, PyData.eqv]
@[simp] theorem x_eqb {a b : Bool} : fEq (.bl a) (.bl b) = some (.sh (.bl (decide (a = b)))) := by unfold fEq; rw [eq_bl]; rfl
@[simp] theorem x_neb {a b : Bool} : fNe (.bl a) (.bl b) = some (.sh (.bl (!decide (a = b)))) := by unfold fNe; rw [eq_bl]; rfl
section
variable {α : Type} {a b c d e : α} {l : List α}
@[simp] theorem x_at0 : atI (a :: l) 0 = some a := by
  have := @atI_nat α (a :: l) 0 a rfl
  exact this
@[simp] theorem x_at1 : atI (a :: b :: l) 1 = some b := by
  have := @atI_nat α (a :: b :: l) 1 b rfl
  exact this
@[simp] theorem x_at2 : atI (a :: b :: c :: l) 2 = some c := by
  have := @atI_nat α (a :: b :: c :: l) 2 c rfl
  exact this
@[simp] theorem x_at3 : atI (a :: b :: c :: d :: l) 3 = some d := by
  have := @atI_nat α (a :: b :: c :: d :: l) 3 d rfl
  exact this
@[simp] theorem x_at4 : atI (a :: b :: c :: d :: e :: l) 4 = some e := by
  have := @atI_nat α (a :: b :: c :: d :: e :: l) 4 e rfl
  exact this
end
end Kn
namespace Kn
open PySem L2
/-! ### classes -/
/-- what of a class of one's own must be known -/
structure Own (K : PySem.W.Frag) (ct : CT) (c : Str) (C : Addr) (ns : List Str) : Prop where
  at_ : ct c = some (C, ns)
  cl : Cls K C
  nd : ns.Nodup
  no : ∀ f ∈ ns, NoAttr K C f
section
variable {K : PySem.W.Frag} {ct : CT}
theorem look_fld : ∀ {ns : List Str} {fs : List (Str × V)} {k : Nat} {f : Str} {v : V}, ns.Nodup → fs.map (·.1) = ns.take fs.length → ns[k]? = some f → (fs.map (·.2))[k]? = some v → fs.lookup f = some v
  | _, [], k, _, _, _, _, _, h => by simp at h
  | [], (g, x) :: fs, k, f, v, _, h, _, _ => by simp at h
  | n :: ns, (g, x) :: fs, 0, f, v, nd, h, hk, hv => by
    simp at h hk hv
    obtain ⟨h1, _⟩ := h
    subst h1; subst hk; subst hv
    simp [List.lookup]
  | n :: ns, (g, x) :: fs, k + 1, f, v, nd, h, hk, hv => by
    simp only [List.map_cons, List.length_cons, List.take_succ_cons, List.cons.injEq] at h
    obtain ⟨h1, h2⟩ := h
    simp only [List.getElem?_cons_succ] at hk
    simp only [List.map_cons, List.getElem?_cons_succ] at hv
    rw [List.nodup_cons] at nd
    have : f ≠ n := fun e => nd.1 (by rw [← e]; exact List.mem_of_getElem? hk)
    rw [List.lookup_cons]
    have e : (f == g) = false := by rw [h1]; exact beq_eq_false_iff_ne.mpr this
    rw [e]
    exact look_fld nd.2 h2 hk hv
theorem RdH.obj {F H : Hp} {W : Wd} {L : Addr → Option Lab} {env : List Slot} {st : Sto} {σ : St} {v : V} {c : Str} {ds : List D} (h : RdH K ct W H v (.obj c ds)) (I : Rel K ct F W L env st σ H) :
    ∃ a C dx fs ns, v = .ref a ∧ H a = some (.ins C dx fs) ∧ ct c = some (C, ns) ∧ fs.map (·.1) = ns.take fs.length ∧ RepL K ct W (fs.map (·.2)) ds := by
  rcases h with h | ⟨a, rfl, cl⟩
  · cases h with
    | obj h1 h2 h3 h4 =>
      have e := h4.length
      rw [List.length_map] at e
      exact ⟨_, _, _, _, _, rfl, (I.hs _ _ h1).1, h2, by rw [e]; exact h3, h4⟩
  · cases cl with
    | obj h1 h2 h3 h4 =>
      have e := h4.length
      rw [List.length_map] at e
      exact ⟨_, _, _, _, _, rfl, h1, h2, by rw [e]; exact h3, h4⟩
end
section
variable {X : Cx} {ct : CT} {x y : Expr} {a b : Sem} {pos p apos : Pos} {c f m : Str} {C : Addr} {ns : List Str} {es : List Expr} {as : SemA}
/-- o.f -/
def fFld (c : Str) (k : Nat) : D → Option R
  | .obj c' ds => if c' = c then ds[k]?.map .sh else none
  | _ => none
theorem fFld_inv {k : Nat} {u : D} {r : R} (h : fFld c k u = some r) : ∃ ds d, u = .obj c ds ∧ ds[k]? = some d ∧ r = .sh d := by
  unfold fFld at h
  split at h
  · rename_i c' ds
    by_cases ec : c' = c
    · rw [if_pos ec] at h
      obtain ⟨d, h1, h2⟩ := map2 h
      exact ⟨ds, d, by rw [ec], h1, h2.symm⟩
    · rw [if_neg ec] at h; cases h
  · cases h
theorem se_fld (k : Nat) (o : Own X.K ct c C ns) (ha : SE X ct x a) (hk : ns[k]? = some f := by rfl) (hb : attributeBase x f X.env (eval x X.env) = eval x X.env := by rfl) : SE X ct (.Attribute x f pos) (e1 (fFld c k) a) := by
  refine ⟨pe_mono (pe_fld ha.pe hb) fun σ H Q ⟨F, W, L, env, st, r, st', I, e, kk⟩ => ?_⟩
  obtain ⟨⟨r1, st1⟩, h1, e⟩ := bind2 e
  obtain ⟨r3, h3, e⟩ := map2 e
  cases e
  obtain ⟨ds, d, ed, hd, rfl⟩ := fFld_inv h3
  refine ⟨F, W, L, env, st, r1, st1, I, h1, fun v H1 W1 L1 l1 I1 p1 => ?_⟩
  obtain ⟨W1', m1, J1, q1⟩ := I1.pin p1
  have q1' := J1.look q1
  rw [R.pin_d] at q1'
  have ed : r1.d = .obj c ds := ed
  rw [ed] at q1'
  obtain ⟨a, C', dx, fs, ns', rfl, g, hc, hn, q⟩ := q1'.obj J1
  rw [o.at_] at hc; cases hc
  obtain ⟨v, hv, hr⟩ := q.get hd
  exact ⟨a, C, dx, fs, v, rfl, g, o.cl, o.no f (List.mem_of_getElem? hk), look_fld o.nd hn hk hv, kk v _ _ _ (l1.trans m1) J1 hr⟩
/-- o.m(..), o an object that is shared -/
def eMeth (n : Nat) (c : Str) (m : Fn) (a : Sem) (as : SemA) : Sem := fun env st => (a env st).bind fun p => match p.1.pin with
  | .sh (.obj c' ds) => if c' = c then (as env p.2).bind fun q => (valsR q.1).bind fun es => if es.length + 1 = n then m (.obj c' ds :: es) q.2 else none else none
  | _ => none
/-- a method that may be called -/
structure Mcl (P : Program) (w : World) (K : PySem.W.Frag) (mg : Str → Option Value) (base : Heap) (ct : CT) (C : Addr) (nm : Str) (k : Nat) (ps : List Str) (m : Fn) : Prop where
  ex : ∃ f fd, FnOk P w K mg base CX0 k f fd ps (spD K ct ps.length m) ∧ Meth K C nm f ∧ Binds K fd ps []
end
/-! ### constructors -/
section
variable {K : PySem.W.Frag} {ct : CT}
theorem call_core {F H : Hp} {W : Wd} {L : Addr → Option Lab} {env : List Kn.Slot} {st : Sto} {σ : St} (N : Addr → Bool) (hN : ∀ b, N b = true → L b = none ∧ W.hs b = none ∧ F b = none) (I : Rel K ct F W L env st σ H) :
    ∃ F1 L1, Rel K ct F1 W L1 [] st [] H ∧ (∀ b, N b = true → F1 b = none ∧ L1 b = none) ∧ ∀ r st' v H' W' L', W.le W' → Rel K ct F1 W' L' [] st' [] H' → RepR K ct F1 W' L' H' [] [] v r → ∃ L2, Rel K ct F W' L2 env st' σ H' ∧ RepR K ct F W' L2 H' env σ v r := by
  have nN : ∀ b, (L b ≠ none ∨ W.hs b ≠ none ∨ F b ≠ none) → N b = false := fun b h => by
    cases q : N b with
    | false => rfl
    | true =>
      obtain ⟨h1, h2, h3⟩ := hN b q
      rcases h with h | h | h
      · exact absurd h1 h
      · exact absurd h2 h
      · exact absurd h3 h
  refine ⟨fun b => if N b = true then none else match L b, W.hs b with | some (.ob _), _ => none | _, some _ => none | _, none => H b, fun b => match L b with | some (.ob g) => some (.ob g) | _ => none, ?_, fun b hb => ?_, ?_⟩
  · refine ⟨fun b u e => ?_, fun b u e => ?_, I.tp, fun g κ d e => ?_, I.rh, rfl, fun i s e => by simp at e⟩
    · split at e
      · cases e
      cases hb : L b with
      | none =>
        cases hw : W.hs b with
        | none => simp only [hb, hw] at e; exact ⟨e, rfl, rfl⟩
        | some z => simp only [hb, hw] at e; cases e
      | some l =>
        cases l with
        | slot i =>
          cases hw : W.hs b with
          | none => simp only [hb, hw] at e; exact ⟨e, rfl, rfl⟩
          | some z => simp only [hb, hw] at e; cases e
        | ob g => simp only [hb] at e; cases e
    · obtain ⟨h1, h2⟩ := I.hs b u e
      exact ⟨h1, by simp only [h2]⟩
    · obtain ⟨v, h1, h2⟩ := I.ob g κ d e
      refine ⟨v, h1, ?_⟩
      have q : (fun b => if (match L b with | some (.ob g) => some (Lab.ob g) | _ => none) = some (Lab.ob g) then H b else none) = fun b => if L b = some (.ob g) then H b else none := by
        funext b
        cases hb : L b with
        | none => simp
        | some l => cases l with
          | slot i => simp
          | ob g' => rfl
      rw [q]; exact h2
  · obtain ⟨h1, _, _⟩ := hN b hb
    exact ⟨if_pos hb, by simp only [h1]⟩
  · intro r st' v H' W' L' l I' p
    have own : ∀ b i u, L b = some (.slot i) → H b = some u → H' b = some u ∧ L' b = none ∧ W'.hs b = none := fun b i u hb hu => by
      have hw : W.hs b = none := by
        cases q : W.hs b with
        | none => rfl
        | some z => have := (I.hs b z q).2; rw [hb] at this; cases this
      have hn := nN b (.inl (by rw [hb]; exact fun z => nomatch z))
      exact I'.fr b u (by simp only [hn, hb, hw]; exact hu)
    refine ⟨fun b => match L b, H b with | some (.slot i), some _ => some (.slot i) | _, _ => L' b, ?_, ?_⟩
    · have lab : ∀ b, (∀ i u, ¬ (L b = some (.slot i) ∧ H b = some u)) → (match L b, H b with | some (.slot i), some _ => some (Lab.slot i) | _, _ => L' b) = L' b := fun b z => by
        split
        · rename_i i u h1 h2
          exact absurd ⟨h1, h2⟩ (z i u)
        · rfl
      refine ⟨fun b u e => ?_, fun b u e => ?_, I'.tp, fun g κ d e => ?_, I'.rh, I.len, fun i s e => ?_⟩
      · obtain ⟨h1, h2, h3⟩ := I.fr b u e
        have hn := nN b (.inr (.inr (by rw [e]; exact fun z => nomatch z)))
        obtain ⟨g1, g2, g3⟩ := I'.fr b u (by simp only [hn, h2, h3]; exact h1)
        exact ⟨g1, by simp only [h2]; exact g2, g3⟩
      · obtain ⟨g1, g2⟩ := I'.hs b u e
        refine ⟨g1, ?_⟩
        have z : ∀ i w, ¬ (L b = some (.slot i) ∧ H b = some w) := fun i w ⟨z1, z2⟩ => by
          rw [(own b i w z1 z2).2.2] at e; cases e
        rw [lab b z]; exact g2
      · obtain ⟨w, g1, g2⟩ := I'.ob g κ d e
        refine ⟨w, g1, ?_⟩
        have q : (fun b => if (match L b, H b with | some (.slot i), some _ => some (Lab.slot i) | _, _ => L' b) = some (Lab.ob g) then H' b else none) = fun b => if L' b = some (.ob g) then H' b else none := by
          funext b
          by_cases z : ∃ i u, L b = some (.slot i) ∧ H b = some u
          · obtain ⟨i, u, z1, z2⟩ := z
            simp only [z1, z2, (own b i u z1 z2).2.1]
            simp
          · rw [lab b fun i u q => z ⟨i, u, q⟩]
        rw [q]; exact g2
      · refine (I.sl i s e).mono l fun b u hb hu => ?_
        exact ⟨(own b i u hb hu).1, by simp only [hb, hu]⟩
    · cases r with
      | sh d => exact p
      | ow d =>
        obtain ⟨b, h1, h2, h3, h4, h5⟩ := p
        have hb : ∀ i u, ¬ (L b = some (.slot i) ∧ H b = some u) := fun i u ⟨z1, z2⟩ => by
          have hw : W.hs b = none := by
            cases q : W.hs b with
            | none => rfl
            | some z => have := (I.hs b z q).2; rw [z1] at this; cases this
          have hn := nN b (.inl (by rw [z1]; exact fun z => nomatch z))
          simp only [hn, z1, hw, z2] at h4
          cases h4
        refine ⟨b, h1, ?_, h3, ?_, h5⟩
        · dsimp only
          split
          · rename_i i u z1 z2; exact absurd ⟨z1, z2⟩ (hb i u)
          · exact h2
        · cases q : F b with
          | none => rfl
          | some u =>
            obtain ⟨g1, g2, g3⟩ := I.fr b u q
            have hn := nN b (.inr (.inr (by rw [q]; exact fun z => nomatch z)))
            simp only [hn, g2, g3] at h4
            have h4 : H b = none := h4
            rw [h4] at g1; cases g1
      | bw i d => exact absurd p.1 (by simp)
def spI (K : PySem.W.Frag) (ct : CT) (c : Str) (n : Nat) (m : Fn) : Sp := fun vs H Q _ => ∃ F W L st x args ds r st' C dx ns, vs = V.ref x :: args ∧ Rel K ct F W L [] st [] H ∧ L x = none ∧ W.hs x = none ∧ F x = none ∧ H x = some (.ins C dx []) ∧ ct c = some (C, ns) ∧
  RepL K ct W args ds ∧ ds.length + 1 = n ∧ m ds st = some (r, st') ∧ ∀ H' W' L', W.le W' → Rel K ct F W' L' [] st' [] H' → RepR K ct F W' L' H' [] [] (.ref x) r → Q .non H'
def startI (k : Nat) (c : Str) (ad : Addr) (ds : List D) : List Kn.Slot := (.me ad (.obj c []) :: ds.map .sh) ++ List.replicate (k - (ds.length + 1)) .no
def meOf (env : List Kn.Slot) : Option D := match (env[0]? : Option Kn.Slot) with
  | some (Kn.Slot.me _ d) => some d
  | _ => none
open Classical in
noncomputable def runI (k : Nat) (c : Str) (f : SemS) : Fn := fun ds st => (f (startI k c 0 ds) st).bind fun p => match p.1 with
  | .nx => (meOf p.2.1).bind fun d => if ∀ ad, ∃ env2, f (startI k c ad ds) st = some (.nx, env2, p.2.2) ∧ env2[0]? = some (.me ad d) then some (.ow d, p.2.2) else none
  | _ => none
theorem runI_of {k : Nat} {c : Str} {f : SemS} {ds : List D} {st st' : Sto} {d : D} (h : ∀ ad, ∃ env2, f (startI k c ad ds) st = some (.nx, env2, st') ∧ env2[0]? = some (.me ad d)) : runI k c f ds st = some (.ow d, st') := by
  obtain ⟨env2, h1, h2⟩ := h 0
  have h3 : meOf env2 = some d := by unfold meOf; rw [h2]
  unfold runI
  simp only [h1, Option.bind_some, h3]
  exact if_pos h
theorem runI_inv {k : Nat} {c : Str} {f : SemS} {ds : List D} {st st' : Sto} {r : R} (h : runI k c f ds st = some (r, st')) : ∃ d, r = .ow d ∧ ∀ ad, ∃ env2, f (startI k c ad ds) st = some (.nx, env2, st') ∧ env2[0]? = some (.me ad d) := by
  unfold runI at h
  obtain ⟨⟨o, env', st1⟩, h1, h⟩ := bind2 h
  cases o with
  | nx =>
    obtain ⟨d, h2, h⟩ := bind2 h
    split at h
    · rename_i hh
      cases h
      exact ⟨d, rfl, hh⟩
    · cases h
  | rt r => cases h
  | bk => cases h
  | ct => cases h
theorem fnI_ok {P : Program} {w : World} {mg : Str → Option Value} {base : Heap} {name qual c : Str} {st : Stmt} {f : Addr} {fd : FuncData} {N ps : List Str} {k : Nat} {b : SemS} (F : Fun K name qual st f fd) (S : FnScope N ps (defScope st))
    (hb : ∀ (cdv : Value) (A : Around) (outer : List Env) (s : Shared) (H : Hp) (E : XK), Room k (A.deeper (PyProof.Rows.envOfC qual (defScope st) s.heap.objs.size f cdv)) → SB (cxOf CX0 P w K mg base N qual (defScope st) f cdv A outer s H E).nox ct (defBody st) b) :
    FnOk P w K mg base CX0 (k + 1) f fd ps (spI K ct c ps.length (runI N.length c b)) := by
  refine F.ok S (fun vs H Q E h => ?_) (fun cdv A outer s H vs Q E hr h => ?_)
  · obtain ⟨F, W, L, st, x, args, ds, r, st', C, dx, ns, rfl, I, _, _, _, _, _, q, hl, e, k⟩ := h
    rw [List.length_cons, q.length]; exact hl
  · obtain ⟨F, W, L, st, x, args, ds, r, st', C, dx, ns, rfl, I, xL, xW, xF, xH, xc, q, hl, e, kk⟩ := h
    obtain ⟨d, rfl, hrun⟩ := runI_inv e
    obtain ⟨env2, h1, h2⟩ := hrun x
    refine ⟨_, (hb cdv A outer s H E hr).pss, ?_⟩
    have hpl : ps.length ≤ N.length := by have := congrArg List.length S.pre; rw [List.length_take] at this; omega
    have hq := q.length
    have lab : ∀ b, b ≠ x → (if b = x then some (Lab.slot 0) else L b) = L b := fun b h => if_neg h
    have I0 : Rel K ct F W (fun b => if b = x then some (Lab.slot 0) else L b) (startI N.length c x ds) st (L2.start N (.ref x :: args)) H := by
      refine ⟨fun b u e => ?_, fun b u e => ?_, I.tp, fun g κ z e => ?_, I.rh, ?_, fun i s e => ?_⟩
      · obtain ⟨g1, g2, g3⟩ := I.fr b u e
        exact ⟨g1, (lab b (by rintro rfl; rw [xF] at e; cases e)).trans g2, g3⟩
      · obtain ⟨g1, g2⟩ := I.hs b u e
        exact ⟨g1, (lab b (by rintro rfl; rw [xW] at e; cases e)).trans g2⟩
      · obtain ⟨v, g1, g2⟩ := I.ob g κ z e
        refine ⟨v, g1, ?_⟩
        have q : (fun b => if (if b = x then some (Lab.slot 0) else L b) = some (.ob g) then H b else none) = fun b => if L b = some (.ob g) then H b else none := by
          funext b
          by_cases hb : b = x
          · subst hb; simp [xL]
          · rw [lab b hb]
        rw [q]; exact g2
      · unfold L2.start startI
        simp only [List.length_append, List.length_map, List.length_cons, List.length_replicate, hq]
      · unfold startI at e
        by_cases hi : i < ds.length + 1
        · rw [List.getElem?_append_left (by simpa using hi)] at e
          cases i with
          | zero =>
            cases e
            refine ⟨?_, if_pos rfl, .obj xH xc (by simp) .nil⟩
            unfold L2.start
            rfl
          | succ i =>
            rw [List.getElem?_cons_succ, List.getElem?_map] at e
            obtain ⟨z, hd, rfl⟩ := Option.map_eq_some_iff.mp e
            obtain ⟨v, hv, hr⟩ := q.get hd
            refine ⟨v, ?_, hr⟩
            unfold L2.start
            rw [List.getElem?_append_left (by rw [List.length_map, List.length_cons]; omega), List.getElem?_map, List.getElem?_cons_succ, hv]
            rfl
        · rw [List.getElem?_append_right (by simpa using hi), List.getElem?_replicate] at e
          split at e
          · cases e; trivial
          · cases e
    refine ⟨F, W, _, _, st, .nx, env2, st', I0, h1, ?_⟩
    intro σ' H' W' L' l I'
    obtain ⟨s1, s2, s3⟩ := I'.sl 0 _ h2
    refine kk H' W' (fun b => match L' b with | some (.slot _) => none | z => z) l ?_ ⟨x, rfl, by simp only [s2], ?_, ?_, s3⟩
    · refine ⟨fun b u e => ?_, fun b u e => ?_, I'.tp, fun g κ z e => ?_, I'.rh, rfl, fun i s e => by simp at e⟩
      · obtain ⟨g1, g2, g3⟩ := I'.fr b u e
        exact ⟨g1, by simp only [g2], g3⟩
      · obtain ⟨g1, g2⟩ := I'.hs b u e
        exact ⟨g1, by simp only [g2]⟩
      · obtain ⟨v, g1, g2⟩ := I'.ob g κ z e
        refine ⟨v, g1, ?_⟩
        have q : (fun b => if (match L' b with | some (.slot _) => none | z => z) = some (Lab.ob g) then H' b else none) = fun b => if L' b = some (.ob g) then H' b else none := by
          funext b
          cases hb : L' b with
          | none => rfl
          | some l => cases l with
            | slot i => simp
            | ob g' => rfl
        rw [q]; exact g2
    · cases q : W'.hs x with
      | none => rfl
      | some u => have := (I'.hs x u q).2; rw [s2] at this; cases this
    · exact xF
end
section
variable {X : Cx} {ct : CT} {x y : Expr} {a b : Sem} {pos p apos : Pos} {c f m : Str} {C : Addr} {ns : List Str} {es : List Expr} {as : SemA}
/-- a class that may be called -/
structure Mkr (P : Program) (w : World) (K : PySem.W.Frag) (mg : Str → Option Value) (base : Heap) (ct : CT) (c : Str) (C : Addr) (nm : Str) (k : Nat) (ps : List Str) (m : Fn) : Prop where
  ex : ∃ f fd, FnOk P w K mg base CX0 k f fd ps (spI K ct c ps.length m) ∧ Mk K C f ∧ Binds K fd ps [] ∧ mg nm = some (.ref C)
def eMake (n : Nat) (m : Fn) (as : SemA) : Sem := fun env st => (as env st).bind fun p => (valsR p.1).bind fun ds => if ds.length + 1 = n then m ds p.2 else none
theorem tE_make {n : Nat} {mf : Fn} {E : XK} {σ : St} {H : Hp} {Q : VK} {K : PySem.W.Frag} (o : Own K ct c C ns) (h : tE K ct (eMake n mf as) σ H Q) : tMake C (spI K ct c n mf) [] E (tA K ct as) σ H Q := by
  obtain ⟨F, W, L, env, st, r, st', I, e, kk⟩ := h
  obtain ⟨⟨rs, st1⟩, h1, e⟩ := bind2 e
  obtain ⟨ds, h2, e⟩ := bind2 e
  have hl : ds.length + 1 = n ∧ mf ds st1 = some (r, st') := by
    dsimp only at e
    split at e
    · exact ⟨by assumption, e⟩
    · cases e
  refine ⟨F, W, L, env, st, rs, st1, I, h1, fun vs H1 W1 L1 l1 I1 qs x dx nx ndx nex => ?_⟩
  obtain ⟨J1, _, _, _⟩ := I1.laid (o := .own x) ndx
  have nx2 : (upd H1 dx (.own x)) x = none := by rw [upd_ne (Ne.symm nex)]; exact nx
  obtain ⟨J2, x1, x2, x3⟩ := J1.laid (o := .ins C dx []) nx2
  obtain ⟨F1, L1', R1, fr, back⟩ := call_core (fun b => decide (b = x)) (fun b hb => by
    have : b = x := of_decide_eq_true hb
    subst this; exact ⟨x1, x2, x3⟩) J2
  obtain ⟨y1, y2⟩ := fr x (decide_eq_true rfl)
  refine ⟨F1, W1, L1', st1, x, vs ++ [], ds, r, st', C, dx, ns, rfl, R1, y2, x2, y1, upd_same, o.at_, ?_, hl.1, hl.2, fun H' W' L' l I' p => ⟨rfl, ?_⟩⟩
  · rw [List.append_nil]; exact qs.vals h2
  · obtain ⟨L2, K1, K2⟩ := back r st' (.ref x) H' W' L' l I' p
    exact kk _ _ _ _ (l1.trans l) K1 K2
theorem se_make (n : Nat) {k : Nat} {ps : List Str} {mf : Fn} {nm : Str} (o : Own X.K ct c C ns) (M : Mkr X.prog X.w X.K X.mg X.base ct c C nm k ps mf) (hr : Room (k + 1) X.A) (has : SA X ct (y :: es) as) (hn : ps.length = n := by rfl) (hg : Gl X nm := by rfl)
    (hdb : (nm == ("__debug__" : Str)) = false := by decide) (he : starEach (y :: es) X.env = (false, eval y X.env) :: starEach es X.env := by rfl) (hpl : (backTo pos (starEach es X.env)).any (·.1) = false := by rfl) :
    SE X ct (.Call (.Name nm p) (y :: es) [] pos) (eMake n mf as) := by
  subst hn
  obtain ⟨g, fd, G, hM, hb, hm⟩ := M.ex
  exact ⟨pe_mono (pe_make hM G hr hg hm hb .nil pass0 has.pa hdb he hpl) fun _ _ _ h => tE_make o h⟩
end
/-! ### a field of one's own self -/
section
variable {X : Cx} {ct : CT} {x y : Expr} {a b : Sem} {pos p apos npos : Pos} {c f m n : Str} {C : Addr} {ns : List Str}
theorem Rel.updMe {K : PySem.W.Frag} {F H : Hp} {W : Wd} {L : Addr → Option Lab} {env : List Kn.Slot} {st : Sto} {σ : St} {ad : Addr} {o : HO} (I : Rel K ct F W L env st σ H) {i : Nat} (hs : σ[i]? = some (some (.ref ad))) (hl : L ad = some (.slot i)) (hn : ∀ xs, H ad ≠ some (.tup xs)) {d' : Kn.D} (c' : Cell K ct W (upd H ad o) ad d') :
    Rel K ct F W L (env.set i (.me ad d')) st σ (upd H ad o) := by
  have J := I.updOw' hs hl hn c'
  refine ⟨J.fr, J.hs, J.tp, J.ob, J.rh, by rw [List.length_set]; exact I.len, fun j s e => ?_⟩
  rcases getset e with ⟨rfl, rfl, hi⟩ | ⟨hj, e⟩
  · exact ⟨hs, hl, c'⟩
  · exact J.sl j s (by rw [List.getElem?_set_ne (Ne.symm hj)]; exact e)
def sFldM (i : Nat) (c : Str) (k : Nat) (a : Sem) : SemS := fun env st => (a env st).bind fun p => match p.1.pin, (env[i]? : Option Kn.Slot) with
  | .sh d, some (.me ad (.obj c' ds)) => if c' = c ∧ k = ds.length then some (.nx, env.set i (.me ad (.obj c' (ds ++ [d]))), p.2) else none
  | _, _ => none
theorem putF_new (f : Str) (v : V) : ∀ fs : List (Str × V), f ∉ fs.map (·.1) → putF f v fs = fs ++ [(f, v)]
  | [], _ => rfl
  | (g, u) :: fs, h => by
    rw [putF, if_neg (fun e => h (by rw [← e]; simp)), putF_new f v fs fun z => h (by rw [List.map_cons]; exact List.mem_cons_of_mem _ z)]
    rfl
theorem ss_fldM (i k : Nat) (o : Own X.K ct c C ns) (ha : SE X ct x a) (hk : ns[k]? = some f := by rfl) (hz : ns.length < 1000 := by decide)
    (hN : X.N[i]? = some n := by rfl) (hv : Vis X.env.scope n := by first | exact Or.inl rfl | exact Or.inr (Or.inl rfl) | exact Or.inr (Or.inr rfl)) (hd : (n == ("__debug__" : Str)) = false := by decide) (hcd : (n == ("__classdict__" : Str)) = false := by decide)
    (hs : swapsWith x (some (.Attribute (.Name n npos) f apos)) pos.line X.env = pure false := by rfl) : SS X ct (.Assign [.Attribute (.Name n npos) f apos] x pos) (sFldM i c k a) := by
  have hvr : PE X (.Name n npos) (tVar i) := pe_var hN hv hd hcd
  refine ⟨ps_mono (ps_fld hvr ha.pe hs) fun D σ H ⟨F, W, L, env, st, oo, env', st', I, e, kk⟩ => ?_⟩
  obtain ⟨⟨r1, st1⟩, h1, e⟩ := bind2 e
  obtain ⟨d, ad, ds, hr1, hc, hlen, rfl, rfl, rfl⟩ : ∃ d ad ds, r1.pin = .sh d ∧ env[i]? = some (.me ad (.obj c ds)) ∧ k = ds.length ∧ oo = .nx ∧ env' = env.set i (.me ad (.obj c (ds ++ [d]))) ∧ st' = st1 := by
    clear kk h1
    dsimp only at e
    split at e
    · rename_i d ad c' ds e1 e2
      by_cases hh : c' = c ∧ k = ds.length
      · rw [if_pos hh] at e
        obtain ⟨hc', h2⟩ := hh
        injection e with e
        injection e with z1 e
        injection e with z2 z3
        exact ⟨d, ad, ds, e1, by rw [e2, hc'], h2, z1.symm, by rw [← z2, hc'], z3.symm⟩
      · rw [if_neg hh] at e; cases e
    · cases e
  refine ⟨F, W, L, env, st, r1, _, I, h1, fun v H1 W1 L1 l1 I1 p1 => ?_⟩
  obtain ⟨W1', m1, J1, q1⟩ := I1.pin p1
  rw [hr1] at q1
  have q1 : Rep X.K ct W1' v d := q1
  obtain ⟨s1, s2, cl⟩ := J1.sl i _ hc
  refine ⟨_, s1, ?_⟩
  cases cl with
  | obj g hcc hn q =>
    rename_i C' dx fs ns'
    rw [o.at_] at hcc; cases hcc
    have hfl : fs.length = ds.length := by have := q.length; rw [List.length_map] at this; exact this
    have hkn : k < ns.length := (List.getElem?_eq_some_iff.mp hk).1
    have fresh : f ∉ fs.map (·.1) := fun z => by
      rw [hn] at z
      obtain ⟨j, hj, ej⟩ := List.getElem_of_mem z
      rw [List.length_take] at hj
      rw [List.getElem_take] at ej
      have h3 : ns[j]? = some f := by rw [List.getElem?_eq_getElem (by omega), ej]
      have := (List.getElem?_inj (by omega) o.nd).mp (h3.trans hk.symm)
      omega
    refine ⟨ad, C, dx, fs, rfl, g, o.cl, o.no f (List.mem_of_getElem? hk), by omega, ?_⟩
    rw [putF_new f v fs fresh]
    refine kk _ _ _ _ (l1.trans m1) (J1.updMe s1 s2 (fun xs z => by rw [g] at z; cases z) (.obj upd_same o.at_ ?_ ?_))
    · rw [List.map_append, hn, List.length_append, List.length_singleton, ← hlen, List.take_succ, hk]; rfl
    · rw [List.map_append]
      exact q.append (.cons q1 .nil)
end
end Kn
namespace Kn
open PySem L2
/-! ### lists of lists of one's own -/
section
variable {K : PySem.W.Frag} {ct : CT} {F H H' : Hp} {W W' : Wd} {L L' : Addr → Option Lab} {env : List Kn.Slot} {st : Sto} {σ : St} {l : Lab}
theorem Rows.at : ∀ {ws : List V} {dss : List (List D)} {j : Nat} {ds : List D}, Rows K ct W H L l ws dss → dss[j]? = some ds → ∃ a vs, ws[j]? = some (.ref a) ∧ H a = some (.lst vs) ∧ L a = some l ∧ RepL K ct W vs ds
  | _, _, 0, _, .cons h1 h2 h3 _ _, e => by cases e; exact ⟨_, _, rfl, h1, h2, h3⟩
  | _, _, j + 1, _, .cons _ _ _ _ r, e => by
    obtain ⟨a, vs, g1, g2⟩ := r.at (j := j) e
    exact ⟨a, vs, g1, g2⟩
theorem Rows.length : ∀ {ws : List V} {dss : List (List D)}, Rows K ct W H L l ws dss → ws.length = dss.length
  | _, _, .nil => rfl
  | _, _, .cons _ _ _ _ r => by rw [List.length_cons, List.length_cons, r.length]
theorem Rows.lab : ∀ {ws : List V} {dss : List (List D)}, Rows K ct W H L l ws dss → ∀ a, V.ref a ∈ ws → L a = some l ∧ ∃ vs, H a = some (.lst vs)
  | _, _, .cons h1 h2 _ _ r, a, h => by
    rcases List.mem_cons.mp h with h | h
    · cases h; exact ⟨h2, _, h1⟩
    · exact r.lab a h
theorem Rows.off : ∀ {ws : List V} {dss : List (List D)} {a : Addr} {o : HO}, Rows K ct W H L l ws dss → V.ref a ∉ ws → Rows K ct W (L2.upd H a o) L l ws dss
  | _, _, _, _, .nil, _ => .nil
  | _, _, a, o, .cons (a := a') g1 g2 g3 g4 r, n => by
    have ne : a' ≠ a := fun z => n (by rw [z]; exact List.mem_cons_self)
    exact .cons (by rw [upd_ne ne]; exact g1) g2 g3 g4 (r.off fun z => n (List.mem_cons_of_mem _ z))
/-- one row is another one -/
theorem Rows.upd : ∀ {ws : List V} {dss : List (List D)} {j : Nat} {a : Addr} {vs : List V} {ds : List D}, Rows K ct W H L l ws dss → ws[j]? = some (.ref a) → RepL K ct W vs ds → Rows K ct W (L2.upd H a (.lst vs)) L l ws (dss.set j ds)
  | _, _, 0, a, vs, ds, .cons (a := a') g1 g2 g3 g4 r, e, q => by
    cases e
    exact .cons upd_same g2 q g4 (r.off g4)
  | _, _, j + 1, a, vs, ds, .cons (a := a') (ws := ws) g1 g2 g3 g4 r, e, q => by
    have e : ws[j]? = some (V.ref a) := e
    have hm := List.mem_of_getElem? e
    have ne : a' ≠ a := fun z => g4 (by rw [z]; exact hm)
    exact .cons (by rw [upd_ne ne]; exact g1) g2 g3 g4 (r.upd (j := j) e q)
/-- a new thing is labelled as a slot's -/
theorem Rel.lab {a : Addr} (I : Rel K ct F W L env st σ H) (i : Nat) (hl : L a = none) (hw : W.hs a = none) (hf : F a = none) : Rel K ct F W (fun b => if b = a then some (.slot i) else L b) env st σ H := by
  have lab : ∀ b, b ≠ a → (if b = a then some (Lab.slot i) else L b) = L b := fun b h => if_neg h
  refine ⟨fun b u e => ?_, fun b u e => ?_, I.tp, fun g κ x e => ?_, I.rh, I.len, fun j s e => (I.sl j s e).mono (.refl W) fun b u hb hu => ⟨hu, ?_⟩⟩
  · have nb : b ≠ a := by rintro rfl; rw [hf] at e; cases e
    obtain ⟨h1, h2, h3⟩ := I.fr b u e
    exact ⟨h1, (lab b nb).trans h2, h3⟩
  · have nb : b ≠ a := by rintro rfl; rw [hw] at e; cases e
    obtain ⟨h1, h2⟩ := I.hs b u e
    exact ⟨h1, (lab b nb).trans h2⟩
  · obtain ⟨v, h1, h2⟩ := I.ob g κ x e
    refine ⟨v, h1, ?_⟩
    have q : (fun b => if (if b = a then some (Lab.slot i) else L b) = some (.ob g) then H b else none) = fun b => if L b = some (.ob g) then H b else none := by
      funext b
      by_cases hb : b = a
      · subst hb; simp [hl]
      · rw [lab b hb]
    rw [q]; exact h2
  · exact (lab b (by rintro rfl; rw [hl] at hb; cases hb)).trans hb
/-- a slot is emptied, its labels taken away -/
theorem Rel.clear (I : Rel K ct F W L env st σ H) (i : Nat) : Rel K ct F W (fun b => if L b = some (.slot i) then none else L b) (env.set i .no) st σ H := by
  refine ⟨fun b u e => ?_, fun b u e => ?_, I.tp, fun g κ x e => ?_, I.rh, by rw [List.length_set]; exact I.len, fun j s e => ?_⟩
  · obtain ⟨h1, h2, h3⟩ := I.fr b u e
    exact ⟨h1, by simp [h2], h3⟩
  · obtain ⟨h1, h2⟩ := I.hs b u e
    exact ⟨h1, by simp [h2]⟩
  · obtain ⟨v, h1, h2⟩ := I.ob g κ x e
    refine ⟨v, h1, ?_⟩
    have q : (fun b => if (if L b = some (Lab.slot i) then none else L b) = some (.ob g) then H b else none) = fun b => if L b = some (.ob g) then H b else none := by
      funext b
      by_cases hb : L b = some (.slot i)
      · simp [hb]
      · simp [hb]
    rw [q]; exact h2
  · rcases getset e with ⟨rfl, rfl, hi⟩ | ⟨hj, e⟩
    · trivial
    · refine (I.sl j s e).mono (.refl W) fun b u hb hu => ⟨hu, ?_⟩
      have : ¬ L b = some (.slot i) := fun z => by rw [hb] at z; cases z; exact hj rfl
      rw [if_neg this]; exact hb
theorem Rel.shareRows : ∀ {ws : List V} {dss : List (List D)} {W : Wd}, Rel K ct F W L env st σ H → (∀ (j : Nat) (a : Addr), ws[j]? = some (V.ref a) → L a = none ∧ F a = none) → (∀ (j : Nat) (ds : List D), dss[j]? = some ds → ∃ a vs, ws[j]? = some (.ref a) ∧ H a = some (.lst vs) ∧ RepL K ct W vs ds) → ws.length = dss.length →
    ∃ W', W.le W' ∧ Rel K ct F W' L env st σ H ∧ RepL K ct W' ws (dss.map .lst)
  | [], [], W, I, _, _, _ => ⟨W, .refl W, I, .nil⟩
  | w :: ws, ds :: dss, W, I, h1, h2, hl => by
    obtain ⟨a, vs, e1, e2, e3⟩ := h2 0 ds rfl
    cases e1
    obtain ⟨g1, g2⟩ := h1 0 a rfl
    have le := I.le_add e2
    have J := I.share e2 g1 g2
    obtain ⟨W', l', I', r⟩ := Rel.shareRows (ws := ws) (dss := dss) J (fun j b e => h1 (j + 1) b e) (fun j ds e => by
      obtain ⟨b, vs, z1, z2, z3⟩ := h2 (j + 1) ds e
      exact ⟨b, vs, z1, z2, z3.mono le⟩) (by simpa using hl)
    exact ⟨W', le.trans l', I', .cons (Rep.lst (l'.1 _ _ (show (W.add a _).hs a = some _ from upd_same)) (e3.mono (le.trans l'))) r⟩
theorem Rel.freeze2 (I : Rel K ct F W L env st σ H) {i : Nat} {dss : List (List D)} (he : env[i]? = some (.o2 dss)) : ∃ W' L', W.le W' ∧ Rel K ct F W' L' (env.set i (.sh (.lst (dss.map .lst)))) st σ H := by
  obtain ⟨a, ws, h1, h2, h3, h4, rows⟩ := I.sl i _ he
  have J := I.clear i
  have fre : ∀ b, L b = some (.slot i) → F b = none := fun b hb => by
    cases q : F b with
    | none => rfl
    | some u => have := (I.fr b u q).2.1; rw [hb] at this; cases this
  obtain ⟨W1, l1, J1, r1⟩ := Rel.shareRows (ws := ws) (dss := dss) J (fun j b e => by
    obtain ⟨g1, _⟩ := rows.lab b (List.mem_of_getElem? e)
    exact ⟨if_pos g1, fre b g1⟩) (fun j ds e => by
    obtain ⟨b, vs, g1, g2, _, g4⟩ := rows.at e
    exact ⟨b, vs, g1, g2, g4⟩) rows.length
  have le := J1.le_add h3
  have J2 := J1.share h3 (if_pos h2) (fre a h2)
  have rp : Rep K ct (W1.add a (.lst ws)) (.ref a) (.lst (dss.map .lst)) := .lst upd_same (r1.mono le)
  refine ⟨_, _, l1.trans le, J2.fr, J2.hs, J2.tp, J2.ob, J2.rh, ?_, fun j s e => ?_⟩
  · have := J2.len
    rw [List.length_set] at this ⊢; exact this
  · rcases getset e with ⟨rfl, rfl, hi⟩ | ⟨hj, e⟩
    · exact ⟨.ref a, h1, rp⟩
    · exact J2.sl j s (by rw [List.getElem?_set_ne (Ne.symm hj)]; exact e)
end
section
variable {X : Cx} {ct : CT} {x y ix : Expr} {a b : Sem} {f : SemS} {pos p apos npos tpos : Pos} {n : Str} {sx : Stmt}
def sFrz2 (i : Nat) (f : SemS) : SemS := fun env st => match (env[i]? : Option Kn.Slot) with
  | some (.o2 dss) => f (env.set i (.sh (.lst (dss.map .lst)))) st
  | _ => f env st
end
/-! ### rows that stand aside in the frame -/
section
variable {K : PySem.W.Frag} {ct : CT} {F F' H H' : Hp} {W W' : Wd} {L L' : Addr → Option Lab} {env : List Kn.Slot} {st : Sto} {σ σ' : St} {l : Lab}
theorem Rows.move : ∀ {ws : List V} {dss : List (List D)} {l' : Lab}, Rows K ct W H L l ws dss → W.le W' → (∀ a o, V.ref a ∈ ws → H a = some o → H' a = some o ∧ L' a = some l') → Rows K ct W' H' L' l' ws dss
  | _, _, _, .nil, _, _ => .nil
  | _, _, _, .cons g1 g2 g3 g4 r, le, h => .cons (h _ _ List.mem_cons_self g1).1 (h _ _ List.mem_cons_self g1).2 (g3.mono le) g4 (r.move le fun a o ha => h a o (List.mem_cons_of_mem _ ha))
theorem upd_eta {F : Hp} {p : Addr} {o : HO} (h : F p = some o) : F = upd F p o := by
  funext b
  by_cases hb : b = p
  · subst hb; rw [upd_same]; exact h
  · rw [upd_ne hb]
theorem Rel.upd_frame {p : Addr} {o o' : HO} (I : Rel K ct F W L env st σ H) (h : F p = some o) (hn : ∀ xs, o ≠ .tup xs) : Rel K ct (upd F p o') W L env st σ (upd H p o') := by
  refine frame_upd (o := o) hn ?_
  rw [← upd_eta h]; exact I
open Classical in
theorem Rel.take2 {ws : List V} {dss : List (List D)} {i : Nat} {m : Addr} (I : Rel K ct F' W L env st σ H) (hF : ∀ b u, F b = some u → F' b = some u ∧ b ≠ m ∧ V.ref b ∉ ws) (hm : (F' m).isSome = true) (hH : H m = some (.lst ws)) (hr : ∀ b, V.ref b ∈ ws → (F' b).isSome = true)
    (hs : σ'[i]? = some (some (.ref m))) (ho : ∀ j : Nat, j ≠ i → σ'[j]? = σ[j]?) (hl : σ'.length = σ.length) (hn : V.ref m ∉ ws) (rows : Rows K ct W H (fun b => if b = m ∨ V.ref b ∈ ws then some (.slot i) else L b) (.slot i) ws dss) :
    Rel K ct F W (fun b => if b = m ∨ V.ref b ∈ ws then some (.slot i) else L b) (env.set i (.o2 dss)) st σ' H := by
  have inF : ∀ b, (b = m ∨ V.ref b ∈ ws) → L b = none ∧ W.hs b = none := fun b hb => by
    have : (F' b).isSome = true := by
      rcases hb with rfl | hb
      · exact hm
      · exact hr b hb
    obtain ⟨u, hu⟩ := Option.isSome_iff_exists.mp this
    exact ⟨(I.fr b u hu).2.1, (I.fr b u hu).2.2⟩
  have lab : ∀ b, ¬ (b = m ∨ V.ref b ∈ ws) → (if b = m ∨ V.ref b ∈ ws then some (Lab.slot i) else L b) = L b := fun b h => if_neg h
  refine ⟨fun b u e => ?_, fun b u e => ?_, I.tp, fun g κ x e => ?_, I.rh, by rw [List.length_set, hl]; exact I.len, fun j s e => ?_⟩
  · obtain ⟨e', n1, n2⟩ := hF b u e
    obtain ⟨h1, h2, h3⟩ := I.fr b u e'
    exact ⟨h1, (lab b fun z => z.elim n1 n2).trans h2, h3⟩
  · obtain ⟨h1, h2⟩ := I.hs b u e
    refine ⟨h1, (lab b fun z => ?_).trans h2⟩
    have := (inF b z).2
    rw [this] at e; cases e
  · obtain ⟨v, h1, h2⟩ := I.ob g κ x e
    refine ⟨v, h1, ?_⟩
    have q : (fun b => if (if b = m ∨ V.ref b ∈ ws then some (Lab.slot i) else L b) = some (.ob g) then H b else none) = fun b => if L b = some (.ob g) then H b else none := by
      funext b
      by_cases hb : b = m ∨ V.ref b ∈ ws
      · rw [if_pos hb]; simp [(inF b hb).1]
      · rw [lab b hb]
    rw [q]; exact h2
  · rcases getset e with ⟨rfl, rfl, hi⟩ | ⟨hj, e⟩
    · exact ⟨m, ws, hs, if_pos (.inl rfl), hH, hn, rows⟩
    · refine ((I.sl j s e).at' (ho j hj)).mono (.refl W) fun b u hb hu => ⟨hu, ?_⟩
      rw [lab b fun z => by rw [(inF b z).1] at hb; cases hb]; exact hb
open Classical in
/-- the rows stand aside -/
theorem Rel.give2 {ws : List V} {i : Nat} {m : Addr} {dss : List (List D)} (I : Rel K ct F W L env st σ H) (hL : L m = some (.slot i)) (hH : H m = some (.lst ws)) (rows : Rows K ct W H L (.slot i) ws dss) :
    Rel K ct (fun b => if b = m ∨ V.ref b ∈ ws then H b else F b) W (fun b => if L b = some (.slot i) then none else L b) (env.set i .no) st σ H ∧ ∀ b u, F b = some u → b ≠ m ∧ V.ref b ∉ ws := by
  have J := I.clear i
  have inL : ∀ b, (b = m ∨ V.ref b ∈ ws) → L b = some (.slot i) := fun b hb => hb.elim (fun z => by rw [z]; exact hL) fun z => (rows.lab b z).1
  have nF : ∀ b u, F b = some u → ¬ (b = m ∨ V.ref b ∈ ws) := fun b u e z => by
    have := (I.fr b u e).2.1
    rw [inL b z] at this; cases this
  refine ⟨⟨fun b u e => ?_, J.hs, J.tp, J.ob, J.rh, J.len, J.sl⟩, fun b u e => ⟨fun z => nF b u e (.inl z), fun z => nF b u e (.inr z)⟩⟩
  by_cases hb : b = m ∨ V.ref b ∈ ws
  · rw [if_pos hb] at e
    refine ⟨e, if_pos (inL b hb), ?_⟩
    cases q : W.hs b with
    | none => rfl
    | some z => have := (I.hs b z q).2; rw [inL b hb] at this; cases this
  · rw [if_neg hb] at e
    exact J.fr b u e
end
/-! ### x[i].append(v) -/
section
variable {X : Cx} {ct : CT} {x y : Expr} {a b : Sem} {as : SemA} {pos cpos apos npos tpos : Pos} {n : Str}
def app2 (dss : List (List D)) (j : Int) (xs : List D) : Option (List (List D)) := match xs with
  | [d] => (ixN dss.length j).bind fun k => (dss[k]?).bind fun ds => if ds.length < sizeLine then some (dss.set k (ds ++ [d])) else none
  | _ => none
def sApp2 (i : Nat) (b : Sem) (as : SemA) : SemS := fun env st => (b env st).bind fun p => (as (env.set i .no) p.2).bind fun q => (valsR q.1).bind fun xs => match p.1.d, (env[i]? : Option Kn.Slot) with
  | .int j, some (.o2 dss) => (app2 dss j xs).map fun dss' => (.nx, env.set i (.o2 dss'), q.2)
  | _, _ => none
theorem app2_inv {dss dss' : List (List D)} {j : Int} {xs : List D} (h : app2 dss j xs = some dss') : ∃ d k ds, xs = [d] ∧ ixN dss.length j = some k ∧ dss[k]? = some ds ∧ ds.length < sizeLine ∧ dss' = dss.set k (ds ++ [d]) := by
  unfold app2 at h
  split at h
  · rename_i d
    obtain ⟨k, h1, h⟩ := bind2 h
    obtain ⟨ds, h2, h⟩ := bind2 h
    obtain ⟨h3, h4⟩ := ifs h
    exact ⟨d, k, ds, rfl, h1, h2, h3, h4⟩
  · cases h
open Classical in
theorem ss_app2 (i : Nat) (hbx : SE X ct y b) (ha : SA X ct [x] as) (hpx : PlainIx y := by exact fun _ _ => rfl)
    (hN : X.N[i]? = some n := by rfl) (hv : Vis X.env.scope n := by first | exact Or.inl rfl | exact Or.inr (Or.inl rfl) | exact Or.inr (Or.inr rfl)) (hd : (n == ("__debug__" : Str)) = false := by decide) (hcd : (n == ("__classdict__" : Str)) = false := by decide)
    (hbase : attributeBase (.Subscript (.Name n npos) y tpos) "append" X.env (eval (.Subscript (.Name n npos) y tpos) X.env) = eval (.Subscript (.Name n npos) y tpos) X.env := by rfl)
    (hfew : ((backTo cpos (starEach [x] X.env)).all (fun x => !x.1) && (backToKw cpos (keywordEach [] X.env)).all (fun x => x.1.isSome)
      && decide (([x] : List Expr).length + ([] : List Keyword).length + (if ([] : List Keyword).isEmpty then 0 else 1) < 30)) = true := by rfl)
    (hline : (apos.endLine == cpos.line) = true := by rfl) (hs : starEach [x] X.env = (false, eval x X.env) :: starEach [] X.env := by rfl) (hplain : (backTo cpos (starEach [] X.env)).any (·.1) = false := by rfl)
    (hsw : swapsWith (.Call (.Attribute (.Subscript (.Name n npos) y tpos) "append" apos) [x] [] cpos) none pos.line X.env = pure false := by rfl) :
    SS X ct (.Expr (.Call (.Attribute (.Subscript (.Name n npos) y tpos) "append" apos) [x] [] cpos) pos) (sApp2 i b as) := by
  refine ⟨ps_mono (ps_expr (pe_bm PySem.F.plainAttrs_list PySem.F.slot_list_append PySem.F.type_list_append mt_append (pe_ix ix_list (pe_var hN hv hd hcd) hbx.pe hpx) ha.pa hbase hfew hline hs hplain) hsw) fun D σ H ⟨F, W, L, env, st, o, env', st', I, e, kk⟩ => ?_⟩
  obtain ⟨⟨r1, st1⟩, h1, e⟩ := bind2 e
  obtain ⟨⟨rs, st2⟩, h2, e⟩ := bind2 e
  obtain ⟨xs, h3, e⟩ := bind2 e
  obtain ⟨j, dss, dss', hj, hc, hap, rfl, rfl, rfl⟩ : ∃ j dss dss', r1.d = .int j ∧ env[i]? = some (.o2 dss) ∧ app2 dss j xs = some dss' ∧ o = .nx ∧ env' = env.set i (.o2 dss') ∧ st' = st2 := by
    clear kk h1 h2
    dsimp only at e
    split at e
    · rename_i j dss e1 e2
      obtain ⟨dss', h4, e⟩ := map2 e
      injection e with z1 e
      injection e with z2 z3
      exact ⟨j, dss, dss', e1, e2, h4, z1.symm, z2.symm, z3.symm⟩
    · cases e
  obtain ⟨d, k, ds, rfl, hk, hds, hz, rfl⟩ := app2_inv hap
  obtain ⟨l, ws, s1, s2, s3, s4, rows⟩ := I.sl i _ hc
  refine ⟨_, s1, F, W, L, env, st, r1, st1, I, h1, fun v H1 W1 L1 l1 I1 p1 => ?_⟩
  obtain ⟨W1', m1, J1, q1⟩ := I1.pin p1
  have q1' := J1.look q1
  rw [R.pin_d, hj] at q1'
  obtain ⟨l', ws', t1, t2, t3, t4, rows1⟩ := J1.sl i _ hc
  rw [s1] at t1; cases t1
  obtain ⟨ra, vs, g1, g2, g3, g4⟩ := rows1.at hds
  have hat : atI ws' j = some (.ref ra) := by
    unfold atI
    rw [rows1.length, hk]; exact g1
  have ram : V.ref ra ∈ ws' := List.mem_of_getElem? g1
  obtain ⟨G1, G2⟩ := J1.give2 t2 t3 rows1
  refine ⟨l, ws', j, .ref ra, rfl, q1'.int, SqL.of t3, hat, .inl ⟨rfl, _, SqL.of g2⟩, _, W1', _, _, st1, rs, _, G1, h2, fun us H2 W2 L2 l2 I2 qs => ?_⟩
  have inF : ∀ b u, (b = l ∨ V.ref b ∈ ws') → H1 b = some u → H2 b = some u := fun b u hb hu => (I2.fr b u (by rw [if_pos hb]; exact hu)).1
  have hra := inF ra _ (.inr ram) g2
  have qv := qs.vals h3
  cases qv with
  | cons qd qn =>
    cases qn
    rename_i w
    refine ⟨ra, vs, w, rfl, rfl, hra, by rw [g4.length]; exact hz, ?_⟩
    have J3 := I2.upd_frame (p := ra) (o := .lst vs) (o' := .lst (vs ++ [w])) (by rw [if_pos (.inr ram)]; exact g2) (fun _ z => nomatch z)
    have nl : l ≠ ra := fun z => t4 (by rw [z]; exact ram)
    have hi : i < env.length := (List.getElem?_eq_some_iff.mp hc).1
    have rows2 : Rows X.K ct W2 (upd H2 ra (.lst (vs ++ [w]))) (fun b => if b = l ∨ V.ref b ∈ ws' then some (.slot i) else L2 b) (.slot i) ws' (dss.set k (ds ++ [d])) := by
      refine Rows.upd (H := H2) (rows1.move l2 fun b u hb hu => ⟨inF b u (.inr hb) hu, if_pos (.inr hb)⟩) g1 ((g4.mono l2).append (.cons qd .nil))
    have J4 := J3.take2 (F := F) (m := l) (ws := ws') (i := i) (σ' := σ) (dss := dss.set k (ds ++ [d])) (fun b u e => by
        obtain ⟨n1, n2⟩ := G2 b u e
        have : b ≠ ra := fun z => n2 (by rw [z]; exact ram)
        exact ⟨by rw [upd_ne this, if_neg (fun z => z.elim n1 n2)]; exact e, n1, n2⟩)
      (by rw [upd_ne nl, if_pos (.inl rfl), t3]; rfl) (by rw [upd_ne nl]; exact inF l _ (.inl rfl) t3)
      (fun b hb => by
        by_cases z : b = ra
        · rw [z, upd_same]; rfl
        · rw [upd_ne z, if_pos (.inr hb)]
          obtain ⟨_, vs', e⟩ := rows1.lab b hb
          rw [e]; rfl)
      s1 (fun _ _ => rfl) rfl t4 rows2
    rw [List.set_set] at J4
    exact kk _ _ _ _ (l1.trans (m1.trans l2)) J4
end
/-! ### x = [[] for .. in ..] -/
section
variable {X : Cx} {ct : CT} {x : Expr} {pos spos py lp : Pos} {n : Str}
def sEmp (i : Nat) (it : SemI) (vs : List Nat) (g : SemG) : SemS := fun env st => (it env st).bind fun p => if vs.all (fun j => (env[j]?.map Slot.okW).getD true) = true ∧ p.1.all (fun d => (g d (wipeE env vs)).isSome) = true ∧ p.1.length ≤ sizeLine ∧ i < env.length then some (.nx, env.set i (.o2 (List.replicate p.1.length [])), p.2) else none
open Classical in
theorem tSm_emp {K : PySem.W.Frag} {i : Nat} {it : SemI} {vs ts : List Nat} {g : SemG} (hts : ∀ j ∈ ts, j ∈ vs) {D : Ends} {σ : St} {H : Hp} (h : tSm K ct (sEmp i it vs g) D σ H) :
    tAsg (tLc (tI K ct it) (tG K ct ts g) (tT K ct eYes) (fun _ H Q => ∀ l, H l = none → Q (.ref l) (upd H l (.lst []))) vs) (gName i) D σ H := by
  obtain ⟨F, W, L, env, st, o, env', st', I, e, k⟩ := h
  obtain ⟨⟨ds, st1⟩, h1, e⟩ := bind2 e
  have okv : (vs.all (fun j => (env[j]?.map Slot.okW).getD true) = true ∧ ds.all (fun d => (g d (wipeE env vs)).isSome) = true ∧ ds.length ≤ sizeLine ∧ i < env.length) ∧ o = .nx ∧ env' = env.set i (.o2 (List.replicate ds.length [])) ∧ st' = st1 := by
    clear k h1
    dsimp only at e
    split at e
    · rename_i hh
      injection e with e
      injection e with z1 e
      injection e with z2 z3
      exact ⟨hh, z1.symm, z2.symm, z3.symm⟩
    · cases e
  obtain ⟨⟨okv, okg, hz, hie⟩, rfl, rfl, rfl⟩ := okv
  have ok : ∀ j : Nat, j ∈ vs → ∀ s, env[j]? = some s → s.okW = true := fun j hj s e => by
    have := List.all_eq_true.mp okv j hj
    rw [e] at this
    exact this
  refine ⟨F, W, L, env, st, ds, _, I, h1, fun J H1 W1 L1 l1 I1 wk p hp => ?_⟩
  obtain ⟨I2, n1, n2, n3⟩ := I1.laid (o := HO.lst []) hp
  have I3 := frame_add I2 (p := p) (o := HO.lst []) upd_same n1 n2
  refine ⟨fun j m H => m = ds.length - j ∧ j ≤ ds.length ∧ ∃ (Fr : Hp) (W2 : Wd) (L2 : Addr → Option Lab) (as : List Addr), W1.le W2 ∧ Rel K ct Fr W2 L2 env st' σ H ∧ Fr p = some (.lst (as.map V.ref)) ∧ as.Nodup ∧ as.length = j ∧ (∀ b ∈ as, Fr b = some (.lst []) ∧ F b = none ∧ b ≠ p) ∧ (∀ b, b ≠ p → b ∉ as → Fr b = F b),
    ⟨_, rfl, Nat.zero_le _, _, W1, _, [], .refl W1, I3, upd_same, by simp, rfl, by simp, fun b hb _ => upd_ne hb⟩, ?_⟩
  rintro j m H ⟨rfl, hj, Fr, W2, L2, as, l2, I4, fp, nd, al, fa, ff⟩
  have wk2 := wk _ W2 L2 env st' σ H j l2 I4
  have wk3 := wk _ W2 L2 (wipeE env vs) st' (wipe σ vs) H j l2 (I4.wiped vs)
  by_cases hlt : j < ds.length
  · obtain ⟨env3, h3⟩ := Option.isSome_iff_exists.mp (List.all_eq_true.mp okg ds[j] (List.getElem_mem hlt))
    obtain ⟨go, yl⟩ := wk3.1 ds[j] (List.getElem?_eq_getElem hlt)
    refine .inr ⟨go, fun H' => j + 1 ≤ ds.length ∧ ∃ (Fr : Hp) (W2 : Wd) (L2 : Addr → Option Lab) (as : List Addr), W1.le W2 ∧ Rel K ct Fr W2 L2 env st' σ H' ∧ Fr p = some (.lst (as.map V.ref)) ∧ as.Nodup ∧ as.length = j + 1 ∧ (∀ b ∈ as, Fr b = some (.lst []) ∧ F b = none ∧ b ≠ p) ∧ (∀ b, b ≠ p → b ∉ as → Fr b = F b), fun H' q => ⟨_, by omega, rfl, q⟩, fun v H' y => ?_⟩
    obtain ⟨W3, L3, l3, I5, r5⟩ := yl v H' y
    refine ⟨_, W3, L3, wipeE env vs, st', _, env3, I5, r5, h3, fun σ3 o1 o2 I6 => ?_⟩
    have hs : ∀ j : Nat, j ∉ vs → σ3[j]? = (wipe σ vs)[j]? := fun j hj => o1.2 j fun z => hj (hts j z)
    have hs' : ∀ j : Nat, j ∉ vs → σ3[j]? = σ[j]? := fun j hj => (hs j hj).trans (wipe_out hj)
    have he : ∀ j : Nat, j ∉ vs → env3[j]? = env[j]? := fun j hj => (o2.2 j fun z => hj (hts j z)).trans (wipeE_out hj)
    refine ⟨wipe_again (by rw [o1.1, wipe_length]) hs, ?_⟩
    refine ⟨_, W3, L3, env3, st', true, st', I6, rfl, fun H6 W6 L6 l6 I7 => ?_⟩
    refine iteT fun q hq => ?_
    have I9 := Rel.back (vs := vs) I4 (l3.trans l6) I7 hs' he ok
    obtain ⟨J1, z1, z2, z3⟩ := I9.laid (o := HO.lst []) hq
    have J2 := frame_add J1 (p := q) (o := HO.lst []) upd_same z1 z2
    have hHp : H6 p = some (.lst (as.map V.ref)) := (I9.fr p _ fp).1
    have qp : q ≠ p := by rintro rfl; rw [hHp] at hq; cases hq
    have qas : q ∉ as := fun hm => by
      have := (I9.fr q _ (fa q hm).1).1
      rw [hq] at this; cases this
    have Fq : F q = none := by rw [← ff q qp qas]; exact z3
    have J3 := J2.upd_frame (p := p) (o := .lst (as.map V.ref)) (o' := .lst (as.map V.ref ++ [.ref q])) (by rw [upd_ne qp.symm]; exact fp) (fun _ z => nomatch z)
    refine ⟨as.map V.ref, by rw [upd_ne qp.symm]; exact hHp, by rw [List.length_map, al]; omega, hlt, _, W6, _, as ++ [q], l2.trans (l3.trans l6), J3, ?_, ?_, by rw [List.length_append, al]; rfl, ?_, ?_⟩
    · rw [upd_same, List.map_append]; rfl
    · exact List.nodup_append.mpr ⟨nd, by simp, fun a ha b hb z => qas (by rw [List.mem_singleton.mp hb] at z; rw [← z]; exact ha)⟩
    · intro b hb
      rcases List.mem_append.mp hb with hb | hb
      · obtain ⟨g1, g2, g3⟩ := fa b hb
        have : b ≠ q := fun z => qas (by rw [← z]; exact hb)
        exact ⟨by rw [upd_ne g3, upd_ne this]; exact g1, g2, g3⟩
      · rw [List.mem_singleton.mp hb]
        exact ⟨by rw [upd_ne qp, upd_same], Fq, qp⟩
    · intro b hb hn
      have : b ≠ q := fun z => hn (by rw [z]; simp)
      rw [upd_ne hb, upd_ne this]
      exact ff b hb fun z => hn (List.mem_append_left _ z)
  · have ej : j = ds.length := by omega
    subst ej
    refine .inl ⟨wk2.2 (by omega), ?_⟩
    have hHp : H p = some (.lst (as.map V.ref)) := (I4.fr p _ fp).1
    have mem : ∀ b, V.ref b ∈ as.map V.ref ↔ b ∈ as := fun b => ⟨fun h => by
      obtain ⟨c, hc, e⟩ := List.mem_map.mp h
      cases e; exact hc, fun h => List.mem_map.mpr ⟨b, h, rfl⟩⟩
    have rows : ∀ (as' : List Addr), as'.Nodup → (∀ b ∈ as', b ∈ as) → Rows K ct W2 H (fun b => if b = p ∨ V.ref b ∈ as.map V.ref then some (.slot i) else L2 b) (.slot i) (as'.map V.ref) (List.replicate as'.length []) := by
      intro as'
      induction as' with
      | nil => intro _ _; exact .nil
      | cons a as' ih =>
        intro nd' hm
        rw [List.nodup_cons] at nd'
        have ha := hm a List.mem_cons_self
        refine .cons (vs := []) (I4.fr a _ (fa a ha).1).1 (if_pos (.inr ((mem a).mpr ha))) .nil (fun z => ?_) (ih nd'.2 fun b hb => hm b (List.mem_cons_of_mem _ hb))
        obtain ⟨c, hc, e⟩ := List.mem_map.mp z
        cases e; exact nd'.1 hc
    have R := rows as nd fun _ h => h
    rw [al] at R
    have hFp : F p = none := n3
    refine k _ _ _ _ (l1.trans l2) (I4.take2 (F := F) (m := p) (i := i) (σ' := σ.set i (some (.ref p))) (fun b u e => ?_) (by rw [fp]; rfl) hHp (fun b hb => by rw [(fa b ((mem b).mp hb)).1]; rfl) ?_ (fun j hj => List.getElem?_set_ne (Ne.symm hj)) List.length_set (fun z => (fa p ((mem p).mp z)).2.2 rfl) R)
    · have b1 : b ≠ p := by rintro rfl; rw [hFp] at e; cases e
      have b2 : b ∉ as := fun z => by rw [(fa b z).2.1] at e; cases e
      exact ⟨by rw [ff b b1 b2]; exact e, b1, fun z => b2 ((mem b).mp z)⟩
    · rw [List.getElem?_set_self (by rw [I4.len]; exact hie)]
theorem ss_emp (i : Nat) {tg : Expr} {scope : Scope} {own : List (Str × Nat)} {it : SemI} {ts : List Nat} {g : SemG} (hc : X.calm = true) (hN : X.N.Nodup) (hi : SI X ct tg x it) (ok : BlkOk X.N X.env.scope scope own)
    (hg : ∀ (s : Shared) (H : Hp) (C : Addr) (cl : List (Str × Addr)) (fp : List Addr), SG (X.blk s H scope (compEnvC scope cl C X.env) fp) ct tg ts g) (hy : X.N[i]? = some n := by rfl) (hyl : X.env.scope.names.lookup n = some .local := by rfl)
    (hsw : swapsWith (.ListComp (.List [] lp) [⟨tg, x, [], 0⟩] scope pos) (some (.Name n py)) spos.line X.env = pure true := by exact sw_true rfl rfl rfl (by decide +kernel)) (hts : ∀ j ∈ ts, j ∈ own.map (·.2) := by decide) (hs : ∀ z, foldedSetIterable x X.env z = pure z := by intro _; rfl) :
    SS X ct (.Assign [.Name n py] (.ListComp (.List [] lp) [⟨tg, x, [], 0⟩] scope pos) spos) (sEmp i it (own.map (·.2)) g) :=
  ⟨ps_mono (ps_setLc (tt := tT X.K ct eYes) (g := tG X.K ct ts g) hc hN hy hyl hsw hi.pi ok (fun s H C cl fp => (hg s H C cl fp).pg) (fun s H C cl fp => sts_nil.pts) (fun s H C cl fp => pe_mono (pe_lst pa_nil) fun _ _ _ h => ⟨Nat.zero_le _, h⟩) hs) fun D σ H h => tSm_emp hts h⟩
end
/-! ### evaluating -/
section
variable {env : List Kn.Slot} {st : Sto} {a b : Sem} {as : SemA} {f : SemS} {c : Str} {ds : List D} {n k i : Nat} {m : Fn} {it : SemI} {vs : List Nat} {g : SemG} {d : D}
@[simp] theorem x_fld : fFld c k (.obj c ds) = ds[k]?.map .sh := if_pos rfl
@[simp] theorem x_meth : eMeth n c m a as env st = (a env st).bind fun p => match p.1.pin with
  | .sh (.obj c' ds) => if c' = c then (as env p.2).bind fun q => (valsR q.1).bind fun es => if es.length + 1 = n then m (.obj c' ds :: es) q.2 else none else none
  | _ => none := rfl
@[simp] theorem x_make : eMake n m as env st = (as env st).bind fun p => (valsR p.1).bind fun ds => if ds.length + 1 = n then m ds p.2 else none := rfl
@[simp] theorem x_fldM : sFldM i c k a env st = (a env st).bind fun p => match p.1.pin, (env[i]? : Option Kn.Slot) with
  | .sh d, some (.me ad (.obj c' ds)) => if c' = c ∧ k = ds.length then some (.nx, env.set i (.me ad (.obj c' (ds ++ [d]))), p.2) else none
  | _, _ => none := rfl
@[simp] theorem x_frz2 : sFrz2 i f env st = match (env[i]? : Option Kn.Slot) with
  | some (.o2 dss) => f (env.set i (.sh (.lst (dss.map .lst)))) st
  | _ => f env st := rfl
@[simp] theorem x_app2 : sApp2 i b as env st = (b env st).bind fun p => (as (env.set i .no) p.2).bind fun q => (valsR q.1).bind fun xs => match p.1.d, (env[i]? : Option Kn.Slot) with
  | .int j, some (.o2 dss) => (app2 dss j xs).map fun dss' => (.nx, env.set i (.o2 dss'), q.2)
  | _, _ => none := rfl
@[simp] theorem x_emp : sEmp i it vs g env st = (it env st).bind fun p => if vs.all (fun j => (env[j]?.map Slot.okW).getD true) = true ∧ p.1.all (fun d => (g d (wipeE env vs)).isSome) = true ∧ p.1.length ≤ sizeLine ∧ i < env.length then some (.nx, env.set i (.o2 (List.replicate p.1.length [])), p.2) else none := rfl
end
theorem gMul_b {i j : Int} (h1 : i.natAbs < 2 ^ 300) (h2 : j.natAbs < 2 ^ 300) : gMul i j = some (i * j) := by
  have : 2 ^ 300 ≤ 2 ^ 400000 := Nat.pow_le_pow_right (by decide) (by decide)
  refine gMul_of ?_ ?_
  · exact Nat.lt_of_lt_of_le h1 this
  · exact Nat.lt_of_lt_of_le h2 this
theorem gDiv_b {i j : Int} (h : 0 < j) (h2 : j < 2 ^ 60) : gDiv i j = some (i / j) := by
  refine gDiv_of h ?_
  have e : (2 : Int) ^ 8000 = ((2 ^ 8000 : Nat) : Int) := (Int.natCast_pow 2 8000).symm
  have : 2 ^ 60 ≤ 2 ^ 8000 := Nat.pow_le_pow_right (by decide) (by decide)
  rw [e]
  generalize 2 ^ 8000 = z at this
  omega
end Kn
namespace Kn
open PySem L2
/-! ### t < u for tuples: the first place that differs decides, what stands behind it may be anything -/
section
open PySem.SeqAt PySem.Spec PyProof.Rows
open MeetsSeq MeetsSeq2 MeetsSeq3 SeqRoads2
end
section
open PySem.Spec PyProof.Rows
end
section
variable {X : Cx} {ct : CT} {x y : Expr} {a b : Sem} {pos : Pos}
def ltD : List D → List D → Option Bool
  | .int i :: xs, .int j :: ys => if i = j then ltD xs ys else some (decide (i < j))
  | [], [] => some false
  | [], _ :: _ => some true
  | _ :: _, [] => some false
  | _, _ => none
def fLtX : D → D → Option R
  | .int i, .int j => some (.sh (.bl (decide (i < j))))
  | .tup ds, .tup es => (ltD ds es).map fun k => .sh (.bl k)
  | _, _ => none
@[simp] theorem x_ltX1 {i j : Int} : fLtX (.int i) (.int j) = some (.sh (.bl (decide (i < j)))) := rfl
@[simp] theorem x_ltX2 {ds es : List D} : fLtX (.tup ds) (.tup es) = (ltD ds es).map fun k => .sh (.bl k) := rfl
end
end Kn
namespace Kn
open PySem L2
/-! ### typed readings of the functions -/
class En (α : Type) where
  en : α → D
open En
structure Scr where
  l : List Int
structure Tp1 (α : Type) where
  x0 : α
  deriving DecidableEq
structure Tp2 (α β : Type) where
  x0 : α
  x1 : β
  deriving DecidableEq
structure Tp3 (α β γ : Type) where
  x0 : α
  x1 : β
  x2 : γ
  deriving DecidableEq
structure Tp4 (α β γ δ : Type) where
  x0 : α
  x1 : β
  x2 : γ
  x3 : δ
  deriving DecidableEq
structure Tp5 (α β γ δ ε : Type) where
  x0 : α
  x1 : β
  x2 : γ
  x3 : δ
  x4 : ε
  deriving DecidableEq
structure Hl2 (α β : Type) where
  x0 : α
  x1 : β
  deriving DecidableEq
structure Hl3 (α β γ : Type) where
  x0 : α
  x1 : β
  x2 : γ
  deriving DecidableEq
section
variable {α β γ δ ε : Type} [En α] [En β] [En γ] [En δ] [En ε]
instance : En Int := ⟨.int⟩
instance : En Bool := ⟨.bl⟩
instance : En Unit := ⟨fun _ => .non⟩
instance : En Str := ⟨.str⟩
instance : En Scr := ⟨fun s => .scr s.l⟩
instance : En (List α) := ⟨fun l => .lst (l.map en)⟩
instance : En (Option α) := ⟨fun o => match o with | none => .non | some a => en a⟩
instance : En (Tp1 α) := ⟨fun p => .tup [en p.x0]⟩
instance : En (Tp2 α β) := ⟨fun p => .tup [en p.x0, en p.x1]⟩
instance : En (Tp3 α β γ) := ⟨fun p => .tup [en p.x0, en p.x1, en p.x2]⟩
instance : En (Tp4 α β γ δ) := ⟨fun p => .tup [en p.x0, en p.x1, en p.x2, en p.x3]⟩
instance : En (Tp5 α β γ δ ε) := ⟨fun p => .tup [en p.x0, en p.x1, en p.x2, en p.x3, en p.x4]⟩
instance : En (Hl2 α β) := ⟨fun p => .lst [en p.x0, en p.x1]⟩
instance : En (Hl3 α β γ) := ⟨fun p => .lst [en p.x0, en p.x1, en p.x2]⟩
/-- shared, one's own, a name's own -/
inductive Kx where
  | sh | ow | bw (i : Nat) | oo
def Kx.r : Kx → D → R
  | .sh, d => .sh d
  | .ow, d => .ow d
  | .bw i, d => .bw i d
  | .oo, .non => .sh .non
  | .oo, d => .ow d
def Kx.ok : Kx → Bool
  | .bw _ => false
  | .oo => false
  | _ => true
def Kx.slot : Kx → D → Kn.Slot
  | .ow, d => .ow d
  | _, d => .sh d
def Kx.out : Kx → Kx
  | .bw _ => .ow
  | k => k
theorem Kx.rd (k : Kx) (d : D) : (k.r d).d = d := by cases k <;> first | rfl | (cases d <;> rfl)
theorem Kx.outR (k : Kx) (d : D) : (k.r d).outR = k.out.r d := by cases k <;> first | rfl | (cases d <;> rfl)
theorem Kx.pin {k : Kx} (h : k.ok = true) (d : D) : (k.r d).pin = .sh d := by cases k <;> first | rfl | cases h
theorem Kx.sh? {k : Kx} (h : k.ok = true) (d : D) : (k.r d).sh? = some d := by cases k <;> first | rfl | cases h
def Ev (k : Kx) (e : Sem) (env : List Kn.Slot) (st : Sto) (t : Option α) : Prop := e env st = t.map fun a => (k.r (en a), st)
variable {k k1 k2 k3 : Kx} {env env' : List Kn.Slot} {st : Sto} {e a b c : Sem} {i j n : Nat} {x x' : α} {y y' : β} {z : γ} {tx : Option α} {ty : Option β} {tz : Option γ} {as : SemA} {ds : List D}
theorem ev_var (h : env[i]? = some (.sh (en x))) : Ev .sh (eVar i) env st (some x) := by
  show (match env[i]? with | some (.sh d) => some (Kn.R.sh d, st) | some (.ow d) => some (.bw i d, st) | _ => none) = _
  rw [h]; rfl
theorem ev_varo (h : env[i]? = some (.ow (en x))) : Ev (.bw i) (eVar i) env st (some x) := by
  show (match env[i]? with | some (.sh d) => some (Kn.R.sh d, st) | some (.ow d) => some (.bw i d, st) | _ => none) = _
  rw [h]; rfl
theorem ev_int (i : Int) : Ev .sh (eC (.int i)) env st (some i) := rfl
theorem ev_bl (i : Bool) : Ev .sh (eC (.bl i)) env st (some i) := rfl
def Op1 (k : Kx) (f : D → Option R) (F : α → Option β) : Prop := ∀ x, f (en x) = (F x).map fun c => k.r (en c)
def Op2 (k : Kx) (f : D → D → Option R) (F : α → β → Option γ) : Prop := ∀ x y, f (en x) (en y) = (F x y).map fun c => k.r (en c)
section
variable {f : D → Option R} {F : α → Option β} {g : D → D → Option R} {G : α → β → Option γ}
theorem ev_1p (h : Op1 k f F) (ha : Ev k1 a env st (some x)) : Ev k (e1 f a) env st (F x) := by
  unfold Ev at ha ⊢
  show ((a env st).bind fun p => (f p.1.d).map fun r => (r, p.2)) = _
  rw [ha]
  show ((f (k1.r (en x)).d).map fun r => (r, st)) = _
  rw [Kx.rd, h x, Option.map_map]; rfl
theorem ev_1x (h : Op1 k f F) (ha : Ev k1 a env st tx) : Ev k (e1 f a) env st (tx.bind F) := by
  cases tx with
  | none =>
    unfold Ev at ha ⊢
    show ((a env st).bind fun p => (f p.1.d).map fun r => (r, p.2)) = _
    rw [ha]; rfl
  | some x => exact ev_1p (F := F) h ha
theorem ev_2pp (h : Op2 k g G) (ha : Ev k1 a env st (some x)) (hb : Ev k2 b env st (some y)) : Ev k (e2 g a b) env st (G x y) := by
  unfold Ev at ha hb ⊢
  show ((a env st).bind fun p => (b env p.2).bind fun q => (g p.1.d q.1.d).map fun r => (r, q.2)) = _
  rw [ha]
  show ((b env st).bind fun q => (g (k1.r (en x)).d q.1.d).map fun r => (r, q.2)) = _
  rw [hb]
  show ((g (k1.r (en x)).d (k2.r (en y)).d).map fun r => (r, st)) = _
  rw [Kx.rd, Kx.rd, h x y, Option.map_map]; rfl
theorem ev_2xx (h : Op2 k g G) (ha : Ev k1 a env st tx) (hb : Ev k2 b env st ty) : Ev k (e2 g a b) env st (tx.bind fun x => ty.bind fun y => G x y) := by
  cases tx with
  | none =>
    unfold Ev at ha ⊢
    show ((a env st).bind fun p => (b env p.2).bind fun q => (g p.1.d q.1.d).map fun r => (r, q.2)) = _
    rw [ha]; rfl
  | some x =>
    cases ty with
    | none =>
      unfold Ev at ha hb ⊢
      show ((a env st).bind fun p => (b env p.2).bind fun q => (g p.1.d q.1.d).map fun r => (r, q.2)) = _
      rw [ha]
      show ((b env st).bind fun q => (g (k1.r (en x)).d q.1.d).map fun r => (r, q.2)) = _
      rw [hb]; rfl
    | some y => exact ev_2pp (G := G) h ha hb
theorem ev_2px (h : Op2 k g G) (ha : Ev k1 a env st (some x)) (hb : Ev k2 b env st ty) : Ev k (e2 g a b) env st (ty.bind fun y => G x y) := ev_2xx h ha hb
theorem ev_2xp (h : Op2 k g G) (ha : Ev k1 a env st tx) (hb : Ev k2 b env st (some y)) : Ev k (e2 g a b) env st (tx.bind fun x => G x y) := ev_2xx h ha hb
end
/-! tests -/
variable {p q : Bool} {tp tq : Option Bool}
theorem ev_notp (ha : Ev .sh a env st (some p)) : Ev .sh (eNot a) env st (some (!p)) := by
  unfold Ev at ha ⊢; unfold eNot; rw [ha]; rfl
theorem ev_andxx (ha : Ev .sh a env st tp) (hb : Ev .sh b env st tq) : Ev .sh (eAnd a b) env st (tp.bind fun p => if p = true then tq else some false) := by
  unfold Ev at ha hb ⊢; unfold eAnd; rw [ha]
  cases tp with
  | none => rfl
  | some p => cases p with
    | true => exact hb
    | false => rfl
theorem ev_andpp (ha : Ev .sh a env st (some p)) (hb : Ev .sh b env st (some q)) : Ev .sh (eAnd a b) env st (some (p && q)) := by
  have := ev_andxx ha hb
  cases p <;> exact this
theorem ev_orxx (ha : Ev .sh a env st tp) (hb : Ev .sh b env st tq) : Ev .sh (eOr a b) env st (tp.bind fun p => if p = true then some true else tq) := by
  unfold Ev at ha hb ⊢; unfold eOr; rw [ha]
  cases tp with
  | none => rfl
  | some p => cases p with
    | false => exact hb
    | true => rfl
theorem ev_orpp (ha : Ev .sh a env st (some p)) (hb : Ev .sh b env st (some q)) : Ev .sh (eOr a b) env st (some (p || q)) := by
  have := ev_orxx ha hb
  cases p <;> exact this
/-- a chain i <= j <= k of tests -/
theorem ev_chain {f g : D → D → Option R} {F : α → β → Option Bool} {G : β → γ → Option Bool} (hf : Op2 .sh f F) (hg : Op2 .sh g G) (ha : Ev k1 a env st (some x)) (hb : Ev k2 b env st (some y)) (hc : Ev k3 c env st (some z)) : Ev .sh (eChain f g a b c) env st ((F x y).bind fun p => if p = true then G y z else some false) := by
  unfold Ev at ha hb hc ⊢
  rw [x_chain, ha]
  show ((b env st).bind fun q => (f (k1.r (en x)).d q.1.d).bind fun r => match r with
    | .sh (.bl true) => (c env q.2).bind fun u => (g q.1.d u.1.d).map fun r => (r, u.2)
    | .sh (.bl false) => some (.sh (.bl false), q.2)
    | _ => none) = _
  rw [hb]
  show ((f (k1.r (en x)).d (k2.r (en y)).d).bind fun r => match r with
    | .sh (.bl true) => (c env st).bind fun u => (g (k2.r (en y)).d u.1.d).map fun r => (r, u.2)
    | .sh (.bl false) => some (.sh (.bl false), st)
    | _ => none) = _
  rw [Kx.rd, Kx.rd, hf x y]
  cases F x y with
  | none => rfl
  | some p => cases p with
    | false => rfl
    | true =>
      show ((c env st).bind fun u => (g (en y) u.1.d).map fun r => (r, u.2)) = _
      rw [hc]
      show ((g (en y) (k3.r (en z)).d).map fun r => (r, st)) = _
      rw [Kx.rd, hg y z, Option.map_map]; rfl
theorem ev_chainpp {f g : D → D → Option R} {F : α → β → Bool} {G : β → γ → Bool} (hf : Op2 .sh f fun x y => some (F x y)) (hg : Op2 .sh g fun x y => some (G x y)) (ha : Ev k1 a env st (some x)) (hb : Ev k2 b env st (some y)) (hc : Ev k3 c env st (some z)) : Ev .sh (eChain f g a b c) env st (some (F x y && G y z)) := by
  have := ev_chain hf hg ha hb hc
  cases h : F x y
  · rw [h] at this; exact this
  · rw [h] at this; exact this
/-! arguments -/
def EvAp (as : SemA) (env : List Kn.Slot) (st : Sto) (ds : List D) : Prop := as env st = some (ds.map .sh, st)
def EvA {μ : Type} (as : SemA) (env : List Kn.Slot) (st : Sto) (t : Option μ) (dec : μ → List D) : Prop := as env st = t.map fun b => ((dec b).map .sh, st)
theorem ea_nil : EvAp aNil env st [] := rfl
theorem ea_p (ha : Ev k a env st (some x)) (hk : k.ok = true) (h : EvAp as env st ds) : EvAp (aCons a as) env st (en x :: ds) := by
  unfold Ev at ha; unfold EvAp at h ⊢; unfold aCons
  rw [ha]
  show ((as env st).map fun q => ((k.r (en x)).pin :: q.1, q.2)) = _
  rw [h, Kx.pin hk]; rfl
theorem ea_xp (ha : Ev k a env st tx) (hk : k.ok = true) (h : EvAp as env st ds) : EvA (aCons a as) env st tx fun x => en x :: ds := by
  cases tx with
  | none => unfold Ev at ha; unfold EvA aCons; rw [ha]; rfl
  | some x => exact ea_p ha hk h
section
variable {μ : Type} {t : Option μ} {dec : μ → List D}
theorem ea_px (ha : Ev k a env st (some x)) (hk : k.ok = true) (h : EvA as env st t dec) : EvA (aCons a as) env st t fun b => en x :: dec b := by
  unfold Ev at ha; unfold EvA at h ⊢; unfold aCons
  rw [ha]
  show ((as env st).map fun q => ((k.r (en x)).pin :: q.1, q.2)) = _
  rw [h, Kx.pin hk]; cases t <;> rfl
theorem ea_xx (ha : Ev k a env st tx) (hk : k.ok = true) (h : EvA as env st t dec) : EvA (aCons a as) env st (tx.bind fun x => t.bind fun b => some (x, b)) fun p => en p.1 :: dec p.2 := by
  cases tx with
  | none => unfold Ev at ha; unfold EvA aCons; rw [ha]; rfl
  | some x =>
    have := ea_px ha hk h
    unfold EvA at this ⊢
    rw [this]; cases t <;> rfl
theorem vals_sh : ∀ ds : List D, valsR (ds.map .sh) = some ds
  | [] => rfl
  | d :: ds => by rw [List.map_cons, x_v1, vals_sh ds]; rfl
theorem ev_callp {m : Fn} (ha : EvAp as env st ds) (h : m ds st = tz.map fun r => (k.r (en r), st)) (hl : ds.length = n) : Ev k (eCall n m as) env st tz := by
  unfold EvAp at ha; unfold Ev eCall
  rw [ha]
  show ((valsR (ds.map .sh)).bind fun ds => if ds.length = n then m ds st else none) = _
  rw [vals_sh]
  show (if ds.length = n then m ds st else none) = _
  rw [if_pos hl, h]
theorem ev_makep {m : Fn} (ha : EvAp as env st ds) (h : m ds st = tz.map fun r => (k.r (en r), st)) (hl : ds.length + 1 = n) : Ev k (eMake n m as) env st tz := by
  unfold EvAp at ha; unfold Ev eMake
  rw [ha]
  show ((valsR (ds.map .sh)).bind fun ds => if ds.length + 1 = n then m ds st else none) = _
  rw [vals_sh]
  show (if ds.length + 1 = n then m ds st else none) = _
  rw [if_pos hl, h]
theorem ev_tupp {p : γ} (ha : EvAp as env st ds) (hp : en p = .tup ds) (hl : ds.length ≤ 1000) : Ev .sh (eTup as) env st (some p) := by
  unfold EvAp at ha; unfold Ev eTup
  rw [ha]
  show ((valsR (ds.map .sh)).bind fun ds => if ds.length ≤ sizeLine then some (Kn.R.sh (.tup ds), st) else none) = _
  rw [vals_sh]
  show (if ds.length ≤ sizeLine then some (Kn.R.sh (.tup ds), st) else none) = _
  rw [if_pos (x_sz hl), ← hp]; rfl
theorem ev_tupx {F : μ → γ} (ha : EvA as env st t dec) (hp : ∀ b, en (F b) = .tup (dec b)) (hl : ∀ b, (dec b).length ≤ 1000) : Ev .sh (eTup as) env st (t.bind fun b => some (F b)) := by
  cases t with
  | none => unfold EvA at ha; unfold Ev eTup; rw [ha]; rfl
  | some b => exact ev_tupp (ds := dec b) ha (hp b) (hl b)
theorem ev_lstp {p : γ} (ha : EvAp as env st ds) (hp : en p = .lst ds) (hl : ds.length ≤ 1000) : Ev .ow (eLst as) env st (some p) := by
  unfold EvAp at ha; unfold Ev eLst
  rw [ha]
  show ((valsR (ds.map .sh)).bind fun ds => if ds.length ≤ sizeLine then some (Kn.R.ow (.lst ds), st) else none) = _
  rw [vals_sh]
  show (if ds.length ≤ sizeLine then some (Kn.R.ow (.lst ds), st) else none) = _
  rw [if_pos (x_sz hl), ← hp]; rfl
theorem ev_lstx {F : μ → γ} (ha : EvA as env st t dec) (hp : ∀ b, en (F b) = .lst (dec b)) (hl : ∀ b, (dec b).length ≤ 1000) : Ev .ow (eLst as) env st (t.bind fun b => some (F b)) := by
  cases t with
  | none => unfold EvA at ha; unfold Ev eLst; rw [ha]; rfl
  | some b => exact ev_lstp (ds := dec b) ha (hp b) (hl b)
end
end
section
/-! calls by what is a name's own -/
class EnH (α : Type) [En α] : Prop where
  nh : ∀ a : α, (En.en a).nh = true
open En
variable {α β γ δ ε : Type} [En α] [En β] [En γ] [En δ] [En ε]
instance : EnH Int := ⟨fun _ => rfl⟩
instance : EnH Bool := ⟨fun _ => rfl⟩
instance : EnH Unit := ⟨fun _ => rfl⟩
instance : EnH Str := ⟨fun _ => rfl⟩
instance : EnH Scr := ⟨fun _ => rfl⟩
instance [EnH α] : EnH (List α) := ⟨fun l => by
  show D.nhL (l.map en) = true
  exact nhL_all fun d hd => by obtain ⟨a, _, rfl⟩ := List.mem_map.mp hd; exact EnH.nh a⟩
instance [EnH α] : EnH (Option α) := ⟨fun o => by cases o with | none => rfl | some a => exact EnH.nh a⟩
instance [EnH α] : EnH (Tp1 α) := ⟨fun p => by show D.nhL [_] = true; simp only [D.nhL, EnH.nh, Bool.and_self]⟩
instance [EnH α] [EnH β] : EnH (Tp2 α β) := ⟨fun p => by show D.nhL [_, _] = true; simp only [D.nhL, EnH.nh, Bool.and_self]⟩
instance [EnH α] [EnH β] [EnH γ] : EnH (Tp3 α β γ) := ⟨fun p => by show D.nhL [_, _, _] = true; simp only [D.nhL, EnH.nh, Bool.and_self]⟩
instance [EnH α] [EnH β] [EnH γ] [EnH δ] : EnH (Tp4 α β γ δ) := ⟨fun p => by show D.nhL [_, _, _, _] = true; simp only [D.nhL, EnH.nh, Bool.and_self]⟩
instance [EnH α] [EnH β] [EnH γ] [EnH δ] [EnH ε] : EnH (Tp5 α β γ δ ε) := ⟨fun p => by show D.nhL [_, _, _, _, _] = true; simp only [D.nhL, EnH.nh, Bool.and_self]⟩
instance [EnH α] [EnH β] : EnH (Hl2 α β) := ⟨fun p => by show D.nhL [_, _] = true; simp only [D.nhL, EnH.nh, Bool.and_self]⟩
class EnI (α : Type) [En α] : Prop where
  imm : ∀ a : α, (En.en a).imm = true
instance : EnI Int := ⟨fun _ => rfl⟩
instance : EnI Bool := ⟨fun _ => rfl⟩
instance : EnI Unit := ⟨fun _ => rfl⟩
instance : EnI Str := ⟨fun _ => rfl⟩
instance [EnI α] : EnI (Option α) := ⟨fun o => by cases o with | none => rfl | some a => exact EnI.imm a⟩
instance [EnI α] [EnI β] : EnI (Tp2 α β) := ⟨fun p => by show D.immL [_, _] = true; simp only [D.immL, EnI.imm, Bool.and_self]⟩
instance [EnI α] [EnI β] [EnI γ] : EnI (Tp3 α β γ) := ⟨fun p => by show D.immL [_, _, _] = true; simp only [D.immL, EnI.imm, Bool.and_self]⟩
instance [EnI α] [EnI β] [EnI γ] [EnI δ] : EnI (Tp4 α β γ δ) := ⟨fun p => by show D.immL [_, _, _, _] = true; simp only [D.immL, EnI.imm, Bool.and_self]⟩
variable {k k1 k2 k3 : Kx} {env env' : List Kn.Slot} {st : Sto} {a : Sem} {i j n : Nat} {x : α} {tz : Option γ} {as : SemA} {ds : List D}
end
end Kn
namespace Kn
open PySem L2
/-! ### typed readings: iterations, statements -/
open En
section
variable {α β γ δ σ ρ : Type} [En α] [En β] [En γ]
variable {k k1 k2 k3 : Kx} {env env' : List Kn.Slot} {st : Sto} {e a b c : Sem} {i j n : Nat} {x x' : α} {y : β} {tx : Option α} {ty : Option β} {as : SemA} {ds : List D}
def szG (l : List α) : Option (List α) := if l.length ≤ sizeLine then some l else none
theorem szG_of {l : List α} (h : l.length ≤ 1000) : szG l = some l := if_pos (x_sz h)
/-! comprehensions -/
def EvI (it : SemI) (env : List Kn.Slot) (st : Sto) (t : Option (List α)) : Prop := it env st = t.map fun l => (l.map en, st)
def lcT (c : α → Option Bool) (f : α → Option β) : List α → Option (List β)
  | [] => some []
  | x :: xs => (c x).bind fun b => if b = true then (f x).bind fun y => (lcT c f xs).bind fun l => some (y :: l) else lcT c f xs
theorem lcT_ev {g : SemG} {vs : List Nat} {tc : α → Option Bool} {ta : α → Option β} {en1 : α → List Kn.Slot} (hk : k.ok = true) (hg : ∀ x : α, g (en x) (wipeE env vs) = some (en1 x)) (hc : ∀ x, Ev .sh c (en1 x) st (tc x)) (ha : ∀ x, Ev k a (en1 x) st (ta x)) : ∀ l : List α,
    lcL g c a vs env (l.map en) st = (lcT tc ta l).map fun r => (r.map en, st)
  | [] => rfl
  | x :: xs => by
    have ih := lcT_ev hk hg hc ha xs
    have h1 := hc x
    have h2 := ha x
    unfold Ev at h1 h2
    rw [List.map_cons, lcL, hg x, lcT]
    show ((c (en1 x) st).bind _) = _
    rw [h1]
    cases tc x with
    | none => rfl
    | some p =>
      cases p with
      | false => exact ih
      | true =>
        show ((a (en1 x) st).bind _) = _
        rw [h2]
        cases hx : ta x with
        | none => rfl
        | some y =>
          show ((k.r (en y)).sh?.bind _) = _
          rw [Kx.sh? hk]
          show (lcL g c a vs env (xs.map en) st).map _ = _
          rw [ih]
          cases hl : lcT tc ta xs with
          | none => simp [hl]
          | some l => simp [hl]
theorem ev_lcx {it : SemI} {g : SemG} {vs : List Nat} {t : Option (List α)} {tc : α → Option Bool} {ta : α → Option β} {en1 : α → List Kn.Slot} (hi : EvI it env st t) (hv : vs.all (fun j => (env[j]?.map Slot.okW).getD true) = true) (hg : ∀ x : α, g (en x) (wipeE env vs) = some (en1 x)) (hc : ∀ x, Ev .sh c (en1 x) st (tc x)) (ha : ∀ x, Ev k a (en1 x) st (ta x)) (hk : k.ok = true) :
    Ev .ow (eLc it vs g c a) env st (t.bind fun l => (lcT tc ta l).bind szG) := by
  unfold EvI at hi; unfold Ev
  rw [x_lc, hi]
  cases t with
  | none => rfl
  | some l =>
    show (if vs.all (fun j => (env[j]?.map Slot.okW).getD true) = true then (lcL g c a vs env (l.map en) st).bind fun q => if q.1.length ≤ sizeLine then some (Kn.R.ow (.lst q.1), q.2) else none else none) = _
    rw [if_pos hv, lcT_ev hk hg hc ha l]
    show _ = ((lcT tc ta l).bind szG).map _
    cases lcT tc ta l with
    | none => rfl
    | some r =>
      show (if (r.map en).length ≤ sizeLine then some (Kn.R.ow (.lst (r.map en)), st) else none) = (szG r).map _
      unfold szG
      rw [List.length_map]
      split <;> rfl
theorem lcT_fil {C : α → Bool} {F : α → β} : ∀ l : List α, lcT (fun x => some (C x)) (fun x => some (F x)) l = some ((l.filter C).map F)
  | [] => rfl
  | x :: xs => by
    rw [lcT, lcT_fil xs]
    cases h : C x
    · rw [List.filter_cons_of_neg (by simp [h])]; rfl
    · rw [List.filter_cons_of_pos h]; rfl
theorem ev_yes : Ev .sh eYes env st (some true) := rfl
theorem ev_lcf {it : SemI} {g : SemG} {vs : List Nat} {t : Option (List α)} {C : α → Bool} {F : α → β} {en1 : α → List Kn.Slot} (hi : EvI it env st t) (hv : vs.all (fun j => (env[j]?.map Slot.okW).getD true) = true) (hg : ∀ x : α, g (en x) (wipeE env vs) = some (en1 x)) (hc : ∀ x, Ev .sh c (en1 x) st (some (C x))) (ha : ∀ x, Ev k a (en1 x) st (some (F x))) (hk : k.ok = true) :
    Ev .ow (eLc it vs g c a) env st (t.bind fun l => szG ((l.filter C).map F)) := by
  have := ev_lcx hi hv hg hc ha hk
  simp only [lcT_fil, Option.bind_some] at this
  exact this
/-! what is gone through -/
class EnS (τ : Type) [En τ] (α : outParam Type) [En α] where
  items : τ → List α
  seq : ∀ t : τ, (en t).seq = some ((items t).map en)
instance : EnS (List α) α := ⟨id, fun _ => rfl⟩
instance : EnS Scr Int := ⟨Scr.l, fun _ => rfl⟩
instance : EnS (Tp2 α α) α := ⟨fun p => [p.x0, p.x1], fun _ => rfl⟩
instance : EnS (Tp3 α α α) α := ⟨fun p => [p.x0, p.x1, p.x2], fun _ => rfl⟩
theorem ei_seqp {τ : Type} [En τ] [EnS τ α] {v : τ} (ha : Ev k a env st (some v)) (hk : k.ok = true) : EvI (iSeq a) env st (some (EnS.items v)) := by
  unfold Ev at ha; unfold EvI
  rw [x_iseq, ha]
  show ((k.r (en v)).sh?.bind fun d => d.seq.map fun ds => (ds, st)) = _
  rw [Kx.sh? hk]
  show ((en v).seq.map fun ds => (ds, st)) = _
  rw [EnS.seq v]; rfl
theorem ei_lstp {v : List α} (ha : Ev k a env st (some v)) (hk : k.ok = true) : EvI (iSeq a) env st (some v) := ei_seqp ha hk
theorem ei_lstx {t : Option (List α)} (ha : Ev k a env st t) (hk : k.ok = true) : EvI (iSeq a) env st t := by
  cases t with
  | none => unfold Ev at ha; unfold EvI; rw [x_iseq, ha]; rfl
  | some v => exact ei_lstp ha hk
def rngI (lo : Int) (n : Nat) : List Int := (List.range n).map fun (k : Nat) => lo + (k : Int)
theorem rngD_en (lo : Int) (n : Nat) : rngD lo n = (rngI lo n).map en := by unfold rngD rngI; rw [List.map_map]; rfl
open Classical in
noncomputable def rngG (i j : Int) : Option (List Int) := if Rg i ∧ Rg j then some (rngI i (j - i).toNat) else none
theorem rg0 : Rg 0 := .of (by decide)
theorem rngG_of {i j : Int} (h : i.natAbs ≤ 1000000) (h2 : j.natAbs ≤ 1000000) : rngG i j = some (rngI i (j - i).toNat) := by
  unfold rngG
  rw [if_pos]
  exact ⟨.of (by omega), .of (by omega)⟩
theorem ei_rng1p {v : Int} (ha : Ev k a env st (some v)) : EvI (iRng1' a) env st (rngG 0 v) := by
  unfold Ev at ha; unfold EvI
  rw [x_rng1, ha]
  show (match (k.r (.int v)).d with | .int j => if Rg j then some (rngD 0 j.toNat, st) else none | _ => none) = _
  rw [Kx.rd]
  show (if Rg v then some (rngD 0 v.toNat, st) else none) = _
  unfold rngG
  by_cases h : Rg v
  · rw [if_pos h, if_pos ⟨rg0, h⟩, rngD_en, Int.sub_zero]; rfl
  · rw [if_neg h, if_neg fun z => h z.2]; rfl
def enumT : Int → List α → List (Tp2 Int α)
  | _, [] => []
  | i, x :: xs => ⟨i, x⟩ :: enumT (i + 1) xs
theorem enumF_en : ∀ (n : Nat) (l : List α), enumF n (l.map en) = (enumT (n : Int) l).map en
  | _, [] => rfl
  | n, x :: xs => by
    have := enumF_en (n + 1) xs
    rw [List.map_cons, enumF, this, enumT, List.map_cons]
    rfl
theorem ei_enum {t : Option (List α)} (ha : Ev k a env st t) (hk : k.ok = true) : EvI (iEnum' a) env st (t.bind fun l => some (enumT 0 l)) := by
  unfold Ev at ha; unfold EvI
  rw [x_enum, ha]
  cases t with
  | none => rfl
  | some l =>
    show ((k.r (.lst (l.map en))).sh?.bind fun d => d.seqL.map fun ds => (enumF 0 ds, st)) = _
    rw [Kx.sh? hk]
    show some (enumF 0 (l.map en), st) = _
    rw [enumF_en 0 l]; rfl
theorem ei_enump {l : List α} (ha : Ev k a env st (some l)) (hk : k.ok = true) : EvI (iEnum' a) env st (some (enumT 0 l)) := ei_enum ha hk
/-! statements -/
inductive Ct (ρ σ : Type) where
  | nx (s : σ) | rt (r : ρ)
def Ct.go {ρ σ τ : Type} (c : Ct ρ σ) (f : σ → Option τ) (g : ρ → Option τ) : Option τ := match c with
  | .nx s => f s
  | .rt r => g r
abbrev Outs := Out × List Kn.Slot × Sto
def nrm (fn : Bool) : Outs → Outs
  | (.rt r, _, st) => (.rt r.outR, [], st)
  | (.nx, env, st) => if fn = true then (.rt (.sh .non), [], st) else (.nx, env, st)
  | q => q
def Ru {τ : Type} (fn : Bool) (enc : τ → Outs) (f : SemS) (env : List Kn.Slot) (st : Sto) (t : Option τ) : Prop := (f env st).map (nrm fn) = t.map enc
variable {τ : Type} {fn : Bool} {enc : τ → Outs} {f g h s1 : SemS} {t t1 t2 : Option τ} {z : τ}
theorem ru_of {t' : Option τ} (h : Ru fn enc f env st t') (e : t = t') : Ru fn enc f env st t := by rw [e]; exact h
theorem ru_nil (h : nrm fn (.nx, env, st) = enc z) : Ru fn enc sNil env st (some z) := by
  show some (nrm fn (.nx, env, st)) = some (enc z)
  rw [h]
theorem ru_id (h : Ru fn enc g env st t) : Ru fn enc (sSeq sNil g) env st t := h
theorem seq_assoc (f g h : SemS) : sSeq (sSeq f g) h = sSeq f (sSeq g h) := by
  funext env st
  unfold sSeq
  cases f env st with
  | none => rfl
  | some p =>
    obtain ⟨o, e', st'⟩ := p
    cases o <;> rfl
theorem ru_as (k : Ru fn enc (sSeq f (sSeq g h)) env st t) : Ru fn enc (sSeq (sSeq f g) h) env st t := by rw [seq_assoc]; exact k
theorem ru_setp (ha : Ev k a env st (some x)) (hk : k.ok = true) (hr : Ru fn enc g (env.set i (k.slot (en x))) st t) : Ru fn enc (sSeq (sSet i a) g) env st t := by
  unfold Ev at ha; unfold Ru at hr ⊢
  have : sSeq (sSet i a) g env st = g (env.set i (k.slot (en x))) st := by
    rw [x_seq, x_set, ha]
    cases k <;> first | rfl | cases hk
  rw [this]; exact hr
theorem ru_setx {T : α → Option τ} (ha : Ev k a env st tx) (hk : k.ok = true) (hr : ∀ x, Ru fn enc g (env.set i (k.slot (en x))) st (T x)) : Ru fn enc (sSeq (sSet i a) g) env st (tx.bind T) := by
  cases tx with
  | none => unfold Ev at ha; unfold Ru; rw [x_seq, x_set, ha]; rfl
  | some x => exact ru_setp ha hk (hr x)
theorem ru_exx {T : α → Option τ} (ha : Ev k a env st tx) (hr : ∀ x, Ru fn enc g env st (T x)) : Ru fn enc (sSeq (sEx a) g) env st (tx.bind T) := by
  cases tx with
  | none => unfold Ev at ha; unfold Ru; rw [x_seq, x_ex, ha]; rfl
  | some x =>
    unfold Ev at ha
    have hr := hr x
    unfold Ru at hr ⊢
    have : sSeq (sEx a) g env st = g env st := by rw [x_seq, x_ex, ha]; rfl
    rw [this]; exact hr
theorem ru_asgp {o : SemG} {env1 : List Kn.Slot} (ha : Ev k a env st (some x)) (hk : k.ok = true) (ho : o (en x) env = some env1) (hr : Ru fn enc g env1 st t) : Ru fn enc (sSeq (sAsg a o) g) env st t := by
  unfold Ev at ha; unfold Ru at hr ⊢
  have : sSeq (sAsg a o) g env st = g env1 st := by
    rw [x_seq, x_asg, ha]
    show ((match (k.r (en x)).pin with | .sh d => (o d env).map fun env' => (Out.nx, env', st) | _ => none).bind _) = _
    rw [Kx.pin hk]
    show (((o (en x) env).map fun env' => (Out.nx, env', st)).bind _) = _
    rw [ho]; rfl
  rw [this]; exact hr
theorem ru_asgx {o : SemG} {env1 : α → List Kn.Slot} {T : α → Option τ} (ha : Ev k a env st tx) (hk : k.ok = true) (ho : ∀ x, o (en x) env = some (env1 x)) (hr : ∀ x, Ru fn enc g (env1 x) st (T x)) : Ru fn enc (sSeq (sAsg a o) g) env st (tx.bind T) := by
  cases tx with
  | none => unfold Ev at ha; unfold Ru; rw [x_seq, x_asg, ha]; rfl
  | some x => exact ru_asgp ha hk (ho x) (hr x)
theorem ru_augp {v w : Int} (hv : env[i]? = some (.sh (en v))) (ha : Ev k a env st (some w)) (hr : Ru fn enc g (env.set i (.sh (en (v + w)))) st t) : Ru fn enc (sSeq (sAug i (fI fun i j => some (i + j)) a) g) env st t := by
  unfold Ev at ha; unfold Ru at hr ⊢
  have : sSeq (sAug i (fI fun i j => some (i + j)) a) g env st = g (env.set i (.sh (en (v + w)))) st := by
    rw [x_seq, x_aug, hv]
    show (((a env st).bind _).bind _) = _
    rw [ha]
    show (((fI (fun i j => some (i + j)) (.int v) (k.r (.int w)).d).bind _).bind _) = _
    rw [Kx.rd]; rfl
  rw [this]; exact hr
theorem ru_retp (ha : Ev k a env st (some x)) (he : enc z = (.rt (k.out.r (en x)), [], st)) : Ru fn enc (sSeq (sRet a) g) env st (some z) := by
  unfold Ev at ha; unfold Ru
  rw [x_seq, x_ret, ha]
  show some (nrm fn (.rt (k.r (en x)), env, st)) = some (enc z)
  rw [he]
  show some (Out.rt (k.r (en x)).outR, [], st) = _
  rw [Kx.outR]
theorem ru_retx {F : α → τ} (ha : Ev k a env st tx) (he : ∀ x, enc (F x) = (.rt (k.out.r (en x)), [], st)) : Ru fn enc (sSeq (sRet a) g) env st (tx.bind fun x => some (F x)) := by
  cases tx with
  | none => unfold Ev at ha; unfold Ru; rw [x_seq, x_ret, ha]; rfl
  | some x => exact ru_retp ha (he x)
theorem ru_never : Ru fn enc (sSeq sNever g) env st none := rfl
theorem ru_ifx {c : Sem} {tp : Option Bool} {T1 T2 : Option τ} (hc : Ev .sh c env st tp) (h1 : Ru fn enc (sSeq f h) env st T1) (h2 : Ru fn enc (sSeq g h) env st T2) : Ru fn enc (sSeq (sIf c f g) h) env st (tp.bind fun p => if p = true then T1 else T2) := by
  unfold Ev at hc; unfold Ru at h1 h2 ⊢
  rw [x_seq, x_if, hc]
  cases tp with
  | none => rfl
  | some p => cases p with
    | true => exact h1
    | false => exact h2
theorem ru_ifp {c : Sem} {p : Bool} {T1 T2 : Option τ} (hc : Ev .sh c env st (some p)) (h1 : Ru fn enc (sSeq f h) env st T1) (h2 : Ru fn enc (sSeq g h) env st T2) : Ru fn enc (sSeq (sIf c f g) h) env st (if p = true then T1 else T2) := ru_ifx hc h1 h2
/-- a statement that goes on with a state -/
def Rn {σ : Type} (E : σ → List Kn.Slot) (f : SemS) (env : List Kn.Slot) (st : Sto) (t : Option σ) : Prop := f env st = t.map fun s => (.nx, E s, st)
theorem rn_of {E : σ → List Kn.Slot} {t : Option σ} (h : Ru false (fun s => (.nx, E s, st)) (sSeq f sNil) env st t) : Rn E f env st t := by
  unfold Ru at h; unfold Rn
  rw [x_seq] at h
  cases hf : f env st with
  | none =>
    rw [hf] at h
    cases t with
    | none => rfl
    | some s => cases h
  | some p =>
    rw [hf] at h
    obtain ⟨o, e', st'⟩ := p
    cases t with
    | none => cases o <;> cases h
    | some s =>
      cases o with
      | nx => exact h
      | rt r => cases h
      | bk => cases h
      | ct => cases h
theorem ru_join {E : σ → List Kn.Slot} {t1 : Option σ} {T : σ → Option τ} (h1 : Rn E f env st t1) (h2 : ∀ s, Ru fn enc g (E s) st (T s)) : Ru fn enc (sSeq f g) env st (t1.bind T) := by
  unfold Rn at h1
  cases t1 with
  | none => unfold Ru; rw [x_seq, h1]; rfl
  | some s =>
    have h2 := h2 s
    unfold Ru at h2 ⊢
    have : sSeq f g env st = g (E s) st := by rw [x_seq, h1]; rfl
    rw [this]; exact h2
end
end Kn
namespace Kn
open PySem L2
/-! ### typed readings: loops, what is forgotten, what is changed -/
open En
section
variable {X : Cx} {ct : CT} {sxs : List Stmt} {f : SemS}
/-- names forgotten ahead of the rest -/
def sKl (js : List Nat) (f : SemS) : SemS := fun env st => f (wipeE env js) st
theorem Rel.wipe {K : PySem.W.Frag} {F H : Hp} {W : Wd} {L : Addr → Option Lab} {st : Sto} {σ : St} : ∀ {js : List Nat} {env : List Kn.Slot}, Rel K ct F W L env st σ H → Rel K ct F W L (wipeE env js) st σ H
  | [], _, I => I
  | j :: js, env, I => by
    have J := Rel.wipe (js := js) I
    refine ⟨J.fr, J.hs, J.tp, J.ob, J.rh, by rw [x_wipe1, List.length_set]; exact J.len, fun i s e => ?_⟩
    rw [x_wipe1] at e
    by_cases h : j = i
    · subst h
      rw [List.getElem?_set] at e
      simp only [if_true] at e
      split at e
      · cases e; trivial
      · cases e
    · rw [List.getElem?_set_ne h] at e
      exact J.sl i s e
theorem sb_kl (js : List Nat) (h : SB X ct sxs f) : SB X ct sxs (sKl js f) := by
  refine ⟨pss_mono h.pss fun D σ H ⟨F, W, L, env, st, o, env', st', I, e, k⟩ => ?_⟩
  exact ⟨F, W, L, _, st, o, env', st', I.wipe, e, k⟩
theorem sb_frz (i : Nat) (h : SB X ct sxs f) : SB X ct sxs (sFrz i f) := by
  refine ⟨pss_mono h.pss fun D σ H ⟨F, W, L, env, st, o, env', st', I, e, k⟩ => ?_⟩
  unfold sFrz at e
  split at e
  · rename_i d he
    obtain ⟨W', L', le, J⟩ := I.freeze he
    exact ⟨F, W', L', _, st, o, env', st', J, e, k.mono le⟩
  · exact ⟨F, W, L, env, st, o, env', st', I, e, k⟩
theorem sb_frz2 (i : Nat) (h : SB X ct sxs f) : SB X ct sxs (sFrz2 i f) := by
  refine ⟨pss_mono h.pss fun D σ H ⟨F, W, L, env, st, o, env', st', I, e, k⟩ => ?_⟩
  unfold sFrz2 at e
  split at e
  · rename_i d he
    obtain ⟨W', L', le, J⟩ := I.freeze2 he
    exact ⟨F, W', L', _, st, o, env', st', J, e, k.mono le⟩
  · exact ⟨F, W, L, env, st, o, env', st', I, e, k⟩
end
section
variable {α β γ δ σ ρ τ : Type} [En α] [En β] [En γ]
variable {k k1 k2 k3 : Kx} {env env' : List Kn.Slot} {st : Sto} {e a b c : Sem} {i j n : Nat} {x x' : α} {y : β} {tx : Option α} {ty : Option β} {as : SemA} {ds : List D}
variable {fn : Bool} {enc : τ → Outs} {f g h s1 : SemS} {t t1 t2 : Option τ} {z : τ}
theorem ru_kl {js : List Nat} {env1 : List Kn.Slot} (he : wipeE env js = env1) (hr : Ru fn enc f env1 st t) : Ru fn enc (sKl js f) env st t := by
  unfold Ru sKl; rw [he]; exact hr
theorem ru_frz (he : env[i]? = some (.ow (en x))) (hr : Ru fn enc f (env.set i (.sh (en x))) st t) : Ru fn enc (sFrz i f) env st t := by
  unfold Ru at hr ⊢
  have : sFrz i f env st = f (env.set i (.sh (en x))) st := by rw [x_frz, he]
  rw [this]; exact hr
/-- lists of lists of one's own -/
def o2S (l : List (List α)) : Kn.Slot := .o2 (l.map fun r => r.map en)
theorem ru_frz2 {l : List (List α)} (he : env[i]? = some (o2S l)) (hr : Ru fn enc f (env.set i (.sh (en l))) st t) : Ru fn enc (sFrz2 i f) env st t := by
  unfold Ru at hr ⊢
  have : sFrz2 i f env st = f (env.set i (.sh (en l))) st := by
    unfold sFrz2
    rw [he]
    show f (env.set i (.sh (.lst ((l.map fun r => r.map en).map D.lst)))) st = _
    rw [List.map_map]; rfl
  rw [this]; exact hr
/-! loops -/
def foldT (step : α → σ → Option σ) : List α → σ → Option σ
  | [], s => some s
  | x :: xs, s => (step x s).bind fun s' => foldT step xs s'
theorem foldT_ev {E : σ → List Kn.Slot} {o : SemG} {E1 : α → σ → List Kn.Slot} {step : α → σ → Option σ} (ho : ∀ x s, o (en x) (E s) = some (E1 x s)) (hf : ∀ x s, Ru false (fun s => (.nx, E s, st)) f (E1 x s) st (step x s)) : ∀ (l : List α) (s : σ),
    forL o f (l.map en) (E s) st = (foldT step l s).map fun s => (.nx, E s, st)
  | [], s => rfl
  | x :: xs, s => by
    have h1 := hf x s
    unfold Ru at h1
    rw [List.map_cons, forL, ho x s, foldT]
    show ((f (E1 x s) st).bind _) = _
    cases hs : step x s with
    | none =>
      rw [hs] at h1
      cases hx : f (E1 x s) st with
      | none => rfl
      | some p => rw [hx] at h1; cases h1
    | some s' =>
      rw [hs] at h1
      cases hx : f (E1 x s) st with
      | none => rw [hx] at h1; cases h1
      | some p =>
        rw [hx] at h1
        obtain ⟨q, e1, s1⟩ := p
        cases q with
        | nx =>
          have h1 := Option.some.inj h1
          have h1 : (Out.nx, e1, s1) = (Out.nx, E s', st) := h1
          cases h1
          exact foldT_ev ho hf xs s'
        | rt r => cases h1
        | bk => cases h1
        | ct => cases h1
theorem rn_for {it : SemI} {o : SemG} {E : σ → List Kn.Slot} {E1 : α → σ → List Kn.Slot} {step : α → σ → Option σ} {s0 : σ} {tl : Option (List α)} (hi : EvI it env st tl) (he : env = E s0) (ho : ∀ x s, o (en x) (E s) = some (E1 x s)) (hf : ∀ x s, Ru false (fun s => (.nx, E s, st)) f (E1 x s) st (step x s)) :
    Rn E (sFor it o f) env st (tl.bind fun l => foldT step l s0) := by
  unfold EvI at hi; unfold Rn
  rw [x_for, hi]
  cases tl with
  | none => rfl
  | some l =>
    show forL o f (l.map en) env st = _
    rw [he]
    exact foldT_ev ho hf l s0
theorem rn_forp {it : SemI} {o : SemG} {E : σ → List Kn.Slot} {E1 : α → σ → List Kn.Slot} {step : α → σ → Option σ} {s0 : σ} {l : List α} (hi : EvI it env st (some l)) (he : env = E s0) (ho : ∀ x s, o (en x) (E s) = some (E1 x s)) (hf : ∀ x s, Ru false (fun s => (.nx, E s, st)) f (E1 x s) st (step x s)) :
    Rn E (sFor it o f) env st (foldT step l s0) := rn_for hi he ho hf
/-- a loop that may hand back -/
def forT (step : α → σ → Option (Ct ρ σ)) : List α → σ → Option (Ct ρ σ)
  | [], s => some (.nx s)
  | x :: xs, s => (step x s).bind fun c => c.go (fun s' => forT step xs s') fun r => some (.rt r)
def encC [En ρ] (k : Kx) (E : σ → List Kn.Slot) (st : Sto) : Ct ρ σ → Outs
  | .nx s => (.nx, E s, st)
  | .rt r => (.rt (k.r (en r)), [], st)
theorem forT_ev [En ρ] {E : σ → List Kn.Slot} {o : SemG} {E1 : α → σ → List Kn.Slot} {step : α → σ → Option (Ct ρ σ)} (ho : ∀ x s, o (en x) (E s) = some (E1 x s)) (hf : ∀ x s, Ru false (encC k E st) f (E1 x s) st (step x s)) : ∀ (l : List α) (s : σ),
    (forL o f (l.map en) (E s) st).map (nrm false) = (forT step l s).map (encC k E st)
  | [], s => rfl
  | x :: xs, s => by
    have h1 := hf x s
    unfold Ru at h1
    rw [List.map_cons, forL, ho x s, forT]
    show (((f (E1 x s) st).bind _).map _) = _
    cases hs : step x s with
    | none =>
      rw [hs] at h1
      cases hx : f (E1 x s) st with
      | none => rfl
      | some p => rw [hx] at h1; cases h1
    | some c =>
      rw [hs] at h1
      cases hx : f (E1 x s) st with
      | none => rw [hx] at h1; cases h1
      | some p =>
        rw [hx] at h1
        obtain ⟨q, e1, s1⟩ := p
        have h1 := Option.some.inj h1
        cases c with
        | nx s' =>
          have h1 : nrm false (q, e1, s1) = (Out.nx, E s', st) := h1
          cases q with
          | nx =>
            have h1 : (Out.nx, e1, s1) = (Out.nx, E s', st) := h1
            cases h1
            exact forT_ev ho hf xs s'
          | rt r => cases h1
          | bk => cases h1
          | ct => cases h1
        | rt r =>
          have h1 : nrm false (q, e1, s1) = (Out.rt (k.r (en r)), [], st) := h1
          cases q with
          | nx => cases h1
          | rt r' =>
            show some (nrm false (.rt r', e1, s1)) = _
            rw [h1]; rfl
          | bk => cases h1
          | ct => cases h1
/-- a statement that goes on with a state or hands back -/
def Rc [En ρ] (k : Kx) (E : σ → List Kn.Slot) (f : SemS) (env : List Kn.Slot) (st : Sto) (t : Option (Ct ρ σ)) : Prop := (f env st).map (nrm false) = t.map (encC k E st)
theorem rc_for [En ρ] {it : SemI} {o : SemG} {E : σ → List Kn.Slot} {E1 : α → σ → List Kn.Slot} {step : α → σ → Option (Ct ρ σ)} {s0 : σ} {tl : Option (List α)} (hi : EvI it env st tl) (he : env = E s0) (ho : ∀ x s, o (en x) (E s) = some (E1 x s)) (hf : ∀ x s, Ru false (encC k E st) f (E1 x s) st (step x s)) :
    Rc k E (sFor it o f) env st (tl.bind fun l => forT step l s0) := by
  unfold EvI at hi; unfold Rc
  rw [x_for, hi]
  cases tl with
  | none => rfl
  | some l =>
    show (forL o f (l.map en) env st).map _ = _
    rw [he]
    exact forT_ev ho hf l s0
theorem rc_forp [En ρ] {it : SemI} {o : SemG} {E : σ → List Kn.Slot} {E1 : α → σ → List Kn.Slot} {step : α → σ → Option (Ct ρ σ)} {s0 : σ} {l : List α} (hi : EvI it env st (some l)) (he : env = E s0) (ho : ∀ x s, o (en x) (E s) = some (E1 x s)) (hf : ∀ x s, Ru false (encC k E st) f (E1 x s) st (step x s)) :
    Rc k E (sFor it o f) env st (forT step l s0) := rc_for hi he ho hf
theorem nrm_rt {fn : Bool} {p : Outs} {r : Kn.R} {st' : Sto} (h : nrm false p = (.rt r, [], st')) : nrm fn p = (.rt r, [], st') ∧ ∃ r0 e0, p = (.rt r0, e0, st') := by
  obtain ⟨o, e, s⟩ := p
  cases o with
  | nx => cases h
  | bk => cases h
  | ct => cases h
  | rt r0 =>
    have h : (Out.rt r0.outR, [], s) = ((.rt r, [], st') : Outs) := h
    have := (Prod.mk.inj (Prod.mk.inj h).2).2
    subst this
    exact ⟨h, r0, e, rfl⟩
theorem nrm_nx {p : Outs} {e1 : List Kn.Slot} {st' : Sto} (h : nrm false p = (.nx, e1, st')) : p = (.nx, e1, st') := by
  obtain ⟨o, e, s⟩ := p
  cases o with
  | nx => exact h
  | bk => cases h
  | ct => cases h
  | rt r0 => cases h
theorem ru_joinc [En ρ] {E : σ → List Kn.Slot} {t1 : Option (Ct ρ σ)} {T : σ → Option τ} {F : ρ → τ} (h1 : Rc k E f env st t1) (hF : ∀ r, enc (F r) = (.rt (k.r (en r)), [], st)) (h2 : ∀ s, Ru fn enc g (E s) st (T s)) : Ru fn enc (sSeq f g) env st (t1.bind fun c => c.go T fun r => some (F r)) := by
  unfold Rc at h1
  unfold Ru
  rw [x_seq]
  cases hf : f env st with
  | none =>
    rw [hf] at h1
    cases t1 with
    | none => rfl
    | some c => cases h1
  | some p =>
    rw [hf] at h1
    cases t1 with
    | none => cases h1
    | some c =>
      have h1 := Option.some.inj h1
      cases c with
      | nx s =>
        have := nrm_nx h1
        subst this
        exact h2 s
      | rt r =>
        obtain ⟨h3, r0, e0, rfl⟩ := nrm_rt (fn := fn) h1
        show some (nrm fn (.rt r0, e0, st)) = some (enc (F r))
        rw [h3, hF]
/-- while -/
def whT (c : σ → Option Bool) (step : σ → Option σ) : Nat → σ → Option σ
  | 0, _ => none
  | n + 1, s => (c s).bind fun b => if b = true then (step s).bind fun s' => whT c step n s' else some s
theorem whT_ev {E : σ → List Kn.Slot} {tc : σ → Option Bool} {step : σ → Option σ} (hc : ∀ s, Ev .sh c (E s) st (tc s)) (hf : ∀ s, Ru false (fun s => (.nx, E s, st)) f (E s) st (step s)) : ∀ (n : Nat) (s : σ),
    whL c f n (E s) st = (whT tc step n s).map fun s => (.nx, E s, st)
  | 0, s => rfl
  | n + 1, s => by
    have h0 := hc s
    have h1 := hf s
    unfold Ev at h0; unfold Ru at h1
    rw [whL, h0, whT]
    cases tc s with
    | none => rfl
    | some b =>
      cases b with
      | false => rfl
      | true =>
        show ((f (E s) st).bind _) = ((step s).bind _).map _
        cases hs : step s with
        | none =>
          rw [hs] at h1
          cases hx : f (E s) st with
          | none => rfl
          | some p => rw [hx] at h1; cases h1
        | some s' =>
          rw [hs] at h1
          cases hx : f (E s) st with
          | none => rw [hx] at h1; cases h1
          | some p =>
            rw [hx] at h1
            have h1 := nrm_nx (Option.some.inj h1)
            subst h1
            exact whT_ev hc hf n s'
theorem rn_whl {E : σ → List Kn.Slot} {tc : σ → Option Bool} {step : σ → Option σ} {s0 : σ} (he : env = E s0) (hc : ∀ s, Ev .sh c (E s) st (tc s)) (hf : ∀ s, Ru false (fun s => (.nx, E s, st)) f (E s) st (step s)) : Rn E (sWhl n c f) env st (whT tc step n s0) := by
  unfold Rn sWhl
  rw [he]
  exact whT_ev hc hf n s0
/-! what is one's own is changed -/
def appG (l : List α) (x : α) : Option (List α) := if l.length < sizeLine then some (l ++ [x]) else none
theorem appG_of {l : List α} {x : α} (h : l.length ≤ 1000) : appG l x = some (l ++ [x]) := if_pos (x_sz2 h)
theorem mutp {m m' : List α} {fm : List D → List D → Option (List D)} {l : List α} (he : env[i]? = some (.ow (en l))) (ha : EvAp as env st ds) (hm : fm ds (l.map en) = some (m'.map en)) (hr : Ru fn enc g (env.set i (.ow (en m'))) st t) : Ru fn enc (sSeq (sMut i fm as) g) env st t := by
  unfold EvAp at ha; unfold Ru at hr ⊢
  have : sSeq (sMut i fm as) g env st = g (env.set i (.ow (en m'))) st := by
    rw [x_seq, x_mut, ha]
    show (((valsR (ds.map .sh)).bind _).bind _) = _
    rw [vals_sh]
    show ((match env[i]? with | some (.ow (.lst es)) => (fm ds es).map fun ds' => (Out.nx, env.set i (.ow (.lst ds')), st) | _ => none).bind _) = _
    rw [he]
    show (((fm ds (l.map en)).map fun ds' => (Out.nx, env.set i (.ow (.lst ds')), st)).bind _) = _
    rw [hm]; rfl
  rw [this]; exact hr
theorem mutn {fm : List D → List D → Option (List D)} {l : List α} (he : env[i]? = some (.ow (en l))) (ha : EvAp as env st ds) (hm : fm ds (l.map en) = none) : Ru fn enc (sSeq (sMut i fm as) g) env st none := by
  unfold EvAp at ha; unfold Ru
  rw [x_seq, x_mut, ha]
  show (((((valsR (ds.map .sh)).bind _).bind _) : Option Outs).map _) = _
  rw [vals_sh]
  show (((match env[i]? with | some (.ow (.lst es)) => (fm ds es).map fun ds' => (Out.nx, env.set i (.ow (.lst ds')), st) | _ => none).bind _ : Option Outs).map _) = _
  rw [he]
  show ((((fm ds (l.map en)).map fun ds' => (Out.nx, env.set i (.ow (.lst ds')), st)).bind _ : Option Outs).map _) = _
  rw [hm]; rfl
theorem ru_mut {fm : List D → List D → Option (List D)} {l : List α} {T : List α → Option τ} {m : Option (List α)} (he : env[i]? = some (.ow (en l))) (ha : EvAp as env st ds) (hm : fm ds (l.map en) = m.map fun m' => m'.map en) (hr : ∀ m', Ru fn enc g (env.set i (.ow (en m'))) st (T m')) : Ru fn enc (sSeq (sMut i fm as) g) env st (m.bind T) := by
  cases m with
  | none => exact mutn he ha hm
  | some m' => exact mutp (m := m') he ha hm (hr m')
theorem app_en (l : List α) (x : α) : fApp [en x] (l.map en) = (appG l x).map fun m' => m'.map en := by
  unfold appG
  rw [x_app, List.length_map]
  split <;> simp
theorem ru_appp {l : List α} {T : List α → Option τ} (he : env[i]? = some (.ow (en l))) (ha : Ev k a env st (some x)) (hk : k.ok = true) (hr : ∀ m', Ru fn enc g (env.set i (.ow (en m'))) st (T m')) : Ru fn enc (sSeq (sMut i fApp (aCons a aNil)) g) env st ((appG l x).bind T) := ru_mut he (ea_p ha hk ea_nil) (app_en l x) hr
structure InsC (n : Nat) (j : Int) : Prop where
  h : n < sizeLine ∧ 0 ≤ j ∧ j < 2 ^ 63
open Classical in
noncomputable def insG (l : List α) (j : Int) (x : α) : Option (List α) := if InsC l.length j then some (l.take j.toNat ++ [x] ++ l.drop j.toNat) else none
theorem insG_of {l : List α} {j : Int} {x : α} (h : l.length ≤ 1000) (h0 : 0 ≤ j) (h1 : j ≤ 2 ^ 40) : insG l j x = some (l.take j.toNat ++ [x] ++ l.drop j.toNat) := if_pos ⟨x_sz2 h, h0, by omega⟩
theorem ins_en {l : List α} {j : Int} : fIns [en j, en x] (l.map en) = (insG l j x).map fun m' => m'.map en := by
  unfold insG
  show (if (l.map en).length < sizeLine ∧ 0 ≤ j ∧ j < 2 ^ 63 then some ((l.map en).take j.toNat ++ [en x] ++ (l.map en).drop j.toNat) else none) = _
  rw [List.length_map]
  by_cases h : l.length < sizeLine ∧ 0 ≤ j ∧ j < 2 ^ 63
  · rw [if_pos h, if_pos ⟨h⟩]; simp
  · rw [if_neg h, if_neg fun q => h q.h]; rfl
theorem ru_insp {l : List α} {j : Int} {T : List α → Option τ} (he : env[i]? = some (.ow (en l))) (hb : Ev k1 b env st (some j)) (hk1 : k1.ok = true) (ha : Ev k a env st (some x)) (hk : k.ok = true) (hr : ∀ m', Ru fn enc g (env.set i (.ow (en m'))) st (T m')) : Ru fn enc (sSeq (sMut i fIns (aCons b (aCons a aNil))) g) env st ((insG l j x).bind T) :=
  ru_mut he (ea_p hb hk1 (ea_p ha hk ea_nil)) ins_en hr
theorem ru_insx {l : List α} {tj : Option Int} {T : List α → Option τ} (he : env[i]? = some (.ow (en l))) (hb : Ev k1 b env st tj) (hk1 : k1.ok = true) (ha : Ev k a env st (some x)) (hk : k.ok = true) (hr : ∀ m', Ru fn enc g (env.set i (.ow (en m'))) st (T m')) : Ru fn enc (sSeq (sMut i fIns (aCons b (aCons a aNil))) g) env st (tj.bind fun j => (insG l j x).bind T) := by
  cases tj with
  | none =>
    have := ea_xp hb hk1 (ea_p ha hk (ea_nil (env := env) (st := st)))
    unfold EvA at this
    unfold Ru
    rw [x_seq, x_mut, this]; rfl
  | some j => exact ru_insp he hb hk1 ha hk hr
def setG (l : List α) (j : Int) (x : α) : Option (List α) := (ixN l.length j).map fun k => l.set k x
theorem setItm_en (l : List α) (j : Int) (x : α) : setItm (.lst (l.map en)) (.int j) (en x) = (setG l j x).map fun m => en m := by
  show ((ixN (l.map en).length j).map fun k => D.lst ((l.map en).set k (en x))) = _
  unfold setG
  rw [List.length_map]
  cases ixN l.length j with
  | none => rfl
  | some k => show some (D.lst ((l.map en).set k (en x))) = _; rw [← List.map_set]; rfl
theorem ru_subxx {l : List α} {tj : Option Int} {T : List α → Option τ} (he : env[i]? = some (.ow (en l))) (ha : Ev k a env st tx) (hk : k.ok = true) (hb : Ev k1 b env st tj) (hr : ∀ m', Ru fn enc g (env.set i (.ow (en m'))) st (T m')) : Ru fn enc (sSeq (sSub i b a) g) env st (tx.bind fun x => tj.bind fun j => (setG l j x).bind T) := by
  unfold Ev at ha hb; unfold Ru
  rw [x_seq, x_sub, ha]
  cases tx with
  | none => rfl
  | some x =>
    show ((((b env st).bind fun q => match (k.r (en x)).pin, env[i]? with | .sh d, some (.ow c) => (setItm c q.1.d d).map fun c' => (Out.nx, env.set i (.ow c'), q.2) | _, _ => none).bind _ : Option Outs).map _) = _
    rw [hb]
    cases tj with
    | none => rfl
    | some j =>
      show (((match (k.r (en x)).pin, env[i]? with | .sh d, some (.ow c) => (setItm c (k1.r (en j)).d d).map fun c' => (Out.nx, env.set i (.ow c'), st) | _, _ => none).bind _ : Option Outs).map _) = _
      rw [Kx.pin hk, he, Kx.rd]
      show ((((setItm (.lst (l.map en)) (.int j) (en x)).map fun c' => (Out.nx, env.set i (.ow c'), st)).bind _ : Option Outs).map _) = _
      rw [setItm_en]
      cases hs : setG l j x with
      | none => simp [hs]
      | some m' =>
        have := hr m'
        unfold Ru at this
        simpa [hs] using this
theorem ru_subxp {l : List α} {j : Int} {T : List α → Option τ} (he : env[i]? = some (.ow (en l))) (ha : Ev k a env st tx) (hk : k.ok = true) (hb : Ev k1 b env st (some j)) (hr : ∀ m', Ru fn enc g (env.set i (.ow (en m'))) st (T m')) : Ru fn enc (sSeq (sSub i b a) g) env st (tx.bind fun x => (setG l j x).bind T) := ru_subxx he ha hk hb hr
/-! rows of one's own -/
def app2G (l : List (List α)) (j : Int) (x : α) : Option (List (List α)) := (ixN l.length j).bind fun k => (l[k]?).bind fun r => if r.length < sizeLine then some (l.set k (r ++ [x])) else none
theorem app2_en (l : List (List α)) (j : Int) (x : α) : app2 (l.map fun r => r.map en) j [en x] = (app2G l j x).map fun m => m.map fun r => r.map en := by
  unfold app2 app2G
  rw [List.length_map]
  cases ixN l.length j with
  | none => rfl
  | some k =>
    show (((l.map fun r => r.map en)[k]?).bind fun ds => if ds.length < sizeLine then some ((l.map fun r => r.map en).set k (ds ++ [en x])) else none) = _
    rw [List.getElem?_map]
    cases hk : l[k]? with
    | none => simp [hk]
    | some r =>
      simp only [hk, Option.map_some, Option.bind_some, List.length_map]
      split
      · simp [List.map_set]
      · simp
theorem ru_app2 {l : List (List α)} {T : List (List α) → Option τ} {tj : Option Int} (he : env[i]? = some (o2S l)) (hb : Ev k1 b env st tj) (ha : Ev k a (env.set i .no) st tx) (hk : k.ok = true) (hr : ∀ m', Ru fn enc g (env.set i (o2S m')) st (T m')) : Ru fn enc (sSeq (sApp2 i b (aCons a aNil)) g) env st (tj.bind fun j => tx.bind fun x => (app2G l j x).bind T) := by
  unfold Ev at hb
  unfold Ru
  rw [x_seq]
  unfold sApp2
  rw [hb]
  cases tj with
  | none => rfl
  | some j =>
    show ((((aCons a aNil (env.set i .no) st).bind fun q => (valsR q.1).bind fun xs => match (k1.r (en j)).d, (env[i]? : Option Kn.Slot) with | .int j, some (.o2 dss) => (app2 dss j xs).map fun dss' => (Out.nx, env.set i (.o2 dss'), q.2) | _, _ => none).bind _ : Option Outs).map _) = _
    cases tx with
    | none =>
      have := ea_xp ha hk (ea_nil (env := env.set i .no) (st := st))
      unfold EvA at this
      rw [this]; rfl
    | some x =>
      have := ea_p ha hk (ea_nil (env := env.set i .no) (st := st))
      unfold EvAp at this
      rw [this]
      show ((((valsR ([en x].map .sh)).bind fun xs => match (k1.r (en j)).d, (env[i]? : Option Kn.Slot) with | .int j, some (.o2 dss) => (app2 dss j xs).map fun dss' => (Out.nx, env.set i (.o2 dss'), st) | _, _ => none).bind _ : Option Outs).map _) = _
      rw [vals_sh, Kx.rd]
      show (((match en j, (env[i]? : Option Kn.Slot) with | .int j, some (.o2 dss) => (app2 dss j [en x]).map fun dss' => (Out.nx, env.set i (.o2 dss'), st) | _, _ => none).bind _ : Option Outs).map _) = _
      rw [he]
      show ((((app2 (l.map fun r => r.map en) j [en x]).map fun dss' => (Out.nx, env.set i (.o2 dss'), st)).bind _ : Option Outs).map _) = _
      rw [app2_en]
      cases hs : app2G l j x with
      | none => simp [hs]
      | some m' =>
        have := hr m'
        unfold Ru at this
        simpa [hs, o2S] using this
theorem ru_emp {it : SemI} {vs : List Nat} {o : SemG} {tl : Option (List β)} {T : List (List α) → Option τ} (hi : EvI it env st tl) (hv : vs.all (fun j => (env[j]?.map Slot.okW).getD true) = true) (ho : ∀ x : β, (o (en x) (wipeE env vs)).isSome = true) (hil : i < env.length) (hr : ∀ m' : List (List α), Ru fn enc g (env.set i (o2S m')) st (T m')) : Ru fn enc (sSeq (sEmp i it vs o) g) env st (tl.bind fun l => (szG (l.map fun _ => ([] : List α))).bind T) := by
  unfold EvI at hi; unfold Ru
  rw [x_seq]
  unfold sEmp
  rw [hi]
  cases tl with
  | none => rfl
  | some l =>
    have hall : (l.map en).all (fun d => (o d (wipeE env vs)).isSome) = true := by
      rw [List.all_map, List.all_eq_true]; intro x _; exact ho x
    show (((if vs.all (fun j => (env[j]?.map Slot.okW).getD true) = true ∧ (l.map en).all (fun d => (o d (wipeE env vs)).isSome) = true ∧ (l.map en).length ≤ sizeLine ∧ i < env.length then some (Out.nx, env.set i (.o2 (List.replicate (l.map en).length [])), st) else none).bind _ : Option Outs).map _) = (((szG (l.map fun _ => ([] : List α))).bind T).map _)
    unfold szG
    rw [hv, hall, List.length_map, List.length_map]
    by_cases hz : l.length ≤ sizeLine
    · rw [if_pos ⟨rfl, rfl, hz, hil⟩, if_pos hz]
      have := hr (l.map fun _ => ([] : List α))
      unfold Ru o2S at this
      have e : List.replicate l.length ([] : List D) = (l.map fun _ => ([] : List α)).map fun r => r.map en := by
        rw [List.map_map]
        show _ = l.map fun _ => ([] : List D)
        rw [List.map_const']
      rw [e]
      exact this
    · rw [if_neg (fun q => hz q.2.2.1), if_neg hz]; rfl
/-! a def by its body -/
def encF [En ρ] (k : Kx) (st : Sto) : ρ → Outs := fun r => (.rt (k.r (en r)), [], st)
theorem ev_fn [En ρ] {m : Nat} {b : SemS} {t : Option ρ} (h : Ru true (encF k st) b (ds.map .sh ++ List.replicate (m - ds.length) .no) st t) : runB m b ds st = t.map fun r => (k.r (en r), st) := by
  unfold Ru at h
  unfold runB
  cases hb : b (ds.map .sh ++ List.replicate (m - ds.length) .no) st with
  | none =>
    rw [hb] at h
    cases t with
    | none => rfl
    | some r => cases h
  | some p =>
    rw [hb] at h
    cases t with
    | none => cases h
    | some r =>
      have h := Option.some.inj h
      obtain ⟨o, e, s⟩ := p
      cases o with
      | nx =>
        have h : (Out.rt (.sh .non), [], s) = ((.rt (k.r (en r)), [], st) : Outs) := h
        injection h with h1 h2
        injection h2 with h2 h3
        injection h1 with h1
        show some (Kn.R.sh .non, s) = some (k.r (en r), st)
        rw [h1, h3]
      | rt r0 =>
        have h : (Out.rt r0.outR, [], s) = ((.rt (k.r (en r)), [], st) : Outs) := h
        injection h with h1 h2
        injection h2 with h2 h3
        injection h1 with h1
        show some (r0.outR, s) = some (k.r (en r), st)
        rw [h1, h3]
      | bk => cases h
      | ct => cases h
end
end Kn
namespace Kn
open PySem L2
/-! ### typed operations -/
open En
section
variable {α β γ δ ε σ ρ τ : Type} [En α] [En β] [En γ] [En δ] [En ε]
variable {k k1 k2 k3 : Kx} {env env' : List Kn.Slot} {st : Sto} {e a b c : Sem} {i j n : Nat} {x x' : α} {y : β} {tx : Option α} {ty : Option β}
theorem o2_add : Op2 (α := Int) (β := Int) .sh fAdd fun i j => some (i + j) := fun _ _ => rfl
theorem o2_sub : Op2 (α := Int) (β := Int) .sh (fI gSub') fun i j => some (i - j) := fun _ _ => rfl
theorem o2_mul : Op2 (α := Int) (β := Int) .sh fMul fun i j => gMul i j := fun _ _ => rfl
theorem o2_I (g : Int → Int → Option Int) : Op2 (α := Int) (β := Int) .sh (fI g) fun i j => g i j := fun _ _ => rfl
theorem o2_div : Op2 (α := Int) (β := Int) .sh (fI gDiv) fun i j => gDiv i j := o2_I _
theorem o2_mod : Op2 (α := Int) (β := Int) .sh (fI gMod) fun i j => gMod i j := o2_I _
theorem o2_pow : Op2 (α := Int) (β := Int) .sh (fI gPow) fun i j => gPow i j := o2_I _
theorem o1_neg : Op1 (α := Int) .sh fNeg fun i => some (-i) := fun _ => rfl
theorem o2_C (g : Int → Int → Bool) : Op2 (α := Int) (β := Int) .sh (fC g) fun i j => some (g i j) := fun _ _ => rfl
theorem o2_lt : Op2 (α := Int) (β := Int) .sh fLt fun i j => some (decide (i < j)) := o2_C _
theorem o2_le : Op2 (α := Int) (β := Int) .sh fLe fun i j => some (decide (i ≤ j)) := o2_C _
theorem o2_gt : Op2 (α := Int) (β := Int) .sh fGt fun i j => some (decide (j < i)) := o2_C _
theorem o2_ge : Op2 (α := Int) (β := Int) .sh fGe fun i j => some (decide (j ≤ i)) := o2_C _
/-- division and rest by a small written number -/
theorem ev_divc {v c : Int} (h0 : 0 < c) (h1 : c ≤ 2 ^ 40) (ha : Ev k a env st (some v)) : Ev .sh (e2 (fI gDiv) a (eC (.int c))) env st (some (v / c)) := by
  have := ev_2pp o2_div ha (ev_int c)
  rwa [gDiv_of h0 (Int.lt_of_le_of_lt h1 (by
    have e : (2 : Int) ^ 8000 = ((2 ^ 8000 : Nat) : Int) := (Int.natCast_pow 2 8000).symm
    have : 2 ^ 41 ≤ 2 ^ 8000 := Nat.pow_le_pow_right (by decide) (by decide)
    rw [e]
    generalize 2 ^ 8000 = z at this
    omega))] at this
theorem ev_modc {v c : Int} (h0 : 0 < c) (ha : Ev k a env st (some v)) : Ev .sh (e2 (fI gMod) a (eC (.int c))) env st (some (v % c)) := by
  have := ev_2pp o2_mod ha (ev_int c)
  rwa [show gMod v c = some (v % c) from if_pos h0] at this
theorem ev_modcx {t : Option Int} {c : Int} (h0 : 0 < c) (ha : Ev k a env st t) : Ev .sh (e2 (fI gMod) a (eC (.int c))) env st (t.bind fun v => some (v % c)) := by
  cases t with
  | none => unfold Ev at ha ⊢; rw [x_e2, ha]; rfl
  | some v => exact ev_modc h0 ha
/-! lists -/
def catG (l m : List α) : Option (List α) := if l.length + m.length ≤ sizeLine then some (l ++ m) else none
theorem catG_of {l m : List α} (h : l.length + m.length ≤ 1000) : catG l m = some (l ++ m) := if_pos (x_sz h)
theorem o2_cat : Op2 (α := List α) (β := List α) .ow fAdd fun l m => catG l m := fun l m => by
  show (if (l.map en).length + (m.map en).length ≤ sizeLine then some (Kn.R.ow (.lst (l.map en ++ m.map en))) else none) = (catG l m).map fun c => Kx.ow.r (en c)
  unfold catG
  rw [List.length_map, List.length_map, ← List.map_append]
  split <;> rfl
structure RepC (n : Nat) (k : Int) : Prop where
  h : -(2 ^ 63) ≤ k ∧ k < 2 ^ 63 ∧ n * k.toNat ≤ sizeLine
open Classical in
noncomputable def repG (l : List α) (k : Int) : Option (List α) := if RepC l.length k then some (List.replicate k.toNat l).flatten else none
theorem o2_rep : Op2 (α := List α) (β := Int) .ow fMul fun l k => repG l k := fun l k => by
  show (if -(2 ^ 63) ≤ k ∧ k < 2 ^ 63 ∧ (l.map en).length * k.toNat ≤ sizeLine then some (Kn.R.ow (.lst (List.replicate k.toNat (l.map en)).flatten)) else none) = (repG l k).map fun c => Kx.ow.r (en c)
  unfold repG
  rw [List.length_map]
  by_cases h : -(2 ^ 63) ≤ k ∧ k < 2 ^ 63 ∧ l.length * k.toNat ≤ sizeLine
  · rw [if_pos h, if_pos ⟨h⟩]
    show _ = some (Kn.R.ow (.lst ((List.replicate k.toNat l).flatten.map en)))
    rw [List.map_flatten, List.map_replicate]
  · rw [if_neg h, if_neg fun q => h q.h]; rfl
theorem o1_len : Op1 (α := List α) .sh fLen fun l => some (l.length : Int) := fun l => by
  show some (Kn.R.sh (.int ((l.map en).length : Nat))) = _
  rw [List.length_map]; rfl
theorem o1_lens : Op1 (α := Scr) .sh fLen fun l => some (l.l.length : Int) := fun l => rfl
theorem o2_idx : Op2 (α := List α) (β := Int) .sh fIdx fun l i => atI l i := fun l i => by
  show (atI (l.map en) i).map Kn.R.sh = _
  rw [atI_map, Option.map_map]; rfl
theorem o2_idxs : Op2 (α := Scr) (β := Int) .sh fIdx fun l i => atI l.l i := fun l i => rfl
theorem ev_prj {v : γ} {w : α} {i : Int} (h : fIdx (en w) (.int i) = some (.sh (en v))) (ha : Ev k a env st (some w)) : Ev .sh (e2 fIdx a (eC (.int i))) env st (some v) := by
  unfold Ev at ha ⊢
  rw [x_e2, ha]
  show ((fIdx (k.r (en w)).d (.int i)).map fun r => (r, st)) = _
  rw [Kx.rd, h]; rfl
section
variable {w1 : Tp1 α} {w2 : Tp2 α β} {w3 : Tp3 α β γ} {w4 : Tp4 α β γ δ} {w5 : Tp5 α β γ δ ε} {h2 : Hl2 α β} {h3 : Hl3 α β γ}
theorem pj5_0 : fIdx (en w5) (.int 0) = some (.sh (en w5.x0)) := by
  show (atI [en w5.x0, en w5.x1, en w5.x2, en w5.x3, en w5.x4] 0).map Kn.R.sh = _
  rw [x_at0]; rfl
theorem pj5_1 : fIdx (en w5) (.int 1) = some (.sh (en w5.x1)) := by
  show (atI [en w5.x0, en w5.x1, en w5.x2, en w5.x3, en w5.x4] 1).map Kn.R.sh = _
  rw [x_at1]; rfl
theorem qj2_0 : fIdx (en h2) (.int 0) = some (.sh (en h2.x0)) := by
  show (atI [en h2.x0, en h2.x1] 0).map Kn.R.sh = _
  rw [x_at0]; rfl
theorem qj2_1 : fIdx (en h2) (.int 1) = some (.sh (en h2.x1)) := by
  show (atI [en h2.x0, en h2.x1] 1).map Kn.R.sh = _
  rw [x_at1]; rfl
end
/-! slices -/
def EvP (p : SemP) (env : List Kn.Slot) (st : Sto) (t : Option (Option Int)) : Prop := p env st = t.map fun o => (o, st)
theorem ep_no : EvP pNo env st (some none) := rfl
theorem ep_some {t : Option Int} (ha : Ev k a env st t) : EvP (pSome a) env st (t.bind fun v => some (some v)) := by
  unfold Ev at ha; unfold EvP
  rw [x_psome, ha]
  cases t with
  | none => rfl
  | some v =>
    show (match (k.r (.int v)).d with | .int i => some (some i, st) | _ => none) = _
    rw [Kx.rd]; rfl
theorem ep_p {v : Int} (ha : Ev k a env st (some v)) : EvP (pSome a) env st (some (some v)) := ep_some ha
theorem ev_slcx {t : Option (List α)} {lo hi : SemP} {tl th : Option (Option Int)} (ha : Ev k a env st t) (hl : EvP lo env st tl) (hh : EvP hi env st th) : Ev .ow (eSlc a lo hi) env st (t.bind fun l => tl.bind fun u => th.bind fun v => some (cutG l u v)) := by
  unfold Ev at ha; unfold EvP at hl hh; unfold Ev
  rw [x_slc, ha]
  cases t with
  | none => rfl
  | some l =>
    show ((lo env st).bind _) = _
    rw [hl]
    cases tl with
    | none => rfl
    | some u =>
      show ((hi env st).bind _) = _
      rw [hh]
      cases th with
      | none => rfl
      | some v =>
        show ((fSlc (k.r (.lst (l.map en))).d u v).map fun r => (r, st)) = _
        rw [Kx.rd, x_slc1, cutG_map]; rfl
theorem ev_slcp {l : List α} {lo hi : SemP} {u v : Option Int} (ha : Ev k a env st (some l)) (hl : EvP lo env st (some u)) (hh : EvP hi env st (some v)) : Ev .ow (eSlc a lo hi) env st (some (cutG l u v)) := ev_slcx ha hl hh
theorem ev_slcs {l : Scr} {lo hi : SemP} {u v : Option Int} (ha : Ev k a env st (some l)) (hl : EvP lo env st (some u)) (hh : EvP hi env st (some v)) : Ev .ow (eSlc a lo hi) env st (some (cutG l.l u v)) := by
  unfold Ev at ha; unfold EvP at hl hh; unfold Ev
  rw [x_slc, ha]
  show ((lo env st).bind _) = _
  rw [hl]
  show ((hi env st).bind _) = _
  rw [hh]
  show ((fSlc (k.r (.scr l.l)).d u v).map fun r => (r, st)) = _
  rw [Kx.rd]; rfl
theorem o1_list : Op1 (α := List α) .ow fLofs fun l => some l := fun _ => rfl
open Classical in
noncomputable def lrgG (j : Int) : Option (List Int) := if Rg j ∧ j ≤ 1000 then some (rngI 0 j.toNat) else none
theorem lrgG_of {j : Int} (h : j.natAbs ≤ 1000) : lrgG j = some (rngI 0 j.toNat) := if_pos ⟨.of (by omega), by omega⟩
theorem ev_lrgp {v : Int} (ha : Ev k a env st (some v)) : Ev .ow (eLrg a) env st (lrgG v) := by
  unfold Ev at ha ⊢; unfold eLrg
  rw [ha]
  show (match (k.r (.int v)).d with | .int j => if Rg j ∧ j ≤ 1000 then some (Kn.R.ow (.lst (rngD 0 j.toNat)), st) else none | _ => none) = _
  rw [Kx.rd]
  show (if Rg v ∧ v ≤ 1000 then some (Kn.R.ow (.lst (rngD 0 v.toNat)), st) else none) = _
  unfold lrgG
  split
  · rw [rngD_en]; rfl
  · rfl
/-! all, any, sum, least, greatest -/
/-! None -/
/-! kinds -/
end
/-! equality -/
class EnE (α : Type) [En α] where
  dep : Nat
  pn : ∀ a : α, (En.en a).Pn dep
  inj : ∀ a b : α, En.en a = En.en b → a = b
section
open En
variable {α β γ δ ε : Type} [En α] [En β] [En γ] [En δ] [En ε] [EnE α] [EnE β] [EnE γ] [EnE δ] [EnE ε]
instance : EnE Int := ⟨0, fun i => Pn_int i, fun a b h => D.int.inj h⟩
theorem map_en_inj : ∀ {l m : List α}, l.map en = m.map en → l = m
  | [], [], _ => rfl
  | [], _ :: _, h => by cases h
  | _ :: _, [], h => by cases h
  | x :: xs, y :: ys, h => by
    rw [List.map_cons, List.map_cons, List.cons.injEq] at h
    rw [EnE.inj _ _ h.1, map_en_inj h.2]
instance : EnE (List α) := ⟨EnE.dep α + 1, fun l => Pn_lst fun d hd => by obtain ⟨a, _, rfl⟩ := List.mem_map.mp hd; exact EnE.pn a, fun a b h => map_en_inj (D.lst.inj h)⟩
class EnN (α : Type) [En α] : Prop where
  nn : ∀ a : α, En.en a ≠ .non
instance : EnN Int := ⟨fun _ h => nomatch h⟩
instance {α : Type} [En α] : EnN (List α) := ⟨fun _ h => nomatch h⟩
instance {α β : Type} [En α] [En β] : EnN (Tp2 α β) := ⟨fun _ h => nomatch h⟩
instance {α β γ : Type} [En α] [En β] [En γ] : EnN (Tp3 α β γ) := ⟨fun _ h => nomatch h⟩
instance {α β γ δ : Type} [En α] [En β] [En γ] [En δ] : EnN (Tp4 α β γ δ) := ⟨fun _ h => nomatch h⟩
instance [EnN α] : EnE (Option α) := ⟨EnE.dep α, fun o => by cases o with | none => exact Pn_non | some a => exact EnE.pn a, fun a b h => by
  cases a with
  | none => cases b with
    | none => rfl
    | some b => exact (EnN.nn b h.symm).elim
  | some a => cases b with
    | none => exact (EnN.nn a h).elim
    | some b => exact congrArg some (EnE.inj a b h)⟩
instance : EnE (Tp2 α β) := ⟨max (EnE.dep α) (EnE.dep β) + 1, fun p => Pn_tup fun d hd => by
    simp only [List.mem_cons, List.not_mem_nil, or_false] at hd
    rcases hd with rfl | rfl
    · exact Pn_mono (EnE.pn _) (by omega)
    · exact Pn_mono (EnE.pn _) (by omega),
  fun a b h => by
    have h := D.tup.inj h
    simp only [List.cons.injEq, and_true] at h
    cases a; cases b
    have e0 := EnE.inj _ _ h.1
    have e1 := EnE.inj _ _ h.2
    dsimp only at e0 e1
    subst e0 e1
    rfl⟩
instance : EnE (Tp3 α β γ) := ⟨EnE.dep α + EnE.dep β + EnE.dep γ + 1, fun p => Pn_tup fun d hd => by
    simp only [List.mem_cons, List.not_mem_nil, or_false] at hd
    rcases hd with rfl | rfl | rfl
    · exact Pn_mono (EnE.pn _) (by omega)
    · exact Pn_mono (EnE.pn _) (by omega)
    · exact Pn_mono (EnE.pn _) (by omega),
  fun a b h => by
    have h := D.tup.inj h
    simp only [List.cons.injEq, and_true] at h
    cases a; cases b
    have e0 := EnE.inj _ _ h.1
    have e1 := EnE.inj _ _ h.2.1
    have e2 := EnE.inj _ _ h.2.2
    dsimp only at e0 e1 e2
    subst e0 e1 e2
    rfl⟩
instance : EnE (Tp4 α β γ δ) := ⟨EnE.dep α + EnE.dep β + EnE.dep γ + EnE.dep δ + 1, fun p => Pn_tup fun d hd => by
    simp only [List.mem_cons, List.not_mem_nil, or_false] at hd
    rcases hd with rfl | rfl | rfl | rfl
    · exact Pn_mono (EnE.pn _) (by omega)
    · exact Pn_mono (EnE.pn _) (by omega)
    · exact Pn_mono (EnE.pn _) (by omega)
    · exact Pn_mono (EnE.pn _) (by omega),
  fun a b h => by
    have h := D.tup.inj h
    simp only [List.cons.injEq, and_true] at h
    cases a; cases b
    have e0 := EnE.inj _ _ h.1
    have e1 := EnE.inj _ _ h.2.1
    have e2 := EnE.inj _ _ h.2.2.1
    have e3 := EnE.inj _ _ h.2.2.2
    dsimp only at e0 e1 e2 e3
    subst e0 e1 e2 e3
    rfl⟩
instance : EnE (Tp5 α β γ δ ε) := ⟨EnE.dep α + EnE.dep β + EnE.dep γ + EnE.dep δ + EnE.dep ε + 1, fun p => Pn_tup fun d hd => by
    simp only [List.mem_cons, List.not_mem_nil, or_false] at hd
    rcases hd with rfl | rfl | rfl | rfl | rfl
    · exact Pn_mono (EnE.pn _) (by omega)
    · exact Pn_mono (EnE.pn _) (by omega)
    · exact Pn_mono (EnE.pn _) (by omega)
    · exact Pn_mono (EnE.pn _) (by omega)
    · exact Pn_mono (EnE.pn _) (by omega),
  fun a b h => by
    have h := D.tup.inj h
    simp only [List.cons.injEq, and_true] at h
    cases a; cases b
    have e0 := EnE.inj _ _ h.1
    have e1 := EnE.inj _ _ h.2.1
    have e2 := EnE.inj _ _ h.2.2.1
    have e3 := EnE.inj _ _ h.2.2.2.1
    have e4 := EnE.inj _ _ h.2.2.2.2
    dsimp only at e0 e1 e2 e3 e4
    subst e0 e1 e2 e3 e4
    rfl⟩
instance : EnE (Hl2 α β) := ⟨max (EnE.dep α) (EnE.dep β) + 1, fun p => Pn_lst fun d hd => by
    simp only [List.mem_cons, List.not_mem_nil, or_false] at hd
    rcases hd with rfl | rfl
    · exact Pn_mono (EnE.pn _) (by omega)
    · exact Pn_mono (EnE.pn _) (by omega),
  fun a b h => by
    have h := D.lst.inj h
    simp only [List.cons.injEq, and_true] at h
    cases a; cases b
    have e0 := EnE.inj _ _ h.1
    have e1 := EnE.inj _ _ h.2
    dsimp only at e0 e1
    subst e0 e1
    rfl⟩
instance : EnE (Hl3 α β γ) := ⟨EnE.dep α + EnE.dep β + EnE.dep γ + 1, fun p => Pn_lst fun d hd => by
    simp only [List.mem_cons, List.not_mem_nil, or_false] at hd
    rcases hd with rfl | rfl | rfl
    · exact Pn_mono (EnE.pn _) (by omega)
    · exact Pn_mono (EnE.pn _) (by omega)
    · exact Pn_mono (EnE.pn _) (by omega),
  fun a b h => by
    have h := D.lst.inj h
    simp only [List.cons.injEq, and_true] at h
    cases a; cases b
    have e0 := EnE.inj _ _ h.1
    have e1 := EnE.inj _ _ h.2.1
    have e2 := EnE.inj _ _ h.2.2
    dsimp only at e0 e1 e2
    subst e0 e1 e2
    rfl⟩
theorem en_eq [DecidableEq α] (a b : α) : (en a).eq (en b) = decide (a = b) := by
  rw [Bool.eq_iff_iff, decide_eq_true_eq]
  exact (eq_pl (EnE.pn a).pl (EnE.pn b).pl).trans ⟨EnE.inj a b, fun h => by rw [h]⟩
theorem en_ok (hd : EnE.dep α ≤ 64) (a : α) : (en a).ok = true := okN_ok (EnE.pn a).ok hd
theorem o2_eq [DecidableEq α] (hd : EnE.dep α ≤ 64) : Op2 (α := α) (β := α) .sh fEq fun a b => some (decide (a = b)) := fun a b => by
  unfold fEq
  rw [en_ok hd a, en_ok hd b, en_eq a b]; rfl
theorem o2_ne [DecidableEq α] (hd : EnE.dep α ≤ 64) : Op2 (α := α) (β := α) .sh fNe fun a b => some (!decide (a = b)) := fun a b => by
  unfold fNe
  rw [en_ok hd a, en_ok hd b, en_eq a b]; rfl
theorem any_en [DecidableEq α] (l : List α) (x : α) : (l.map en).any (fun z => z.eq (en x)) = decide (x ∈ l) := by
  rw [List.any_map, Bool.eq_iff_iff, List.any_eq_true, decide_eq_true_eq]
  constructor
  · rintro ⟨k, hk, e⟩
    have e : (en k).eq (en x) = true := e
    rw [en_eq] at e
    rw [← of_decide_eq_true e]; exact hk
  · intro h
    exact ⟨x, h, by show (en x).eq (en x) = true; rw [en_eq]; exact decide_eq_true rfl⟩
theorem inB_en [DecidableEq α] (hd : EnE.dep (List α) ≤ 64) (x : α) (l : List α) : fInB (en x) (en l) = some (decide (x ∈ l)) := by
  have h1 : (en x).ok = true := en_ok (Nat.le_trans (Nat.le_succ _) hd) x
  have h2 : (en l).ok = true := en_ok hd l
  show (if (en x).ok = true ∧ (en l).ok = true then some ((l.map en).any fun z => z.eq (en x)) else none) = _
  rw [if_pos ⟨h1, h2⟩, any_en]
theorem o2_in [DecidableEq α] (hd : EnE.dep (List α) ≤ 64) : Op2 (α := α) (β := List α) .sh fIn fun x l => some (decide (x ∈ l)) := fun x l => by
  unfold fIn; rw [inB_en hd]; rfl
/-! order of rows -/
end
end Kn
namespace Kn
open PySem L2
/-! ### typed readings: what may be nothing, continuations, constructors -/
open En
class EnQ (α : Type) [En α] : Prop where
  q : ∀ a : α, fIsN (En.en a) = some (.sh (.bl false)) ∧ fNotN (En.en a) = some (.sh (.bl true))
section
variable {α β γ δ ε : Type} [En α] [En β] [En γ] [En δ] [En ε]
instance : EnQ Int := ⟨fun _ => ⟨rfl, rfl⟩⟩
instance : EnQ Bool := ⟨fun _ => ⟨rfl, rfl⟩⟩
instance : EnQ (List α) := ⟨fun _ => ⟨rfl, rfl⟩⟩
instance : EnQ (Tp2 α β) := ⟨fun _ => ⟨rfl, rfl⟩⟩
instance : EnQ (Tp3 α β γ) := ⟨fun _ => ⟨rfl, rfl⟩⟩
instance : EnQ (Tp4 α β γ δ) := ⟨fun _ => ⟨rfl, rfl⟩⟩
instance : EnQ (Tp5 α β γ δ ε) := ⟨fun _ => ⟨rfl, rfl⟩⟩
end
section
variable {α β γ δ σ ρ τ : Type} [En α] [En β] [En γ]
variable {k k1 k2 k3 : Kx} {env env' : List Kn.Slot} {st : Sto} {e a b c c2 : Sem} {i j n : Nat} {x x' : α} {y : β} {tx : Option α} {ty : Option β} {as : SemA} {ds : List D}
variable {fn : Bool} {enc : τ → Outs} {f g h s1 : SemS} {t t1 t2 : Option τ} {z : τ}
def Op1t (k : Kx) (f : D → Option R) (G : α → β) : Prop := Op1 k f fun x => some (G x)
def Op2t (k : Kx) (f : D → D → Option R) (G : α → β → γ) : Prop := Op2 k f fun x y => some (G x y)
theorem ev_1tp {f : D → Option R} {G : α → β} (h : Op1t k f G) (ha : Ev k1 a env st (some x)) : Ev k (e1 f a) env st (some (G x)) := ev_1p (F := fun x => some (G x)) h ha
theorem ev_1tx {f : D → Option R} {G : α → β} (h : Op1t k f G) (ha : Ev k1 a env st tx) : Ev k (e1 f a) env st (tx.bind fun x => some (G x)) := ev_1x (F := fun x => some (G x)) h ha
theorem ev_2tpp {g : D → D → Option R} {G : α → β → γ} (h : Op2t k g G) (ha : Ev k1 a env st (some x)) (hb : Ev k2 b env st (some y)) : Ev k (e2 g a b) env st (some (G x y)) := ev_2pp (G := fun x y => some (G x y)) h ha hb
theorem ev_2tpx {g : D → D → Option R} {G : α → β → γ} (h : Op2t k g G) (ha : Ev k1 a env st (some x)) (hb : Ev k2 b env st ty) : Ev k (e2 g a b) env st (ty.bind fun y => some (G x y)) := ev_2xx (G := fun x y => some (G x y)) h ha hb
theorem ev_2txp {g : D → D → Option R} {G : α → β → γ} (h : Op2t k g G) (ha : Ev k1 a env st tx) (hb : Ev k2 b env st (some y)) : Ev k (e2 g a b) env st (tx.bind fun x => some (G x y)) := ev_2xx (G := fun x y => some (G x y)) h ha hb
theorem ru_env (env' : List Kn.Slot) (he : env = env') (hr : Ru fn enc f env' st t) : Ru fn enc f env st t := by rw [he]; exact hr
section
variable {o : Option α} {E : Option α → List Kn.Slot} {T0 : Option τ} {T1 : α → Option τ}
theorem seq_nil (f : SemS) : sSeq f sNil = f := by
  funext env st
  unfold sSeq
  cases f env st with
  | none => rfl
  | some p =>
    obtain ⟨o, e', st'⟩ := p
    cases o <;> rfl
theorem ru_sn (hr : Ru fn enc f env st t) : Ru fn enc (sSeq f sNil) env st t := by rw [seq_nil]; exact hr
end
/-! constructors -/
theorem ru_fldp {cl : Str} {kk : Nat} {ad : Addr} {fs : List D} (he : env[i]? = some (.me ad (.obj cl fs))) (hk : kk = fs.length) (ha : Ev k a env st (some x)) (hok : k.ok = true) (hr : Ru fn enc g (env.set i (.me ad (.obj cl (fs ++ [en x])))) st t) : Ru fn enc (sSeq (sFldM i cl kk a) g) env st t := by
  unfold Ev at ha; unfold Ru at hr ⊢
  have : sSeq (sFldM i cl kk a) g env st = g (env.set i (.me ad (.obj cl (fs ++ [en x])))) st := by
    rw [x_seq]
    unfold sFldM
    rw [ha]
    show ((match (k.r (en x)).pin, (env[i]? : Option Kn.Slot) with
      | .sh d, some (.me ad (.obj c' ds)) => if c' = cl ∧ kk = ds.length then some (Out.nx, env.set i (.me ad (.obj c' (ds ++ [d]))), st) else none
      | _, _ => none).bind _) = _
    rw [Kx.pin hok, he]
    show ((if cl = cl ∧ kk = fs.length then some (Out.nx, env.set i (.me ad (.obj cl (fs ++ [en x]))), st) else none).bind _) = _
    rw [if_pos ⟨rfl, hk⟩]; rfl
  rw [this]; exact hr
theorem ev_init [En ρ] {m : Nat} {cl : Str} {b : SemS} {t : Option ρ} (E : Addr → ρ → List Kn.Slot) (h : ∀ ad, Ru false (fun o => (.nx, E ad o, st)) b (startI m cl ad ds) st t) (hE : ∀ ad o, (E ad o)[0]? = some (.me ad (en o))) : runI m cl b ds st = t.map fun o => (Kx.ow.r (en o), st) := by
  have h' : ∀ ad, b (startI m cl ad ds) st = t.map fun o => (Out.nx, E ad o, st) := fun ad => by
    have h1 := h ad
    unfold Ru at h1
    cases hb : b (startI m cl ad ds) st with
    | none => rw [hb] at h1; cases t with
      | none => rfl
      | some o => cases h1
    | some p =>
      rw [hb] at h1
      cases t with
      | none => cases h1
      | some o =>
        have := nrm_nx (Option.some.inj h1)
        subst this; rfl
  cases t with
  | none =>
    unfold runI
    rw [h' 0]; rfl
  | some o => exact runI_of fun ad => ⟨_, h' ad, hE ad o⟩
end
end Kn
namespace Kn
open PySem L2
/-! ### is True; dicts by whole numbers, typed -/
open En
section
variable {X : Cx} {ct : CT} {pos : Pos} {x y : Expr} {a b : Sem}
end
structure Dc (α : Type) where
  l : List (Int × α)
section
variable {α β γ δ σ ρ τ : Type} [En α] [En β] [En γ]
instance : En (Dc α) := ⟨fun d => .dic (d.l.map fun p => (Sum.inl p.1, en p.2))⟩
variable {k k1 k2 k3 : Kx} {env env' : List Kn.Slot} {st : Sto} {e a b c : Sem} {i j n : Nat} {x x' : α} {y : β} {tx : Option α} {ty : Option β} {as : SemA} {ds : List D}
variable {fn : Bool} {enc : τ → Outs} {f g h s1 : SemS} {t t1 t2 : Option τ} {z : τ}
end
/-! calls by what is a name's own, some arguments not plain -/
section
open En
variable {α β γ : Type} [En α] [En β] [En γ] {μ : Type}
variable {k k1 k2 k3 : Kx} {env : List Kn.Slot} {st : Sto} {a : Sem} {n : Nat} {x : α} {tx : Option α} {as : SemA} {ds : List D} {t : Option μ} {dec : μ → List D}
end
end Kn
namespace Kn
open PySem L2
/-! ### the lesser of two tuples -/
section
open PySem.SeqAt PySem.Spec PyProof.Rows
section
variable {prog : Program} {w : World} {A : Around} {R : Result → Shared → Prop} {I S : Addr} {fp wr : List Addr} {P : Nat → Value → Prop} {St : Nat → Heap → Prop}
end
end
section
open PySem.Spec PyProof.Rows
end
section
variable {X : Cx} {ct : CT} {x y : Expr} {a b : Sem} {pos p : Pos}
end
end Kn
namespace Kn
open PySem L2
/-! ### a set of a list's ints, sorted -/
section
open PySem.Spec PyProof.Rows
section
variable {prog : Program} {w : World} {A : Around} {R : Result → Shared → Prop} {I S : Addr} {fp wr : List Addr} {G : Array GenState → Array GenState → Prop} {n : Nat} {P : Nat → Value → Prop} {St : Nat → Shared → Prop}
end
section
variable {w : World} {prog : Program} {A : Around} {s : Shared} {E : Value → Shared → Prop}
end
end
section
open PySem.Spec PyProof.Rows
section
variable {X : Cx} {ct : CT} {x : Expr} {a : Sem} {pos p p2 pos2 : Pos}
end
end
section
open En
end
end Kn
namespace Kn
open PySem L2
/-! ### list(range(a, b)) -/
section
variable {X : Cx} {ct : CT} {x y : Expr} {a b : Sem} {pos p p2 pos2 : Pos}
end
section
open En
end
end Kn
namespace Kn
open PySem L2
/-! ### x.append(y), x rows of one's own, y a name's own list -/
section
variable {X : Cx} {ct : CT} {pos cpos apos npos npos2 : Pos} {n n2 : Str}
end
section
variable {X : Cx} {ct : CT} {sxs : List Stmt} {f : SemS}
end
section
open En
variable {α τ : Type} [En α] {env : List Kn.Slot} {st : Sto} {fn : Bool} {enc : τ → Outs} {f g : SemS} {t : Option τ} {i j : Nat}
end
end Kn
namespace Kn
open PySem L2
/-! ### typed readings: a list of one's own, or nothing -/
open En
section
variable {α β γ σ ρ τ : Type} [En α] [En β] [En γ]
variable {k k1 k2 k3 : Kx} {env env' : List Kn.Slot} {st : Sto} {e a b c : Sem} {i j n : Nat} {x x' : α} {y : β} {tx : Option α} {ty : Option β} {as : SemA} {ds : List D}
variable {fn : Bool} {enc : τ → Outs} {f g h s1 : SemS} {t t1 t2 : Option τ} {z : τ}
end
end Kn
namespace Kn
open PySem L2
/-! ### sorted whole numbers; dicts of one item; items that may be nothing -/
section
variable {X : Cx} {ct : CT} {x : Expr} {a : Sem} {pos p : Pos}
end
open En
section
variable {α β γ σ ρ τ : Type} [En α] [En β] [En γ]
variable {k k1 k2 k3 : Kx} {env env' : List Kn.Slot} {st : Sto} {e a b c : Sem} {i j n : Nat} {x x' : α} {y : β} {tx : Option α} {ty : Option β} {as : SemA} {ds : List D}
variable {fn : Bool} {enc : τ → Outs} {f g h s1 : SemS} {t t1 t2 : Option τ} {z : τ}
end
end Kn
namespace Kn
open PySem L2
/-! ### things that many hold: cells of the store -/
open Classical in
/-- one list, dict or instance -/
def kC : Kd := ⟨fun K ct W F v d => ∃ a, v = .ref a ∧ Cell K ct W F a d, fun ⟨a, e, c⟩ l => ⟨a, e, c.mono l fun _ h => h⟩⟩
open Classical in
noncomputable def lookS (st : Sto) (g : Nat) : Option D := (st[g]?).bind fun p => if p.1 = kC then some p.2 else none
theorem lookS_some {st : Sto} {g : Nat} {d : D} (h : lookS st g = some d) : st[g]? = some (kC, d) := by
  unfold lookS at h
  obtain ⟨⟨κ, c⟩, h1, h2⟩ := bind2 h
  dsimp only at h2
  split at h2
  · rename_i e; cases h2; rw [h1, e]
  · cases h2
section
variable {K : PySem.W.Frag} {ct : CT} {F H H' : Hp} {W W' : Wd} {L L' : Addr → Option Lab} {env : List Kn.Slot} {st : Sto} {σ : St} {v : V} {d d' : Kn.D} {r : R} {a p : Addr} {o : HO} {g : Nat}
theorem Rel.cell (I : Rel K ct F W L env st σ H) (h : Rep K ct W v (.hnd g)) (e : lookS st g = some d) : ∃ a, v = .ref a ∧ L a = some (.ob g) ∧ Cell K ct W H a d := by
  obtain ⟨v', h1, a, rfl, c⟩ := I.ob g _ _ (lookS_some e)
  cases h with
  | hnd h2 =>
    rw [h1] at h2; cases h2
    obtain ⟨o, ho⟩ := c.there
    have hl : L a = some (.ob g) := by
      by_cases q : L a = some (.ob g)
      · exact q
      · rw [if_neg q] at ho; cases ho
    exact ⟨a, rfl, hl, c.mono (.refl W) fun o h => by rwa [if_pos hl] at h⟩
/-- what was just made is laid into the store -/
theorem Rel.store (I : Rel K ct F W L env st σ H) (h : RepR K ct F W L H env σ v (.ow d)) : ∃ W' L', W.le W' ∧ Rel K ct F W' L' env (st ++ [(kC, d)]) σ H ∧ Rep K ct W' v (.hnd st.length) := by
  obtain ⟨a, rfl, hl, hw, hf, c⟩ := h
  have fresh : W.rho st.length = none := by
    cases q : W.rho st.length with
    | none => rfl
    | some v => have := I.rh _ _ q; omega
  have le : W.le ⟨W.hs, W.tp, fun g => if g = st.length then some (.ref a) else W.rho g⟩ := ⟨fun _ _ h => h, fun _ _ h => h, fun g v h => by
    show (if g = st.length then some (V.ref a) else W.rho g) = some v
    rw [if_neg (by rintro rfl; rw [fresh] at h; cases h)]; exact h⟩
  have lab : ∀ b, b ≠ a → (if b = a then some (Lab.ob st.length) else L b) = L b := fun b h => if_neg h
  refine ⟨⟨W.hs, W.tp, fun g => if g = st.length then some (.ref a) else W.rho g⟩, fun b => if b = a then some (.ob st.length) else L b, le, ⟨fun b u e => ?_, fun b u e => ?_, I.tp, fun g κ x e => ?_, fun g v e => ?_, I.len, fun j s e => ?_⟩, .hnd (if_pos rfl)⟩
  · obtain ⟨h1, h2, h3⟩ := I.fr b u e
    exact ⟨h1, (lab b (by rintro rfl; rw [hf] at e; cases e)).trans h2, h3⟩
  · obtain ⟨h1, h2⟩ := I.hs b u e
    exact ⟨h1, (lab b (by rintro rfl; rw [hw] at e; cases e)).trans h2⟩
  · by_cases hg : g < st.length
    · rw [List.getElem?_append_left hg] at e
      obtain ⟨v, h1, h2⟩ := I.ob g κ x e
      refine ⟨v, le.rho _ _ h1, ?_⟩
      have q : (fun b => if (if b = a then some (Lab.ob st.length) else L b) = some (.ob g) then H b else none) = fun b => if L b = some (.ob g) then H b else none := by
        funext b
        by_cases hb : b = a
        · subst hb
          rw [if_pos rfl, hl, if_neg (by intro z; cases z; omega), if_neg (fun z => nomatch z)]
        · rw [if_neg hb]
      rw [q]; exact κ.mono h2 le
    · rw [List.getElem?_append_right (by omega)] at e
      have hz : g - st.length = 0 := by
        cases q : g - st.length with
        | zero => rfl
        | succ n => rw [q] at e; cases e
      rw [hz] at e
      cases e
      have : g = st.length := by omega
      subst this
      refine ⟨.ref a, if_pos rfl, a, rfl, c.mono le fun o h => ?_⟩
      show (if (if a = a then some (Lab.ob st.length) else L a) = some (Lab.ob st.length) then H a else none) = some o
      rw [if_pos (if_pos rfl)]; exact h
  · show g < (st ++ [(kC, d)]).length
    rw [List.length_append]
    have e : (if g = st.length then some (V.ref a) else W.rho g) = some v := e
    by_cases q : g = st.length
    · simp; omega
    · rw [if_neg q] at e
      have := I.rh g v e
      simp; omega
  · exact (I.sl j s e).mono le fun b u hb hu => ⟨hu, (lab b (by rintro rfl; rw [hl] at hb; cases hb)).trans hb⟩
end
/-! reading: at the thing itself, or through a handle -/
abbrev Dr := Sto → R → Option D
section
variable {X : Cx} {ct : CT} {pos : Pos} {x y : Expr} {a b c h ix e : Sem} {δ δ1 δ2 : Dr}
/-! a field of one's self while it is made -/
/-! writing through a handle -/
end
end Kn
namespace Kn
open PySem L2
/-! ### methods of things that many hold -/
section
variable {X : Cx} {ct : CT} {pos p apos : Pos} {x y z : Expr} {es : List Expr} {a b c h ix e : Sem} {as : SemA} {δ δ1 δ2 : Dr}
/-! o.m(..), o behind a handle -/
end
end Kn
namespace Kn
open PySem L2
/-! ### going through a thing that many hold -/
section
variable (K : PySem.W.Frag) (ct : CT)
end
section
variable {X : Cx} {ct : CT} {pos p apos : Pos} {x y z : Expr} {es : List Expr} {a b c h ix e : Sem} {f : SemS} {as : SemA} {δ δ1 δ2 : Dr} {tg : Expr}
/-! lists behind handles -/
end
end Kn
namespace Kn
open PySem L2
/-! ### typed readings: the store -/
open En
structure Hd (τ : Type) where
  g : Nat
  deriving DecidableEq
section
variable {α β γ δ σ ρ τ μ : Type} [En α] [En β] [En γ]
instance {τ : Type} : En (Hd τ) := ⟨fun h => .hnd h.g⟩
open Classical in
noncomputable def getS [En α] (st : Sto) (g : Nat) : Option α := if h : ∃ x : α, lookS st g = some (en x) then some (choose h) else none
theorem getS_look {st : Sto} {g : Nat} {x : α} (h : getS st g = some x) : lookS st g = some (en x) := by
  unfold getS at h
  split at h
  · rename_i q
    cases h
    exact Classical.choose_spec q
  · cases h
variable {k k1 k2 k3 : Kx} {env env' : List Kn.Slot} {st : Sto} {e a b c h ix : Sem} {i j n : Nat} {x x' : α} {y : β} {tx : Option α} {ty : Option β} {as : SemA} {ds : List D}
variable {fn : Bool} {enc : τ → Outs} {f g s1 : SemS} {t t1 t2 : Option τ} {z : τ}
/-! reading through a handle -/
/-! what changes the store -/
def Evx (k : Kx) (e : Sem) (env : List Kn.Slot) (st : Sto) (t : Option (α × Sto)) : Prop := e env st = t.map fun p => (k.r (en p.1), p.2)
theorem evx_ofp (ha : Ev k e env st (some x)) : Evx k e env st (some (x, st)) := ha
def EvAX (as : SemA) (env : List Kn.Slot) (st : Sto) (t : Option (μ × Sto)) (dec : μ → List D) : Prop := as env st = t.map fun b => ((dec b.1).map .sh, b.2)
theorem eax_of (h : EvAp as env st ds) : EvAX as env st (some ((), st)) fun _ => ds := h
section
variable {t : Option (μ × Sto)} {dec : μ → List D} {m : Fn}
theorem evx_callX {F : μ → Sto → Option (γ × Sto)} (ha : EvAX as env st t dec) (h : ∀ b st1, m (dec b) st1 = (F b st1).map fun p => (k.r (en p.1), p.2)) (hl : ∀ b, (dec b).length = n) : Evx k (eCall n m as) env st (t.bind fun b => F b.1 b.2) := by
  unfold EvAX at ha; unfold Evx eCall
  rw [ha]
  cases t with
  | none => rfl
  | some b =>
    show ((valsR ((dec b.1).map .sh)).bind fun ds => if ds.length = n then m ds b.2 else none) = _
    rw [vals_sh]
    show (if (dec b.1).length = n then m (dec b.1) b.2 else none) = _
    rw [if_pos (hl b.1), h]; rfl
end
/-! operations on what changed the store -/
theorem evx_not {t : Option (Bool × Sto)} (ha : Evx .sh a env st t) : Evx .sh (eNot a) env st (t.bind fun p => some (!p.1, p.2)) := by
  unfold Evx at ha ⊢; unfold eNot; rw [ha]; cases t <;> rfl
theorem evx_or {t : Option (Bool × Sto)} {u : Sto → Option (Bool × Sto)} (ha : Evx .sh a env st t) (hb : ∀ st1, Evx .sh b env st1 (u st1)) : Evx .sh (eOr a b) env st (t.bind fun p => if p.1 = true then some (true, p.2) else u p.2) := by
  unfold Evx at ha ⊢; unfold eOr; rw [ha]
  cases t with
  | none => rfl
  | some p =>
    obtain ⟨v, st1⟩ := p
    cases v with
    | false => exact hb st1
    | true => rfl
/-! comprehensions that change the store -/
/-! going through a list behind a handle, nothing changed -/
end
end Kn
namespace Kn
open PySem L2
/-! ### typed readings: statements that change the store -/
open En
section
variable {α β γ δ σ ρ τ μ : Type} [En α] [En β] [En γ]
variable {k k1 k2 k3 : Kx} {env env' : List Kn.Slot} {st : Sto} {e a b c h ix : Sem} {i j n : Nat} {x x' : α} {y : β} {tx : Option α} {ty : Option β} {as : SemA} {ds : List D}
variable {fn : Bool} {enc : τ → Outs} {f g s1 : SemS} {t1 t2 : Option τ} {z : τ}
theorem ru_ifX {c : Sem} {t : Option (Bool × Sto)} {T1 T2 : Sto → Option τ} (hc : Evx .sh c env st t) (h1 : ∀ st1, Ru fn enc (sSeq f s1) env st1 (T1 st1)) (h2 : ∀ st1, Ru fn enc (sSeq g s1) env st1 (T2 st1)) : Ru fn enc (sSeq (sIf c f g) s1) env st (t.bind fun p => if p.1 = true then T1 p.2 else T2 p.2) := by
  unfold Evx at hc
  cases t with
  | none => unfold Ru; rw [x_seq, x_if, hc]; rfl
  | some p =>
    obtain ⟨v, st1⟩ := p
    have h1 := h1 st1
    have h2 := h2 st1
    unfold Ru at h1 h2 ⊢
    rw [x_seq, x_if, hc]
    cases v with
    | true => exact h1
    | false => exact h2
/-! a statement that goes on with a state and a store -/
def encN (E : σ → List Kn.Slot) : σ × Sto → Outs := fun p => (.nx, E p.1, p.2)
def RnX (E : σ → List Kn.Slot) (f : SemS) (env : List Kn.Slot) (st : Sto) (t : Option (σ × Sto)) : Prop := f env st = t.map (encN E)
theorem rnx_of {E : σ → List Kn.Slot} {t : Option (σ × Sto)} (h : Ru false (encN E) (sSeq f sNil) env st t) : RnX E f env st t := by
  unfold Ru at h; unfold RnX
  rw [seq_nil] at h
  cases hf : f env st with
  | none =>
    rw [hf] at h
    cases t with
    | none => rfl
    | some s => cases h
  | some p =>
    rw [hf] at h
    cases t with
    | none => cases h
    | some s =>
      have := nrm_nx (Option.some.inj h)
      rw [this]; rfl
theorem ru_joinX {E : σ → List Kn.Slot} {t1 : Option (σ × Sto)} {T : σ → Sto → Option τ} (h1 : RnX E f env st t1) (h2 : ∀ s st1, Ru fn enc g (E s) st1 (T s st1)) : Ru fn enc (sSeq f g) env st (t1.bind fun p => T p.1 p.2) := by
  unfold RnX at h1
  cases t1 with
  | none => unfold Ru; rw [x_seq, h1]; rfl
  | some p =>
    have h2 := h2 p.1 p.2
    unfold Ru at h2 ⊢
    have : sSeq f g env st = g (E p.1) p.2 := by rw [x_seq, h1]; rfl
    rw [this]; exact h2
/-- a loop that may hand back -/
def encCX [En ρ] (k : Kx) (E : σ → List Kn.Slot) : Ct (ρ × Sto) (σ × Sto) → Outs
  | .nx p => (.nx, E p.1, p.2)
  | .rt r => (.rt (k.r (en r.1)), [], r.2)
theorem forTX_ev [En ρ] {E : σ → List Kn.Slot} {o : SemG} {E1 : α → σ → List Kn.Slot} {step : α → σ → Sto → Option (Ct (ρ × Sto) (σ × Sto))} (ho : ∀ x s, o (en x) (E s) = some (E1 x s)) (hf : ∀ x s st, Ru false (encCX k E) f (E1 x s) st (step x s st)) : ∀ (l : List α) (s : σ) (st : Sto),
    (forL o f (l.map en) (E s) st).map (nrm false) = (forT (fun x p => step x p.1 p.2) l (s, st)).map (encCX k E)
  | [], s, st => rfl
  | x :: xs, s, st => by
    have h1 := hf x s st
    unfold Ru at h1
    rw [List.map_cons, forL, ho x s, forT]
    show (((f (E1 x s) st).bind _).map _) = _
    cases hs : step x s st with
    | none =>
      rw [hs] at h1
      cases hx : f (E1 x s) st with
      | none => rfl
      | some p => rw [hx] at h1; cases h1
    | some c =>
      rw [hs] at h1
      cases hx : f (E1 x s) st with
      | none => rw [hx] at h1; cases h1
      | some p =>
        rw [hx] at h1
        cases c with
        | nx s' =>
          have h1 := nrm_nx (Option.some.inj h1)
          subst h1
          exact forTX_ev ho hf xs s'.1 s'.2
        | rt r =>
          obtain ⟨h3, r0, e0, rfl⟩ := nrm_rt (fn := false) (Option.some.inj h1)
          show some (nrm false (.rt r0, e0, r.2)) = _
          rw [h3]; rfl
def RcX [En ρ] (k : Kx) (E : σ → List Kn.Slot) (f : SemS) (env : List Kn.Slot) (st : Sto) (t : Option (Ct (ρ × Sto) (σ × Sto))) : Prop := (f env st).map (nrm false) = t.map (encCX k E)
theorem rcx_for [En ρ] {it : SemI} {o : SemG} {E : σ → List Kn.Slot} {E1 : α → σ → List Kn.Slot} {step : α → σ → Sto → Option (Ct (ρ × Sto) (σ × Sto))} {s0 : σ} {tl : Option (List α)} (hi : EvI it env st tl) (he : env = E s0) (ho : ∀ x s, o (en x) (E s) = some (E1 x s)) (hf : ∀ x s st, Ru false (encCX k E) f (E1 x s) st (step x s st)) :
    RcX k E (sFor it o f) env st (tl.bind fun l => forT (fun x p => step x p.1 p.2) l (s0, st)) := by
  unfold EvI at hi; unfold RcX
  rw [x_for, hi]
  cases tl with
  | none => rfl
  | some l =>
    show (forL o f (l.map en) env st).map _ = _
    rw [he]
    exact forTX_ev ho hf l s0 st
theorem ru_joincX [En ρ] {E : σ → List Kn.Slot} {t1 : Option (Ct (ρ × Sto) (σ × Sto))} {T : σ → Sto → Option τ} {F : ρ × Sto → τ} (h1 : RcX k E f env st t1) (hF : ∀ r, enc (F r) = (.rt (k.r (en r.1)), [], r.2)) (h2 : ∀ s st1, Ru fn enc g (E s) st1 (T s st1)) : Ru fn enc (sSeq f g) env st (t1.bind fun c => c.go (fun p => T p.1 p.2) fun r => some (F r)) := by
  unfold RcX at h1
  unfold Ru
  rw [x_seq]
  cases hf : f env st with
  | none =>
    rw [hf] at h1
    cases t1 with
    | none => rfl
    | some c => cases h1
  | some p =>
    rw [hf] at h1
    cases t1 with
    | none => cases h1
    | some c =>
      have h1 := Option.some.inj h1
      cases c with
      | nx s =>
        have := nrm_nx h1
        subst this
        exact h2 s.1 s.2
      | rt r =>
        obtain ⟨h3, r0, e0, rfl⟩ := nrm_rt (fn := fn) h1
        show some (nrm fn (.rt r0, e0, r.2)) = some (enc (F r))
        rw [h3, hF]
/-! defs -/
def encFS [En ρ] (k : Kx) : ρ × Sto → Outs := fun p => (.rt (k.r (en p.1)), [], p.2)
theorem ev_fnS [En ρ] {m : Nat} {b : SemS} {t : Option (ρ × Sto)} (h : Ru true (encFS k) b (ds.map .sh ++ List.replicate (m - ds.length) .no) st t) : runB m b ds st = t.map fun p => (k.r (en p.1), p.2) := by
  unfold Ru at h
  unfold runB
  cases hb : b (ds.map .sh ++ List.replicate (m - ds.length) .no) st with
  | none =>
    rw [hb] at h
    cases t with
    | none => rfl
    | some r => cases h
  | some p =>
    rw [hb] at h
    cases t with
    | none => cases h
    | some r =>
      have h := Option.some.inj h
      obtain ⟨o, e, s⟩ := p
      cases o with
      | nx =>
        have h : (Out.rt (.sh .non), [], s) = ((.rt (k.r (en r.1)), [], r.2) : Outs) := h
        injection h with h1 h2
        injection h2 with h2 h3
        injection h1 with h1
        show some (Kn.R.sh .non, s) = some (k.r (en r.1), r.2)
        rw [h1, h3]
      | rt r0 =>
        have h : (Out.rt r0.outR, [], s) = ((.rt (k.r (en r.1)), [], r.2) : Outs) := h
        injection h with h1 h2
        injection h2 with h2 h3
        injection h1 with h1
        show some (r0.outR, s) = some (k.r (en r.1), r.2)
        rw [h1, h3]
      | bk => cases h
      | ct => cases h
/-! writing through a handle -/
end
end Kn
namespace Kn
open PySem L2
/-! ### typed readings: the store, once more -/
open En
section
variable {X : Cx} {ct : CT} {pos p : Pos} {x : Expr} {a : Sem} {δ : Dr}
end
section
variable {α β γ δ σ ρ τ μ : Type} [En α] [En β] [En γ]
variable {k k1 k2 k3 : Kx} {env env' : List Kn.Slot} {st : Sto} {e a b c h ix : Sem} {i j n : Nat} {x x' : α} {y : β} {tx : Option α} {ty : Option β} {as : SemA} {ds : List D}
section
variable {t : Option (μ × Sto)} {dec : μ → List D} {m : Fn}
end
/-! truths in lists -/
theorem ok_bls (l : List Bool) : (D.lst (l.map D.bl)).ok = true := okN_ok (okN_lst (k := 0) fun d hd => by
  obtain ⟨b, _, rfl⟩ := List.mem_map.mp hd
  exact ⟨rfl, Nat.le_refl _⟩) (by decide)
theorem inB_bl (x : Bool) (l : List Bool) : fInB (en x) (en l) = some (decide (x ∈ l)) := by
  show (if (D.bl x).ok = true ∧ (D.lst (l.map D.bl)).ok = true then some ((l.map D.bl).any fun z => z.eq (.bl x)) else none) = _
  rw [if_pos ⟨rfl, ok_bls l⟩]
  congr 1
  rw [List.any_map, Bool.eq_iff_iff, List.any_eq_true, decide_eq_true_eq]
  constructor
  · rintro ⟨k, hk, e⟩
    have e : (D.bl k).eq (.bl x) = true := e
    rw [eq_bl] at e
    rw [← of_decide_eq_true e]; exact hk
  · intro h
    exact ⟨x, h, by show (D.bl x).eq (.bl x) = true; rw [eq_bl]; simp⟩
theorem o2_inb : Op2 (α := Bool) (β := List Bool) .sh fIn fun x l => some (decide (x ∈ l)) := fun x l => by
  unfold fIn; rw [inB_bl]; rfl
end
end Kn
namespace Kn
open PySem L2
/-! ### tables over a thing that many hold -/
section
variable {X : Cx} {ct : CT} {x : Expr} {pos spos py lp : Pos} {n : Str}
end
/-! ### equality through what is held -/
section
variable {K : PySem.W.Frag} {ct : CT} {W : Wd} {H : Hp}
theorem RdH.dp0 {F : Hp} {L : Addr → Option Lab} {env : List Slot} {st : Sto} {σ : St} {v : V} {d : D} (h : RdH K ct W H v d) (I : Rel K ct F W L env st σ H) (c : d.py.canLay0 = true) : Dp K H v d.py := by
  rcases h with h | ⟨a, rfl, cl⟩
  · exact h.dp (fun a o e => (I.hs a o e).1) I.tp c
  · cases cl with
    | lst h q =>
      rw [D.py] at c ⊢
      exact .lst (SqL.of h) (q.dp (fun a o e => (I.hs a o e).1) I.tp (by simpa [PyData.canLay0] using c))
    | dic h _ q => simp [D.py, PyData.canLay0] at c
    | obj h _ _ q => simp [D.py, PyData.canLay0] at c
end
section
variable {X : Cx} {ct : CT} {pos : Pos} {x y : Expr} {a b c h ix e : Sem} {δ δ1 δ2 : Dr}
/-! slices of a thing that many hold -/
end
/-! typed -/
open En
class Dpr (α : Type) (β : outParam Type) [En α] [En β] where
  rd : Sto → α → Option β
  inj : ∀ x y : α, en x = en y → x = y
  ok : ∀ {K ct F W L env st σ H v} {x : α} {y : β}, Rel K ct F W L env st σ H → RdH K ct W H v (en x) → rd st x = some y → (en y).py.canLay0 = true → Dp K H v (en y).py
theorem Hd.en_inj {τ : Type} (a b : Hd τ) (h : (en a : D) = en b) : a = b := by
  obtain ⟨a⟩ := a; obtain ⟨b⟩ := b
  have h : D.hnd a = D.hnd b := h
  cases h; rfl
section
variable {α β α' β' α2 β2 : Type} [En α] [En β] [En α'] [En β'] [En α2] [En β2]
instance dprE [EnE α] : Dpr α α := ⟨fun _ x => some x, EnE.inj, fun I h e c => by cases e; exact h.dp0 I c⟩
theorem not_hnd_cell {K : PySem.W.Frag} {ct : CT} {W : Wd} {H : Hp} {v : V} {g : Nat} (h : RdH K ct W H v (.hnd g)) : Rep K ct W v (.hnd g) := by
  rcases h with h | ⟨a, _, c⟩
  · exact h
  · cases c
noncomputable instance dprH [EnE α] : Dpr (Hd α) α := ⟨fun st h => getS st h.g, Hd.en_inj, fun I h e c => by
  obtain ⟨a, rfl, _, cl⟩ := I.cell (not_hnd_cell h) (getS_look e)
  exact RdH.dp0 (.inr ⟨a, rfl, cl⟩) I c⟩
theorem mapL_inj [Dpr α β] : ∀ {l m : List α}, l.map en = m.map en → l = m
  | [], [], _ => rfl
  | [], _ :: _, h => by cases h
  | _ :: _, [], h => by cases h
  | x :: xs, y :: ys, h => by
    rw [List.map_cons, List.map_cons] at h
    obtain ⟨h1, h2⟩ := List.cons.inj h
    rw [Dpr.inj x y h1, mapL_inj h2]
def rdL [Dpr α β] (st : Sto) : List α → Option (List β)
  | [] => some []
  | x :: xs => (Dpr.rd st x).bind fun y => (rdL st xs).map fun ys => y :: ys
theorem rdL_dp [Dpr α β] {K : PySem.W.Frag} {ct : CT} {F : Hp} {W : Wd} {L : Addr → Option Lab} {env : List Slot} {st : Sto} {σ : St} {H : Hp} (I : Rel K ct F W L env st σ H) : ∀ {l : List α} {m : List β} {vs : List V}, RepL K ct W vs (l.map en) → rdL st l = some m → PyData.canLayAll0 (D.pyL (m.map en)) = true → DpAll K H vs (D.pyL (m.map en))
  | [], m, vs, h, e, c => by cases e; cases h; rw [List.map_nil, D.pyL]; exact .nil
  | x :: xs, m, vs, h, e, c => by
    obtain ⟨y, h1, e⟩ := bind2 e
    obtain ⟨ys, h2, rfl⟩ := map2 e
    cases h with
    | cons h3 h4 =>
      rw [List.map_cons, D.pyL] at c ⊢
      rw [PyData.canLayAll0, Bool.and_eq_true] at c
      exact .cons (Dpr.ok I (.inl h3) h1 c.1) (rdL_dp I h4 h2 c.2)
instance (priority := 100) dprL [Dpr α β] : Dpr (List α) (List β) := ⟨rdL, fun a b h => mapL_inj (D.lst.inj h), fun {K ct F W L env st σ H v x y} I h e c => by
  have h : RdH K ct W H v (.lst (x.map en)) := h
  obtain ⟨a, vs, rfl, g, q⟩ := h.list I
  have c : (D.lst (y.map en)).py.canLay0 = true := c
  show Dp K H _ (D.lst (y.map en)).py
  rw [D.py] at c ⊢
  exact .lst (SqL.of g) (rdL_dp I q e (by simpa [PyData.canLay0] using c))⟩
instance (priority := 100) dprHl2 [Dpr α β] [Dpr α' β'] : Dpr (Hl2 α α') (Hl2 β β') := ⟨fun st x => (Dpr.rd st x.x0).bind fun a => (Dpr.rd st x.x1).bind fun b => some ⟨a, b⟩, fun a b h => by
    obtain ⟨a0, a1⟩ := a; obtain ⟨b0, b1⟩ := b
    have h := D.lst.inj h
    injection h with h1 h
    injection h with h2 h
    have e1 : a0 = b0 := Dpr.inj _ _ h1
    have e2 : a1 = b1 := Dpr.inj _ _ h2
    rw [e1, e2], fun {K ct F W L env st σ H v x y} I h e c => by
  have h : RdH K ct W H v (.lst [en x.x0, en x.x1]) := h
  obtain ⟨a, vs, rfl, g, q⟩ := h.list I
  obtain ⟨y0, e0, e⟩ := bind2 e
  obtain ⟨y1, e1, e⟩ := bind2 e
  cases e
  have c : (D.lst [en y0, en y1]).py.canLay0 = true := c
  show Dp K H _ (D.lst [en y0, en y1]).py
  rw [D.py] at c ⊢
  simp only [D.pyL, PyData.canLay0, PyData.canLayAll0, Bool.and_eq_true] at c ⊢
  cases q with
  | cons q0 q =>
    cases q with
    | cons q1 q =>
      cases q
      exact .lst (SqL.of g) (.cons (Dpr.ok I (.inl q0) e0 c.1) (.cons (Dpr.ok I (.inl q1) e1 c.2.1) .nil))⟩
instance (priority := 100) dprHl3 [Dpr α β] [Dpr α' β'] [Dpr α2 β2] : Dpr (Hl3 α α' α2) (Hl3 β β' β2) := ⟨fun st x => (Dpr.rd st x.x0).bind fun a => (Dpr.rd st x.x1).bind fun b => (Dpr.rd st x.x2).bind fun c => some ⟨a, b, c⟩, fun a b h => by
    obtain ⟨a0, a1, a2⟩ := a; obtain ⟨b0, b1, b2⟩ := b
    have h := D.lst.inj h
    injection h with h1 h
    injection h with h2 h
    injection h with h3 h
    have e1 : a0 = b0 := Dpr.inj _ _ h1
    have e2 : a1 = b1 := Dpr.inj _ _ h2
    have e3 : a2 = b2 := Dpr.inj _ _ h3
    rw [e1, e2, e3], fun {K ct F W L env st σ H v x y} I h e c => by
  have h : RdH K ct W H v (.lst [en x.x0, en x.x1, en x.x2]) := h
  obtain ⟨a, vs, rfl, g, q⟩ := h.list I
  obtain ⟨y0, e0, e⟩ := bind2 e
  obtain ⟨y1, e1, e⟩ := bind2 e
  obtain ⟨y2, e2, e⟩ := bind2 e
  cases e
  have c : (D.lst [en y0, en y1, en y2]).py.canLay0 = true := c
  show Dp K H _ (D.lst [en y0, en y1, en y2]).py
  rw [D.py] at c ⊢
  simp only [D.pyL, PyData.canLay0, PyData.canLayAll0, Bool.and_eq_true] at c ⊢
  cases q with
  | cons q0 q =>
    cases q with
    | cons q1 q =>
      cases q with
      | cons q2 q =>
        cases q
        exact .lst (SqL.of g) (.cons (Dpr.ok I (.inl q0) e0 c.1) (.cons (Dpr.ok I (.inl q1) e1 c.2.1) (.cons (Dpr.ok I (.inl q2) e2 c.2.2.1) .nil)))⟩
end
section
variable {α β γ δ σ ρ τ μ α' β' : Type} [En α] [En β] [En γ] [En α'] [En β']
variable {k k1 k2 k3 : Kx} {env env' : List Kn.Slot} {st : Sto} {e a b c h ix : Sem} {i j n : Nat} {x x' : α} {y : β} {tx : Option α} {ty : Option α'} {as : SemA} {ds : List D}
variable {fn : Bool} {enc : τ → Outs} {f g s1 : SemS} {t1 t2 : Option τ} {z : τ}
/-! the body changes the store: the thing gone through stays -/
end
section
variable {α β γ : Type} [En α] [En β] [En γ]
variable {k k1 k2 k3 : Kx} {env : List Kn.Slot} {st : Sto} {a b c : Sem} {x : α} {ty : Option β}
end
end Kn
namespace Kn
open PySem L2
/-! ### sorted: tuples of ints of one length, any number of them -/
section
open PySem.Spec PyProof.Rows Srt
variable {prog : Program} {w : World} {A : Around} {E : Value → Shared → Prop} {s : Shared}
end
section
open PySem.Spec PyProof.Rows
variable {X : Cx}
end
/-! data -/
section
variable {X : Cx} {ct : CT} {x : Expr} {a : Sem} {pos p : Pos}
end
/-! typed -/
open En
class EnT (α : Type) [En α] where
  d : Nat
  ns : α → List Int
  of : List Int → α
  d1 : 1 ≤ d ∧ d ≤ 9
  en : ∀ x : α, En.en x = .tup ((ns x).map D.int)
  ln : ∀ x : α, (ns x).length = d
  bk : ∀ l : List Int, l.length = d → ns (of l) = l
instance : EnT (Tp2 Int Int) := ⟨2, fun x => [x.x0, x.x1], fun l => ⟨l.getD 0 0, l.getD 1 0⟩, by decide, fun x => rfl, fun x => rfl, fun l h => by
  match l, h with
  | [a, b], _ => rfl⟩
instance : EnT (Tp3 Int Int Int) := ⟨3, fun x => [x.x0, x.x1, x.x2], fun l => ⟨l.getD 0 0, l.getD 1 0, l.getD 2 0⟩, by decide, fun x => rfl, fun x => rfl, fun l h => by
  match l, h with
  | [a, b, c], _ => rfl⟩
section
variable {α : Type} [En α] [EnT α]
end
end Kn
namespace Kn
open PySem L2
/-! ### dicts whose keys are pairs of ints: their items, one by one -/
section
open PySem.Spec PyProof.Rows
end
end Kn
namespace Kn
open PySem L2
/-! ### dicts by pairs of ints: a kind of cell -/
abbrev PK := Int × Int
def kyT (k : PK) : List Key := [.inl k.1, .inl k.2]
def toT (kvs : List (PK × V)) : List (List Key × V) := kvs.map fun e => (kyT e.1, e.2)
def itD (e : PK × D) : D := .tup [.tup [.int e.1.1, .int e.1.2], e.2]
def enT (kds : List (PK × D)) : D := .lst (kds.map itD)
structure TOk (K : PySem.W.Frag) (ct : CT) (W : Wd) (kvs : List (PK × V)) (d : D) : Prop where
  ex : ∃ kds, d = enT kds ∧ kvs.map (·.1) = kds.map (·.1) ∧ RepL K ct W (kvs.map (·.2)) (kds.map (·.2))
theorem TOk.mono {K : PySem.W.Frag} {ct : CT} {W W' : Wd} {kvs : List (PK × V)} {d : D} (h : TOk K ct W kvs d) (l : W.le W') : TOk K ct W' kvs d := by
  obtain ⟨kds, h1, h2, h3⟩ := h.ex
  exact ⟨kds, h1, h2, h3.mono l⟩
def kT : Kd := ⟨fun K ct W F v d => ∃ a kvs, v = .ref a ∧ F a = some (.dT (toT kvs)) ∧ TOk K ct W kvs d, fun ⟨a, kvs, e, h, t⟩ l => ⟨a, kvs, e, h, t.mono l⟩⟩
/-- .. while it is gone through -/
def kF (z : Obj × List (PK × V)) : Kd := ⟨fun K ct W F v d => ∃ a, v = .ref a ∧ F a = some (.frz z.1 (.dT (toT z.2))) ∧ TOk K ct W z.2 d, fun ⟨a, e, h, t⟩ l => ⟨a, e, h, t.mono l⟩⟩
open Classical in
/-- what may be read -/
noncomputable def lookT (st : Sto) (g : Nat) : Option D := (st[g]?).bind fun p => if p.1 = kT ∨ ∃ z, p.1 = kF z then some p.2 else none
section
variable {K : PySem.W.Frag} {ct : CT} {F H H' : Hp} {W W' : Wd} {L L' : Addr → Option Lab} {env : List Kn.Slot} {st : Sto} {σ : St} {v : V} {d d' : Kn.D} {r : R} {a p : Addr} {o : HO} {g : Nat}
end
/-! ### the rules -/
section
variable {X : Cx} {ct : CT} {pos cpos apos tpos : Pos} {x y z : Expr} {a b h ix e : Sem}
end
end Kn
namespace Kn
open PySem L2
/-! ### a dict is gone through -/
section
variable {X : Cx} {ct : CT} {tg x : Expr} {a h e : Sem}
end
/-! ### typed -/
open En
structure Dt (β : Type) where
  l : List (Tp2 (Tp2 Int Int) β)
instance {β : Type} [En β] : En (Dt β) := ⟨fun d => .lst (d.l.map en)⟩
section
variable {α β γ ρ τ μ : Type} [En α] [En β] [En γ]
variable {k k1 k2 k3 : Kx} {env env' : List Kn.Slot} {st sz : Sto} {e a b c h ix : Sem} {i j n : Nat} {as : SemA} {ds : List D}
variable {fn : Bool} {enc : τ → Outs} {f g s1 : SemS} {t t1 t2 : Option τ} {z : τ}
open Classical in
noncomputable def getT [En α] (st : Sto) (g : Nat) : Option α := if h : ∃ x : α, lookT st g = some (en x) then some (choose h) else none
variable {tx : Option (Hd (Dt β))} {ty : Option (Tp2 Int Int)}
/-- what reads alike -/
structure Szo (st sz : Sto) : Prop where
  S : ∀ {α : Type} [En α] (g : Nat), getS (α := α) sz g = getS st g
  T : ∀ {α : Type} [En α] (g : Nat), getT (α := α) sz g = getT st g
theorem Szo.refl (st : Sto) : Szo st st := ⟨fun _ => rfl, fun _ => rfl⟩
end
end Kn
namespace Kn
open PySem L2
/-! ### tuples one behind the other; zip -/
open En
section
variable {α β γ δ : Type} [En α] [En β] [En γ] [En δ]
variable {k k1 k2 : Kx} {env : List Kn.Slot} {st : Sto} {a b : Sem}
end
end Kn
namespace Kn
open PySem L2
/-! ### a class under a class -/
section
variable {X : Cx} {ct : CT} {x y : Expr} {a b e : Sem} {as : SemA} {pos p apos npos cpos : Pos} {c f m n : Str} {C : Addr} {ns : List Str} {es : List Expr}
end
section
variable {X : Cx} {ct : CT} {x y : Expr} {a b e : Sem} {as : SemA} {pos p apos npos cpos : Pos} {c f m n : Str} {C : Addr} {ns : List Str} {es : List Expr}
end
/-! ### a method by the class of its object -/
section
variable {X : Cx} {ct : CT} {x y : Expr} {a b e : Sem} {as : SemA} {pos p apos npos cpos : Pos} {c c1 c2 c3 f m n : Str} {C C1 C2 C3 : Addr} {ns ns1 ns2 ns3 : List Str} {es : List Expr}
/-! ### isinstance of one's own classes -/
end
/-! ### typed -/
open En
section
variable {α β γ : Type} [En α] [En β] [En γ]
variable {k k1 k2 k3 : Kx} {env : List Kn.Slot} {st : Sto} {a b : Sem} {as : SemA} {n : Nat}
end
end Kn
namespace Kn
open PySem L2
/-! ### isinstance through a handle -/
section
variable {X : Cx} {ct : CT} {x : Expr} {a : Sem} {pos p : Pos} {δ : Dr}
end
/-! ### zip of a thing that many hold with a list -/
section
variable {X : Cx} {ct : CT} {x y : Expr} {a b : Sem} {pos : Pos} {δ : Dr}
end
end Kn
namespace Kn
open PySem L2
/-! ### a list just made by a comprehension is laid into the store -/
section
variable {X : Cx} {ct : CT} {x y : Expr} {a b c : Sem} {pos p apos : Pos}
end
end Kn
namespace Kn
open PySem L2
/-! ### a, b = e, e' ; xs[i] += e, xs behind a handle ; | -/
section
variable {X : Cx} {ct : CT} {x y z : Expr} {a b h ix e : Sem} {as : SemA} {pos p apos tpos px py pt : Pos} {δ : Dr}
def D.int? : D → Option Int
  | .int i => some i
  | _ => none
/-! zip of a list with a thing that many hold -/
end
/-! typed -/
open En
section
variable {α β γ τ : Type} [En α] [En β] [En γ]
variable {k k1 k2 k3 : Kx} {env : List Kn.Slot} {st : Sto} {a b h ix e : Sem} {as : SemA} {i j : Nat}
variable {fn : Bool} {enc : τ → Outs} {g : SemS}
end
/-! rows of atoms -/
/-- a text of code points -/
structure Txt where
  x : Str
  ok : PyData.strOk x = true
  deriving DecidableEq
def txM (x : Str) (h : PyData.strOk x = true := by decide +kernel) : Txt := ⟨x, h⟩
instance : En Txt := ⟨fun t => .str t.x⟩
instance : EnH Txt := ⟨fun _ => rfl⟩
instance : EnE Txt := ⟨0, fun t => Pn_str t.ok, fun a b h => by
  obtain ⟨a, _⟩ := a; obtain ⟨b, _⟩ := b
  cases D.str.inj h; rfl⟩
instance : EnN Txt := ⟨fun _ h => nomatch h⟩
theorem ev_txt {env : List Kn.Slot} {st : Sto} (t : Txt) : Ev .sh (eC (.str t.x)) env st (some t) := rfl
inductive At where
  | s (x : Txt) | i (n : Int) | non
  deriving DecidableEq
instance : En At := ⟨fun a => match a with | .s x => .str x.x | .i n => .int n | .non => .non⟩
structure Rw where
  l : List At
  deriving DecidableEq
instance : En Rw := ⟨fun r => .tup (r.l.map en)⟩
instance : EnH At := ⟨fun a => match a with | .s _ => rfl | .i _ => rfl | .non => rfl⟩
class ToAt (α : Type) [En α] where
  f : α → At
  h : ∀ x, en (f x) = en x
instance : ToAt Int := ⟨.i, fun _ => rfl⟩
instance : ToAt Txt := ⟨.s, fun _ => rfl⟩
instance : ToAt (Option Int) := ⟨fun o => match o with | some n => .i n | none => .non, fun o => by cases o <;> rfl⟩
class ToRw (α : Type) [En α] where
  f : α → Rw
  h : ∀ x, en (f x) = en x
section
variable {α β γ δ : Type} [En α] [En β] [En γ] [En δ] [ToAt α] [ToAt β] [ToAt γ] [ToAt δ]
instance : ToRw (Tp2 α β) := ⟨fun p => ⟨[ToAt.f p.x0, ToAt.f p.x1]⟩, fun p => by
  show D.tup [en (ToAt.f p.x0), en (ToAt.f p.x1)] = .tup [en p.x0, en p.x1]
  rw [ToAt.h, ToAt.h]⟩
instance : ToRw (Tp3 α β γ) := ⟨fun p => ⟨[ToAt.f p.x0, ToAt.f p.x1, ToAt.f p.x2]⟩, fun p => by
  show D.tup [en (ToAt.f p.x0), en (ToAt.f p.x1), en (ToAt.f p.x2)] = .tup [en p.x0, en p.x1, en p.x2]
  rw [ToAt.h, ToAt.h, ToAt.h]⟩
instance : ToRw (Tp4 α β γ δ) := ⟨fun p => ⟨[ToAt.f p.x0, ToAt.f p.x1, ToAt.f p.x2, ToAt.f p.x3]⟩, fun p => by
  show D.tup [en (ToAt.f p.x0), en (ToAt.f p.x1), en (ToAt.f p.x2), en (ToAt.f p.x3)] = .tup [en p.x0, en p.x1, en p.x2, en p.x3]
  rw [ToAt.h, ToAt.h, ToAt.h, ToAt.h]⟩
end
instance : En D := ⟨fun d => d⟩
instance {α β : Type} : EnS (Hl2 (Hd α) (Hd β)) (Hd (List D)) := ⟨fun p => [⟨p.x0.g⟩, ⟨p.x1.g⟩], fun _ => rfl⟩
instance {α β γ : Type} : EnS (Hl3 (Hd α) (Hd β) (Hd γ)) (Hd (List D)) := ⟨fun p => [⟨p.x0.g⟩, ⟨p.x1.g⟩, ⟨p.x2.g⟩], fun _ => rfl⟩
end Kn
namespace Kn
open PySem L2
/-! zip of two things that many hold -/
section
variable {X : Cx} {ct : CT} {x y : Expr} {a b : Sem} {pos : Pos} {δ δ2 : Dr}
end
end Kn
namespace Kn
open PySem L2
/-! append to one's own list what is made in the store -/
open En
section
variable {α τ : Type} [En α]
variable {k : Kx} {env : List Kn.Slot} {st : Sto} {a : Sem} {i : Nat} {fn : Bool} {enc : τ → Outs} {g : SemS}
end
end Kn
namespace Kn
open PySem L2
/-! ### x.pop(..) as a value, x a list behind a handle -/
section
variable {X : Cx} {ct : CT} {pos p apos cpos : Pos} {x y z : Expr} {es : List Expr} {a b h e : Sem} {as : SemA} {δ : Dr}
end
/-! ### a method whose last parameter may be left out -/
section
variable {P : Program} {w : World} {K : PySem.W.Frag} {mg : Str → Option Value} {base : Heap} {ct : CT}
/-- a method whose last parameter has the value d where it is left out -/
structure McD (P : Program) (w : World) (K : PySem.W.Frag) (mg : Str → Option Value) (base : Heap) (ct : CT) (C : Addr) (nm : Str) (k : Nat) (ps : List Str) (m : Fn) (d : D) : Prop where
  ex : ∃ f fd u v, FnOk P w K mg base CX0 k f fd ps (spD K ct ps.length m) ∧ Meth K C nm f ∧ Binds K fd ps [] ∧ Binds K fd ps [u] ∧ RelV v u ∧ ∀ W, Rep K ct W v d
theorem McD.all {C : Addr} {nm : Str} {k : Nat} {ps : List Str} {m : Fn} {d : D} (M : McD P w K mg base ct C nm k ps m d) : Mcl P w K mg base ct C nm k ps m := by
  obtain ⟨f, fd, u, v, h1, h2, h3, _⟩ := M.ex
  exact ⟨f, fd, h1, h2, h3⟩
end
section
variable {X : Cx} {ct : CT} {pos p apos : Pos} {x y : Expr} {a b : Sem} {δ : Dr}
end
/-! typed -/
open En
section
variable {α σ : Type} [En α] {k : Kx} {env : List Kn.Slot} {st : Sto} {h ix : Sem} {c : Sem} {f : SemS}
end
end Kn
namespace Kn
open PySem L2
/-! ### a reading that holds of some values only -/
section
variable {X : Cx} {ct : CT} {x : Expr} {a : Sem}
end
open En
class AsG (α : Type) (β : Type) [En α] [En β] where
  g : α → Option β
  f : D → Bool
  h : ∀ x, match g x with
    | some y => f (en x) = true ∧ (en y : D) = en x
    | none => f (en x) = false
section
variable {α β : Type} [En α] [En β] {k : Kx} {env : List Kn.Slot} {st : Sto} {a : Sem}
end
def isIntD : D → Bool
  | .int _ => true
  | _ => false
def isStrD : D → Bool
  | .str _ => true
  | _ => false
/-- an item of a row as a whole number -/
def At.int? : At → Option Int
  | .i n => some n
  | _ => none
def At.str? : At → Option Txt
  | .s n => some n
  | _ => none
instance asAtInt : AsG At Int := ⟨At.int?, isIntD, fun x => by cases x <;> first | exact ⟨rfl, rfl⟩ | rfl⟩
instance asAtStr : AsG At Txt := ⟨At.str?, isStrD, fun x => by cases x <;> first | exact ⟨rfl, rfl⟩ | rfl⟩
instance asOptInt : AsG (Option Int) Int := ⟨id, isIntD, fun x => by cases x <;> first | exact ⟨rfl, rfl⟩ | rfl⟩
def Rw.t2? : Rw → Option (Tp2 Int Int)
  | ⟨[.i a, .i b]⟩ => some ⟨a, b⟩
  | _ => none
def Rw.t4? : Rw → Option (Tp4 Txt Int Int Int)
  | ⟨[.s a, .i b, .i c, .i d]⟩ => some ⟨a, b, c, d⟩
  | _ => none
def isT2D : D → Bool
  | .tup [.int _, .int _] => true
  | _ => false
def isT4D : D → Bool
  | .tup [.str _, .int _, .int _, .int _] => true
  | _ => false
instance asRw2 : AsG Rw (Tp2 Int Int) := ⟨Rw.t2?, isT2D, fun x => by
  match x with
  | ⟨[]⟩ => rfl
  | ⟨[.i a, .i b]⟩ => exact ⟨rfl, rfl⟩
  | ⟨[.s _]⟩ | ⟨[.i _]⟩ | ⟨[.non]⟩ => rfl
  | ⟨[.s _, _]⟩ | ⟨[.non, _]⟩ => rfl
  | ⟨[.i _, .s _]⟩ | ⟨[.i _, .non]⟩ => rfl
  | ⟨.s _ :: _ :: _ :: _⟩ | ⟨.non :: _ :: _ :: _⟩ => rfl
  | ⟨.i _ :: .s _ :: _ :: _⟩ | ⟨.i _ :: .non :: _ :: _⟩ | ⟨.i _ :: .i _ :: _ :: _⟩ => rfl⟩
theorem t4_none {r : Rw} (h : r.t4? = none) : isT4D (en r) = false := by
  obtain ⟨l⟩ := r
  match l with
  | [.s a, .i b, .i c, .i d] => cases h
  | [] | [_] | [_, _] | [_, _, _] => show isT4D (.tup _) = false; simp only [List.map_cons, List.map_nil]; unfold isT4D; split <;> first | rfl | (rename_i q; simp at q)
  | _ :: _ :: _ :: _ :: _ :: _ => show isT4D (.tup _) = false; simp only [List.map_cons]; unfold isT4D; split <;> first | rfl | (rename_i q; simp at q)
  | [x, y, z, w] =>
    cases x <;> cases y <;> cases z <;> cases w <;> first | rfl | cases h
instance asRw4 : AsG Rw (Tp4 Txt Int Int Int) := ⟨Rw.t4?, isT4D, fun x => by
  cases e : x.t4? with
  | none => exact t4_none e
  | some y =>
    obtain ⟨l⟩ := x
    unfold Rw.t4? at e
    split at e
    · rename_i q; cases e; cases q; exact ⟨rfl, rfl⟩
    · cases e⟩
/-- each thing of a list -/
def asLG {α β : Type} (g : α → Option β) : List α → Option (List β)
  | [] => some []
  | x :: xs => (g x).bind fun y => (asLG g xs).bind fun ys => some (y :: ys)
def asLF (f : D → Bool) : D → Bool
  | .lst ds => ds.all f
  | _ => false
instance asList {α β : Type} [En α] [En β] [G : AsG α β] : AsG (List α) (List β) := ⟨asLG G.g, asLF G.f, fun l => by
  have key : ∀ l : List α, match asLG G.g l with
    | some m => (l.map (en : α → D)).all G.f = true ∧ m.map (en : β → D) = l.map en
    | none => (l.map (en : α → D)).all G.f = false := fun l => by
    induction l with
    | nil => exact ⟨rfl, rfl⟩
    | cons x xs ih =>
      have q := G.h x
      unfold asLG
      cases e : G.g x with
      | none => rw [e] at q; have q : G.f (en x) = false := q; show ((x :: xs).map (en : α → D)).all G.f = false; simp [q]
      | some y =>
        rw [e] at q
        have q : G.f (en x) = true ∧ (en y : D) = en x := q
        cases e2 : asLG G.g xs with
        | none => rw [e2] at ih; have ih : (xs.map (en : α → D)).all G.f = false := ih; show ((x :: xs).map (en : α → D)).all G.f = false; rw [List.map_cons, List.all_cons, ih, Bool.and_false]
        | some ys =>
          rw [e2] at ih
          have ih : (xs.map (en : α → D)).all G.f = true ∧ ys.map (en : β → D) = xs.map en := ih
          show ((x :: xs).map (en : α → D)).all G.f = true ∧ (y :: ys).map (en : β → D) = (x :: xs).map en
          rw [List.map_cons, List.all_cons, ih.1, q.1, List.map_cons, ih.2, q.2]
          exact ⟨rfl, rfl⟩
  have := key l
  cases e : asLG G.g l with
  | none => rw [e] at this; exact this
  | some m => rw [e] at this; exact ⟨this.1, congrArg D.lst this.2⟩⟩
/-! ### rows -/
section
variable {k : Kx} {env : List Kn.Slot} {st : Sto} {a b : Sem}
end
section
variable {k : Kx} {env : List Kn.Slot} {st : Sto} {a b : Sem}
end
instance : EnS Rw At := ⟨fun r => r.l, fun _ => rfl⟩
instance : EnE At := ⟨0, fun a => by
  cases a with
  | s x => exact Pn_str x.ok
  | i n => exact Pn_int n
  | non => exact Pn_non, fun a b h => by
  cases a <;> cases b <;> first | rfl | (cases h; done) | skip
  · rename_i x y
    obtain ⟨x, _⟩ := x; obtain ⟨y, _⟩ := y
    cases D.str.inj h; rfl
  · rename_i x y
    cases D.int.inj h; rfl⟩
instance : EnE Rw := ⟨1, fun r => Pn_tup fun d hd => by obtain ⟨a, _, rfl⟩ := List.mem_map.mp hd; exact EnE.pn a, fun a b h => by
  obtain ⟨a⟩ := a; obtain ⟨b⟩ := b
  have : a = b := map_en_inj (D.tup.inj h)
  rw [this]⟩
instance : EnN Rw := ⟨fun _ h => nomatch h⟩
end Kn
namespace Kn
open PySem L2
/-! ### len(set(xs)), unlike tuples of whole numbers -/
section
open PySem.Spec PyProof.Rows
variable {X : Cx}
end
section
variable {X : Cx} {ct : CT} {x : Expr} {a : Sem} {pos p p2 pos2 : Pos}
end
section
open En
variable {α : Type} [En α] [EnT α]
end
end Kn
namespace Kn
open PySem L2
/-! ### lists of unlike things that grow -/
structure Hl4 (α β γ δ : Type) where
  x0 : α
  x1 : β
  x2 : γ
  x3 : δ
  deriving DecidableEq
structure Hl5 (α β γ δ ε : Type) where
  x0 : α
  x1 : β
  x2 : γ
  x3 : δ
  x4 : ε
  deriving DecidableEq
structure Hl6 (α β γ δ ε ζ : Type) where
  x0 : α
  x1 : β
  x2 : γ
  x3 : δ
  x4 : ε
  x5 : ζ
  deriving DecidableEq
open En
section
variable {α β γ δ ε ζ : Type} [En α] [En β] [En γ] [En δ] [En ε] [En ζ]
instance : En (Hl4 α β γ δ) := ⟨fun p => .lst [en p.x0, en p.x1, en p.x2, en p.x3]⟩
instance : En (Hl5 α β γ δ ε) := ⟨fun p => .lst [en p.x0, en p.x1, en p.x2, en p.x3, en p.x4]⟩
instance : En (Hl6 α β γ δ ε ζ) := ⟨fun p => .lst [en p.x0, en p.x1, en p.x2, en p.x3, en p.x4, en p.x5]⟩
class AppHl (α : Type) (β : Type) (γ : outParam Type) [En α] [En β] [En γ] where
  f : α → β → γ
  h : ∀ (a : α) (b : β), ∃ ds es, (en a : D) = .lst ds ∧ fApp [en b] ds = some es ∧ (en (f a b) : D) = .lst es
instance : AppHl (Hl4 α β γ δ) ε (Hl5 α β γ δ ε) := ⟨fun a b => ⟨a.x0, a.x1, a.x2, a.x3, b⟩, fun a b => ⟨[en a.x0, en a.x1, en a.x2, en a.x3], [en a.x0, en a.x1, en a.x2, en a.x3, en b], rfl, by
  rw [x_app, if_pos (x_sz2 (by show 4 ≤ 1000; omega))]; rfl, rfl⟩⟩
instance : AppHl (Hl5 α β γ δ ε) ζ (Hl6 α β γ δ ε ζ) := ⟨fun a b => ⟨a.x0, a.x1, a.x2, a.x3, a.x4, b⟩, fun a b => ⟨[en a.x0, en a.x1, en a.x2, en a.x3, en a.x4], [en a.x0, en a.x1, en a.x2, en a.x3, en a.x4, en b], rfl, by
  rw [x_app, if_pos (x_sz2 (by show 5 ≤ 1000; omega))]; rfl, rfl⟩⟩
end
section
variable {τ : Type} {fn : Bool} {enc : τ → Outs} {env : List Kn.Slot} {st : Sto} {as : SemA} {g : SemS} {i : Nat}
end
section
variable {α β γ : Type} [En α] [En β] [En γ] [AppHl α β γ] {τ : Type} {k : Kx} {fn : Bool} {enc : τ → Outs} {env : List Kn.Slot} {st : Sto} {a : Sem} {g : SemS} {i : Nat}
end
section
variable {α β γ δ ε ζ : Type} [En α] [En β] [En γ] [En δ] [En ε] [En ζ] [EnE α] [EnE β] [EnE γ] [EnE δ] [EnE ε] [EnE ζ]
instance : EnE (Hl6 α β γ δ ε ζ) := ⟨EnE.dep α + EnE.dep β + EnE.dep γ + EnE.dep δ + EnE.dep ε + EnE.dep ζ + 1, fun p => Pn_lst fun d hd => by
    simp only [List.mem_cons, List.not_mem_nil, or_false] at hd
    rcases hd with rfl | rfl | rfl | rfl | rfl | rfl
    · exact Pn_mono (EnE.pn _) (by omega)
    · exact Pn_mono (EnE.pn _) (by omega)
    · exact Pn_mono (EnE.pn _) (by omega)
    · exact Pn_mono (EnE.pn _) (by omega)
    · exact Pn_mono (EnE.pn _) (by omega)
    · exact Pn_mono (EnE.pn _) (by omega),
  fun a b h => by
    have h := D.lst.inj h
    simp only [List.cons.injEq, and_true] at h
    cases a; cases b
    have e0 := EnE.inj _ _ h.1
    have e1 := EnE.inj _ _ h.2.1
    have e2 := EnE.inj _ _ h.2.2.1
    have e3 := EnE.inj _ _ h.2.2.2.1
    have e4 := EnE.inj _ _ h.2.2.2.2.1
    have e5 := EnE.inj _ _ h.2.2.2.2.2
    dsimp only at e0 e1 e2 e3 e4 e5
    subst e0 e1 e2 e3 e4 e5
    rfl⟩
end
end Kn
namespace Kn
open PySem L2
/-! ### f().append(x): what was just made takes one more, and is let go -/
section
open En
variable {X : Cx} {ct : CT} {x y : Expr} {a b : Sem} {as : SemA} {pos cpos apos : Pos}
theorem Rel.less {K : PySem.W.Frag} {F F' H : Hp} {W : Wd} {L : Addr → Option Lab} {env : List Kn.Slot} {st : Sto} {σ : St} (I : Rel K ct F' W L env st σ H) (h : ∀ b o, F b = some o → F' b = some o) : Rel K ct F W L env st σ H :=
  ⟨fun b o e => I.fr b o (h b o e), I.hs, I.tp, I.ob, I.rh, I.len, I.sl⟩
end
section
open En
variable {α τ : Type} [En α] {fn : Bool} {enc : τ → Outs} {g : SemS} {env : List Kn.Slot} {st : Sto} {a b : Sem} {k : Kx} {th : Option (List α)} {tx : Option α} {T : List α → Option τ}
end
open En in
instance : EnH Rw := ⟨fun r => by
  show D.nhL (r.l.map en) = true
  exact nhL_all fun d hd => by obtain ⟨a, _, rfl⟩ := List.mem_map.mp hd; exact EnH.nh a⟩
end Kn
namespace Kn
open PySem L2
/-! ### list(d), d a dict by pairs -/
section
open En
variable {X : Cx} {ct : CT} {x : Expr} {a : Sem} {pos : Pos} {n : Str}
end
section
open En
variable {β : Type} [En β] {env : List Kn.Slot} {st : Sto} {a : Sem} {th : Option (Hd (Dt β))}
end
end Kn
namespace Kn
open PySem L2
/-! ### xs.remove(y), of data -/
section
open PySem.SeqAt PySem.Spec PyProof.Rows
section
variable {X : Cx}
end
end
section
section
variable {X : Cx} {ct : CT} {pos : Pos} {x y : Expr} {a b c : Sem} {es : List Expr} {as : SemA}
end
end
section
open En
variable {α σ ρ τ β : Type} [En α] [EnE α] [DecidableEq α]
variable {k k1 : Kx} {env : List Kn.Slot} {st : Sto} {a b : Sem} {i : Nat} {x : α} {tx : Option α} {fn : Bool} {enc : τ → Outs} {g : SemS}
end
end Kn
namespace Kn
open PySem L2
/-! ### sorted(d) of a dict by whole numbers; a dict of one whose key is read -/
section
open PySem.Spec PyProof.Rows
section
variable {X : Cx} {ct : CT} {x : Expr} {a : Sem} {pos p : Pos}
end
end
section
open En
variable {α β : Type} [En α] [En β] {k k1 k2 : Kx} {env : List Kn.Slot} {st : Sto} {a b : Sem} {x : α}
end
/-! ### len(set(xs)), any whole numbers -/
section
open PySem.Spec PyProof.Rows
variable {X : Cx}
end
section
variable {X : Cx} {ct : CT} {x : Expr} {a : Sem} {pos p p2 pos2 : Pos}
end
section
open En
end
end Kn
namespace Kn
open PySem L2
/-! ### min(xs), xs of tuples -/
section
open PySem.SeqAt PySem.Spec PyProof.Rows
section
variable {prog : Program} {w : World} {A : Around} {R : Result → Shared → Prop} {I S : Addr} {fp wr : List Addr} {St : Nat → Heap → Prop} {its : Array Value} {h0 : Heap}
end
end
section
open PySem.Spec PyProof.Rows
end
section
variable {X : Cx} {ct : CT} {x : Expr} {a : Sem} {pos p : Pos}
end
section
open En
end
end Kn
namespace Kn
open PySem L2
/-! ### d.clear(), d a dict by pairs that many hold -/
section
open PySem.Spec PyProof.Rows
variable {X : Cx}
end
section
variable {X : Cx} {ct : CT} {pos cpos apos : Pos} {z : Expr} {h : Sem}
end
section
open En
variable {β τ : Type} [En β] {k : Kx} {env : List Kn.Slot} {st : Sto} {h : Sem} {fn : Bool} {enc : τ → Outs} {g : SemS}
end
end Kn
namespace Kn
open PySem L2
/-! ### errors: the ways on which a def raises -/
abbrev XT := Str → Option Addr
/-- the class that a def raises is told as if it were handed back, as a text -/
def XQ (xt : XT) (Wx : WX) (σ : St) : VK := fun v H' => ∃ c, v = .str c ∧ ∀ C, xt c = some C → Wx (.ref C) none σ H'
def XE (xt : XT) (E : XK) : VK := fun v H' => ∃ c, v = .str c ∧ ∀ C, xt c = some C → E (.ref C) none H'
def spX (K : PySem.W.Frag) (ct : CT) (xt : XT) (n : Nat) (m : Fn) : Sp := fun vs H _ E => spD K ct n m vs H (XE xt E) E
/-- .. of __init__: the thing that is made stands ahead -/
def spXI (K : PySem.W.Frag) (ct : CT) (xt : XT) (n : Nat) (m : Fn) : Sp := fun vs H _ E => ∃ x args, vs = V.ref x :: args ∧ n = args.length + 1 ∧ spD K ct args.length m args H (XE xt E) E
structure CalX (P : Program) (w : World) (K : PySem.W.Frag) (mg : Str → Option Value) (base : Heap) (ct : CT) (xt : XT) (nm : Str) (k : Nat) (ps : List Str) (m : Fn) : Prop where
  ex : ∃ f fd, FnOk P w K mg base (L2.CX P w) k f fd ps (spX K ct xt ps.length m) ∧ mg nm = some (.ref f) ∧ PySem.W.keepIn K (.ref f) = true ∧ Binds K fd ps []
structure MclX (P : Program) (w : World) (K : PySem.W.Frag) (mg : Str → Option Value) (base : Heap) (ct : CT) (xt : XT) (C : Addr) (nm : Str) (k : Nat) (ps : List Str) (m : Fn) : Prop where
  ex : ∃ f fd, FnOk P w K mg base (L2.CX P w) k f fd ps (spX K ct xt ps.length m) ∧ Meth K C nm f ∧ Binds K fd ps []
structure MkrX (P : Program) (w : World) (K : PySem.W.Frag) (mg : Str → Option Value) (base : Heap) (ct : CT) (xt : XT) (C : Addr) (nm : Str) (k : Nat) (ps : List Str) (m : Fn) : Prop where
  ex : ∃ f fd, FnOk P w K mg base (L2.CX P w) k f fd ps (spXI K ct xt ps.length m) ∧ Mk K C f ∧ Binds K fd ps [] ∧ mg nm = some (.ref C)
/-- only what raises -/
structure SXe (X : Cx) (ct : CT) (xt : XT) (Wx : WX) (x : Expr) (e : Sem) : Prop where
  pe : PE X x (fun σ H _ => tE X.K ct e σ H (XQ xt Wx σ))
structure SXs (X : Cx) (ct : CT) (xt : XT) (E : XK) (x : Stmt) (e : Sem) : Prop where
  ps : PS X x (fun _ σ H => tE X.K ct e σ H (XE xt E))
structure SSX (X : Cx) (ct : CT) (xt : XT) (E : XK) (x : Stmt) (s : SemS) : Prop where
  ps : PS X x (fun D σ H => tSm X.K ct s { D with rt := XE xt E } σ H)
structure SBX (X : Cx) (ct : CT) (xt : XT) (E : XK) (x : List Stmt) (s : SemS) : Prop where
  pss : PSs X x (fun D σ H => tSm X.K ct s { D with rt := XE xt E } σ H)
section
variable {K : PySem.W.Frag} {ct : CT} {F H : Hp} {W : Wd} {L : Addr → Option Lab} {env : List Kn.Slot} {st : Sto} {σ : St}
theorem Rel.setExc (I : Rel K ct F W L env st σ H) (i : Nat) (a : Addr) : Rel K ct F W L (env.set i (.exc a)) st (σ.set i (some (.ref a))) H := by
  refine ⟨I.fr, I.hs, I.tp, I.ob, I.rh, by rw [List.length_set, List.length_set]; exact I.len, fun j s e => ?_⟩
  rcases getset e with ⟨rfl, rfl, hi⟩ | ⟨hj, e⟩
  · show (σ.set j _)[j]? = _
    rw [List.getElem?_set_self (by rw [I.len]; exact hi)]
  · exact (I.sl j s e).at' (List.getElem?_set_ne (Ne.symm hj))
theorem Rel.setNo (I : Rel K ct F W L env st σ H) (i : Nat) (v : Option V) : Rel K ct F W L (env.set i .no) st (σ.set i v) H := by
  refine ⟨I.fr, I.hs, I.tp, I.ob, I.rh, by rw [List.length_set, List.length_set]; exact I.len, fun j s e => ?_⟩
  rcases getset e with ⟨rfl, rfl, hi⟩ | ⟨hj, e⟩
  · trivial
  · exact (I.sl j s e).at' (List.getElem?_set_ne (Ne.symm hj))
end
/-- an own class that may be raised -/
structure ExK (K : PySem.W.Frag) (mg : Str → Option Value) (xt : XT) (nm : Str) (C : Addr) : Prop where
  q : PySem.W.excIn K C [.type "ValueError", .type "Exception", .type "BaseException", .type "object"] "ValueError.__new__" = true
  gC : mg nm = some (.ref C)
  kC : PySem.W.keepIn K (.ref C) = true
  r1 : PySem.W.subIn K (.ref C) (.type "BaseException") = some true
  r2 : PySem.W.typeIn K (.ref C) = some (.type "type")
  hx : xt nm = some C
abbrev EW (E : XK) : WX := fun cls d _ H => E cls d H
section
variable {X : Cx} {ct : CT} {xt : XT} {Wx : WX} {E : XK} {pos p apos pos' : Pos} {x y : Expr} {es : List Expr} {a b : Sem} {as : SemA} {k n i : Nat} {ps : List Str} {m : Fn} {nm mn : Str} {c : Str} {C : Addr} {ns : List Str}
/-! calls of defs that raise -/
theorem run_makeS {CX : CXT} {fd : FuncData} {f : Addr} {sp : Sp} {Es : St → XK} {pins : List (Addr × Obj)} {σ : St} {H : Hp} {s : Shared} {Q : VK} {us : List Value} {vs : List V} (M : Mk X.K C f) (F : FnOk X.prog X.w X.K X.mg X.base CX k f fd ps sp) (hr : Room (k + 1) X.A) (hb : Binds X.K fd ps [])
    (hx : PassesAt CX X σ (Es σ)) (I : Inv X pins σ H s) (r : Vals vs us)
    (h : ∀ x dx, H x = none → H dx = none → dx ≠ x → sp (.ref x :: vs) (upd (upd H dx (.own x)) x (.ins C dx [])) (fun v H2 => v = .non ∧ Q (.ref x) H2) (Es σ)) :
    wpAny (model X.prog X.w) X.A (call (.ref C) us) (EP X pins σ Q) X.xe s := by
  have hq := h (s.heap.objs.size + 1) s.heap.objs.size (I.hok.fresh (Nat.le_succ _)) (I.hok.fresh (Nat.le_refl _)) (Nat.ne_of_lt (Nat.lt_succ_self _))
  have I2 := Inv.made (C := C) I
  have r2 : Vals (V.ref (s.heap.objs.size + 1) :: vs) (Value.ref (s.heap.objs.size + 1) :: us) := .cons rfl r
  have hl : (Value.ref (s.heap.objs.size + 1) :: us).length = ps.length := by
    have e := r2.length
    rw [F.len _ _ _ _ hq] at e
    exact e.symm
  have hbb := hb _ (Value.ref (s.heap.objs.size + 1) :: us) I2.kIn (by rw [List.append_nil]; exact hl)
  rw [List.append_nil] at hbb
  refine wpAny_call (make_map (f := f) I.kIn M.makes M.init (beq_iff_eq.mp M.fn) (codeAny_mono (F.run _ X.stack _ _ ⟨Value.ref (s.heap.objs.size + 1) :: us, []⟩ (Value.ref (s.heap.objs.size + 1) :: us) _ _ (Es σ) (hr.make C us [])
    (I2.env0.make C us []) hbb r2 hq) fun r s' hq' => ?_))
  cases r with
  | error e => exact hx pins _ _ e s' I2 hq'
  | ok fl =>
    cases fl with
    | ret u =>
      obtain ⟨v, H', I3, rv, ev, q3⟩ := I2.after hq'
      subst ev
      exact ⟨rv, ⟨V.ref (s.heap.objs.size + 1), H', I3, rfl, q3⟩⟩
    | next => exact False.elim hq'
    | brk => exact False.elim hq'
    | cont => exact False.elim hq'
theorem sxe_call (n : Nat) (c : CalX X.prog X.w X.K X.mg X.base ct xt nm k ps m) (tk : Takes X Wx) (hr : Room k X.A) (ha : SA X ct (x :: es) as) (hn : ps.length = n := by rfl) (hg : Gl X nm := by rfl)
    (hdb : (nm == ("__debug__" : Str)) = false := by decide) (he : starEach (x :: es) X.env = (false, eval x X.env) :: starEach es X.env := by rfl) (hpl : (backTo pos (starEach es X.env)).any (·.1) = false := by rfl) :
    SXe X ct xt Wx (.Call (.Name nm p) (x :: es) [] pos) (eCall n m as) := by
  subst hn
  obtain ⟨f, fd, G, h1, h2, h3⟩ := c.ex
  refine ⟨pe_mono (pe_callS G hr hg h1 h2 h3 (fun σ => passAt tk σ) ha.pa hdb he hpl) fun σ H Q h => ?_⟩
  have h := tE_call (E := WE Wx σ) h
  unfold tCall at h
  unfold tCallS
  simp only [List.append_nil] at h
  exact h
theorem pe_makeS {CX : CXT} {f : Addr} {fd : FuncData} {sp : Sp} {Es : St → XK} {t : TA} (M : Mk X.K C f) (F : FnOk X.prog X.w X.K X.mg X.base CX k f fd ps sp) (hr : Room (k + 1) X.A) (hg : Gl X nm) (hm : X.mg nm = some (.ref C)) (hb : Binds X.K fd ps []) (hx : ∀ σ, PassesAt CX X σ (Es σ))
    (ha : PA X (x :: es) t) (hdb : (nm == ("__debug__" : Str)) = false := by decide) (he : starEach (x :: es) X.env = (false, eval x X.env) :: starEach es X.env := by rfl) (hpl : (backTo pos (starEach es X.env)).any (·.1) = false := by rfl) :
    PE X (.Call (.Name nm p) (x :: es) [] pos) (fun σ H Q => tMake C sp [] (Es σ) t σ H Q) := by
  refine ⟨fun pins s σ H Q I h => ?_⟩
  refine wpAny_Call_Name_kw (ld_glob I hg hm ?_ hdb)
  refine PySem.W.callWith_K (h₀ := X.base) I.ok.mod.kin M.kp (thn (ha.run pos pins s σ H _ I h) fun us s1 ⟨vs, H1, I1, r, q⟩ => ⟨I1.kIn, ?_⟩) he hpl
  simp only [List.append_nil] at q
  exact run_makeS M F hr hb (hx σ) I1 r q
theorem sxe_make (n : Nat) (o : Own X.K ct c C ns) (M : MkrX X.prog X.w X.K X.mg X.base ct xt C nm k ps m) (tk : Takes X Wx) (hr : Room (k + 1) X.A) (ha : SA X ct (x :: es) as) (hn : ps.length = n + 1 := by rfl) (hg : Gl X nm := by rfl)
    (hdb : (nm == ("__debug__" : Str)) = false := by decide) (he : starEach (x :: es) X.env = (false, eval x X.env) :: starEach es X.env := by rfl) (hpl : (backTo pos (starEach es X.env)).any (·.1) = false := by rfl) :
    SXe X ct xt Wx (.Call (.Name nm p) (x :: es) [] pos) (eCall n m as) := by
  obtain ⟨f, fd, G, hM, hb, hmg⟩ := M.ex
  refine ⟨pe_mono (pe_makeS hM G hr hg hmg hb (fun σ => passAt tk σ) ha.pa hdb he hpl) fun σ H Q h => ?_⟩
  obtain ⟨F, W, L, env, st, r, st', I, e, kk⟩ := h
  obtain ⟨⟨rs, st1⟩, h1, e⟩ := bind2 e
  obtain ⟨ds, h2, e⟩ := bind2 e
  have hl : ds.length = n ∧ m ds st1 = some (r, st') := by
    dsimp only at e
    split at e
    · exact ⟨by assumption, e⟩
    · cases e
  refine ⟨F, W, L, env, st, rs, st1, I, h1, fun vs H1 W1 L1 l1 I1 qs x dx nx ndx nex => ?_⟩
  obtain ⟨J1, _, _, _⟩ := I1.laid (o := .own x) ndx
  have nx2 : (upd H1 dx (.own x)) x = none := by rw [upd_ne (Ne.symm nex)]; exact nx
  obtain ⟨J2, _, _, _⟩ := J1.laid (o := .ins C dx []) nx2
  have q := qs.vals h2
  have hq := q.length
  refine ⟨x, vs ++ [], rfl, by rw [List.append_nil, hq]; omega, ?_⟩
  rw [List.append_nil]
  exact call_out J2 q (by omega) hl.2 fun v H' W' L' l' => kk v H' W' L' (l1.trans l')
/-! statements -/
theorem sxs_ex {e : XK} (h : SXe X ct xt (EW e) x a) (hs : swapsWith x none pos.line X.env = pure false := by rfl) : SXs X ct xt e (.Expr x pos) a := ⟨ps_mono (ps_expr h.pe hs) fun _ _ _ h => h⟩
/-! blocks of a def that raises -/
def NoRt (s : SemS) : Prop := ∀ env st o env' st', s env st = some (o, env', st') → ∀ r, o ≠ .rt r
variable {sx : Stmt} {sxs rest s1 s2 : List Stmt} {f g h : SemS} {c : Sem}
theorem ssx_of (hs : SS X ct sx f) (hn : NoRt f) : SSX X ct xt E sx f := ⟨ps_mono hs.ps fun D σ H ⟨F, W, L, env, st, o, env', st', I, e, k⟩ => ⟨F, W, L, env, st, o, env', st', I, e, by
  cases o with
  | nx => exact k
  | bk => exact k
  | ct => exact k
  | rt r => exact absurd rfl (hn _ _ _ _ _ e r)⟩⟩
theorem sbx_nil : SBX X ct xt E [] sNil := ⟨pss_mono sb_nil.pss fun D σ H ⟨F, W, L, env, st, o, env', st', I, e, k⟩ => ⟨F, W, L, env, st, o, env', st', I, e, by cases e; exact k⟩⟩
theorem sbx_cons (h : SSX X ct xt E sx f) (k : SBX X ct xt E rest g) : SBX X ct xt E (sx :: rest) (sSeq f g) := ⟨pss_mono (pss_cons h.ps k.pss) fun _ _ _ h => tSm_seq h⟩
theorem sbx_kl (js : List Nat) (h : SBX X ct xt E sxs f) : SBX X ct xt E sxs (sKl js f) := by
  refine ⟨pss_mono h.pss fun D σ H ⟨F, W, L, env, st, o, env', st', I, e, k⟩ => ?_⟩
  exact ⟨F, W, L, _, st, o, env', st', I.wipe, e, k⟩
theorem ssx_if (hc : ST X ct x c) (hf : SBX X ct xt E s1 f) (hg : SBX X ct xt E s2 g) : SSX X ct xt E (.If x s1 s2 pos) (sIf c f g) := by
  refine ⟨ps_mono (ps_if hc.pt hf.pss hg.pss) fun D σ H ⟨F, W, L, env, st, o, env', st', I, e, k⟩ => ?_⟩
  obtain ⟨⟨r1, st1⟩, h1, e⟩ := bind2 e
  obtain ⟨b, hb, e⟩ := bind2 e
  have hb := R.tr_eq hb
  rw [show r1 = _ from hb] at h1
  refine ⟨F, W, L, env, st, b, st1, I, h1, fun H1 W1 L1 l1 I1 => ?_⟩
  cases b with
  | true => exact iteT ⟨F, W1, L1, env, st1, o, env', st', I1, e, k.mono l1⟩
  | false => exact iteF ⟨F, W1, L1, env, st1, o, env', st', I1, e, k.mono l1⟩
theorem ssx_for {tg : Expr} {ts : List Nat} {g : SemG} {it : SemI} (hp : PassesOwn (model X.prog X.w) X.A X.env X.xe) (hc : X.calm = true) (hi : SI X ct tg x it) (hg : SG X ct tg ts g) (hf : SBX X ct xt E s1 f) (hs : ∀ z, foldedSetIterable x X.env z = pure z := by intro _; rfl) :
    SSX X ct xt E (.For tg x s1 [] pos) (sFor it g f) := by
  refine ⟨ps_mono (ps_for hp hc hi.pi hg.pg hf.pss hs) fun D σ H ⟨F, W, L, env, st, o, env', st', I, e, k⟩ => ?_⟩
  obtain ⟨⟨ds, st1⟩, h1, e⟩ := bind2 e
  refine ⟨F, W, L, env, st, ds, st1, I, h1, fun J H1 W1 L1 l1 I1 wk => ?_⟩
  refine ⟨fun i m σ H => m = ds.length - i ∧ i ≤ ds.length ∧ ∃ W2 L2 env2 st2, W1.le W2 ∧ Rel X.K ct F W2 L2 env2 st2 σ H ∧ forL g f (ds.drop i) env2 st2 = some (o, env', st'), ⟨_, rfl, Nat.zero_le _, W1, L1, env, st1, .refl W1, I1, e⟩, ?_⟩
  rintro i m σ H ⟨rfl, hi, W2, L2, env2, st2, l2, I2, e2⟩
  have wk2 := wk F W2 L2 env2 st2 σ H i l2 I2
  by_cases hlt : i < ds.length
  · rw [List.drop_eq_getElem_cons hlt] at e2
    obtain ⟨env3, h3, e2⟩ := bind2 e2
    obtain ⟨⟨o4, env4, st4⟩, h4, e2⟩ := bind2 e2
    obtain ⟨go, yl⟩ := wk2.1 ds[i] (List.getElem?_eq_getElem hlt)
    refine .inr ⟨go, fun σ' H' => i + 1 ≤ ds.length ∧ ∃ W2 L2 env2 st2, W1.le W2 ∧ Rel X.K ct F W2 L2 env2 st2 σ' H' ∧ forL g f (ds.drop (i + 1)) env2 st2 = some (o, env', st'), fun σ' H' q => ⟨_, by omega, rfl, q⟩, fun v H' y => ?_⟩
    obtain ⟨W3, L3, l3, I3, r3⟩ := yl v H' y
    refine ⟨F, W3, L3, env2, st2, _, env3, I3, r3, h3, fun σ3 _ _ I3' => ?_⟩
    refine ⟨F, W3, L3, env3, st2, o4, env4, st4, I3', h4, ?_⟩
    have ll := l2.trans l3
    cases o4 with
    | nx => exact fun σ' H' W5 L5 l5 I5 => ⟨hlt, W5, L5, env4, st4, ll.trans l5, I5, e2⟩
    | ct => exact fun σ' H' W5 L5 l5 I5 => ⟨hlt, W5, L5, env4, st4, ll.trans l5, I5, e2⟩
    | bk => cases e2; exact fun σ' H' W5 L5 l5 I5 => k _ _ _ _ (l1.trans (ll.trans l5)) I5
    | rt r => cases e2; exact fun v σ' H' W5 L5 l5 I5 => k v _ _ _ _ (l1.trans (ll.trans l5)) I5
  · have ei : i = ds.length := by omega
    rw [ei, List.drop_length] at e2
    cases e2
    exact .inl ⟨wk2.2 (by omega), k _ _ _ _ (l1.trans l2) I2⟩
/-- raise c('..') -/
theorem ssx_raise {nm mt : Str} {j : Nat} {p1 p2 p3 : Pos} (tk : Takes X (EW E)) (hc : X.calm = true) (x : ExK X.K X.mg xt nm C) (hg : Gl X nm := by rfl)
    (hdb : (nm == ("__debug__" : Str)) = false := by decide) : SSX X ct xt E (.Raise (some (.Call (.Name nm p1) [.Constant (.str mt) j p2] [] p3)) none pos) (sRet (eC (.str nm))) := by
  refine ⟨ps_mono (ps_raise hc tk (pmk_own PySem.F.excBase_ValueError x.q x.gC x.kC (raises_own x.r1 x.r2) hg hdb)) fun D σ H ⟨F, W, L, env, st, o, env', st', I, e, k⟩ => ?_⟩
  cases e
  obtain ⟨c, e1, e2⟩ := k (.str nm) σ H W L (.refl W) I (.str nm)
  cases e1
  exact e2 C x.hx
/-- a statement whose first call may raise: xe that it does, f that it does not -/
def sXp (xe : Sem) (f : SemS) : SemS := fun env st => match xe env st with
  | some (.sh (.str c), st') => some (.rt (.sh (.str c)), env, st')
  | _ => f env st
theorem ssx_xp (h1 : SXs X ct xt E sx a) (h2 : SSX X ct xt E sx f) : SSX X ct xt E sx (sXp a f) := by
  refine ⟨ps_mono (ps_or h1.ps h2.ps) fun D σ H ⟨F, W, L, env, st, o, env', st', I, e, k⟩ => ?_⟩
  unfold sXp at e
  split at e
  · rename_i c st1 he
    cases e
    exact .inl ⟨F, W, L, _, st, _, _, I, he, fun v H1 W1 L1 l1 I1 p => k v σ H1 W1 L1 l1 I1 p⟩
  · exact .inr ⟨F, W, L, env, st, o, env', st', I, e, k⟩
theorem sbx_never : SBX X ct xt E sxs sNever := ⟨pss_mono pss_never fun D σ H ⟨F, W, L, env, st, o, env', st', I, e, k⟩ => by cases e⟩
end
/-! what hands nothing back -/
section
variable {a b c : Sem} {f : SemS} {i : Nat}
theorem nort_bind {α : Type} {t : Option α} {F : α → Out × List Kn.Slot × Sto} {o : Out} {e : List Kn.Slot} {s : Sto} (h : t.map F = some (o, e, s)) (hF : ∀ x r, (F x).1 ≠ .rt r) (r : R) : o ≠ .rt r := by
  obtain ⟨x, _, h2⟩ := map2 h
  intro q
  exact hF x r (by rw [h2]; exact q)
theorem nort_ex : NoRt (sEx a) := fun _ _ _ _ _ h r => nort_bind h (fun _ _ q => nomatch q) r
theorem nort_asg {g : SemG} : NoRt (sAsg a g) := fun env st o env' st' h r q => by
  obtain ⟨p, _, h⟩ := bind2 h
  split at h
  · obtain ⟨_, _, h2⟩ := map2 h
    cases h2; cases q
  · cases h
end
/-- THE RULE for a def that raises -/
theorem fnX_ok {P : Program} {w : World} {K : PySem.W.Frag} {ct : CT} {xt : XT} {mg : Str → Option Value} {base : Heap} {name qual : Str} {st : Stmt} {f : Addr} {fd : FuncData} {N ps : List Str} {k : Nat} {b : SemS} (F : Fun K name qual st f fd) (S : FnScope N ps (defScope st))
    (hb : ∀ (cdv : Value) (A : Around) (outer : List Env) (s : Shared) (H : Hp) (E : XK), Room k (A.deeper (PyProof.Rows.envOfC qual (defScope st) s.heap.objs.size f cdv)) → Takes (cxOf (L2.CX P w) P w K mg base N qual (defScope st) f cdv A outer s H E) (EW E) → PassesOwn (model P w) (cxOf (L2.CX P w) P w K mg base N qual (defScope st) f cdv A outer s H E).A (cxOf (L2.CX P w) P w K mg base N qual (defScope st) f cdv A outer s H E).env (cxOf (L2.CX P w) P w K mg base N qual (defScope st) f cdv A outer s H E).xe → SBX (cxOf (L2.CX P w) P w K mg base N qual (defScope st) f cdv A outer s H E) ct xt E (defBody st) b) :
    FnOk P w K mg base (L2.CX P w) (k + 1) f fd ps (spX K ct xt ps.length (runB N.length b)) := by
  refine F.okX S (fun vs H Q E h => ?_) (fun cdv A outer s H vs Q E hr h => ?_)
  · obtain ⟨F, W, L, st, ds, r, st', I, q, hl, e, k⟩ := h
    rw [q.length]; exact hl
  · obtain ⟨F, W, L, st, ds, r, st', I, q, hl, e, kk⟩ := h
    refine ⟨_, (hb cdv A outer s H E hr (takes_of rfl rfl rfl rfl) (passes_of rfl)).pss, ?_⟩
    obtain ⟨⟨o, env', st1⟩, h2, e⟩ := bind2 e
    have hpl : ps.length ≤ N.length := by have := congrArg List.length S.pre; rw [List.length_take] at this; omega
    refine ⟨F, W, L, _, st, o, env', st1, rel_start I q (by rw [q.length, hl]; exact hpl), h2, ?_⟩
    cases o with
    | nx =>
      cases e
      intro σ' H' W' L' l I'
      obtain ⟨L2, I2, p2⟩ := rel_end I' (v := .non) (r := .sh .non) .non
      obtain ⟨c, z, _⟩ := kk _ _ _ _ l I2 p2
      cases z
    | bk => cases e
    | ct => cases e
    | rt r1 =>
      cases e
      intro v σ' H' W' L' l I' p
      obtain ⟨L2, I2, p2⟩ := rel_end I' p
      exact kk _ _ _ _ l I2 p2
/-- .. of an __init__ that raises: self is not looked at -/
theorem fnXI_ok {P : Program} {w : World} {K : PySem.W.Frag} {ct : CT} {xt : XT} {mg : Str → Option Value} {base : Heap} {name qual : Str} {st : Stmt} {f : Addr} {fd : FuncData} {N ps : List Str} {k n : Nat} {b : SemS} (F : Fun K name qual st f fd) (S : FnScope N ps (defScope st)) (hn : ps.length = n + 1)
    (hb : ∀ (cdv : Value) (A : Around) (outer : List Env) (s : Shared) (H : Hp) (E : XK), Room k (A.deeper (PyProof.Rows.envOfC qual (defScope st) s.heap.objs.size f cdv)) → Takes (cxOf (L2.CX P w) P w K mg base N qual (defScope st) f cdv A outer s H E) (EW E) → PassesOwn (model P w) (cxOf (L2.CX P w) P w K mg base N qual (defScope st) f cdv A outer s H E).A (cxOf (L2.CX P w) P w K mg base N qual (defScope st) f cdv A outer s H E).env (cxOf (L2.CX P w) P w K mg base N qual (defScope st) f cdv A outer s H E).xe → SBX (cxOf (L2.CX P w) P w K mg base N qual (defScope st) f cdv A outer s H E) ct xt E (defBody st) b) :
    FnOk P w K mg base (L2.CX P w) (k + 1) f fd ps (spXI K ct xt ps.length (fun ds st => runB N.length (sKl [0] b) (.non :: ds) st)) := by
  refine F.okX S (fun vs H Q E h => ?_) (fun cdv A outer s H vs Q E hr h => ?_)
  · obtain ⟨x, args, rfl, hl, _⟩ := h
    rw [List.length_cons]; exact hl.symm
  · obtain ⟨x, args, rfl, hl0, F, W, L, st, ds, r, st', I, q, hl, e, kk⟩ := h
    refine ⟨_, (hb cdv A outer s H E hr (takes_of rfl rfl rfl rfl) (passes_of rfl)).pss, ?_⟩
    obtain ⟨⟨o, env', st1⟩, h2, e⟩ := bind2 e
    have hpl : ps.length ≤ N.length := by have := congrArg List.length S.pre; rw [List.length_take] at this; omega
    have J := (rel_start (N := N) (vs := .non :: args) (ds := .non :: ds) I (.cons .non q) (by rw [List.length_cons]; omega)).setNo 0 (some (.ref x))
    refine ⟨F, W, L, _, st, o, env', st1, J, h2, ?_⟩
    cases o with
    | nx =>
      cases e
      intro σ' H' W' L' l I'
      obtain ⟨L2, I2, p2⟩ := rel_end I' (v := .non) (r := .sh .non) .non
      obtain ⟨c, z, _⟩ := kk _ _ _ _ l I2 p2
      cases z
    | bk => cases e
    | ct => cases e
    | rt r1 =>
      cases e
      intro v σ' H' W' L' l I' p
      obtain ⟨L2, I2, p2⟩ := rel_end I' p
      exact kk _ _ _ _ l I2 p2
theorem spX_imp {K : PySem.W.Frag} {ct : CT} {xt : XT} {n : Nat} {m m' : Fn} (h : ∀ ds st r st', ds.length = n → m' ds st = some (r, st') → m ds st = some (r, st')) : ∀ vs H Q E, spX K ct xt n m' vs H Q E → spX K ct xt n m vs H Q E := fun vs H _ E => spD_imp h vs H _ E
theorem spXI_imp {K : PySem.W.Frag} {ct : CT} {xt : XT} {n : Nat} {m m' : Fn} (h : ∀ ds st r st', ds.length + 1 = n → m' ds st = some (r, st') → m ds st = some (r, st')) : ∀ vs H Q E, spXI K ct xt n m' vs H Q E → spXI K ct xt n m vs H Q E := fun vs H _ E ⟨x, args, e, hl, z⟩ => ⟨x, args, e, hl, spD_imp (fun ds st r st' hd => h ds st r st' (by omega)) args H _ E z⟩
end Kn
namespace Kn
open PySem L2
/-! ### try: a call; except X as e: a suite that asks what e is -/
def isX (c C : Str) : Bool := decide (c = C) || decide (C = "KnotError") || decide (C = "ValueError")
/-- isinstance(e, C), slot i holding the exception at a -/
def eIsE (i : Nat) (a : Addr) (b : Bool) : Sem := fun env st => match (env[i]? : Option Kn.Slot) with
  | some (.exc a') => if a' = a then some (.sh (.bl b), st) else none
  | _ => none
section
variable {X : Cx} {ct : CT} {pos p p1 p2 p3 : Pos} {a D C' : Addr} {oe : Obj} {pn : List (Addr × Obj)} {n cn : Str} {b : Bool}
theorem se_isE0 (i : Nat) {c : Expr} {v : V} {cv : Value} (EC : ExcC X.K D) (hz : Zc (.ref D) none oe) (hf : ∃ vs, oe.data = .fields vs) (hc : PE (X.suite a ((a, oe) :: pn)) c (tC v)) (hcv : ∀ u, RelV v u → u = cv) (hk : PySem.W.kitOne X.K (.ref D) cv = some b) (hm : X.mg "isinstance" = none)
    (hN : X.N[i]? = some n) (hg : Gl X "isinstance") (hv : Vis X.env.scope n) (hd : (n == ("__debug__" : Str)) = false) (hcd : (n == ("__classdict__" : Str)) = false) (he : starEach [.Name n p1, c] X.env = (false, eval (.Name n p1) X.env) :: starEach [c] X.env) (he2 : starEach [c] X.env = (false, eval c X.env) :: starEach [] X.env) (hpl : (backTo pos (starEach [c] X.env)).any (·.1) = false) :
    SE (X.suite a ((a, oe) :: pn)) ct (.Call (.Name "isinstance" p) [.Name n p1, c] [] pos) (eIsE i a b) := by
  refine ⟨pe_mono (pe_callB (X := X.suite a ((a, oe) :: pn)) (call_isE EC hz hf) hg hm PyProof.Rows.boot_isinstance (pa_cons (pe_var (i := i) hN hv hd hcd) (pa_cons hc pa_nil he2) he) (by decide) (by decide) he hpl) fun σ H Q ⟨F, W, L, env, st, r, st', I, e, k⟩ => ?_⟩
  unfold eIsE at e
  split at e
  · rename_i a' ha
    split at e
    · rename_i ea
      cases e
      have hs : σ[i]? = some (some (.ref a')) := I.sl i _ ha
      rw [ea] at hs
      exact ⟨_, hs, v, cv, b, rfl, hcv, hk, k (.bl b) H W L (.refl W) I (.bl b)⟩
    · cases e
  · cases e
theorem se_isE (i : Nat) (EC : ExcC X.K D) (hz : Zc (.ref D) none oe) (hf : ∃ vs, oe.data = .fields vs) (hC : X.mg cn = some (.ref C')) (hk : PySem.W.kitOne X.K (.ref D) (.ref C') = some b) (hm : X.mg "isinstance" = none)
    (hN : X.N[i]? = some n := by rfl) (hg : Gl X "isinstance" := by rfl) (hgc : Gl X cn := by rfl) (hv : Vis X.env.scope n := by first | exact Or.inl rfl | exact Or.inr (Or.inl rfl) | exact Or.inr (Or.inr rfl)) (hd : (n == ("__debug__" : Str)) = false := by decide) (hcd : (n == ("__classdict__" : Str)) = false := by decide) (hdc : (cn == ("__debug__" : Str)) = false := by decide)
    (he : starEach [.Name n p1, .Name cn p2] X.env = (false, eval (.Name n p1) X.env) :: starEach [.Name cn p2] X.env := by rfl) (he2 : starEach [.Name cn p2] X.env = (false, eval (.Name cn p2) X.env) :: starEach [] X.env := by rfl) (hpl : (backTo pos (starEach [.Name cn p2] X.env)).any (·.1) = false := by rfl) :
    SE (X.suite a ((a, oe) :: pn)) ct (.Call (.Name "isinstance" p) [.Name n p1, .Name cn p2] [] pos) (eIsE i a b) :=
  se_isE0 i EC hz hf (pe_glob (X := X.suite a ((a, oe) :: pn)) (v := .ref C') hgc hC rfl hdc) (fun u h => h) hk hm hN hg hv hd hcd he he2 hpl
theorem se_isEb (i : Nat) {T : String} (EC : ExcC X.K D) (hz : Zc (.ref D) none oe) (hf : ∃ vs, oe.data = .fields vs) (hC : X.mg cn = none) (hb : bootBuiltins cn = some (.type T)) (hk : PySem.W.kitOne X.K (.ref D) (.type T) = some b) (hm : X.mg "isinstance" = none)
    (hN : X.N[i]? = some n := by rfl) (hg : Gl X "isinstance" := by rfl) (hgc : Gl X cn := by rfl) (hv : Vis X.env.scope n := by first | exact Or.inl rfl | exact Or.inr (Or.inl rfl) | exact Or.inr (Or.inr rfl)) (hd : (n == ("__debug__" : Str)) = false := by decide) (hcd : (n == ("__classdict__" : Str)) = false := by decide) (hdc : (cn == ("__debug__" : Str)) = false := by decide) (hnn : cn ≠ "__name__" := by decide)
    (he : starEach [.Name n p1, .Name cn p2] X.env = (false, eval (.Name n p1) X.env) :: starEach [.Name cn p2] X.env := by rfl) (he2 : starEach [.Name cn p2] X.env = (false, eval (.Name cn p2) X.env) :: starEach [] X.env := by rfl) (hpl : (backTo pos (starEach [.Name cn p2] X.env)).any (·.1) = false := by rfl) :
    SE (X.suite a ((a, oe) :: pn)) ct (.Call (.Name "isinstance" p) [.Name n p1, .Name cn p2] [] pos) (eIsE i a b) :=
  se_isE0 i EC hz hf (pe_bltn (X := X.suite a ((a, oe) :: pn)) (v := .ty T) hgc hC hb rfl hnn hdc) (fun u h => h) hk hm hN hg hv hd hcd he he2 hpl
end
section
open Classical
noncomputable def sTry (i : Nat) (xs : List Str) (xe : Sem) (f : SemS) (su : Addr → Str → SemS) : SemS := fun env st => match xe env st with
  | some (.sh (.str c), st') => if h : c ∈ xs ∧ ∃ q : List Kn.Slot × Sto, ∀ a, ∃ e2, su a c (env.set i (.exc a)) st' = some (.nx, e2, q.2) ∧ e2.set i .no = q.1 then some (.nx, (choose h.2).1, (choose h.2).2) else none
  | _ => f env st
theorem sTry_exc {i : Nat} {xs : List Str} {xe : Sem} {f : SemS} {su : Addr → Str → SemS} {env : List Kn.Slot} {st st' : Sto} {c : Str} (he : xe env st = some (.sh (.str c), st')) : sTry i xs xe f su env st = if h : c ∈ xs ∧ ∃ q : List Kn.Slot × Sto, ∀ a, ∃ e2, su a c (env.set i (.exc a)) st' = some (.nx, e2, q.2) ∧ e2.set i .no = q.1 then some (.nx, (choose h.2).1, (choose h.2).2) else none := by
  unfold sTry
  rw [he]
theorem sTry_no {i : Nat} {xs : List Str} {xe : Sem} {f : SemS} {su : Addr → Str → SemS} {env : List Kn.Slot} {st : Sto} (he : xe env st = none) : sTry i xs xe f su env st = f env st := by
  unfold sTry
  rw [he]
end
section
variable {X : Cx} {ct : CT} {xt : XT} {pos pos' np p : Pos} {n xk : Str} {cv : Value} {x : Expr} {b₀ : Stmt} {suite : List Stmt} {a b : Sem} {su : Addr → Str → SemS} {xs : List Str}
theorem pss_ex {ι : Type} {sxs : List Stmt} {q : ι → Prop} {t : ι → TS} (h : ∀ i, q i → PSs X sxs (t i)) : PSs X sxs (fun D σ H => ∃ i, q i ∧ t i D σ H) := ⟨fun pins s σ H D I ⟨i, hq, z⟩ => (h i hq).run pins s σ H D I z⟩
theorem ss_try (i : Nat) (hs : X.stack = X.env :: X.outer) (hf : X.env.frame = some X.env.locals) (hN : X.N.Nodup) (hc : Names X xk cv) (hx : ∀ c ∈ xs, ∀ C, xt c = some C → PySem.W.exmOne X.K (.ref C) cv = some true)
    (hb : ∀ (Wx : WX) (pn : List (Addr × Obj)) (xe : Value → Shared → Prop), Takes (X.tr pn xe) Wx → SXe (X.tr pn xe) ct xt Wx x a) (hb2 : ∀ (pn : List (Addr × Obj)) (xe : Value → Shared → Prop), SE (X.tr pn xe) ct x b)
    (hsu : ∀ (c : Str) (C ad : Addr) (oe : Obj) (pn : List (Addr × Obj)), c ∈ xs → xt c = some C → Zc (.ref C) none oe → (∃ vs, oe.data = .fields vs) → SB (X.suite ad ((ad, oe) :: pn)) ct (b₀ :: suite) (su ad c))
    (hi : X.N[i]? = some n := by rfl) (hln : X.env.kindOf n = some .local := by rfl) (hw : ∀ pn xe, swapsWith x none p.line (X.tr pn xe).env = pure false := by intro _ _; rfl) :
    SS X ct (.Try [.Expr x p] [.ExceptHandler (some (.Name xk np)) (some n) (b₀ :: suite) pos'] [] [] pos) (sTry i xs a (sEx b) su) := by
  refine ⟨ps_mono (ps_try_as (i := i) (tb := fun Wx D σ H => tE X.K ct a σ H (XQ xt Wx σ) ∨ tSm X.K ct (sEx b) D σ H) (ts := fun ad cls d D σ H => ∃ z : Str × Addr, (z.1 ∈ xs ∧ xt z.1 = some z.2 ∧ cls = .ref z.2 ∧ d = none) ∧ tSm X.K ct (su ad z.1) D σ H) hs hf hN hi hln hc takes0
    (fun Wx pn xe tk _ => pss_one (ps_or (ps_mono (ps_expr (hb Wx pn xe tk).pe (hw pn xe)) fun _ _ _ h => h) (ss_ex (hb2 pn xe) (hw pn xe)).ps))
    (fun ad oe cls d pn hz hf => pss_ex fun z ⟨h1, h2, h3, h4⟩ => (hsu z.1 z.2 ad oe pn h1 h2 (by rw [← h3, ← h4]; exact hz) hf).pss)) fun D σ H ⟨F, W, L, env, st, o, env', st', I, e, k⟩ => ?_⟩
  unfold sTry at e
  split at e
  · rename_i c st1 he
    split at e
    · rename_i h
      cases e
      have hq := Classical.choose_spec h.2
      refine .inl ⟨F, W, L, env, st, _, st1, I, he, fun v H1 W1 L1 l1 I1 q => ⟨c, ?_, fun C hC => ⟨true, hx c h.1 C hC, fun _ ad hna => ⟨(c, C), ⟨h.1, hC, rfl, rfl⟩, ?_⟩, fun q => nomatch q⟩⟩⟩
      · cases (show Rep X.K ct W1 v (.str c) from q); rfl
      · obtain ⟨e2, g1, g2⟩ := hq ad
        refine ⟨F, W1, L1, _, st1, .nx, e2, _, I1.setExc i ad, g1, fun σ2 H2 W2 L2 l2 I2 => ?_⟩
        have J := I2.setNo i none
        rw [g2] at J
        exact k _ H2 W2 L2 (l1.trans l2) J
    · cases e
  · exact .inr ⟨F, W, L, env, st, o, env', st', I, e, k⟩
end
/-! typed -/
open En
section
variable {α β σ τ : Type} [En α] [En β]
variable {k : Kx} {env : List Kn.Slot} {st : Sto} {a b c : Sem} {i : Nat} {fn : Bool} {enc : τ → Outs} {f g : SemS}
theorem ev_isE {ad : Addr} {v : Bool} (he : env[i]? = some (.exc ad)) : Ev .sh (eIsE i ad v) env st (some v) := by
  unfold Ev eIsE
  rw [he]
  show (if ad = ad then _ else _) = _
  rw [if_pos rfl]; rfl
theorem ru_xp {t1 : Option Txt} {T : Option τ} {F : Txt → τ} (h1 : Ev .sh a env st t1) (he : ∀ x, enc (F x) = (.rt (.sh (en x)), [], st)) (h2 : Ru fn enc (sSeq f g) env st T) : Ru fn enc (sSeq (sXp a f) g) env st (t1.elim T fun x => some (F x)) := by
  unfold Ev at h1
  cases t1 with
  | none =>
    have : sSeq (sXp a f) g env st = sSeq f g env st := by rw [x_seq, x_seq]; unfold sXp; rw [h1]; rfl
    unfold Ru at h2 ⊢
    rw [this]; exact h2
  | some x =>
    unfold Ru
    have : sSeq (sXp a f) g env st = some (.rt (.sh (en x)), env, st) := by rw [x_seq]; unfold sXp; rw [h1]; rfl
    rw [this]
    show some (nrm fn (.rt (.sh (en x)), env, st)) = some (enc (F x))
    rw [he]; rfl
theorem rnx_try {E : σ → List Kn.Slot} {xs : List Str} {su : Addr → Str → SemS} {t1 : Option Txt} {t2 : Option (σ × Sto)} {T3 : Txt → Option (σ × Sto)} (h1 : Ev .sh a env st t1) (h2 : RnX E f env st t2) (h3 : ∀ ad x, RnX (fun s => (E s).set i (.exc ad)) (su ad x.x) (env.set i (.exc ad)) st (T3 x)) (hE : ∀ s, (E s).set i .no = E s) :
    RnX E (sTry i xs a f su) env st (t1.elim t2 fun x => if x.x ∈ xs then T3 x else none) := by
  unfold Ev at h1
  unfold RnX at h2 h3 ⊢
  cases t1 with
  | none => rw [sTry_no h1]; exact h2
  | some x =>
    rw [sTry_exc (c := x.x) (st' := st) h1]
    by_cases hc : x.x ∈ xs
    · have h3 := fun ad => h3 ad x
      cases hT : T3 x with
      | none =>
        rw [dif_neg]
        · show none = Option.map _ (if x.x ∈ xs then T3 x else none)
          rw [if_pos hc, hT]; rfl
        · rintro ⟨_, q, hq⟩
          obtain ⟨e2, g1, _⟩ := hq 0
          rw [h3 0, hT] at g1; cases g1
      | some p =>
        have w : x.x ∈ xs ∧ ∃ q : List Kn.Slot × Sto, ∀ ad, ∃ e2, su ad x.x (env.set i (.exc ad)) st = some (.nx, e2, q.2) ∧ e2.set i .no = q.1 := ⟨hc, (E p.1, p.2), fun ad => ⟨(E p.1).set i (.exc ad), by rw [h3 ad, hT]; rfl, by rw [List.set_set, hE]⟩⟩
        rw [dif_pos w]
        have hq := Classical.choose_spec w.2
        obtain ⟨e2, g1, g2⟩ := hq 0
        rw [h3 0, hT] at g1
        have g1 := Option.some.inj g1
        have e1 : (E p.1).set i (.exc 0) = e2 := congrArg (fun q : Outs => q.2.1) g1
        have e3 : p.2 = (Classical.choose w.2).2 := congrArg (fun q : Outs => q.2.2) g1
        rw [← e1, List.set_set, hE] at g2
        show _ = Option.map _ (if x.x ∈ xs then T3 x else none)
        rw [if_pos hc, hT, ← g2, ← e3]; rfl
    · rw [dif_neg fun q => hc q.1]
      show none = Option.map _ (if x.x ∈ xs then T3 x else none)
      rw [if_neg hc]; rfl
end
/-! things of any kind -/
section
variable {X : Cx} {ct : CT} {pos p : Pos} {x : Expr} {a : Sem}
end
theorem ru_nv {fn : Bool} {enc : τ → Outs} {env : List Kn.Slot} {st : Sto} : Ru fn enc sNever env st none := rfl
section
variable {X : Cx} {ct : CT} {xt : XT} {Wx : WX} {pos p pos2 tpos : Pos} {x y : Expr} {a : Sem} {v : V} {k kk : Nat} {elts ifs : List Expr} {scope : Scope} {own : List (Str × Nat)}
theorem boot_ValueError : bootBuiltins "ValueError" = some (.type "ValueError") := PyProof.Rows.Boot.«ValueError»
end
end Kn
namespace Kn
open PySem L2
/-! ### tuple(a list) of a known length -/
def fTofN (n : Nat) : D → Option R
  | .lst ds => if ds.length = n then some (.sh (.tup ds)) else none
  | _ => none
section
variable {X : Cx} {ct : CT} {pos p : Pos} {x : Expr} {a : Sem}
theorem se_tupN (n : Nat) (hg : Gl X "tuple") (hm : X.mg "tuple" = none) (ha : SE X ct x a) (he : starEach [x] X.env = (false, eval x X.env) :: starEach [] X.env := by rfl) (hpl : (backTo pos (starEach [] X.env)).any (·.1) = false := by rfl) :
    SE X ct (.Call (.Name "tuple" p) [x] [] pos) (e1 (fTofN n) a) := by
  refine ⟨pe_mono (se_tuple hg hm ha he hpl).pe fun σ H Q ⟨F, W, L, env, st, r, st', I, e, k⟩ => ⟨F, W, L, env, st, r, st', I, ?_, k⟩⟩
  obtain ⟨⟨r1, st1⟩, h1, e⟩ := bind2 e
  show ((a env st).bind fun p => (fTofs p.1.d).map fun r => (r, p.2)) = _
  rw [h1]
  show ((fTofs r1.d).map fun r => (r, st1)) = _
  obtain ⟨r2, h2, h3⟩ := map2 e
  have h2 : fTofN n r1.d = some r2 := h2
  have : fTofs r1.d = some r2 := by
    unfold fTofN at h2
    split at h2
    · rename_i ds hd
      split at h2
      · cases h2; rw [hd]; rfl
      · cases h2
    · cases h2
  rw [this]; exact congrArg some h3
end
open En
section
variable {α : Type} [En α]
def tup5? : List α → Option (Tp5 α α α α α)
  | [a, b, c, d, e] => some ⟨a, b, c, d, e⟩
  | _ => none
theorem fTofN_ne {n : Nat} {l : List α} (h : l.length ≠ n) : fTofN n (en l) = none := by
  show (if (l.map en).length = n then some (Kn.R.sh (.tup (l.map en))) else none) = _
  rw [List.length_map, if_neg h]
theorem o1_tup5 : Op1 (α := List α) .sh (fTofN 5) tup5? := fun l => by
  match l with
  | [] => rfl
  | [_] => rfl
  | [_, _] => rfl
  | [_, _, _] => rfl
  | [_, _, _, _] => rfl
  | [a, b, c, d, e] => rfl
  | _ :: _ :: _ :: _ :: _ :: _ :: l => exact (fTofN_ne (by simp only [List.length_cons]; omega)).trans rfl
end
section
variable {α β γ δ σ ρ τ : Type} [En α] [En β] [En γ]
variable {k k1 k2 k3 : Kx} {env env' : List Kn.Slot} {st : Sto} {e a b c : Sem} {i j n : Nat} {x x' : α} {y : β} {tx : Option α} {ty : Option β} {as : SemA} {ds : List D}
variable {fn : Bool} {enc : τ → Outs} {f g h s1 : SemS} {t t1 t2 : Option τ} {z : τ}
theorem ru_insxx {l : List α} {tj : Option Int} {T : List α → Option τ} (he : env[i]? = some (.ow (en l))) (hb : Ev k1 b env st tj) (hk1 : k1.ok = true) (ha : Ev k a env st tx) (hk : k.ok = true) (hr : ∀ m', Ru fn enc g (env.set i (.ow (en m'))) st (T m')) : Ru fn enc (sSeq (sMut i fIns (aCons b (aCons a aNil))) g) env st (tj.bind fun j => tx.bind fun x => (insG l j x).bind T) := by
  cases tx with
  | some x => exact ru_insx he hb hk1 ha hk hr
  | none =>
    have h1 := ea_xp ha hk (ea_nil (env := env) (st := st))
    unfold EvA at h1
    unfold Ru
    rw [x_seq, x_mut]
    have : (aCons b (aCons a aNil)) env st = none := by
      show ((b env st).bind fun p => ((aCons a aNil) env p.2).map fun q => (p.1.pin :: q.1, q.2)) = none
      unfold Ev at hb
      rw [hb]
      cases tj with
      | none => rfl
      | some j => show (((aCons a aNil) env st).map _) = none; rw [h1]; rfl
    rw [this]
    cases tj <;> rfl
end
theorem o1_intI : Op1 (α := Int) .sh fInt fun i => some i := fun _ => rfl
section
variable {α β σ τ : Type} [En α] [En β]
variable {k : Kx} {env : List Kn.Slot} {st : Sto} {a b c : Sem} {i : Nat} {fn : Bool} {enc : τ → Outs} {f g : SemS}
end
instance asDInt : AsG D Int := ⟨D.int?, isIntD, fun x => by cases x <;> first | exact ⟨rfl, rfl⟩ | rfl⟩
def D.pair? : D → Option (Tp2 Int Int)
  | .tup [.int i, .int j] => some ⟨i, j⟩
  | _ => none
def D.pairs? : List D → Option (List (Tp2 Int Int))
  | [] => some []
  | d :: ds => d.pair?.bind fun x => (D.pairs? ds).map fun xs => x :: xs
def isPairsD : D → Bool
  | .lst ds => (D.pairs? ds).isSome
  | _ => false
theorem pairs_en : ∀ {ds : List D} {l : List (Tp2 Int Int)}, D.pairs? ds = some l → l.map en = ds
  | [], _, h => by cases h; rfl
  | d :: ds, _, h => by
    obtain ⟨x, h1, h⟩ := bind2 h
    obtain ⟨xs, h2, h3⟩ := map2 h
    subst h3
    rw [List.map_cons, pairs_en h2]
    unfold D.pair? at h1
    split at h1
    · cases h1; rfl
    · cases h1
def D.pairsL? : D → Option (List (Tp2 Int Int))
  | .lst ds => D.pairs? ds
  | _ => none
theorem isPairs_none : ∀ {x : D}, D.pairsL? x = none → isPairsD x = false
  | .lst ds, h => by
    show (D.pairs? ds).isSome = false
    rw [show D.pairs? ds = none from h]; rfl
  | .non, _ => rfl
  | .bl _, _ => rfl
  | .int _, _ => rfl
  | .str _, _ => rfl
  | .tup _, _ => rfl
  | .dic _, _ => rfl
  | .obj _ _, _ => rfl
  | .hnd _, _ => rfl
  | .scr _, _ => rfl
theorem isPairs_some : ∀ {x : D} {y : List (Tp2 Int Int)}, D.pairsL? x = some y → isPairsD x = true ∧ (en y : D) = x
  | .lst ds, y, h => by
    have h : D.pairs? ds = some y := h
    exact ⟨by show (D.pairs? ds).isSome = true; rw [h]; rfl, congrArg D.lst (pairs_en h)⟩
instance asDPairs : AsG D (List (Tp2 Int Int)) := ⟨D.pairsL?, isPairsD, fun x => by
  cases h : D.pairsL? x with
  | none => exact isPairs_none h
  | some y => exact isPairs_some h⟩
section
variable {α β γ μ : Type} [En α] [En β] [En γ]
variable {k : Kx} {env : List Kn.Slot} {st : Sto} {a : Sem} {as : SemA} {n : Nat} {m : Fn} {dec : μ → List D}
end
/-! lists of truths -/
theorem eqvAll_bls : ∀ xs ys : List Bool, PyData.eqvAll (D.pyL (xs.map .bl)) (D.pyL (ys.map .bl)) = decide (xs = ys)
  | [], [] => rfl
  | [], _ :: _ => rfl
  | _ :: _, [] => rfl
  | n :: ns, m :: ms => by
    simp only [List.map_cons, D.pyL, PyData.eqvAll, D.py, PyData.eqv]
    rw [eqvAll_bls ns ms]
    by_cases h : n = m
    · subst h; simp
    · simp [h]
theorem eq_bls (ns ms : List Bool) : (D.lst (ns.map .bl)).eq (.lst (ms.map .bl)) = decide (ns = ms) := by
  unfold D.eq
  rw [D.py, D.py, PyData.eqv, eqvAll_bls]
theorem o2_eqLb : Op2 (α := List Bool) (β := List Bool) .sh fEq fun x y => some (decide (x = y)) := fun x y => by
  show fEq (.lst (x.map .bl)) (.lst (y.map .bl)) = _
  unfold fEq; rw [eq_bls, ok_bls, ok_bls]; rfl
structure Tp0 where
  deriving DecidableEq
instance : En Tp0 := ⟨fun _ => .tup []⟩
/-! in a suite: the room without what is handled -/
theorem unH {k : Nat} {A B : Around} (hr : Room k A) (h : B.units = A.units) : B.units + 200 < cLine := by have := hr.un; omega
section
variable {X : Cx} {ct : CT} {pos : Pos} {x y : Expr} {a b : Sem}
theorem op_inU (h : X.A.units + 200 < cLine) : OpR X (compareOp .In) (fun x y H Q => rInD X.K x y H Q ∨ rIn X.K false x y H Q ∨ ∃ a o, y = .ref a ∧ DGet H a x o ∧ Q (.bl o.isSome) H) := OpR.or (op_inD (by omega)) (OpR.or op_in_seq (op_inDict (by omega)))
theorem se_inU (h : X.A.units + 200 < cLine) (ha : SE X ct x a) (hb : SE X ct y b) (hm : behindInMarks .In y = false := by with_unfolding_all rfl) : SE X ct (.Compare x [.In] [y] pos) (e2 fIn a b) := se_cmp (op_inU h) (os_in false) hm ha hb
end
section
variable {a b : Sem} {as : SemA} {i : Nat}
theorem nort_emp {it : SemI} {vs : List Nat} {g : SemG} : NoRt (sEmp i it vs g) := fun env st o env' st' h r q => by
  obtain ⟨p, _, h⟩ := bind2 h
  split at h
  · cases h; cases q
  · cases h
theorem nort_app2 : NoRt (sApp2 i b as) := fun env st o env' st' h r q => by
  obtain ⟨p, _, h⟩ := bind2 h
  obtain ⟨p2, _, h⟩ := bind2 h
  obtain ⟨xs, _, h⟩ := bind2 h
  split at h
  · obtain ⟨_, _, h2⟩ := map2 h
    cases h2; cases q
  · cases h
end
/-! what raises within a call's arguments -/
section
variable {X : Cx} {ct : CT} {xt : XT} {Wx : WX} {E : XK} {pos p apos npos : Pos} {x y : Expr} {es : List Expr} {a b : Sem} {k n i : Nat} {ps : List Str} {m : Fn} {nm f : Str}
end
section
open En
variable {α β : Type} [En α] [En β] {k k2 : Kx} {env : List Kn.Slot} {st : Sto} {a b : Sem} {x : α} {tx : Option α} {t : Option β}
end
structure McXD (P : Program) (w : World) (K : PySem.W.Frag) (mg : Str → Option Value) (base : Heap) (ct : CT) (xt : XT) (C : Addr) (nm : Str) (k : Nat) (ps : List Str) (m : Fn) (d : D) : Prop where
  ex : ∃ f fd u v, FnOk P w K mg base (L2.CX P w) k f fd ps (spX K ct xt ps.length m) ∧ Meth K C nm f ∧ Binds K fd ps [] ∧ Binds K fd ps [u] ∧ RelV v u ∧ ∀ W, Rep K ct W v d
section
variable {P : Program} {w : World} {K : PySem.W.Frag} {mg : Str → Option Value} {base : Heap} {ct : CT} {xt : XT}
theorem McXD.all {C : Addr} {nm : Str} {k : Nat} {ps : List Str} {m : Fn} {d : D} (M : McXD P w K mg base ct xt C nm k ps m d) : MclX P w K mg base ct xt C nm k ps m := by
  obtain ⟨f, fd, u, v, h1, h2, h3, _⟩ := M.ex
  exact ⟨f, fd, h1, h2, h3⟩
end
end Kn
namespace Law
open PySem L2 Kn Kn.En
structure O_Town where
  size : Int
  many : Int
  names : (List Int)
  kept : (List (Tp5 Int Int Int Int Int))
  near : (List (List Int))
instance : En O_Town := ⟨fun o => .obj "Town" [en o.size, en o.many, en o.names, en o.kept, en o.near]⟩
instance : EnH O_Town := ⟨fun p => by show D.nhL [_, _, _, _, _] = true; simp only [D.nhL, EnH.nh, Bool.and_self]⟩
theorem fl_Town_size : Op1 (α := O_Town) .sh (fFld "Town" 0) fun o => some o.size := fun o => by
  show fFld "Town" 0 (.obj "Town" [en o.size, en o.many, en o.names, en o.kept, en o.near]) = _
  rw [x_fld]; rfl
theorem fl_Town_many : Op1 (α := O_Town) .sh (fFld "Town" 1) fun o => some o.many := fun o => by
  show fFld "Town" 1 (.obj "Town" [en o.size, en o.many, en o.names, en o.kept, en o.near]) = _
  rw [x_fld]; rfl
/-! the defs as functions -/
noncomputable def b_law_cell_at : SemS :=
  sSeq (sIf (e2 fLt (eVar 1) (e1 fLen (eVar 0))) (sSeq (sRet (e2 fIdx (eVar 0) (eVar 1))) (sNil)) (sNil)) (sSeq (sRet (eC (.int 0))) (sNil))
noncomputable def m_law_cell_at : Fn := fun ds st => if ds.length = 2 then runB 2 b_law_cell_at ds st else none
noncomputable def lb_law_names_1 : SemS :=
  sSeq (sAug 5 (fI fun i j => some (i + j)) (eC (.int 1))) (sNil)
noncomputable def lt_law_names_2 : Sem :=
  e2 fIn (eVar 5) (eVar 2)
noncomputable def lb_law_names_3 : SemS :=
  sSeq (sSet 4 (e2 (fI gMod) (eCall 2 m_law_cell_at (aCons (eVar 0) (aCons (e2 fAdd (eC (.int 1)) (eVar 3)) (aNil)))) (e2 fMul (eC (.int 2)) (e2 (fI gPow) (eC (.int 10)) (eC (.int 60)))))) (sSeq (sSet 5 (e2 (fI gMod) (e2 (fI gDiv) (eVar 4) (eC (.int 2))) (e2 (fI gSub') (e2 (fI gPow) (eC (.int 10)) (eC (.int 60))) (eC (.int 20))))) (sSeq (sIf (e2 fEq (e2 (fI gMod) (eVar 4) (eC (.int 2))) (eC (.int 0))) (sSeq (sSet 5 (e2 (fI gMod) (eVar 5) (e2 fAdd (eVar 1) (eC (.int 2))))) (sNil)) (sNil)) (sSeq (sWhl 100000 lt_law_names_2 lb_law_names_1) (sSeq (sMut 2 fApp (aCons (eVar 5) (aNil))) (sKl [3, 4, 5] (sNil))))))
noncomputable def b_law_names : SemS :=
  sSeq (sSet 2 (eLst (aNil))) (sSeq (sFor (iRng1' (eVar 1)) (gNm 3) lb_law_names_3) (sSeq (sRet (eVar 2)) (sNil)))
noncomputable def m_law_names : Fn := fun ds st => if ds.length = 2 then runB 6 b_law_names ds st else none
noncomputable def b_law_rope : SemS :=
  sSeq (sSet 2 (e2 (fI gMod) (eVar 0) (eVar 1))) (sSeq (sSet 0 (e2 (fI gDiv) (eVar 0) (eVar 1))) (sSeq (sSet 3 (e2 (fI gMod) (e2 fAdd (e2 fAdd (eVar 2) (eC (.int 1))) (e2 (fI gMod) (eVar 0) (e2 (fI gSub') (eVar 1) (eC (.int 1))))) (eVar 1))) (sSeq (sSet 0 (e2 (fI gDiv) (eVar 0) (e2 (fI gSub') (eVar 1) (eC (.int 1))))) (sSeq (sSet 4 (e2 fAdd (eC (.int 1)) (e2 (fI gMod) (eVar 0) (eC (.int 4))))) (sSeq (sSet 5 (e2 fAdd (eC (.int 1)) (e2 (fI gMod) (e2 (fI gDiv) (eVar 0) (eC (.int 4))) (eC (.int 7))))) (sSeq (sRet (eTup (aCons (eVar 2) (aCons (eVar 3) (aCons (e2 fAdd (eC (.int 1)) (e2 (fI gMod) (e2 (fI gDiv) (eVar 0) (eC (.int 28))) (e2 (fI gSub') (e2 (fI gPow) (eC (.int 10)) (eC (.int 60))) (eC (.int 1))))) (aCons (eVar 4) (aCons (eVar 5) (aNil)))))))) (sNil)))))))
noncomputable def m_law_rope : Fn := fun ds st => if ds.length = 2 then runB 6 b_law_rope ds st else none
noncomputable def ce_law_ropes_1 : Sem :=
  eCall 2 m_law_rope (aCons (eVar 2) (aCons (eVar 1) (aNil)))
noncomputable def b_law_ropes : SemS :=
  sSeq (sIf (e2 fEq (eVar 1) (eC (.int 1))) (sSeq (sRet (eLst (aNil))) (sNil)) (sNil)) (sSeq (sRet (eLc (iSeq (eSlc (eVar 0) (pSome (eC (.int 11))) (pSome (eC (.int 31))))) [2] (gNm 2) eYes ce_law_ropes_1)) (sNil))
noncomputable def m_law_ropes : Fn := fun ds st => if ds.length = 2 then runB 3 b_law_ropes ds st else none
noncomputable def b_law_bad_names : SemS :=
  sSeq (sSet 2 (e1 fLofs (eVar 0))) (sSeq (sSet 3 (e2 (fI gMod) (e2 (fI gDiv) (eVar 1) (eC (.int 3))) (e1 fLen (eVar 2)))) (sSeq (sIf (e2 fEq (e2 (fI gMod) (eVar 1) (eC (.int 3))) (eC (.int 0))) (sSeq (sSub 2 (eVar 3) (e2 (fI gSub') (e1 fNeg (eC (.int 1))) (e2 fIdx (eLst (aCons (eC (.int 0)) (aCons (e2 (fI gMod) (e2 (fI gDiv) (eVar 1) (eC (.int 30))) (e2 (fI gPow) (eC (.int 10)) (eC (.int 59)))) (aNil)))) (e2 (fI gMod) (e2 (fI gDiv) (eVar 1) (eC (.int 6))) (eC (.int 2)))))) (sNil)) (sSeq (sIf (eAnd (e2 fEq (e2 (fI gMod) (eVar 1) (eC (.int 3))) (eC (.int 1))) (e2 fLt (e1 fLen (eVar 2)) (eC (.int 10)))) (sSeq (sMut 2 fIns (aCons (e2 (fI gMod) (e2 (fI gDiv) (eVar 1) (eC (.int 30))) (e2 fAdd (e1 fLen (eVar 2)) (eC (.int 1)))) (aCons (e2 fIdx (eVar 2) (eVar 3)) (aNil)))) (sNil)) (sSeq (sIf (e2 fEq (e2 (fI gMod) (eVar 1) (eC (.int 3))) (eC (.int 1))) (sSeq (sSub 2 (eVar 3) (e2 fIdx (eVar 2) (e2 (fI gSub') (eVar 3) (eC (.int 1))))) (sNil)) (sSeq (sSet 2 (e2 fMul (eLrg (e2 fAdd (eC (.int 11)) (e2 (fI gMod) (e2 (fI gDiv) (eVar 1) (eC (.int 3))) (eC (.int 3))))) (e1 fInt (e2 (fI gMod) (e2 (fI gDiv) (eVar 1) (eC (.int 9))) (eC (.int 2)))))) (sNil))) (sNil))) (sNil))) (sSeq (sRet (eVar 2)) (sNil))))
noncomputable def m_law_bad_names : Fn := fun ds st => if ds.length = 2 then runB 4 b_law_bad_names ds st else none
noncomputable def b_law_beyond : SemS :=
  sSeq (sSet 3 (e2 fIdx (eLst (aCons (eC (.int 0)) (aCons (eC (.int 1)) (aCons (e2 (fI gMod) (e2 (fI gDiv) (eVar 0) (eC (.int 6))) (e2 (fI gPow) (eC (.int 10)) (eC (.int 59)))) (aNil))))) (e2 (fI gMod) (e2 (fI gDiv) (eVar 0) (eC (.int 2))) (eC (.int 3))))) (sSeq (sIf (e2 fEq (e2 (fI gMod) (eVar 0) (eC (.int 2))) (eC (.int 0))) (sSeq (sRet (e2 (fI gSub') (e2 (fI gSub') (eVar 1) (eC (.int 1))) (eVar 3))) (sNil)) (sNil)) (sSeq (sRet (e2 fAdd (e2 fAdd (eVar 2) (eC (.int 1))) (eVar 3))) (sNil)))
noncomputable def m_law_beyond : Fn := fun ds st => if ds.length = 3 then runB 4 b_law_beyond ds st else none
noncomputable def b_law_bad_rope : SemS :=
  sSeq (sSet 2 (e2 (fI gMod) (eVar 0) (eC (.int 6)))) (sSeq (sSet 3 (e2 (fI gDiv) (eVar 0) (eC (.int 6)))) (sSeq (sSet 4 (eLst (aCons (eC (.int 0)) (aCons (e2 (fI gSub') (eVar 1) (eC (.int 1))) (aCons (e2 fAdd (eC (.int 1)) (e2 (fI gMod) (eVar 3) (eC (.int 5)))) (aCons (e2 fAdd (eC (.int 1)) (e2 (fI gMod) (eVar 3) (eC (.int 4)))) (aCons (e2 fAdd (eC (.int 1)) (e2 (fI gMod) (eVar 3) (eC (.int 7)))) (aNil)))))))) (sSeq (sIf (eOr (e2 fEq (eVar 2) (eC (.int 0))) (eAnd (e2 fEq (eVar 1) (eC (.int 1))) (e2 fNe (eVar 2) (eC (.int 1))))) (sSeq (sSub 4 (e2 (fI gMod) (eVar 3) (eC (.int 2))) (eCall 3 m_law_beyond (aCons (e2 (fI gDiv) (eVar 3) (eC (.int 2))) (aCons (eC (.int 0)) (aCons (e2 (fI gSub') (eVar 1) (eC (.int 1))) (aNil)))))) (sNil)) (sNil)) (sSeq (sIf (e2 fEq (eVar 2) (eC (.int 1))) (sSeq (sSub 4 (eC (.int 0)) (e2 (fI gMod) (eVar 3) (eVar 1))) (sSeq (sSub 4 (eC (.int 1)) (e2 (fI gMod) (eVar 3) (eVar 1))) (sNil))) (sNil)) (sSeq (sIf (e2 fEq (eVar 2) (eC (.int 2))) (sSeq (sSub 4 (eC (.int 2)) (e2 fIdx (eLst (aCons (eC (.int 0)) (aCons (e2 (fI gSub') (e1 fNeg (eC (.int 1))) (e2 (fI gMod) (eVar 3) (e2 (fI gPow) (eC (.int 10)) (eC (.int 59))))) (aNil)))) (e2 (fI gMod) (e2 (fI gDiv) (eVar 3) (eC (.int 7))) (eC (.int 2))))) (sNil)) (sNil)) (sSeq (sIf (e2 fEq (eVar 2) (eC (.int 3))) (sSeq (sSub 4 (eC (.int 3)) (eCall 3 m_law_beyond (aCons (eVar 3) (aCons (eC (.int 1)) (aCons (eC (.int 4)) (aNil)))))) (sNil)) (sNil)) (sSeq (sIf (e2 fGe (eVar 2) (eC (.int 4))) (sSeq (sSub 4 (eC (.int 4)) (eCall 3 m_law_beyond (aCons (eVar 3) (aCons (eC (.int 1)) (aCons (eC (.int 7)) (aNil)))))) (sNil)) (sNil)) (sSeq (sRet (e1 (fTofN 5) (eVar 4))) (sNil)))))))))
noncomputable def m_law_bad_rope : Fn := fun ds st => if ds.length = 2 then runB 5 b_law_bad_rope ds st else none
noncomputable def cc_law_spoiled_1 : Sem :=
  e2 fEq (e2 (fI gMod) (e2 (fI gDiv) (eVar 2) (eC (.int 2))) (eC (.int 2))) (eC (.int 0))
noncomputable def ce_law_spoiled_2 : Sem :=
  eVar 5
noncomputable def b_law_spoiled : SemS :=
  sSeq (sSet 3 (e1 fLen (eVar 0))) (sSeq (sIf (e2 fEq (e2 (fI gMod) (eVar 2) (eC (.int 3))) (eC (.int 0))) (sSeq (sRet (eTup (aCons (eCall 2 m_law_bad_names (aCons (eVar 0) (aCons (e2 (fI gDiv) (eVar 2) (eC (.int 3))) (aNil)))) (aCons (eLc (iSeq (eVar 1)) [5] (gNm 5) cc_law_spoiled_1 ce_law_spoiled_2) (aNil))))) (sNil)) (sNil)) (sSeq (sIf (eAnd (e2 fEq (e2 (fI gMod) (eVar 2) (eC (.int 3))) (eC (.int 1))) (eAnd (e2 fEq (e2 (fI gMod) (e2 (fI gDiv) (eVar 2) (eC (.int 3))) (eC (.int 4))) (eC (.int 0))) (e2 fGt (eVar 3) (eC (.int 1))))) (sSeq (sRet (eTup (aCons (eVar 0) (aCons (e2 fAdd (eVar 1) (e2 fMul (eLst (aCons (eTup (aCons (eC (.int 0)) (aCons (e2 (fI gSub') (eVar 3) (eC (.int 1))) (aCons (eC (.int 1)) (aCons (eC (.int 1)) (aCons (eC (.int 1)) (aNil))))))) (aNil))) (e2 (fI gSub') (eC (.int 21)) (e1 fLen (eVar 1))))) (aNil))))) (sNil)) (sNil)) (sSeq (sSet 4 (e2 (fI gMod) (e2 (fI gDiv) (eVar 2) (eC (.int 5))) (e2 fAdd (e1 fLen (eVar 1)) (eC (.int 1))))) (sSeq (sRet (eTup (aCons (eVar 0) (aCons (e2 fAdd (e2 fAdd (eSlc (eVar 1) (pNo) (pSome (eVar 4))) (eLst (aCons (eCall 2 m_law_bad_rope (aCons (e2 (fI gDiv) (eVar 2) (eC (.int 3))) (aCons (eVar 3) (aNil)))) (aNil)))) (eSlc (eVar 1) (pSome (eVar 4)) (pNo))) (aNil))))) (sNil)))))
noncomputable def m_law_spoiled : Fn := fun ds st => if ds.length = 3 then runB 6 b_law_spoiled ds st else none
noncomputable def lb_ask_names_1 : SemS :=
  sSeq (sIf (eOr (e2 fLt (e2 fIdx (eVar 0) (eVar 1)) (eC (.int 0))) (e2 fIn (e2 fIdx (eVar 0) (eVar 1)) (eSlc (eVar 0) (pNo) (pSome (eVar 1))))) (sSeq (sNever) (sNil)) (sNil)) (sKl [1] (sNil))
noncomputable def b_ask_names : SemS :=
  sSeq (sIf (eNot (eChain fLe fLe (eC (.int 1)) (e1 fLen (eVar 0)) ((eC (.int 10))))) (sSeq (sNever) (sNil)) (sNil)) (sSeq (sFor (iRng1' (e1 fLen (eVar 0))) (gNm 1) lb_ask_names_1) (sNil))
noncomputable def m_ask_names : Fn := fun ds st => if ds.length = 1 then runB 2 b_ask_names ds st else none
noncomputable def b_ask_rope : SemS :=
  sSeq (sAsg (eVar 1) (gTp [gNm 2, gNm 3, gNm 4, gNm 5, gNm 6])) (sSeq (sIf (eOr (eNot (eChain fLe fLt (eC (.int 0)) (eVar 2) (eVar 0))) (eOr (eNot (eChain fLe fLt (eC (.int 0)) (eVar 3) (eVar 0))) (e2 fEq (eVar 2) (eVar 3)))) (sSeq (sNever) (sNil)) (sNil)) (sSeq (sIf (eOr (e2 fLt (eVar 4) (eC (.int 1))) (eOr (eNot (eChain fLe fLe (eC (.int 1)) (eVar 5) (eC (.int 4)))) (eNot (eChain fLe fLe (eC (.int 1)) (eVar 6) (eC (.int 7)))))) (sSeq (sNever) (sNil)) (sNil)) (sNil)))
noncomputable def m_ask_rope : Fn := fun ds st => if ds.length = 2 then runB 7 b_ask_rope ds st else none
noncomputable def lb_Town_init_1 : SemS :=
  sSeq (sEx (eCall 2 m_ask_rope (aCons (e1 fLen (eVar 1)) (aCons (eVar 5) (aNil))))) (sSeq (sApp2 3 (e2 fIdx (eVar 5) (eC (.int 0))) (aCons (eVar 4) (aNil))) (sSeq (sApp2 3 (e2 fIdx (eVar 5) (eC (.int 1))) (aCons (eVar 4) (aNil))) (sKl [4, 5] (sNil))))
noncomputable def b_Town_init : SemS :=
  sSeq (sEx (eCall 1 m_ask_names (aCons (eVar 1) (aNil)))) (sSeq (sIf (e2 fGt (e1 fLen (eVar 2)) ((eC (.int 20)))) (sSeq (sNever) (sNil)) (sNil)) (sSeq (sEmp 3 (iSeq (eVar 1)) [6] (gNm 6)) (sSeq (sFor (iEnum' (eVar 2)) (gTp [gNm 4, gNm 5]) lb_Town_init_1) (sSeq (sFldM 0 "Town" 0 (e1 fLen (eVar 1))) (sSeq (sFldM 0 "Town" 1 (e1 fLen (eVar 2))) (sSeq (sFldM 0 "Town" 2 (e1 fLofs (eVar 1))) (sSeq (sFldM 0 "Town" 3 (e1 fLofs (eVar 2))) (sFrz2 3 (sSeq (sFldM 0 "Town" 4 (eVar 3)) (sKl [3] (sNil)))))))))))
noncomputable def m_Town_init : Fn := runI 7 "Town" b_Town_init
noncomputable def lb_Xq_ask_names_1 : SemS :=
  sSeq (sIf (eOr (e2 fLt (e2 fIdx (eVar 0) (eVar 1)) (eC (.int 0))) (e2 fIn (e2 fIdx (eVar 0) (eVar 1)) (eSlc (eVar 0) (pNo) (pSome (eVar 1))))) (sSeq (sRet (eC (.str "BadTown"))) (sNil)) (sNil)) (sKl [1] (sNil))
noncomputable def b_Xq_ask_names : SemS :=
  sSeq (sIf (eNot (eChain fLe fLe (eC (.int 1)) (e1 fLen (eVar 0)) ((eC (.int 10))))) (sSeq (sRet (eC (.str "BadTown"))) (sNil)) (sNil)) (sSeq (sFor (iRng1' (e1 fLen (eVar 0))) (gNm 1) lb_Xq_ask_names_1) (sNever))
noncomputable def m_Xq_ask_names : Fn := fun ds st => if ds.length = 1 then runB 2 b_Xq_ask_names ds st else none
noncomputable def b_Xq_ask_rope : SemS :=
  sSeq (sAsg (eVar 1) (gTp [gNm 2, gNm 3, gNm 4, gNm 5, gNm 6])) (sSeq (sIf (eOr (eNot (eChain fLe fLt (eC (.int 0)) (eVar 2) (eVar 0))) (eOr (eNot (eChain fLe fLt (eC (.int 0)) (eVar 3) (eVar 0))) (e2 fEq (eVar 2) (eVar 3)))) (sSeq (sRet (eC (.str "BadTown"))) (sNil)) (sNil)) (sSeq (sIf (eOr (e2 fLt (eVar 4) (eC (.int 1))) (eOr (eNot (eChain fLe fLe (eC (.int 1)) (eVar 5) (eC (.int 4)))) (eNot (eChain fLe fLe (eC (.int 1)) (eVar 6) (eC (.int 7)))))) (sSeq (sRet (eC (.str "BadTown"))) (sNil)) (sNil)) (sNever)))
noncomputable def m_Xq_ask_rope : Fn := fun ds st => if ds.length = 2 then runB 7 b_Xq_ask_rope ds st else none
noncomputable def lb_Xq_Town_init_1 : SemS :=
  sSeq (sXp (eCall 2 m_Xq_ask_rope (aCons (e1 fLen (eVar 1)) (aCons (eVar 5) (aNil)))) (sEx (eCall 2 m_ask_rope (aCons (e1 fLen (eVar 1)) (aCons (eVar 5) (aNil)))))) (sSeq (sApp2 3 (e2 fIdx (eVar 5) (eC (.int 0))) (aCons (eVar 4) (aNil))) (sSeq (sApp2 3 (e2 fIdx (eVar 5) (eC (.int 1))) (aCons (eVar 4) (aNil))) (sKl [4, 5] (sNil))))
noncomputable def b_Xq_Town_init : SemS :=
  sSeq (sXp (eCall 1 m_Xq_ask_names (aCons (eVar 1) (aNil))) (sEx (eCall 1 m_ask_names (aCons (eVar 1) (aNil))))) (sSeq (sIf (e2 fGt (e1 fLen (eVar 2)) ((eC (.int 20)))) (sSeq (sRet (eC (.str "BadTown"))) (sNil)) (sNil)) (sSeq (sEmp 3 (iSeq (eVar 1)) [6] (gNm 6)) (sSeq (sFor (iEnum' (eVar 2)) (gTp [gNm 4, gNm 5]) lb_Xq_Town_init_1) (sNever))))
noncomputable def m_Xq_Town_init : Fn := fun ds st => if ds.length = 2 then runB 7 (sKl [0] b_Xq_Town_init) (.non :: ds) st else none
noncomputable def b_law_refused : SemS :=
  sSeq (sSet 2 (eLst (aNil))) (sSeq (sTry 3 ["BadTown"] (eCall 2 m_Xq_Town_init (aCons (eVar 0) (aCons (eVar 1) (aNil)))) (sEx (eMake 3 m_Town_init (aCons (eVar 0) (aCons (eVar 1) (aNil))))) (fun (ad : Addr) (cx : Str) => sSeq (sSet 4 (eLst (aCons (eIsE 3 ad (isX cx "NoHouse")) (aCons (eIsE 3 ad (isX cx "NoGroup")) (aCons (eIsE 3 ad (isX cx "NoWire")) (aCons (eIsE 3 ad (isX cx "NoCaller")) (aNil))))))) (sSeq (sSet 4 (e2 fAdd (eVar 4) (eLst (aCons (eIsE 3 ad (isX cx "Apart")) (aCons (eIsE 3 ad (isX cx "NoCopy")) (aCons (eIsE 3 ad (isX cx "NoLetter")) (aNil))))))) (sSeq (sSet 4 (e2 fAdd (eVar 4) (eLst (aCons (eIsE 3 ad (isX cx "NoText")) (aNil))))) (sSeq (sSet 2 (eLst (aCons (eIsE 3 ad (isX cx "BadTown")) (aCons (eIsE 3 ad (isX cx "ValueError")) (aCons (e2 fIn (eC (.bl true)) (eVar 4)) (aNil)))))) (sKl [4] (sNil))))))) (sSeq (sRet (e2 fEq (eVar 2) (eLst (aCons (eC (.bl true)) (aCons (eC (.bl true)) (aCons (eC (.bl false)) (aNil))))))) (sNil)))
noncomputable def m_law_refused : Fn := fun ds st => if ds.length = 2 then runB 5 b_law_refused ds st else none
noncomputable def lb_law_1 : SemS :=
  sSeq (sAsg (eCall 3 m_law_spoiled (aCons (eVar 2) (aCons (eVar 3) (aCons (eVar 4) (aNil))))) (gTp [gNm 5, gNm 6])) (sSeq (sSet 7 (eLst (aCons (e1 fLofs (eVar 5)) (aCons (e1 fLofs (eVar 6)) (aNil))))) (sSeq (sIf (eOr (eNot (eCall 2 m_law_refused (aCons (e2 fIdx (eVar 7) (eC (.int 0))) (aCons (e2 fIdx (eVar 7) (eC (.int 1))) (aNil))))) (e2 fNe (eVar 7) (eLst (aCons (eVar 5) (aCons (eVar 6) (aNil)))))) (sSeq (sRet (eC (.bl false))) (sNil)) (sNil)) (sKl [4, 5, 6, 7] (sNil))))
noncomputable def b_law : SemS :=
  sSeq (sSet 1 (e2 fAdd (eC (.int 1)) (e2 (fI gMod) (eCall 2 m_law_cell_at (aCons (eVar 0) (aCons (eC (.int 0)) (aNil)))) (eC (.int 10))))) (sSeq (sSet 2 (eCall 2 m_law_names (aCons (eVar 0) (aCons (eVar 1) (aNil))))) (sSeq (sSet 3 (eSlc (eCall 2 m_law_ropes (aCons (eVar 0) (aCons (eVar 1) (aNil)))) (pNo) (pSome (eC (.int 19))))) (sSeq (sIf (e2 fNe (e1 (fFld "Town" 1) (eMake 3 m_Town_init (aCons (e1 fLofs (eVar 2)) (aCons (e1 fLofs (eVar 3)) (aNil))))) (e1 fLen (eVar 3))) (sSeq (sRet (eC (.bl false))) (sNil)) (sNil)) (sFrz 2 (sFrz 3 (sSeq (sFor (iSeq (e2 fAdd (eLrg (eC (.int 9))) (eSlc (eVar 0) (pSome (eC (.int 31))) (pSome (eC (.int 55)))))) (gNm 4) lb_law_1) (sSeq (sRet (e2 fEq (e1 (fFld "Town" 0) (eMake 3 m_Town_init (aCons (e1 fLofs (eVar 2)) (aCons (e1 fLofs (eVar 3)) (aNil))))) (eVar 1))) (sNil))))))))
noncomputable def m_law : Fn := fun ds st => if ds.length = 1 then runB 8 b_law ds st else none
def top (i : Nat) : Stmt := PySem.Challenge.pw_knotless_k02_town_refused.main.body.getD i (.Pass ⟨0, 0, 0, 0⟩)
abbrev s_law_cell_at : Stmt := top 19
abbrev s_law_names : Stmt := top 20
abbrev s_law_rope : Stmt := top 21
abbrev s_law_ropes : Stmt := top 22
abbrev s_law_bad_names : Stmt := top 25
abbrev s_law_beyond : Stmt := top 23
abbrev s_law_bad_rope : Stmt := top 24
abbrev s_law_spoiled : Stmt := top 26
abbrev s_ask_names : Stmt := top 15
abbrev s_ask_rope : Stmt := top 16
abbrev s_Town_init : Stmt := inClass (top 17) 0
abbrev s_law_refused : Stmt := top 27
abbrev s_law : Stmt := top 28
abbrev ns_Town : List Str := ["size", "many", "names", "kept", "near"]
structure Zs (mg : Str → Option Value) : Prop where
  z_ValueError : mg "ValueError" = none
  z_enumerate : mg "enumerate" = none
  z_int : mg "int" = none
  z_isinstance : mg "isinstance" = none
  z_len : mg "len" = none
  z_list : mg "list" = none
  z_range : mg "range" = none
  z_tuple : mg "tuple" = none
section
variable {P : Program} {w : World} {K : PySem.W.Frag} {mg : Str → Option Value} {base : Heap} {ct : CT} {C_Town : Addr} {C_Apart : Addr} {C_BadTown : Addr} {C_KnotError : Addr} {C_NoCaller : Addr} {C_NoCopy : Addr} {C_NoGroup : Addr} {C_NoHouse : Addr} {C_NoLetter : Addr} {C_NoText : Addr} {C_NoWire : Addr} {xt : XT} {t_MOST_HOUSES : Tok} {t_MOST_ROPES : Tok}
abbrev nm_law_cell_at : List Str := ["_law_script", "_law_k"]
theorem sc_law_cell_at : FnScope nm_law_cell_at ["_law_script", "_law_k"] (defScope s_law_cell_at) := ⟨rfl, rfl, rfl, by decide +kernel, rfl, by decide +kernel, by decide +kernel⟩
theorem ok_law_cell_at {f : Addr} {fd : FuncData} (F : Fun K "_law_cell_at" "_law_cell_at" s_law_cell_at f fd) (Z : Zs mg)  : FnOk P w K mg base CX0 1 f fd ["_law_script", "_law_k"] (spD K ct 2 m_law_cell_at) := by
  refine (fn_ok (b := b_law_cell_at) F sc_law_cell_at fun cdv A outer s H E hr => ?_).imp (spD_imp fun ds st r st' hl e => ?_)
  · have S := sc_law_cell_at
    exact sb_cons (ss_if (st_lt (se_var 1) (se_len rfl Z.z_len (se_var 0))) (sb_cons (ss_ret (se_idx hr (se_var 0) (se_var 1))) (sb_nil)) (sb_nil)) (sb_cons (ss_ret (se_int)) (sb_nil))
  · unfold m_law_cell_at at e
    rw [if_pos hl] at e
    exact e
abbrev nm_law_names : List Str := ["_law_script", "_law_size", "_law_names_here", "_law_k", "_law_number", "_law_name"]
theorem sc_law_names : FnScope nm_law_names ["_law_script", "_law_size"] (defScope s_law_names) := ⟨rfl, rfl, rfl, by decide +kernel, rfl, by decide +kernel, by decide +kernel⟩
theorem ok_law_names {f : Addr} {fd : FuncData} (F : Fun K "_law_names" "_law_names" s_law_names f fd) (Z : Zs mg) (c_law_cell_at : Cal P w K mg base ct "_law_cell_at" 1 ["_law_script", "_law_k"] m_law_cell_at) : FnOk P w K mg base CX0 2 f fd ["_law_script", "_law_size"] (spD K ct 2 m_law_names) := by
  refine (fn_ok (b := b_law_names) F sc_law_names fun cdv A outer s H E hr => ?_).imp (spD_imp fun ds st r st' hl e => ?_)
  · have S := sc_law_names
    exact sb_cons (ss_set 2 S.nd (se_lst (sa_nil))) (sb_cons (ss_for PassesOwn.never rfl (si_rng1 rfl Z.z_range (se_var 1)) (sg_nm 3 S.nd) (sb_cons (ss_set 4 S.nd (se_mod (sc_call 2 c_law_cell_at (hr.mono (by decide)) (sa_cons (se_var 0) (sa_cons (se_add (se_int) (se_var 3)) (sa_nil)))) (se_mul (se_int) (se_pow (se_int) (se_int))))) (sb_cons (ss_set 5 S.nd (se_mod (se_div (se_var 4) (se_int)) (se_sub (se_pow (se_int) (se_int)) (se_int)))) (sb_cons (ss_if (st_eq hr (se_mod (se_var 4) (se_int)) (se_int)) (sb_cons (ss_set 5 S.nd (se_mod (se_var 5) (se_add (se_var 1) (se_int)))) (sb_nil)) (sb_nil)) (sb_cons (ss_whl 100000 PassesOwn.never (st_in hr (se_var 5) (se_var 2)) (sb_cons (ss_augadd 5 S.nd (se_int)) (sb_nil))) (sb_cons (ss_mut1 2 PySem.F.slot_list_append PySem.F.type_list_append mt_append ms_app (sa_cons (se_var 5) (sa_nil))) (sb_kl [3, 4, 5] (sb_nil)))))))) (sb_cons (ss_ret (se_var 2)) (sb_nil)))
  · unfold m_law_names at e
    rw [if_pos hl] at e
    exact e
abbrev nm_law_rope : List Str := ["_law_cell", "_law_size", "_law_one", "_law_other", "_law_wires", "_law_lets"]
theorem sc_law_rope : FnScope nm_law_rope ["_law_cell", "_law_size"] (defScope s_law_rope) := ⟨rfl, rfl, rfl, by decide +kernel, rfl, by decide +kernel, by decide +kernel⟩
theorem ok_law_rope {f : Addr} {fd : FuncData} (F : Fun K "_law_rope" "_law_rope" s_law_rope f fd) (Z : Zs mg)  : FnOk P w K mg base CX0 1 f fd ["_law_cell", "_law_size"] (spD K ct 2 m_law_rope) := by
  refine (fn_ok (b := b_law_rope) F sc_law_rope fun cdv A outer s H E hr => ?_).imp (spD_imp fun ds st r st' hl e => ?_)
  · have S := sc_law_rope
    exact sb_cons (ss_set 2 S.nd (se_mod (se_var 0) (se_var 1))) (sb_cons (ss_set 0 S.nd (se_div (se_var 0) (se_var 1))) (sb_cons (ss_set 3 S.nd (se_mod (se_add (se_add (se_var 2) (se_int)) (se_mod (se_var 0) (se_sub (se_var 1) (se_int)))) (se_var 1))) (sb_cons (ss_set 0 S.nd (se_div (se_var 0) (se_sub (se_var 1) (se_int)))) (sb_cons (ss_set 4 S.nd (se_add (se_int) (se_mod (se_var 0) (se_int)))) (sb_cons (ss_set 5 S.nd (se_add (se_int) (se_mod (se_div (se_var 0) (se_int)) (se_int)))) (sb_cons (ss_ret (se_tup (sa_cons (se_var 2) (sa_cons (se_var 3) (sa_cons (se_add (se_int) (se_mod (se_div (se_var 0) (se_int)) (se_sub (se_pow (se_int) (se_int)) (se_int)))) (sa_cons (se_var 4) (sa_cons (se_var 5) (sa_nil)))))))) (sb_nil)))))))
  · unfold m_law_rope at e
    rw [if_pos hl] at e
    exact e
abbrev nm_law_ropes : List Str := ["_law_script", "_law_size", "_law_cell"]
theorem sc_law_ropes : FnScope nm_law_ropes ["_law_script", "_law_size"] (defScope s_law_ropes) := ⟨rfl, rfl, rfl, by decide +kernel, rfl, by decide +kernel, by decide +kernel⟩
theorem ok_law_ropes {f : Addr} {fd : FuncData} (F : Fun K "_law_ropes" "_law_ropes" s_law_ropes f fd) (Z : Zs mg) (c_law_rope : Cal P w K mg base ct "_law_rope" 1 ["_law_cell", "_law_size"] m_law_rope) : FnOk P w K mg base CX0 2 f fd ["_law_script", "_law_size"] (spD K ct 2 m_law_ropes) := by
  refine (fn_ok (b := b_law_ropes) F sc_law_ropes fun cdv A outer s H E hr => ?_).imp (spD_imp fun ds st r st' hl e => ?_)
  · have S := sc_law_ropes
    exact sb_cons (ss_if (st_eq hr (se_var 1) (se_int)) (sb_cons (ss_ret (se_lst (sa_nil))) (sb_nil)) (sb_nil)) (sb_cons (ss_ret (se_lc (own := [("_law_cell", 2)]) rfl S.nd (si_seq (se_slc (se_var 0) (sp_some (se_int)) (sp_some (se_int)))) (blkOk_by (N := nm_law_ropes) (sc := defScope s_law_ropes) (by decide +kernel)) (fun _ _ _ _ _ => sg_nm 2 S.nd) (fun _ _ _ _ _ => sts_nil) (fun _ _ _ _ _ => sc_call 2 c_law_rope (hr.mono (by decide)) (sa_cons (se_var 2) (sa_cons (se_var 1) (sa_nil)))))) (sb_nil))
  · unfold m_law_ropes at e
    rw [if_pos hl] at e
    exact e
abbrev nm_law_bad_names : List Str := ["_law_names_here", "_law_cell", "_law_some", "_law_at"]
theorem sc_law_bad_names : FnScope nm_law_bad_names ["_law_names_here", "_law_cell"] (defScope s_law_bad_names) := ⟨rfl, rfl, rfl, by decide +kernel, rfl, by decide +kernel, by decide +kernel⟩
theorem ok_law_bad_names {f : Addr} {fd : FuncData} (F : Fun K "_law_bad_names" "_law_bad_names" s_law_bad_names f fd) (Z : Zs mg)  : FnOk P w K mg base CX0 1 f fd ["_law_names_here", "_law_cell"] (spD K ct 2 m_law_bad_names) := by
  refine (fn_ok (b := b_law_bad_names) F sc_law_bad_names fun cdv A outer s H E hr => ?_).imp (spD_imp fun ds st r st' hl e => ?_)
  · have S := sc_law_bad_names
    exact sb_cons (ss_set 2 S.nd (se_list rfl Z.z_list (se_var 0))) (sb_cons (ss_set 3 S.nd (se_mod (se_div (se_var 1) (se_int)) (se_len rfl Z.z_len (se_var 2)))) (sb_cons (ss_if (st_eq hr (se_mod (se_var 1) (se_int)) (se_int)) (sb_cons (ss_sub 2 hr (se_var 3) (se_sub (se_neg (se_int)) (se_idx hr (se_lst (sa_cons (se_int) (sa_cons (se_mod (se_div (se_var 1) (se_int)) (se_pow (se_int) (se_int))) (sa_nil)))) (se_mod (se_div (se_var 1) (se_int)) (se_int))))) (sb_nil)) (sb_cons (ss_if (SW.st (sw_and (st_eq hr (se_mod (se_var 1) (se_int)) (se_int)) (sw_and1 (st_lt (se_len rfl Z.z_len (se_var 2)) (se_int))))) (sb_cons (ss_mut1 2 PySem.F.slot_list_insert PySem.F.type_list_insert mt_insert ms_ins (sa_cons (se_mod (se_div (se_var 1) (se_int)) (se_add (se_len rfl Z.z_len (se_var 2)) (se_int))) (sa_cons (se_idx hr (se_var 2) (se_var 3)) (sa_nil)))) (sb_nil)) (sb_cons (ss_if (st_eq hr (se_mod (se_var 1) (se_int)) (se_int)) (sb_cons (ss_sub 2 hr (se_var 3) (se_idx hr (se_var 2) (se_sub (se_var 3) (se_int)))) (sb_nil)) (sb_cons (ss_set 2 S.nd (se_mul (se_lrg rfl rfl Z.z_list rfl Z.z_range (se_add (se_int) (se_mod (se_div (se_var 1) (se_int)) (se_int)))) (se_toint rfl Z.z_int (se_mod (se_div (se_var 1) (se_int)) (se_int))))) (sb_nil))) (sb_nil))) (sb_nil))) (sb_cons (ss_ret (se_var 2)) (sb_nil))))
  · unfold m_law_bad_names at e
    rw [if_pos hl] at e
    exact e
abbrev nm_law_beyond : List Str := ["_law_cell", "_law_low", "_law_high", "_law_far"]
theorem sc_law_beyond : FnScope nm_law_beyond ["_law_cell", "_law_low", "_law_high"] (defScope s_law_beyond) := ⟨rfl, rfl, rfl, by decide +kernel, rfl, by decide +kernel, by decide +kernel⟩
theorem ok_law_beyond {f : Addr} {fd : FuncData} (F : Fun K "_law_beyond" "_law_beyond" s_law_beyond f fd) (Z : Zs mg)  : FnOk P w K mg base CX0 1 f fd ["_law_cell", "_law_low", "_law_high"] (spD K ct 3 m_law_beyond) := by
  refine (fn_ok (b := b_law_beyond) F sc_law_beyond fun cdv A outer s H E hr => ?_).imp (spD_imp fun ds st r st' hl e => ?_)
  · have S := sc_law_beyond
    exact sb_cons (ss_set 3 S.nd (se_idx hr (se_lst (sa_cons (se_int) (sa_cons (se_int) (sa_cons (se_mod (se_div (se_var 0) (se_int)) (se_pow (se_int) (se_int))) (sa_nil))))) (se_mod (se_div (se_var 0) (se_int)) (se_int)))) (sb_cons (ss_if (st_eq hr (se_mod (se_var 0) (se_int)) (se_int)) (sb_cons (ss_ret (se_sub (se_sub (se_var 1) (se_int)) (se_var 3))) (sb_nil)) (sb_nil)) (sb_cons (ss_ret (se_add (se_add (se_var 2) (se_int)) (se_var 3))) (sb_nil)))
  · unfold m_law_beyond at e
    rw [if_pos hl] at e
    exact e
abbrev nm_law_bad_rope : List Str := ["_law_cell", "_law_size", "_law_kind", "_law_more", "_law_rope_here"]
theorem sc_law_bad_rope : FnScope nm_law_bad_rope ["_law_cell", "_law_size"] (defScope s_law_bad_rope) := ⟨rfl, rfl, rfl, by decide +kernel, rfl, by decide +kernel, by decide +kernel⟩
theorem ok_law_bad_rope {f : Addr} {fd : FuncData} (F : Fun K "_law_bad_rope" "_law_bad_rope" s_law_bad_rope f fd) (Z : Zs mg) (c_law_beyond : Cal P w K mg base ct "_law_beyond" 1 ["_law_cell", "_law_low", "_law_high"] m_law_beyond) : FnOk P w K mg base CX0 2 f fd ["_law_cell", "_law_size"] (spD K ct 2 m_law_bad_rope) := by
  refine (fn_ok (b := b_law_bad_rope) F sc_law_bad_rope fun cdv A outer s H E hr => ?_).imp (spD_imp fun ds st r st' hl e => ?_)
  · have S := sc_law_bad_rope
    exact sb_cons (ss_set 2 S.nd (se_mod (se_var 0) (se_int))) (sb_cons (ss_set 3 S.nd (se_div (se_var 0) (se_int))) (sb_cons (ss_set 4 S.nd (se_lst (sa_cons (se_int) (sa_cons (se_sub (se_var 1) (se_int)) (sa_cons (se_add (se_int) (se_mod (se_var 3) (se_int))) (sa_cons (se_add (se_int) (se_mod (se_var 3) (se_int))) (sa_cons (se_add (se_int) (se_mod (se_var 3) (se_int))) (sa_nil)))))))) (sb_cons (ss_if (SW.st (sw_or (st_eq hr (se_var 2) (se_int)) (sw_or1 (SW.st (sw_and (st_eq hr (se_var 1) (se_int)) (sw_and1 (st_ne hr (se_var 2) (se_int)))))))) (sb_cons (ss_sub 4 hr (se_mod (se_var 3) (se_int)) (sc_call 3 c_law_beyond (hr.mono (by decide)) (sa_cons (se_div (se_var 3) (se_int)) (sa_cons (se_int) (sa_cons (se_sub (se_var 1) (se_int)) (sa_nil)))))) (sb_nil)) (sb_nil)) (sb_cons (ss_if (st_eq hr (se_var 2) (se_int)) (sb_cons (ss_sub 4 hr (se_int) (se_mod (se_var 3) (se_var 1))) (sb_cons (ss_sub 4 hr (se_int) (se_mod (se_var 3) (se_var 1))) (sb_nil))) (sb_nil)) (sb_cons (ss_if (st_eq hr (se_var 2) (se_int)) (sb_cons (ss_sub 4 hr (se_int) (se_idx hr (se_lst (sa_cons (se_int) (sa_cons (se_sub (se_neg (se_int)) (se_mod (se_var 3) (se_pow (se_int) (se_int)))) (sa_nil)))) (se_mod (se_div (se_var 3) (se_int)) (se_int)))) (sb_nil)) (sb_nil)) (sb_cons (ss_if (st_eq hr (se_var 2) (se_int)) (sb_cons (ss_sub 4 hr (se_int) (sc_call 3 c_law_beyond (hr.mono (by decide)) (sa_cons (se_var 3) (sa_cons (se_int) (sa_cons (se_int) (sa_nil)))))) (sb_nil)) (sb_nil)) (sb_cons (ss_if (st_ge (se_var 2) (se_int)) (sb_cons (ss_sub 4 hr (se_int) (sc_call 3 c_law_beyond (hr.mono (by decide)) (sa_cons (se_var 3) (sa_cons (se_int) (sa_cons (se_int) (sa_nil)))))) (sb_nil)) (sb_nil)) (sb_cons (ss_ret (se_tupN 5 rfl Z.z_tuple (se_var 4))) (sb_nil)))))))))
  · unfold m_law_bad_rope at e
    rw [if_pos hl] at e
    exact e
abbrev nm_law_spoiled : List Str := ["_law_names_here", "_law_ropes_here", "_law_cell", "_law_size", "_law_at", "_law_rope_here"]
theorem sc_law_spoiled : FnScope nm_law_spoiled ["_law_names_here", "_law_ropes_here", "_law_cell"] (defScope s_law_spoiled) := ⟨rfl, rfl, rfl, by decide +kernel, rfl, by decide +kernel, by decide +kernel⟩
theorem ok_law_spoiled {f : Addr} {fd : FuncData} (F : Fun K "_law_spoiled" "_law_spoiled" s_law_spoiled f fd) (Z : Zs mg) (c_law_bad_names : Cal P w K mg base ct "_law_bad_names" 1 ["_law_names_here", "_law_cell"] m_law_bad_names) (c_law_bad_rope : Cal P w K mg base ct "_law_bad_rope" 2 ["_law_cell", "_law_size"] m_law_bad_rope) : FnOk P w K mg base CX0 3 f fd ["_law_names_here", "_law_ropes_here", "_law_cell"] (spD K ct 3 m_law_spoiled) := by
  refine (fn_ok (b := b_law_spoiled) F sc_law_spoiled fun cdv A outer s H E hr => ?_).imp (spD_imp fun ds st r st' hl e => ?_)
  · have S := sc_law_spoiled
    exact sb_cons (ss_set 3 S.nd (se_len rfl Z.z_len (se_var 0))) (sb_cons (ss_if (st_eq hr (se_mod (se_var 2) (se_int)) (se_int)) (sb_cons (ss_ret (se_tup (sa_cons (sc_call 2 c_law_bad_names (hr.mono (by decide)) (sa_cons (se_var 0) (sa_cons (se_div (se_var 2) (se_int)) (sa_nil)))) (sa_cons (se_lc (own := [("_law_rope_here", 5)]) rfl S.nd (si_seq (se_var 1)) (blkOk_by (N := nm_law_spoiled) (sc := defScope s_law_spoiled) (by decide +kernel)) (fun _ _ _ _ _ => sg_nm 5 S.nd) (fun _ _ _ _ _ => sts_one (st_eq hr (se_mod (se_div (se_var 2) (se_int)) (se_int)) (se_int))) (fun _ _ _ _ _ => se_var 5)) (sa_nil))))) (sb_nil)) (sb_nil)) (sb_cons (ss_if (SW.st (sw_and (st_eq hr (se_mod (se_var 2) (se_int)) (se_int)) (sw_and (st_eq hr (se_mod (se_div (se_var 2) (se_int)) (se_int)) (se_int)) (sw_and1 (st_gt (se_var 3) (se_int)))))) (sb_cons (ss_ret (se_tup (sa_cons (se_var 0) (sa_cons (se_add (se_var 1) (se_mul (se_lst (sa_cons (se_tup (sa_cons (se_int) (sa_cons (se_sub (se_var 3) (se_int)) (sa_cons (se_int) (sa_cons (se_int) (sa_cons (se_int) (sa_nil))))))) (sa_nil))) (se_sub (se_int) (se_len rfl Z.z_len (se_var 1))))) (sa_nil))))) (sb_nil)) (sb_nil)) (sb_cons (ss_set 4 S.nd (se_mod (se_div (se_var 2) (se_int)) (se_add (se_len rfl Z.z_len (se_var 1)) (se_int)))) (sb_cons (ss_ret (se_tup (sa_cons (se_var 0) (sa_cons (se_add (se_add (se_slc (se_var 1) (sp_no) (sp_some (se_var 4))) (se_lst (sa_cons (sc_call 2 c_law_bad_rope (hr.mono (by decide)) (sa_cons (se_div (se_var 2) (se_int)) (sa_cons (se_var 3) (sa_nil)))) (sa_nil)))) (se_slc (se_var 1) (sp_some (se_var 4)) (sp_no))) (sa_nil))))) (sb_nil)))))
  · unfold m_law_spoiled at e
    rw [if_pos hl] at e
    exact e
abbrev nm_ask_names : List Str := ["names", "k"]
theorem sc_ask_names : FnScope nm_ask_names ["names"] (defScope s_ask_names) := ⟨rfl, rfl, rfl, by decide +kernel, rfl, by decide +kernel, by decide +kernel⟩
theorem ok_ask_names {f : Addr} {fd : FuncData} (F : Fun K "ask_names" "ask_names" s_ask_names f fd) (Z : Zs mg) (g_MOST_HOUSES : mg "MOST_HOUSES" = some (.int 10 t_MOST_HOUSES)) : FnOk P w K mg base CX0 1 f fd ["names"] (spD K ct 1 m_ask_names) := by
  refine (fn_ok (b := b_ask_names) F sc_ask_names fun cdv A outer s H E hr => ?_).imp (spD_imp fun ds st r st' hl e => ?_)
  · have S := sc_ask_names
    exact sb_cons (ss_if (st_not (st_chLL (se_int) (se_len rfl Z.z_len (se_var 0)) ((se_const (pe_glob (v := .int 10) rfl g_MOST_HOUSES ⟨_, rfl⟩) fun _ => .int _)))) (sb_cons (ss_never) (sb_nil)) (sb_nil)) (sb_cons (ss_for PassesOwn.never rfl (si_rng1 rfl Z.z_range (se_len rfl Z.z_len (se_var 0))) (sg_nm 1 S.nd) (sb_cons (ss_if (SW.st (sw_or (st_lt (se_idx hr (se_var 0) (se_var 1)) (se_int)) (sw_or1 (st_in hr (se_idx hr (se_var 0) (se_var 1)) (se_slc (se_var 0) (sp_no) (sp_some (se_var 1))))))) (sb_cons (ss_never) (sb_nil)) (sb_nil)) (sb_kl [1] (sb_nil)))) (sb_nil))
  · unfold m_ask_names at e
    rw [if_pos hl] at e
    exact e
abbrev nm_ask_rope : List Str := ["size", "rope", "one", "other", "cost", "wires", "lets"]
theorem sc_ask_rope : FnScope nm_ask_rope ["size", "rope"] (defScope s_ask_rope) := ⟨rfl, rfl, rfl, by decide +kernel, rfl, by decide +kernel, by decide +kernel⟩
theorem ok_ask_rope {f : Addr} {fd : FuncData} (F : Fun K "ask_rope" "ask_rope" s_ask_rope f fd) (Z : Zs mg)  : FnOk P w K mg base CX0 1 f fd ["size", "rope"] (spD K ct 2 m_ask_rope) := by
  refine (fn_ok (b := b_ask_rope) F sc_ask_rope fun cdv A outer s H E hr => ?_).imp (spD_imp fun ds st r st' hl e => ?_)
  · have S := sc_ask_rope
    exact sb_cons (ss_asg (se_var 1) (sg_tup rfl (sgs_cons (sg_nm 2 S.nd) (sgs_cons (sg_nm 3 S.nd) (sgs_cons (sg_nm 4 S.nd) (sgs_cons (sg_nm 5 S.nd) (sgs_cons (sg_nm 6 S.nd) (sgs_nil)))))))) (sb_cons (ss_if (SW.st (sw_or (st_not (st_chLT (se_int) (se_var 2) (se_var 0))) (sw_or (st_not (st_chLT (se_int) (se_var 3) (se_var 0))) (sw_or1 (st_eq hr (se_var 2) (se_var 3)))))) (sb_cons (ss_never) (sb_nil)) (sb_nil)) (sb_cons (ss_if (SW.st (sw_or (st_lt (se_var 4) (se_int)) (sw_or (st_not (st_chLL (se_int) (se_var 5) (se_int))) (sw_or1 (st_not (st_chLL (se_int) (se_var 6) (se_int))))))) (sb_cons (ss_never) (sb_nil)) (sb_nil)) (sb_nil)))
  · unfold m_ask_rope at e
    rw [if_pos hl] at e
    exact e
abbrev nm_Town_init : List Str := ["self", "names", "ropes", "near", "number", "rope", "name"]
theorem sc_Town_init : FnScope nm_Town_init ["self", "names", "ropes"] (defScope s_Town_init) := ⟨rfl, rfl, rfl, by decide +kernel, rfl, by decide +kernel, by decide +kernel⟩
theorem ok_Town_init {f : Addr} {fd : FuncData} (F : Fun K "__init__" "Town.__init__" s_Town_init f fd) (Z : Zs mg) (o_Town : Own K ct "Town" C_Town ns_Town) (g_MOST_ROPES : mg "MOST_ROPES" = some (.int 20 t_MOST_ROPES)) (c_ask_names : Cal P w K mg base ct "ask_names" 1 ["names"] m_ask_names) (c_ask_rope : Cal P w K mg base ct "ask_rope" 1 ["size", "rope"] m_ask_rope) : FnOk P w K mg base CX0 2 f fd ["self", "names", "ropes"] (spI K ct "Town" 3 m_Town_init) := by
  refine fnI_ok (N := nm_Town_init) (ps := ["self", "names", "ropes"]) (c := "Town") (b := b_Town_init) F sc_Town_init fun cdv A outer s H E hr => ?_
  have S := sc_Town_init
  exact sb_cons (ss_ex (sc_call 1 c_ask_names (hr.mono (by decide)) (sa_cons (se_var 1) (sa_nil)))) (sb_cons (ss_if (st_gt (se_len rfl Z.z_len (se_var 2)) ((se_const (pe_glob (v := .int 20) rfl g_MOST_ROPES ⟨_, rfl⟩) fun _ => .int _))) (sb_cons (ss_never) (sb_nil)) (sb_nil)) (sb_cons (ss_emp 3 (own := [("name", 6)]) rfl S.nd (si_seq (se_var 1)) (blkOk_by (N := nm_Town_init) (sc := defScope s_Town_init) (by decide +kernel)) (fun _ _ _ _ _ => sg_nm 6 S.nd)) (sb_cons (ss_for PassesOwn.never rfl (si_enum rfl Z.z_enumerate (se_var 2)) (sg_tup rfl (sgs_cons (sg_nm 4 S.nd) (sgs_cons (sg_nm 5 S.nd) (sgs_nil)))) (sb_cons (ss_ex (sc_call 2 c_ask_rope (hr.mono (by decide)) (sa_cons (se_len rfl Z.z_len (se_var 1)) (sa_cons (se_var 5) (sa_nil))))) (sb_cons (ss_app2 3 (se_idx hr (se_var 5) (se_int)) (sa_cons (se_var 4) (sa_nil))) (sb_cons (ss_app2 3 (se_idx hr (se_var 5) (se_int)) (sa_cons (se_var 4) (sa_nil))) (sb_kl [4, 5] (sb_nil)))))) (sb_cons (ss_fldM 0 0 o_Town (se_len rfl Z.z_len (se_var 1))) (sb_cons (ss_fldM 0 1 o_Town (se_len rfl Z.z_len (se_var 2))) (sb_cons (ss_fldM 0 2 o_Town (se_list rfl Z.z_list (se_var 1))) (sb_cons (ss_fldM 0 3 o_Town (se_list rfl Z.z_list (se_var 2))) (sb_frz2 3 (sb_cons (ss_fldM 0 4 o_Town (se_var 3)) (sb_kl [3] (sb_nil)))))))))))
theorem ok_Xq_ask_names {f : Addr} {fd : FuncData} (F : Fun K "ask_names" "ask_names" s_ask_names f fd) (Z : Zs mg) (g_MOST_HOUSES : mg "MOST_HOUSES" = some (.int 10 t_MOST_HOUSES)) (x_BadTown : ExK K mg xt "BadTown" C_BadTown) : FnOk P w K mg base (L2.CX P w) 1 f fd ["names"] (spX K ct xt 1 m_Xq_ask_names) := by
  refine (fnX_ok (b := b_Xq_ask_names) F sc_ask_names fun cdv A outer s H E hr tk hpo => ?_).imp (spX_imp fun ds st r st' hl e => ?_)
  · have S := sc_ask_names
    exact sbx_cons (ssx_if (st_not (st_chLL (se_int) (se_len rfl Z.z_len (se_var 0)) ((se_const (pe_glob (v := .int 10) rfl g_MOST_HOUSES ⟨_, rfl⟩) fun _ => .int _)))) (sbx_cons (ssx_raise tk rfl x_BadTown) (sbx_nil)) (sbx_nil)) (sbx_cons (ssx_for hpo rfl (si_rng1 rfl Z.z_range (se_len rfl Z.z_len (se_var 0))) (sg_nm 1 S.nd) (sbx_cons (ssx_if (SW.st (sw_or (st_lt (se_idx hr (se_var 0) (se_var 1)) (se_int)) (sw_or1 (st_in hr (se_idx hr (se_var 0) (se_var 1)) (se_slc (se_var 0) (sp_no) (sp_some (se_var 1))))))) (sbx_cons (ssx_raise tk rfl x_BadTown) (sbx_nil)) (sbx_nil)) (sbx_kl [1] (sbx_nil)))) (sbx_never))
  · unfold m_Xq_ask_names at e
    rw [if_pos (by first | exact hl | omega)] at e
    exact e
theorem ok_Xq_ask_rope {f : Addr} {fd : FuncData} (F : Fun K "ask_rope" "ask_rope" s_ask_rope f fd) (Z : Zs mg) (x_BadTown : ExK K mg xt "BadTown" C_BadTown) : FnOk P w K mg base (L2.CX P w) 1 f fd ["size", "rope"] (spX K ct xt 2 m_Xq_ask_rope) := by
  refine (fnX_ok (b := b_Xq_ask_rope) F sc_ask_rope fun cdv A outer s H E hr tk hpo => ?_).imp (spX_imp fun ds st r st' hl e => ?_)
  · have S := sc_ask_rope
    exact sbx_cons (ssx_of (ss_asg (se_var 1) (sg_tup rfl (sgs_cons (sg_nm 2 S.nd) (sgs_cons (sg_nm 3 S.nd) (sgs_cons (sg_nm 4 S.nd) (sgs_cons (sg_nm 5 S.nd) (sgs_cons (sg_nm 6 S.nd) (sgs_nil)))))))) nort_asg) (sbx_cons (ssx_if (SW.st (sw_or (st_not (st_chLT (se_int) (se_var 2) (se_var 0))) (sw_or (st_not (st_chLT (se_int) (se_var 3) (se_var 0))) (sw_or1 (st_eq hr (se_var 2) (se_var 3)))))) (sbx_cons (ssx_raise tk rfl x_BadTown) (sbx_nil)) (sbx_nil)) (sbx_cons (ssx_if (SW.st (sw_or (st_lt (se_var 4) (se_int)) (sw_or (st_not (st_chLL (se_int) (se_var 5) (se_int))) (sw_or1 (st_not (st_chLL (se_int) (se_var 6) (se_int))))))) (sbx_cons (ssx_raise tk rfl x_BadTown) (sbx_nil)) (sbx_nil)) (sbx_never)))
  · unfold m_Xq_ask_rope at e
    rw [if_pos (by first | exact hl | omega)] at e
    exact e
theorem ok_Xq_Town_init {f : Addr} {fd : FuncData} (F : Fun K "__init__" "Town.__init__" s_Town_init f fd) (Z : Zs mg) (g_MOST_ROPES : mg "MOST_ROPES" = some (.int 20 t_MOST_ROPES)) (x_BadTown : ExK K mg xt "BadTown" C_BadTown) (c_Xq_ask_names : CalX P w K mg base ct xt "ask_names" 1 ["names"] m_Xq_ask_names) (c_ask_names : Cal P w K mg base ct "ask_names" 1 ["names"] m_ask_names) (c_Xq_ask_rope : CalX P w K mg base ct xt "ask_rope" 1 ["size", "rope"] m_Xq_ask_rope) (c_ask_rope : Cal P w K mg base ct "ask_rope" 1 ["size", "rope"] m_ask_rope) : FnOk P w K mg base (L2.CX P w) 2 f fd ["self", "names", "ropes"] (spXI K ct xt 3 m_Xq_Town_init) := by
  refine (fnXI_ok (b := b_Xq_Town_init) (n := 2) F sc_Town_init rfl fun cdv A outer s H E hr tk hpo => ?_).imp (spXI_imp fun ds st r st' hl e => ?_)
  · have S := sc_Town_init
    exact sbx_cons (ssx_xp (sxs_ex (sxe_call 1 c_Xq_ask_names tk (hr.mono (by decide)) (sa_cons (se_var 1) (sa_nil)))) (ssx_of (ss_ex (sc_call 1 c_ask_names (hr.mono (by decide)) (sa_cons (se_var 1) (sa_nil)))) nort_ex)) (sbx_cons (ssx_if (st_gt (se_len rfl Z.z_len (se_var 2)) ((se_const (pe_glob (v := .int 20) rfl g_MOST_ROPES ⟨_, rfl⟩) fun _ => .int _))) (sbx_cons (ssx_raise tk rfl x_BadTown) (sbx_nil)) (sbx_nil)) (sbx_cons (ssx_of (ss_emp 3 (own := [("name", 6)]) rfl S.nd (si_seq (se_var 1)) (blkOk_by (N := nm_Town_init) (sc := defScope s_Town_init) (by decide +kernel)) (fun _ _ _ _ _ => sg_nm 6 S.nd)) nort_emp) (sbx_cons (ssx_for hpo rfl (si_enum rfl Z.z_enumerate (se_var 2)) (sg_tup rfl (sgs_cons (sg_nm 4 S.nd) (sgs_cons (sg_nm 5 S.nd) (sgs_nil)))) (sbx_cons (ssx_xp (sxs_ex (sxe_call 2 c_Xq_ask_rope tk (hr.mono (by decide)) (sa_cons (se_len rfl Z.z_len (se_var 1)) (sa_cons (se_var 5) (sa_nil))))) (ssx_of (ss_ex (sc_call 2 c_ask_rope (hr.mono (by decide)) (sa_cons (se_len rfl Z.z_len (se_var 1)) (sa_cons (se_var 5) (sa_nil))))) nort_ex)) (sbx_cons (ssx_of (ss_app2 3 (se_idx hr (se_var 5) (se_int)) (sa_cons (se_var 4) (sa_nil))) nort_app2) (sbx_cons (ssx_of (ss_app2 3 (se_idx hr (se_var 5) (se_int)) (sa_cons (se_var 4) (sa_nil))) nort_app2) (sbx_kl [4, 5] (sbx_nil)))))) (sbx_never))))
  · unfold m_Xq_Town_init at e
    rw [if_pos (by first | exact hl | omega)] at e
    exact e
abbrev nm_law_refused : List Str := ["_law_names_here", "_law_ropes_here", "_law_seen", "e", "_law_others"]
theorem sc_law_refused : FnScope nm_law_refused ["_law_names_here", "_law_ropes_here"] (defScope s_law_refused) := ⟨rfl, rfl, rfl, by decide +kernel, rfl, by decide +kernel, by decide +kernel⟩
theorem ok_law_refused {f : Addr} {fd : FuncData} (F : Fun K "_law_refused" "_law_refused" s_law_refused f fd) (Z : Zs mg) (o_Town : Own K ct "Town" C_Town ns_Town) (x_BadTown : ExK K mg xt "BadTown" C_BadTown) (ec_BadTown : ExcC K C_BadTown) (em_BadTown : PySem.W.exmOne K (.ref C_BadTown) (.ref C_KnotError) = some true) (kt_BadTown_Apart : PySem.W.kitOne K (.ref C_BadTown) (.ref C_Apart) = some (isX "BadTown" "Apart")) (kt_BadTown_BadTown : PySem.W.kitOne K (.ref C_BadTown) (.ref C_BadTown) = some (isX "BadTown" "BadTown")) (kt_BadTown_NoCaller : PySem.W.kitOne K (.ref C_BadTown) (.ref C_NoCaller) = some (isX "BadTown" "NoCaller")) (kt_BadTown_NoCopy : PySem.W.kitOne K (.ref C_BadTown) (.ref C_NoCopy) = some (isX "BadTown" "NoCopy")) (kt_BadTown_NoGroup : PySem.W.kitOne K (.ref C_BadTown) (.ref C_NoGroup) = some (isX "BadTown" "NoGroup")) (kt_BadTown_NoHouse : PySem.W.kitOne K (.ref C_BadTown) (.ref C_NoHouse) = some (isX "BadTown" "NoHouse")) (kt_BadTown_NoLetter : PySem.W.kitOne K (.ref C_BadTown) (.ref C_NoLetter) = some (isX "BadTown" "NoLetter")) (kt_BadTown_NoText : PySem.W.kitOne K (.ref C_BadTown) (.ref C_NoText) = some (isX "BadTown" "NoText")) (kt_BadTown_NoWire : PySem.W.kitOne K (.ref C_BadTown) (.ref C_NoWire) = some (isX "BadTown" "NoWire")) (kt_BadTown_ValueError : PySem.W.kitOne K (.ref C_BadTown) (.type "ValueError") = some (isX "BadTown" "ValueError")) (h_Apart : mg "Apart" = some (.ref C_Apart)) (h_BadTown : mg "BadTown" = some (.ref C_BadTown)) (h_KnotError : mg "KnotError" = some (.ref C_KnotError)) (h_NoCaller : mg "NoCaller" = some (.ref C_NoCaller)) (h_NoCopy : mg "NoCopy" = some (.ref C_NoCopy)) (h_NoGroup : mg "NoGroup" = some (.ref C_NoGroup)) (h_NoHouse : mg "NoHouse" = some (.ref C_NoHouse)) (h_NoLetter : mg "NoLetter" = some (.ref C_NoLetter)) (h_NoText : mg "NoText" = some (.ref C_NoText)) (h_NoWire : mg "NoWire" = some (.ref C_NoWire)) (k_Xq_Town_init : MkrX P w K mg base ct xt C_Town "Town" 2 ["self", "names", "ropes"] m_Xq_Town_init) (k_Town : Mkr P w K mg base ct "Town" C_Town "Town" 2 ["self", "names", "ropes"] m_Town_init) : FnOk P w K mg base CX0 4 f fd ["_law_names_here", "_law_ropes_here"] (spD K ct 2 m_law_refused) := by
  refine (fn_ok (b := b_law_refused) F sc_law_refused fun cdv A outer s H E hr => ?_).imp (spD_imp fun ds st r st' hl e => ?_)
  · have S := sc_law_refused
    exact sb_cons (ss_set 2 S.nd (se_lst (sa_nil))) (sb_cons (ss_try (xt := xt) 3 rfl rfl S.nd ⟨rfl, by decide, .inl h_KnotError⟩ (fun c hc C hC => by
      simp only [List.mem_cons, List.not_mem_nil, or_false] at hc
      skip
      · subst hc; cases hC.symm.trans x_BadTown.hx; exact em_BadTown) (fun _ _ _ tk => sxe_make 2 o_Town k_Xq_Town_init tk (hr.mono (by decide)) (sa_cons (se_var 0) (sa_cons (se_var 1) (sa_nil)))) (fun _ _ => se_make 3 o_Town k_Town (hr.mono (by decide)) (sa_cons (se_var 0) (sa_cons (se_var 1) (sa_nil)))) (fun c C ad oe pn hc hC hz hf => by
      simp only [List.mem_cons, List.not_mem_nil, or_false] at hc
      skip
      · subst hc; cases hC.symm.trans x_BadTown.hx; exact sb_cons (ss_set 4 S.nd (se_lst (sa_cons (se_isE 3 ec_BadTown hz hf h_NoHouse kt_BadTown_NoHouse Z.z_isinstance) (sa_cons (se_isE 3 ec_BadTown hz hf h_NoGroup kt_BadTown_NoGroup Z.z_isinstance) (sa_cons (se_isE 3 ec_BadTown hz hf h_NoWire kt_BadTown_NoWire Z.z_isinstance) (sa_cons (se_isE 3 ec_BadTown hz hf h_NoCaller kt_BadTown_NoCaller Z.z_isinstance) (sa_nil))))))) (sb_cons (ss_set 4 S.nd (se_add (se_var 4) (se_lst (sa_cons (se_isE 3 ec_BadTown hz hf h_Apart kt_BadTown_Apart Z.z_isinstance) (sa_cons (se_isE 3 ec_BadTown hz hf h_NoCopy kt_BadTown_NoCopy Z.z_isinstance) (sa_cons (se_isE 3 ec_BadTown hz hf h_NoLetter kt_BadTown_NoLetter Z.z_isinstance) (sa_nil))))))) (sb_cons (ss_set 4 S.nd (se_add (se_var 4) (se_lst (sa_cons (se_isE 3 ec_BadTown hz hf h_NoText kt_BadTown_NoText Z.z_isinstance) (sa_nil))))) (sb_cons (ss_set 2 S.nd (se_lst (sa_cons (se_isE 3 ec_BadTown hz hf h_BadTown kt_BadTown_BadTown Z.z_isinstance) (sa_cons (se_isEb 3 ec_BadTown hz hf Z.z_ValueError boot_ValueError kt_BadTown_ValueError Z.z_isinstance) (sa_cons (se_inU (unH hr rfl) (se_bl) (se_var 4)) (sa_nil)))))) (sb_kl [4] (sb_nil))))))) (sb_cons (ss_ret (se_eq hr (se_var 2) (se_lst (sa_cons (se_bl) (sa_cons (se_bl) (sa_cons (se_bl) (sa_nil))))))) (sb_nil)))
  · unfold m_law_refused at e
    rw [if_pos hl] at e
    exact e
abbrev nm_law : List Str := ["_law_script", "_law_size", "_law_names_here", "_law_ropes_here", "_law_cell", "_law_some", "_law_more", "_law_handed"]
theorem sc_law : FnScope nm_law ["_law_script"] (defScope s_law) := ⟨rfl, rfl, rfl, by decide +kernel, rfl, by decide +kernel, by decide +kernel⟩
theorem ok_law {f : Addr} {fd : FuncData} (F : Fun K "law" "law" s_law f fd) (Z : Zs mg) (o_Town : Own K ct "Town" C_Town ns_Town) (c_law_cell_at : Cal P w K mg base ct "_law_cell_at" 1 ["_law_script", "_law_k"] m_law_cell_at) (c_law_names : Cal P w K mg base ct "_law_names" 2 ["_law_script", "_law_size"] m_law_names) (c_law_ropes : Cal P w K mg base ct "_law_ropes" 2 ["_law_script", "_law_size"] m_law_ropes) (k_Town : Mkr P w K mg base ct "Town" C_Town "Town" 2 ["self", "names", "ropes"] m_Town_init) (c_law_spoiled : Cal P w K mg base ct "_law_spoiled" 3 ["_law_names_here", "_law_ropes_here", "_law_cell"] m_law_spoiled) (c_law_refused : Cal P w K mg base ct "_law_refused" 4 ["_law_names_here", "_law_ropes_here"] m_law_refused) : FnOk P w K mg base CX0 5 f fd ["_law_script"] (spD K ct 1 m_law) := by
  refine (fn_ok (b := b_law) F sc_law fun cdv A outer s H E hr => ?_).imp (spD_imp fun ds st r st' hl e => ?_)
  · have S := sc_law
    exact sb_cons (ss_set 1 S.nd (se_add (se_int) (se_mod (sc_call 2 c_law_cell_at (hr.mono (by decide)) (sa_cons (se_var 0) (sa_cons (se_int) (sa_nil)))) (se_int)))) (sb_cons (ss_set 2 S.nd (sc_call 2 c_law_names (hr.mono (by decide)) (sa_cons (se_var 0) (sa_cons (se_var 1) (sa_nil))))) (sb_cons (ss_set 3 S.nd (se_slc (sc_call 2 c_law_ropes (hr.mono (by decide)) (sa_cons (se_var 0) (sa_cons (se_var 1) (sa_nil)))) (sp_no) (sp_some (se_int)))) (sb_cons (ss_if (st_ne hr (se_fld 1 o_Town (se_make 3 o_Town k_Town (hr.mono (by decide)) (sa_cons (se_list rfl Z.z_list (se_var 2)) (sa_cons (se_list rfl Z.z_list (se_var 3)) (sa_nil))))) (se_len rfl Z.z_len (se_var 3))) (sb_cons (ss_ret (se_bl)) (sb_nil)) (sb_nil)) (sb_frz 2 (sb_frz 3 (sb_cons (ss_for PassesOwn.never rfl (si_seq (se_add (se_lrg rfl rfl Z.z_list rfl Z.z_range (se_int)) (se_slc (se_var 0) (sp_some (se_int)) (sp_some (se_int))))) (sg_nm 4 S.nd) (sb_cons (ss_asg (sc_call 3 c_law_spoiled (hr.mono (by decide)) (sa_cons (se_var 2) (sa_cons (se_var 3) (sa_cons (se_var 4) (sa_nil))))) (sg_tup rfl (sgs_cons (sg_nm 5 S.nd) (sgs_cons (sg_nm 6 S.nd) (sgs_nil))))) (sb_cons (ss_set 7 S.nd (se_lst (sa_cons (se_list rfl Z.z_list (se_var 5)) (sa_cons (se_list rfl Z.z_list (se_var 6)) (sa_nil))))) (sb_cons (ss_if (SW.st (sw_or (st_not (st_val (sc_call 2 c_law_refused (hr.mono (by decide)) (sa_cons (se_idx hr (se_var 7) (se_int)) (sa_cons (se_idx hr (se_var 7) (se_int)) (sa_nil)))))) (sw_or1 (st_ne hr (se_var 7) (se_lst (sa_cons (se_var 5) (sa_cons (se_var 6) (sa_nil)))))))) (sb_cons (ss_ret (se_bl)) (sb_nil)) (sb_nil)) (sb_kl [4, 5, 6, 7] (sb_nil)))))) (sb_cons (ss_ret (se_eq hr (se_fld 0 o_Town (se_make 3 o_Town k_Town (hr.mono (by decide)) (sa_cons (se_list rfl Z.z_list (se_var 2)) (sa_cons (se_list rfl Z.z_list (se_var 3)) (sa_nil))))) (se_var 1))) (sb_nil))))))))
  · unfold m_law at e
    rw [if_pos hl] at e
    exact e
end
/-! law_cell_at -/
noncomputable def f_law_cell_at (script : Scr) (k : Int) : Option Int :=
  if (decide (k < (script.l.length : Int))) = true then (atI script.l k).bind fun r1 => some r1 else some (0 : Int)
theorem ev_law_cell_at (script : Scr) (k : Int) (st : Sto) : m_law_cell_at [en script, en k] st = (f_law_cell_at script k).map fun r => (Kx.sh.r (en r), st) := by
  refine Eq.trans (if_pos rfl) ?_
  exact ev_fn (ru_of (ru_ifp (ev_2tpp o2_lt (ev_var rfl) (ev_1tp o1_lens (ev_var rfl))) (ru_as (ru_retx (ev_2pp o2_idxs (ev_var rfl) (ev_var rfl)) (fun _ => rfl))) (ru_id (ru_retp (ev_int _) rfl))) (by rfl))
/-! law_names -/
noncomputable def f_law_names (script : Scr) (size : Int) : Option (List Int) :=
  ((rngG 0 size).bind fun l16 => foldT (fun (k2 : Int) (s1 : (List Int)) => ((f_law_cell_at script ((1 : Int) + k2)).bind fun x5 => ((gPow (10 : Int) (60 : Int)).bind fun y4 => gMul (2 : Int) y4).bind fun y6 => gMod x5 y6).bind fun number7 => (((gPow (10 : Int) (60 : Int)).bind fun x8 => some (x8 - (20 : Int))).bind fun y9 => gMod (number7 / (2 : Int)) y9).bind fun name10 => (if (decide ((number7 % (2 : Int)) = (0 : Int))) = true then (gMod name10 (size + (2 : Int))).bind fun name12 => some name12 else some name10).bind fun (s11 : Int) => (whT (fun (s13 : Int) => some (decide (s13 ∈ s1))) (fun (s13 : Int) => some (s13 + (1 : Int))) 100000 s11).bind fun (s14 : Int) => (appG s1 s14).bind fun names_here15 => some names_here15) l16 ([] : (List Int))).bind fun (s17 : (List Int)) => some s17
theorem ev_law_names (script : Scr) (size : Int) (st : Sto) : m_law_names [en script, en size] st = (f_law_names script size).map fun r => (Kx.ow.r (en r), st) := by
  refine Eq.trans (if_pos rfl) ?_
  exact ev_fn (ru_of (ru_setp (ev_lstp (p := ([] : (List Int))) (ea_nil) rfl (Nat.le_of_ble_eq_true rfl)) rfl (ru_join (E := (fun (s1 : (List Int)) => [.sh (en (script : Scr)), .sh (en (size : Int)), .ow (en (s1 : (List Int))), .no, .no, .no])) (rn_for (s0 := ([] : (List Int))) (ei_rng1p (ev_var rfl)) rfl (fun _ _ => rfl) (fun k2 s1 => ru_setx (ev_2xx o2_mod (ev_callp (ea_p (ev_var rfl) rfl (ea_p (ev_2tpp o2_add (ev_int _) (ev_var rfl)) rfl (ea_nil))) (ev_law_cell_at script ((1 : Int) + k2) st) rfl) (ev_2px o2_mul (ev_int _) (ev_2pp o2_pow (ev_int _) (ev_int _)))) rfl (fun number7 => ru_setx (ev_2px o2_mod (ev_divc (c := 2) (by decide) (by decide) (ev_var rfl)) (ev_2txp o2_sub (ev_2pp o2_pow (ev_int _) (ev_int _)) (ev_int _))) rfl (fun name10 => ru_join (E := (fun (s11 : Int) => [.sh (en (script : Scr)), .sh (en (size : Int)), .ow (en (s1 : (List Int))), .sh (en (k2 : Int)), .sh (en (number7 : Int)), .sh (en (s11 : Int))])) (rn_of (ru_ifp (ev_2tpp (o2_eq (by decide)) (ev_modc (c := 2) (by decide) (ev_var rfl)) (ev_int _)) (ru_sn (ru_setx (ev_2pp o2_mod (ev_var rfl) (ev_2tpp o2_add (ev_var rfl) (ev_int _))) rfl (fun name12 => ru_nil rfl))) (ru_sn (ru_nil rfl)))) (fun s11 => ru_env [.sh (en (script : Scr)), .sh (en (size : Int)), .ow (en (s1 : (List Int))), .sh (en (k2 : Int)), .sh (en (number7 : Int)), .sh (en (s11 : Int))] rfl (ru_join (E := (fun (s13 : Int) => [.sh (en (script : Scr)), .sh (en (size : Int)), .ow (en (s1 : (List Int))), .sh (en (k2 : Int)), .sh (en (number7 : Int)), .sh (en (s13 : Int))])) (rn_whl (s0 := s11) rfl (fun s13 => ev_2tpp (o2_in (by decide)) (ev_var rfl) (ev_varo rfl)) (fun s13 => ru_augp rfl (ev_int _) (ru_nil rfl))) (fun s14 => ru_appp rfl (ev_var rfl) rfl (fun names_here15 => ru_kl rfl (ru_nil rfl))))))))) (fun s17 => ru_retp (ev_varo rfl) rfl))) (by rfl))
/-! law_rope -/
noncomputable def f_law_rope (cell : Int) (size : Int) : Option (Tp5 Int Int Int Int Int) :=
  (gMod cell size).bind fun one1 => (gDiv cell size).bind fun cell2 => (((gMod cell2 (size - (1 : Int))).bind fun y3 => some ((one1 + (1 : Int)) + y3)).bind fun x4 => gMod x4 size).bind fun other5 => (gDiv cell2 (size - (1 : Int))).bind fun cell6 => (((((gPow (10 : Int) (60 : Int)).bind fun x7 => some (x7 - (1 : Int))).bind fun y8 => gMod (cell6 / (28 : Int)) y8).bind fun y9 => some ((1 : Int) + y9)).bind fun b10 => some (⟨one1, other5, b10, (1 : Int) + (cell6 % (4 : Int)), (1 : Int) + ((cell6 / (4 : Int)) % (7 : Int))⟩ : (Tp5 Int Int Int Int Int))).bind fun r11 => some r11
theorem ev_law_rope (cell : Int) (size : Int) (st : Sto) : m_law_rope [en cell, en size] st = (f_law_rope cell size).map fun r => (Kx.sh.r (en r), st) := by
  refine Eq.trans (if_pos rfl) ?_
  exact ev_fn (ru_of (ru_setx (ev_2pp o2_mod (ev_var rfl) (ev_var rfl)) rfl (fun one1 => ru_setx (ev_2pp o2_div (ev_var rfl) (ev_var rfl)) rfl (fun cell2 => ru_setx (ev_2xp o2_mod (ev_2tpx o2_add (ev_2tpp o2_add (ev_var rfl) (ev_int _)) (ev_2pp o2_mod (ev_var rfl) (ev_2tpp o2_sub (ev_var rfl) (ev_int _)))) (ev_var rfl)) rfl (fun other5 => ru_setx (ev_2pp o2_div (ev_var rfl) (ev_2tpp o2_sub (ev_var rfl) (ev_int _))) rfl (fun cell6 => ru_env [.sh (en (cell6 : Int)), .sh (en (size : Int)), .sh (en (one1 : Int)), .sh (en (other5 : Int)), .no, .no] rfl (ru_setp (ev_2tpp o2_add (ev_int _) (ev_modc (c := 4) (by decide) (ev_var rfl))) rfl (ru_setp (ev_2tpp o2_add (ev_int _) (ev_modc (c := 7) (by decide) (ev_divc (c := 4) (by decide) (by decide) (ev_var rfl)))) rfl (ru_retx (ev_tupx (F := fun (b10 : Int) => (⟨one1, other5, b10, (1 : Int) + (cell6 % (4 : Int)), (1 : Int) + ((cell6 / (4 : Int)) % (7 : Int))⟩ : (Tp5 Int Int Int Int Int))) (ea_px (ev_var rfl) rfl (ea_px (ev_var rfl) rfl (ea_xp (ev_2tpx o2_add (ev_int _) (ev_2px o2_mod (ev_divc (c := 28) (by decide) (by decide) (ev_var rfl)) (ev_2txp o2_sub (ev_2pp o2_pow (ev_int _) (ev_int _)) (ev_int _)))) rfl (ea_p (ev_var rfl) rfl (ea_p (ev_var rfl) rfl (ea_nil)))))) (fun _ => rfl) (fun _ => Nat.le_of_ble_eq_true rfl)) (fun _ => rfl))))))))) (by rfl))
/-! law_ropes -/
noncomputable def f_law_ropes (script : Scr) (size : Int) : Option (List (Tp5 Int Int Int Int Int)) :=
  if (decide (size = (1 : Int))) = true then some ([] : (List (Tp5 Int Int Int Int Int))) else ((lcT (fun (x1 : Int) => some true) (fun (x1 : Int) => f_law_rope x1 size) (cutG script.l (some (11 : Int)) (some (31 : Int)))).bind szG).bind fun r5 => some r5
theorem ev_law_ropes (script : Scr) (size : Int) (st : Sto) : m_law_ropes [en script, en size] st = (f_law_ropes script size).map fun r => (Kx.ow.r (en r), st) := by
  refine Eq.trans (if_pos rfl) ?_
  exact ev_fn (ru_of (ru_ifp (ev_2tpp (o2_eq (by decide)) (ev_var rfl) (ev_int _)) (ru_as (ru_retp (ev_lstp (p := ([] : (List (Tp5 Int Int Int Int Int)))) (ea_nil) rfl (Nat.le_of_ble_eq_true rfl)) rfl)) (ru_id (ru_retx (ev_lcx (ei_lstp (ev_slcs (ev_var rfl) (ep_p (ev_int _)) (ep_p (ev_int _))) rfl) rfl (fun _ => rfl) (fun x1 => ev_yes) (fun x1 => ev_callp (ea_p (ev_var rfl) rfl (ea_p (ev_var rfl) rfl (ea_nil))) (ev_law_rope x1 size st) rfl) rfl) (fun _ => rfl)))) (by rfl))
/-! law_bad_names -/
noncomputable def f_law_bad_names (names_here : (List Int)) (cell : Int) : Option (List Int) :=
  (gMod (cell / (3 : Int)) (names_here.length : Int)).bind fun at_1 => (if (decide ((cell % (3 : Int)) = (0 : Int))) = true then (((((gPow (10 : Int) (59 : Int)).bind fun y3 => gMod (cell / (30 : Int)) y3).bind fun b4 => some ([(0 : Int), b4] : (List Int))).bind fun x5 => atI x5 ((cell / (6 : Int)) % (2 : Int))).bind fun y6 => some ((-(1 : Int)) - y6)).bind fun x8 => (setG names_here at_1 x8).bind fun some7 => some some7 else (if ((decide ((cell % (3 : Int)) = (1 : Int))) && (decide ((names_here.length : Int) < (10 : Int)))) = true then (gMod (cell / (30 : Int)) ((names_here.length : Int) + (1 : Int))).bind fun j13 => (atI names_here at_1).bind fun y14 => (insG names_here j13 y14).bind fun some12 => some some12 else (if (decide ((cell % (3 : Int)) = (1 : Int))) = true then (atI names_here (at_1 - (1 : Int))).bind fun x17 => (setG names_here at_1 x17).bind fun some16 => some some16 else ((lrgG ((11 : Int) + ((cell / (3 : Int)) % (3 : Int)))).bind fun x18 => repG x18 ((cell / (9 : Int)) % (2 : Int))).bind fun some19 => some some19).bind fun (s15 : (List Int)) => some s15).bind fun (s9 : (List Int)) => some s9).bind fun (s2 : (List Int)) => some s2
theorem ev_law_bad_names (names_here : (List Int)) (cell : Int) (st : Sto) : m_law_bad_names [en names_here, en cell] st = (f_law_bad_names names_here cell).map fun r => (Kx.ow.r (en r), st) := by
  refine Eq.trans (if_pos rfl) ?_
  exact ev_fn (ru_of (ru_setp (ev_1tp o1_list (ev_var rfl)) rfl (ru_setx (ev_2pp o2_mod (ev_divc (c := 3) (by decide) (by decide) (ev_var rfl)) (ev_1tp o1_len (ev_varo rfl))) rfl (fun at_1 => ru_join (E := (fun (s2 : (List Int)) => [.sh (en (names_here : (List Int))), .sh (en (cell : Int)), .ow (en (s2 : (List Int))), .sh (en (at_1 : Int))])) (rn_of (ru_ifp (ev_2tpp (o2_eq (by decide)) (ev_modc (c := 3) (by decide) (ev_var rfl)) (ev_int _)) (ru_sn (ru_subxp rfl (ev_2tpx o2_sub (ev_1tp o1_neg (ev_int _)) (ev_2xp o2_idx (ev_lstx (F := fun (b4 : Int) => ([(0 : Int), b4] : (List Int))) (ea_px (ev_int _) rfl (ea_xp (ev_2px o2_mod (ev_divc (c := 30) (by decide) (by decide) (ev_var rfl)) (ev_2pp o2_pow (ev_int _) (ev_int _))) rfl (ea_nil))) (fun _ => rfl) (fun _ => Nat.le_of_ble_eq_true rfl)) (ev_modc (c := 2) (by decide) (ev_divc (c := 6) (by decide) (by decide) (ev_var rfl))))) rfl (ev_var rfl) (fun some7 => ru_nil rfl))) (ru_sn (ru_env [.sh (en (names_here : (List Int))), .sh (en (cell : Int)), .ow (en (names_here : (List Int))), .sh (en (at_1 : Int))] rfl (ru_join (E := (fun (s9 : (List Int)) => [.sh (en (names_here : (List Int))), .sh (en (cell : Int)), .ow (en (s9 : (List Int))), .sh (en (at_1 : Int))])) (rn_of (ru_ifp (ev_andpp (ev_2tpp (o2_eq (by decide)) (ev_modc (c := 3) (by decide) (ev_var rfl)) (ev_int _)) (ev_2tpp o2_lt (ev_1tp o1_len (ev_varo rfl)) (ev_int _))) (ru_sn (ru_insxx rfl (ev_2pp o2_mod (ev_divc (c := 30) (by decide) (by decide) (ev_var rfl)) (ev_2tpp o2_add (ev_1tp o1_len (ev_varo rfl)) (ev_int _))) rfl (ev_2pp o2_idx (ev_varo rfl) (ev_var rfl)) rfl (fun some12 => ru_nil rfl))) (ru_sn (ru_join (E := (fun (s15 : (List Int)) => [.sh (en (names_here : (List Int))), .sh (en (cell : Int)), .ow (en (s15 : (List Int))), .sh (en (at_1 : Int))])) (rn_of (ru_ifp (ev_2tpp (o2_eq (by decide)) (ev_modc (c := 3) (by decide) (ev_var rfl)) (ev_int _)) (ru_sn (ru_subxp rfl (ev_2pp o2_idx (ev_varo rfl) (ev_2tpp o2_sub (ev_var rfl) (ev_int _))) rfl (ev_var rfl) (fun some16 => ru_nil rfl))) (ru_sn (ru_env [.sh (en (names_here : (List Int))), .sh (en (cell : Int)), .ow (en (names_here : (List Int))), .sh (en (at_1 : Int))] rfl (ru_setx (ev_2xp o2_rep (ev_lrgp (ev_2tpp o2_add (ev_int _) (ev_modc (c := 3) (by decide) (ev_divc (c := 3) (by decide) (by decide) (ev_var rfl))))) (ev_1tp o1_intI (ev_modc (c := 2) (by decide) (ev_divc (c := 9) (by decide) (by decide) (ev_var rfl))))) rfl (fun some19 => ru_nil rfl)))))) (fun s15 => ru_nil rfl))))) (fun s9 => ru_nil rfl)))))) (fun s2 => ru_retp (ev_varo rfl) rfl)))) (by rfl))
/-! law_beyond -/
noncomputable def f_law_beyond (cell : Int) (low : Int) (high : Int) : Option Int :=
  ((((gPow (10 : Int) (59 : Int)).bind fun y1 => gMod (cell / (6 : Int)) y1).bind fun b2 => some ([(0 : Int), (1 : Int), b2] : (List Int))).bind fun x3 => atI x3 ((cell / (2 : Int)) % (3 : Int))).bind fun far4 => if (decide ((cell % (2 : Int)) = (0 : Int))) = true then some ((low - (1 : Int)) - far4) else some ((high + (1 : Int)) + far4)
theorem ev_law_beyond (cell : Int) (low : Int) (high : Int) (st : Sto) : m_law_beyond [en cell, en low, en high] st = (f_law_beyond cell low high).map fun r => (Kx.sh.r (en r), st) := by
  refine Eq.trans (if_pos rfl) ?_
  exact ev_fn (ru_of (ru_setx (ev_2xp o2_idx (ev_lstx (F := fun (b2 : Int) => ([(0 : Int), (1 : Int), b2] : (List Int))) (ea_px (ev_int _) rfl (ea_px (ev_int _) rfl (ea_xp (ev_2px o2_mod (ev_divc (c := 6) (by decide) (by decide) (ev_var rfl)) (ev_2pp o2_pow (ev_int _) (ev_int _))) rfl (ea_nil)))) (fun _ => rfl) (fun _ => Nat.le_of_ble_eq_true rfl)) (ev_modc (c := 3) (by decide) (ev_divc (c := 2) (by decide) (by decide) (ev_var rfl)))) rfl (fun far4 => ru_ifp (ev_2tpp (o2_eq (by decide)) (ev_modc (c := 2) (by decide) (ev_var rfl)) (ev_int _)) (ru_as (ru_retp (ev_2tpp o2_sub (ev_2tpp o2_sub (ev_var rfl) (ev_int _)) (ev_var rfl)) rfl)) (ru_id (ru_retp (ev_2tpp o2_add (ev_2tpp o2_add (ev_var rfl) (ev_int _)) (ev_var rfl)) rfl)))) (by rfl))
/-! law_bad_rope -/
noncomputable def f_law_bad_rope (cell : Int) (size : Int) : Option (Tp5 Int Int Int Int Int) :=
  (if ((decide ((cell % (6 : Int)) = (0 : Int))) || ((decide (size = (1 : Int))) && (!decide ((cell % (6 : Int)) = (1 : Int))))) = true then (f_law_beyond ((cell / (6 : Int)) / (2 : Int)) (0 : Int) (size - (1 : Int))).bind fun x4 => (setG ([(0 : Int), size - (1 : Int), (1 : Int) + ((cell / (6 : Int)) % (5 : Int)), (1 : Int) + ((cell / (6 : Int)) % (4 : Int)), (1 : Int) + ((cell / (6 : Int)) % (7 : Int))] : (List Int)) ((cell / (6 : Int)) % (2 : Int)) x4).bind fun rope_here3 => some rope_here3 else some ([(0 : Int), size - (1 : Int), (1 : Int) + ((cell / (6 : Int)) % (5 : Int)), (1 : Int) + ((cell / (6 : Int)) % (4 : Int)), (1 : Int) + ((cell / (6 : Int)) % (7 : Int))] : (List Int))).bind fun (s1 : (List Int)) => (if (decide ((cell % (6 : Int)) = (1 : Int))) = true then (gMod (cell / (6 : Int)) size).bind fun x7 => (setG s1 (0 : Int) x7).bind fun rope_here6 => (gMod (cell / (6 : Int)) size).bind fun x9 => (setG rope_here6 (1 : Int) x9).bind fun rope_here8 => some rope_here8 else some s1).bind fun (s5 : (List Int)) => (if (decide ((cell % (6 : Int)) = (2 : Int))) = true then (((((gPow (10 : Int) (59 : Int)).bind fun y11 => gMod (cell / (6 : Int)) y11).bind fun y12 => some ((-(1 : Int)) - y12)).bind fun b13 => some ([(0 : Int), b13] : (List Int))).bind fun x14 => atI x14 (((cell / (6 : Int)) / (7 : Int)) % (2 : Int))).bind fun x16 => (setG s5 (2 : Int) x16).bind fun rope_here15 => some rope_here15 else some s5).bind fun (s10 : (List Int)) => (if (decide ((cell % (6 : Int)) = (3 : Int))) = true then (f_law_beyond (cell / (6 : Int)) (1 : Int) (4 : Int)).bind fun x20 => (setG s10 (3 : Int) x20).bind fun rope_here19 => some rope_here19 else some s10).bind fun (s17 : (List Int)) => (if (decide ((4 : Int) ≤ (cell % (6 : Int)))) = true then (f_law_beyond (cell / (6 : Int)) (1 : Int) (7 : Int)).bind fun x24 => (setG s17 (4 : Int) x24).bind fun rope_here23 => some rope_here23 else some s17).bind fun (s21 : (List Int)) => (tup5? s21).bind fun r25 => some r25
theorem ev_law_bad_rope (cell : Int) (size : Int) (st : Sto) : m_law_bad_rope [en cell, en size] st = (f_law_bad_rope cell size).map fun r => (Kx.sh.r (en r), st) := by
  refine Eq.trans (if_pos rfl) ?_
  exact ev_fn (ru_of (ru_setp (ev_modc (c := 6) (by decide) (ev_var rfl)) rfl (ru_setp (ev_divc (c := 6) (by decide) (by decide) (ev_var rfl)) rfl (ru_setp (ev_lstp (p := ([(0 : Int), size - (1 : Int), (1 : Int) + ((cell / (6 : Int)) % (5 : Int)), (1 : Int) + ((cell / (6 : Int)) % (4 : Int)), (1 : Int) + ((cell / (6 : Int)) % (7 : Int))] : (List Int))) (ea_p (ev_int _) rfl (ea_p (ev_2tpp o2_sub (ev_var rfl) (ev_int _)) rfl (ea_p (ev_2tpp o2_add (ev_int _) (ev_modc (c := 5) (by decide) (ev_var rfl))) rfl (ea_p (ev_2tpp o2_add (ev_int _) (ev_modc (c := 4) (by decide) (ev_var rfl))) rfl (ea_p (ev_2tpp o2_add (ev_int _) (ev_modc (c := 7) (by decide) (ev_var rfl))) rfl (ea_nil)))))) rfl (Nat.le_of_ble_eq_true rfl)) rfl (ru_join (E := (fun (s1 : (List Int)) => [.sh (en (cell : Int)), .sh (en (size : Int)), .sh (en (cell % (6 : Int) : Int)), .sh (en (cell / (6 : Int) : Int)), .ow (en (s1 : (List Int)))])) (rn_of (ru_ifp (ev_orpp (ev_2tpp (o2_eq (by decide)) (ev_var rfl) (ev_int _)) (ev_andpp (ev_2tpp (o2_eq (by decide)) (ev_var rfl) (ev_int _)) (ev_2tpp (o2_ne (by decide)) (ev_var rfl) (ev_int _)))) (ru_sn (ru_env [.sh (en (cell : Int)), .sh (en (size : Int)), .sh (en (cell % (6 : Int) : Int)), .sh (en (cell / (6 : Int) : Int)), .ow (en (([(0 : Int), size - (1 : Int), (1 : Int) + ((cell / (6 : Int)) % (5 : Int)), (1 : Int) + ((cell / (6 : Int)) % (4 : Int)), (1 : Int) + ((cell / (6 : Int)) % (7 : Int))] : (List Int)) : (List Int)))] rfl (ru_subxp rfl (ev_callp (ea_p (ev_divc (c := 2) (by decide) (by decide) (ev_var rfl)) rfl (ea_p (ev_int _) rfl (ea_p (ev_2tpp o2_sub (ev_var rfl) (ev_int _)) rfl (ea_nil)))) (ev_law_beyond ((cell / (6 : Int)) / (2 : Int)) (0 : Int) (size - (1 : Int)) st) rfl) rfl (ev_modc (c := 2) (by decide) (ev_var rfl)) (fun rope_here3 => ru_nil rfl)))) (ru_sn (ru_nil rfl)))) (fun s1 => ru_join (E := (fun (s5 : (List Int)) => [.sh (en (cell : Int)), .sh (en (size : Int)), .sh (en (cell % (6 : Int) : Int)), .sh (en (cell / (6 : Int) : Int)), .ow (en (s5 : (List Int)))])) (rn_of (ru_ifp (ev_2tpp (o2_eq (by decide)) (ev_var rfl) (ev_int _)) (ru_sn (ru_subxp rfl (ev_2pp o2_mod (ev_var rfl) (ev_var rfl)) rfl (ev_int _) (fun rope_here6 => ru_subxp rfl (ev_2pp o2_mod (ev_var rfl) (ev_var rfl)) rfl (ev_int _) (fun rope_here8 => ru_nil rfl)))) (ru_sn (ru_nil rfl)))) (fun s5 => ru_env [.sh (en (cell : Int)), .sh (en (size : Int)), .sh (en (cell % (6 : Int) : Int)), .sh (en (cell / (6 : Int) : Int)), .ow (en (s5 : (List Int)))] rfl (ru_join (E := (fun (s10 : (List Int)) => [.sh (en (cell : Int)), .sh (en (size : Int)), .sh (en (cell % (6 : Int) : Int)), .sh (en (cell / (6 : Int) : Int)), .ow (en (s10 : (List Int)))])) (rn_of (ru_ifp (ev_2tpp (o2_eq (by decide)) (ev_var rfl) (ev_int _)) (ru_sn (ru_subxp rfl (ev_2xp o2_idx (ev_lstx (F := fun (b13 : Int) => ([(0 : Int), b13] : (List Int))) (ea_px (ev_int _) rfl (ea_xp (ev_2tpx o2_sub (ev_1tp o1_neg (ev_int _)) (ev_2px o2_mod (ev_var rfl) (ev_2pp o2_pow (ev_int _) (ev_int _)))) rfl (ea_nil))) (fun _ => rfl) (fun _ => Nat.le_of_ble_eq_true rfl)) (ev_modc (c := 2) (by decide) (ev_divc (c := 7) (by decide) (by decide) (ev_var rfl)))) rfl (ev_int _) (fun rope_here15 => ru_nil rfl))) (ru_sn (ru_nil rfl)))) (fun s10 => ru_join (E := (fun (s17 : (List Int)) => [.sh (en (cell : Int)), .sh (en (size : Int)), .sh (en (cell % (6 : Int) : Int)), .sh (en (cell / (6 : Int) : Int)), .ow (en (s17 : (List Int)))])) (rn_of (ru_ifp (ev_2tpp (o2_eq (by decide)) (ev_var rfl) (ev_int _)) (ru_sn (ru_subxp rfl (ev_callp (ea_p (ev_var rfl) rfl (ea_p (ev_int _) rfl (ea_p (ev_int _) rfl (ea_nil)))) (ev_law_beyond (cell / (6 : Int)) (1 : Int) (4 : Int) st) rfl) rfl (ev_int _) (fun rope_here19 => ru_nil rfl))) (ru_sn (ru_nil rfl)))) (fun s17 => ru_env [.sh (en (cell : Int)), .sh (en (size : Int)), .sh (en (cell % (6 : Int) : Int)), .sh (en (cell / (6 : Int) : Int)), .ow (en (s17 : (List Int)))] rfl (ru_join (E := (fun (s21 : (List Int)) => [.sh (en (cell : Int)), .sh (en (size : Int)), .sh (en (cell % (6 : Int) : Int)), .sh (en (cell / (6 : Int) : Int)), .ow (en (s21 : (List Int)))])) (rn_of (ru_ifp (ev_2tpp o2_ge (ev_var rfl) (ev_int _)) (ru_sn (ru_subxp rfl (ev_callp (ea_p (ev_var rfl) rfl (ea_p (ev_int _) rfl (ea_p (ev_int _) rfl (ea_nil)))) (ev_law_beyond (cell / (6 : Int)) (1 : Int) (7 : Int) st) rfl) rfl (ev_int _) (fun rope_here23 => ru_nil rfl))) (ru_sn (ru_nil rfl)))) (fun s21 => ru_retx (ev_1p o1_tup5 (ev_varo rfl)) (fun _ => rfl)))))))))))) (by rfl))
/-! law_spoiled -/
noncomputable def f_law_spoiled (names_here : (List Int)) (ropes_here : (List (Tp5 Int Int Int Int Int))) (cell : Int) : Option (Tp2 (List Int) (List (Tp5 Int Int Int Int Int))) :=
  if (decide ((cell % (3 : Int)) = (0 : Int))) = true then (((f_law_bad_names names_here (cell / (3 : Int))).bind fun x4 => (szG ((ropes_here.filter fun (x2 : (Tp5 Int Int Int Int Int)) => decide (((cell / (2 : Int)) % (2 : Int)) = (0 : Int))).map fun (x2 : (Tp5 Int Int Int Int Int)) => x2)).bind fun b5 => some (x4, b5)).bind fun b6 => some (⟨b6.1, b6.2⟩ : (Tp2 (List Int) (List (Tp5 Int Int Int Int Int))))).bind fun r7 => some r7 else if ((decide ((cell % (3 : Int)) = (1 : Int))) && ((decide (((cell / (3 : Int)) % (4 : Int)) = (0 : Int))) && (decide ((1 : Int) < (names_here.length : Int))))) = true then (((repG ([(⟨(0 : Int), (names_here.length : Int) - (1 : Int), (1 : Int), (1 : Int), (1 : Int)⟩ : (Tp5 Int Int Int Int Int))] : (List (Tp5 Int Int Int Int Int))) ((21 : Int) - (ropes_here.length : Int))).bind fun y8 => catG ropes_here y8).bind fun b9 => some (⟨names_here, b9⟩ : (Tp2 (List Int) (List (Tp5 Int Int Int Int Int))))).bind fun r10 => some r10 else (gMod (cell / (5 : Int)) ((ropes_here.length : Int) + (1 : Int))).bind fun at_11 => (((((f_law_bad_rope (cell / (3 : Int)) (names_here.length : Int)).bind fun b13 => some ([b13] : (List (Tp5 Int Int Int Int Int)))).bind fun y14 => catG (cutG ropes_here none (some at_11)) y14).bind fun x15 => catG x15 (cutG ropes_here (some at_11) none)).bind fun b16 => some (⟨names_here, b16⟩ : (Tp2 (List Int) (List (Tp5 Int Int Int Int Int))))).bind fun r17 => some r17
theorem ev_law_spoiled (names_here : (List Int)) (ropes_here : (List (Tp5 Int Int Int Int Int))) (cell : Int) (st : Sto) : m_law_spoiled [en names_here, en ropes_here, en cell] st = (f_law_spoiled names_here ropes_here cell).map fun r => (Kx.sh.r (en r), st) := by
  refine Eq.trans (if_pos rfl) ?_
  exact ev_fn (ru_of (ru_setp (ev_1tp o1_len (ev_var rfl)) rfl (ru_ifp (ev_2tpp (o2_eq (by decide)) (ev_modc (c := 3) (by decide) (ev_var rfl)) (ev_int _)) (ru_as (ru_retx (ev_tupx (F := fun (b6 : (List Int) × ((List (Tp5 Int Int Int Int Int)))) => (⟨b6.1, b6.2⟩ : (Tp2 (List Int) (List (Tp5 Int Int Int Int Int))))) (ea_xx (ev_callp (ea_p (ev_var rfl) rfl (ea_p (ev_divc (c := 3) (by decide) (by decide) (ev_var rfl)) rfl (ea_nil))) (ev_law_bad_names names_here (cell / (3 : Int)) st) rfl) rfl (ea_xp (ev_lcf (ei_lstp (ev_var rfl) rfl) rfl (fun _ => rfl) (fun x2 => ev_2tpp (o2_eq (by decide)) (ev_modc (c := 2) (by decide) (ev_divc (c := 2) (by decide) (by decide) (ev_var rfl))) (ev_int _)) (fun x2 => ev_var rfl) rfl) rfl (ea_nil))) (fun _ => rfl) (fun _ => Nat.le_of_ble_eq_true rfl)) (fun _ => rfl))) (ru_id (ru_ifp (ev_andpp (ev_2tpp (o2_eq (by decide)) (ev_modc (c := 3) (by decide) (ev_var rfl)) (ev_int _)) (ev_andpp (ev_2tpp (o2_eq (by decide)) (ev_modc (c := 4) (by decide) (ev_divc (c := 3) (by decide) (by decide) (ev_var rfl))) (ev_int _)) (ev_2tpp o2_gt (ev_var rfl) (ev_int _)))) (ru_env [.sh (en (names_here : (List Int))), .sh (en (ropes_here : (List (Tp5 Int Int Int Int Int)))), .sh (en (cell : Int)), .sh (en ((names_here.length : Int) : Int)), .no, .no] rfl (ru_as (ru_retx (ev_tupx (F := fun (b9 : (List (Tp5 Int Int Int Int Int))) => (⟨names_here, b9⟩ : (Tp2 (List Int) (List (Tp5 Int Int Int Int Int))))) (ea_px (ev_var rfl) rfl (ea_xp (ev_2px o2_cat (ev_var rfl) (ev_2pp o2_rep (ev_lstp (p := ([(⟨(0 : Int), (names_here.length : Int) - (1 : Int), (1 : Int), (1 : Int), (1 : Int)⟩ : (Tp5 Int Int Int Int Int))] : (List (Tp5 Int Int Int Int Int)))) (ea_p (ev_tupp (p := (⟨(0 : Int), (names_here.length : Int) - (1 : Int), (1 : Int), (1 : Int), (1 : Int)⟩ : (Tp5 Int Int Int Int Int))) (ea_p (ev_int _) rfl (ea_p (ev_2tpp o2_sub (ev_var rfl) (ev_int _)) rfl (ea_p (ev_int _) rfl (ea_p (ev_int _) rfl (ea_p (ev_int _) rfl (ea_nil)))))) rfl (Nat.le_of_ble_eq_true rfl)) rfl (ea_nil)) rfl (Nat.le_of_ble_eq_true rfl)) (ev_2tpp o2_sub (ev_int _) (ev_1tp o1_len (ev_var rfl))))) rfl (ea_nil))) (fun _ => rfl) (fun _ => Nat.le_of_ble_eq_true rfl)) (fun _ => rfl)))) (ru_id (ru_setx (ev_2pp o2_mod (ev_divc (c := 5) (by decide) (by decide) (ev_var rfl)) (ev_2tpp o2_add (ev_1tp o1_len (ev_var rfl)) (ev_int _))) rfl (fun at_11 => ru_retx (ev_tupx (F := fun (b16 : (List (Tp5 Int Int Int Int Int))) => (⟨names_here, b16⟩ : (Tp2 (List Int) (List (Tp5 Int Int Int Int Int))))) (ea_px (ev_var rfl) rfl (ea_xp (ev_2xp o2_cat (ev_2px o2_cat (ev_slcp (ev_var rfl) (ep_no) (ep_p (ev_var rfl))) (ev_lstx (F := fun (b13 : (Tp5 Int Int Int Int Int)) => ([b13] : (List (Tp5 Int Int Int Int Int)))) (ea_xp (ev_callp (ea_p (ev_divc (c := 3) (by decide) (by decide) (ev_var rfl)) rfl (ea_p (ev_var rfl) rfl (ea_nil))) (ev_law_bad_rope (cell / (3 : Int)) (names_here.length : Int) st) rfl) rfl (ea_nil)) (fun _ => rfl) (fun _ => Nat.le_of_ble_eq_true rfl))) (ev_slcp (ev_var rfl) (ep_p (ev_var rfl)) (ep_no))) rfl (ea_nil))) (fun _ => rfl) (fun _ => Nat.le_of_ble_eq_true rfl)) (fun _ => rfl)))))))) (by rfl))
/-! ask_names -/
noncomputable def f_ask_names (names : (List Int)) : Option Unit :=
  if (!(decide ((1 : Int) ≤ (names.length : Int)) && decide ((names.length : Int) ≤ (10 : Int)))) = true then none else ((rngG 0 (names.length : Int)).bind fun l7 => foldT (fun (k2 : Int) (s1 : Unit) => (((atI names k2).bind fun x3 => some (decide (x3 < (0 : Int)))).bind fun p5 => if p5 = true then some true else (atI names k2).bind fun x4 => some (decide (x4 ∈ (cutG names none (some k2))))).bind fun p6 => if p6 = true then none else some ()) l7 ()).bind fun (s8 : Unit) => some ()
theorem ev_ask_names (names : (List Int)) (st : Sto) : m_ask_names [en names] st = (f_ask_names names).map fun r => (Kx.sh.r (en r), st) := by
  refine Eq.trans (if_pos rfl) ?_
  exact ev_fn (ru_of (ru_ifp (ev_notp (ev_chainpp o2_le o2_le (ev_int _) (ev_1tp o1_len (ev_var rfl)) (ev_int _))) (ru_as (ru_never)) (ru_id (ru_join (E := (fun (s1 : Unit) => [.sh (en (names : (List Int))), .no])) (rn_for (s0 := ()) (ei_rng1p (ev_1tp o1_len (ev_var rfl))) rfl (fun _ _ => rfl) (fun k2 s1 => ru_ifx (ev_orxx (ev_2txp o2_lt (ev_2pp o2_idx (ev_var rfl) (ev_var rfl)) (ev_int _)) (ev_2txp (o2_in (by decide)) (ev_2pp o2_idx (ev_var rfl) (ev_var rfl)) (ev_slcp (ev_var rfl) (ep_no) (ep_p (ev_var rfl))))) (ru_as (ru_never)) (ru_id (ru_kl rfl (ru_nil rfl))))) (fun s8 => ru_nil rfl)))) (by rfl))
/-! ask_rope -/
noncomputable def f_ask_rope (size : Int) (rope : (Tp5 Int Int Int Int Int)) : Option Unit :=
  if ((!(decide ((0 : Int) ≤ rope.x0) && decide (rope.x0 < size))) || ((!(decide ((0 : Int) ≤ rope.x1) && decide (rope.x1 < size))) || (decide (rope.x0 = rope.x1)))) = true then none else if ((decide (rope.x2 < (1 : Int))) || ((!(decide ((1 : Int) ≤ rope.x3) && decide (rope.x3 ≤ (4 : Int)))) || (!(decide ((1 : Int) ≤ rope.x4) && decide (rope.x4 ≤ (7 : Int)))))) = true then none else some ()
theorem ev_ask_rope (size : Int) (rope : (Tp5 Int Int Int Int Int)) (st : Sto) : m_ask_rope [en size, en rope] st = (f_ask_rope size rope).map fun r => (Kx.sh.r (en r), st) := by
  refine Eq.trans (if_pos rfl) ?_
  exact ev_fn (ru_of (ru_asgp (ev_var rfl) rfl rfl (ru_ifp (ev_orpp (ev_notp (ev_chainpp o2_le o2_lt (ev_int _) (ev_var rfl) (ev_var rfl))) (ev_orpp (ev_notp (ev_chainpp o2_le o2_lt (ev_int _) (ev_var rfl) (ev_var rfl))) (ev_2tpp (o2_eq (by decide)) (ev_var rfl) (ev_var rfl)))) (ru_as (ru_never)) (ru_id (ru_ifp (ev_orpp (ev_2tpp o2_lt (ev_var rfl) (ev_int _)) (ev_orpp (ev_notp (ev_chainpp o2_le o2_le (ev_int _) (ev_var rfl) (ev_int _))) (ev_notp (ev_chainpp o2_le o2_le (ev_int _) (ev_var rfl) (ev_int _))))) (ru_env [.sh (en (size : Int)), .sh (en (rope : (Tp5 Int Int Int Int Int))), .sh (en (rope.x0 : Int)), .sh (en (rope.x1 : Int)), .sh (en (rope.x2 : Int)), .sh (en (rope.x3 : Int)), .sh (en (rope.x4 : Int))] rfl (ru_as (ru_never))) (ru_id (ru_nil rfl)))))) (by rfl))
/-! Town_init -/
noncomputable def f_Town_init (names : (List Int)) (ropes : (List (Tp5 Int Int Int Int Int))) : Option O_Town :=
  (f_ask_names names).bind fun u15 => if (decide ((20 : Int) < (ropes.length : Int))) = true then none else (some names).bind fun l3 => (szG (l3.map fun _ => ([] : (List Int)))).bind fun near2 => (foldT (fun (x5 : (Tp2 Int (Tp5 Int Int Int Int Int))) (s4 : (List (List Int))) => (f_ask_rope (names.length : Int) x5.x1).bind fun u13 => (some x5.x1.x0).bind fun j8 => (some x5.x0).bind fun y9 => (app2G s4 j8 y9).bind fun near7 => (some x5.x1.x1).bind fun j11 => (some x5.x0).bind fun y12 => (app2G near7 j11 y12).bind fun near10 => some near10) (enumT 0 ropes) near2).bind fun (s14 : (List (List Int))) => some (⟨(names.length : Int), (ropes.length : Int), names, ropes, s14⟩ : O_Town)
theorem ev_Town_init (names : (List Int)) (ropes : (List (Tp5 Int Int Int Int Int))) (st : Sto) : m_Town_init [en names, en ropes] st = (f_Town_init names ropes).map fun r => (Kx.ow.r (en r), st) := by
  exact ev_init (fun (ad : Addr) (o : O_Town) => [.me ad (en o), .sh (en names), .sh (en ropes), .no, .no, .no, .no]) (fun ad => ru_of (ru_exx (ev_callp (ea_p (ev_var rfl) rfl (ea_nil)) (ev_ask_names names st) rfl) (fun u15 => ru_ifp (ev_2tpp o2_gt (ev_1tp o1_len (ev_var rfl)) (ev_int _)) (ru_as (ru_never)) (ru_id (ru_emp (ei_lstp (ev_var rfl) rfl) rfl (fun _ => rfl) (Nat.le_of_ble_eq_true rfl) (fun near2 => ru_env [.me ad (.obj "Town" []), .sh (en (names : (List Int))), .sh (en (ropes : (List (Tp5 Int Int Int Int Int)))), o2S (near2 : (List (List Int))), .no, .no, .no] rfl (ru_join (E := (fun (s4 : (List (List Int))) => [.me ad (.obj "Town" []), .sh (en (names : (List Int))), .sh (en (ropes : (List (Tp5 Int Int Int Int Int)))), o2S (s4 : (List (List Int))), .no, .no, .no])) (rn_forp (s0 := near2) (ei_enump (ev_var rfl) rfl) rfl (fun _ _ => rfl) (fun x5 s4 => ru_exx (ev_callp (ea_p (ev_1tp o1_len (ev_var rfl)) rfl (ea_p (ev_var rfl) rfl (ea_nil))) (ev_ask_rope (names.length : Int) x5.x1 st) rfl) (fun u13 => ru_app2 rfl (ev_prj pj5_0 (ev_var rfl)) (ev_var rfl) rfl (fun near7 => ru_app2 rfl (ev_prj pj5_1 (ev_var rfl)) (ev_var rfl) rfl (fun near10 => ru_kl rfl (ru_nil (z := near10) rfl)))))) (fun s14 => ru_fldp rfl rfl (ev_1tp o1_len (ev_var rfl)) rfl (ru_env [.me ad (.obj "Town" [en ((names.length : Int) : Int)]), .sh (en (names : (List Int))), .sh (en (ropes : (List (Tp5 Int Int Int Int Int)))), o2S (s14 : (List (List Int))), .no, .no, .no] rfl (ru_fldp rfl rfl (ev_1tp o1_len (ev_var rfl)) rfl (ru_fldp rfl rfl (ev_1tp o1_list (ev_var rfl)) rfl (ru_fldp rfl rfl (ev_1tp o1_list (ev_var rfl)) rfl (ru_frz2 rfl (ru_env [.me ad (.obj "Town" [en ((names.length : Int) : Int), en ((ropes.length : Int) : Int), en (names : (List Int)), en (ropes : (List (Tp5 Int Int Int Int Int)))]), .sh (en (names : (List Int))), .sh (en (ropes : (List (Tp5 Int Int Int Int Int)))), .sh (en (s14 : (List (List Int)))), .no, .no, .no] rfl (ru_fldp rfl rfl (ev_var rfl) rfl (ru_kl rfl (ru_nil rfl)))))))))))))))) (by rfl)) (fun _ _ => rfl)
/-! Xq_ask_names -/
noncomputable def f_Xq_ask_names (names : (List Int)) : Option Txt :=
  if (!(decide ((1 : Int) ≤ (names.length : Int)) && decide ((names.length : Int) ≤ (10 : Int)))) = true then some (txM "BadTown") else ((rngG 0 (names.length : Int)).bind fun l7 => forT (fun (k2 : Int) (s1 : Unit) => (((atI names k2).bind fun x3 => some (decide (x3 < (0 : Int)))).bind fun p5 => if p5 = true then some true else (atI names k2).bind fun x4 => some (decide (x4 ∈ (cutG names none (some k2))))).bind fun p6 => if p6 = true then some (Ct.rt (txM "BadTown")) else some (Ct.nx ())) l7 ()).bind fun c9 => c9.go (fun (s8 : Unit) => none) (fun r => some r)
theorem ev_Xq_ask_names (names : (List Int)) (st : Sto) : m_Xq_ask_names [en names] st = (f_Xq_ask_names names).map fun r => (Kx.sh.r (en r), st) := by
  refine Eq.trans (if_pos rfl) ?_
  exact ev_fn (ru_of (ru_ifp (ev_notp (ev_chainpp o2_le o2_le (ev_int _) (ev_1tp o1_len (ev_var rfl)) (ev_int _))) (ru_as (ru_retp (ev_txt (txM "BadTown")) rfl)) (ru_id (ru_joinc (E := (fun (s1 : Unit) => [.sh (en (names : (List Int))), .no])) (F := fun r => r) (rc_for (s0 := ()) (ei_rng1p (ev_1tp o1_len (ev_var rfl))) rfl (fun _ _ => rfl) (fun k2 s1 => ru_ifx (ev_orxx (ev_2txp o2_lt (ev_2pp o2_idx (ev_var rfl) (ev_var rfl)) (ev_int _)) (ev_2txp (o2_in (by decide)) (ev_2pp o2_idx (ev_var rfl) (ev_var rfl)) (ev_slcp (ev_var rfl) (ep_no) (ep_p (ev_var rfl))))) (ru_as (ru_retp (ev_txt (txM "BadTown")) rfl)) (ru_id (ru_kl rfl (ru_nil rfl))))) (fun _ => rfl) (fun s8 => ru_nv)))) (by rfl))
/-! Xq_ask_rope -/
noncomputable def f_Xq_ask_rope (size : Int) (rope : (Tp5 Int Int Int Int Int)) : Option Txt :=
  if ((!(decide ((0 : Int) ≤ rope.x0) && decide (rope.x0 < size))) || ((!(decide ((0 : Int) ≤ rope.x1) && decide (rope.x1 < size))) || (decide (rope.x0 = rope.x1)))) = true then some (txM "BadTown") else if ((decide (rope.x2 < (1 : Int))) || ((!(decide ((1 : Int) ≤ rope.x3) && decide (rope.x3 ≤ (4 : Int)))) || (!(decide ((1 : Int) ≤ rope.x4) && decide (rope.x4 ≤ (7 : Int)))))) = true then some (txM "BadTown") else none
theorem ev_Xq_ask_rope (size : Int) (rope : (Tp5 Int Int Int Int Int)) (st : Sto) : m_Xq_ask_rope [en size, en rope] st = (f_Xq_ask_rope size rope).map fun r => (Kx.sh.r (en r), st) := by
  refine Eq.trans (if_pos rfl) ?_
  exact ev_fn (ru_of (ru_asgp (ev_var rfl) rfl rfl (ru_ifp (ev_orpp (ev_notp (ev_chainpp o2_le o2_lt (ev_int _) (ev_var rfl) (ev_var rfl))) (ev_orpp (ev_notp (ev_chainpp o2_le o2_lt (ev_int _) (ev_var rfl) (ev_var rfl))) (ev_2tpp (o2_eq (by decide)) (ev_var rfl) (ev_var rfl)))) (ru_as (ru_retp (ev_txt (txM "BadTown")) rfl)) (ru_id (ru_ifp (ev_orpp (ev_2tpp o2_lt (ev_var rfl) (ev_int _)) (ev_orpp (ev_notp (ev_chainpp o2_le o2_le (ev_int _) (ev_var rfl) (ev_int _))) (ev_notp (ev_chainpp o2_le o2_le (ev_int _) (ev_var rfl) (ev_int _))))) (ru_env [.sh (en (size : Int)), .sh (en (rope : (Tp5 Int Int Int Int Int))), .sh (en (rope.x0 : Int)), .sh (en (rope.x1 : Int)), .sh (en (rope.x2 : Int)), .sh (en (rope.x3 : Int)), .sh (en (rope.x4 : Int))] rfl (ru_as (ru_retp (ev_txt (txM "BadTown")) rfl))) (ru_id (ru_nv)))))) (by rfl))
/-! Xq_Town_init -/
noncomputable def f_Xq_Town_init (names : (List Int)) (ropes : (List (Tp5 Int Int Int Int Int))) : Option Txt :=
  (f_Xq_ask_names names).elim ((f_ask_names names).bind fun u19 => if (decide ((20 : Int) < (ropes.length : Int))) = true then some (txM "BadTown") else (some names).bind fun l4 => (szG (l4.map fun _ => ([] : (List Int)))).bind fun near3 => (forT (fun (x6 : (Tp2 Int (Tp5 Int Int Int Int Int))) (s5 : (List (List Int))) => (f_Xq_ask_rope (names.length : Int) x6.x1).elim ((f_ask_rope (names.length : Int) x6.x1).bind fun u15 => (some x6.x1.x0).bind fun j10 => (some x6.x0).bind fun y11 => (app2G s5 j10 y11).bind fun near9 => (some x6.x1.x1).bind fun j13 => (some x6.x0).bind fun y14 => (app2G near9 j13 y14).bind fun near12 => some (Ct.nx near12)) fun x16 => some (Ct.rt x16)) (enumT 0 ropes) near3).bind fun c18 => c18.go (fun (s17 : (List (List Int))) => none) (fun r => some r)) fun x20 => some x20
theorem ev_Xq_Town_init (names : (List Int)) (ropes : (List (Tp5 Int Int Int Int Int))) (st : Sto) : m_Xq_Town_init [en names, en ropes] st = (f_Xq_Town_init names ropes).map fun r => (Kx.sh.r (en r), st) := by
  refine Eq.trans (if_pos rfl) ?_
  exact ev_fn (ru_of (ru_kl rfl (ru_xp (F := fun (x20 : Txt) => x20) (ev_callp (ea_p (ev_var rfl) rfl (ea_nil)) (ev_Xq_ask_names names st) rfl) (fun _ => rfl) (ru_exx (ev_callp (ea_p (ev_var rfl) rfl (ea_nil)) (ev_ask_names names st) rfl) (fun u19 => ru_ifp (ev_2tpp o2_gt (ev_1tp o1_len (ev_var rfl)) (ev_int _)) (ru_as (ru_retp (ev_txt (txM "BadTown")) rfl)) (ru_id (ru_emp (ei_lstp (ev_var rfl) rfl) rfl (fun _ => rfl) (Nat.le_of_ble_eq_true rfl) (fun near3 => ru_env [.no, .sh (en (names : (List Int))), .sh (en (ropes : (List (Tp5 Int Int Int Int Int)))), o2S (near3 : (List (List Int))), .no, .no, .no] rfl (ru_joinc (E := (fun (s5 : (List (List Int))) => [.no, .sh (en (names : (List Int))), .sh (en (ropes : (List (Tp5 Int Int Int Int Int)))), o2S (s5 : (List (List Int))), .no, .no, .no])) (F := fun r => r) (rc_forp (s0 := near3) (ei_enump (ev_var rfl) rfl) rfl (fun _ _ => rfl) (fun x6 s5 => ru_xp (F := fun (x16 : Txt) => Ct.rt x16) (ev_callp (ea_p (ev_1tp o1_len (ev_var rfl)) rfl (ea_p (ev_var rfl) rfl (ea_nil))) (ev_Xq_ask_rope (names.length : Int) x6.x1 st) rfl) (fun _ => rfl) (ru_exx (ev_callp (ea_p (ev_1tp o1_len (ev_var rfl)) rfl (ea_p (ev_var rfl) rfl (ea_nil))) (ev_ask_rope (names.length : Int) x6.x1 st) rfl) (fun u15 => ru_app2 rfl (ev_prj pj5_0 (ev_var rfl)) (ev_var rfl) rfl (fun near9 => ru_app2 rfl (ev_prj pj5_1 (ev_var rfl)) (ev_var rfl) rfl (fun near12 => ru_kl rfl (ru_nil (z := Ct.nx near12) rfl))))))) (fun _ => rfl) (fun s17 => ru_nv))))))))) (by rfl))
/-! law_refused -/
noncomputable def f_law_refused (names_here : (List Int)) (ropes_here : (List (Tp5 Int Int Int Int Int))) (st : Sto) : Option (Bool × Sto) :=
  ((f_Xq_Town_init names_here ropes_here).elim ((f_Town_init names_here ropes_here).bind fun u5 => some ((([] : (List Bool)) : (List Bool)), st)) fun (x6 : Txt) => if x6.x ∈ (["BadTown"] : List Str) then (catG ([isX x6.x "NoHouse", isX x6.x "NoGroup", isX x6.x "NoWire", isX x6.x "NoCaller"] : (List Bool)) ([isX x6.x "Apart", isX x6.x "NoCopy", isX x6.x "NoLetter"] : (List Bool))).bind fun others7 => (catG others7 ([isX x6.x "NoText"] : (List Bool))).bind fun others8 => some ((([isX x6.x "BadTown", isX x6.x "ValueError", decide (true ∈ others8)] : (List Bool)) : (List Bool)), st) else none).bind fun (p10 : ((List Bool)) × Sto) => some (decide (p10.1 = ([true, true, false] : (List Bool))), p10.2)
theorem ev_law_refused (names_here : (List Int)) (ropes_here : (List (Tp5 Int Int Int Int Int))) (st : Sto) : m_law_refused [en names_here, en ropes_here] st = (f_law_refused names_here ropes_here st).map fun p => (Kx.sh.r (en p.1), p.2) := by
  refine Eq.trans (if_pos rfl) ?_
  exact ev_fnS (ru_of (ru_setp (ev_lstp (p := ([] : (List Bool))) (ea_nil) rfl (Nat.le_of_ble_eq_true rfl)) rfl (ru_joinX (E := (fun (s3 : (List Bool)) => [.sh (en (names_here : (List Int))), .sh (en (ropes_here : (List (Tp5 Int Int Int Int Int)))), .ow (en (s3 : (List Bool))), .no, .no])) (rnx_try (xs := ["BadTown"]) (su := (fun (ad : Addr) (cx : Str) => sSeq (sSet 4 (eLst (aCons (eIsE 3 ad (isX cx "NoHouse")) (aCons (eIsE 3 ad (isX cx "NoGroup")) (aCons (eIsE 3 ad (isX cx "NoWire")) (aCons (eIsE 3 ad (isX cx "NoCaller")) (aNil))))))) (sSeq (sSet 4 (e2 fAdd (eVar 4) (eLst (aCons (eIsE 3 ad (isX cx "Apart")) (aCons (eIsE 3 ad (isX cx "NoCopy")) (aCons (eIsE 3 ad (isX cx "NoLetter")) (aNil))))))) (sSeq (sSet 4 (e2 fAdd (eVar 4) (eLst (aCons (eIsE 3 ad (isX cx "NoText")) (aNil))))) (sSeq (sSet 2 (eLst (aCons (eIsE 3 ad (isX cx "BadTown")) (aCons (eIsE 3 ad (isX cx "ValueError")) (aCons (e2 fIn (eC (.bl true)) (eVar 4)) (aNil)))))) (sKl [4] (sNil))))))) (ev_callp (ea_p (ev_var rfl) rfl (ea_p (ev_var rfl) rfl (ea_nil))) (ev_Xq_Town_init names_here ropes_here st) rfl) (rnx_of (ru_exx (ev_makep (ea_p (ev_var rfl) rfl (ea_p (ev_var rfl) rfl (ea_nil))) (ev_Town_init names_here ropes_here st) rfl) (fun u5 => ru_nil (z := ((([] : (List Bool)) : (List Bool)), st)) rfl))) (fun ad x6 => rnx_of (ru_sn (ru_setp (ev_lstp (p := ([isX x6.x "NoHouse", isX x6.x "NoGroup", isX x6.x "NoWire", isX x6.x "NoCaller"] : (List Bool))) (ea_p (ev_isE rfl) rfl (ea_p (ev_isE rfl) rfl (ea_p (ev_isE rfl) rfl (ea_p (ev_isE rfl) rfl (ea_nil))))) rfl (Nat.le_of_ble_eq_true rfl)) rfl (ru_env [.sh (en (names_here : (List Int))), .sh (en (ropes_here : (List (Tp5 Int Int Int Int Int)))), .ow (en (([] : (List Bool)) : (List Bool))), .exc ad, .ow (en (([isX x6.x "NoHouse", isX x6.x "NoGroup", isX x6.x "NoWire", isX x6.x "NoCaller"] : (List Bool)) : (List Bool)))] rfl (ru_setx (ev_2pp o2_cat (ev_varo rfl) (ev_lstp (p := ([isX x6.x "Apart", isX x6.x "NoCopy", isX x6.x "NoLetter"] : (List Bool))) (ea_p (ev_isE rfl) rfl (ea_p (ev_isE rfl) rfl (ea_p (ev_isE rfl) rfl (ea_nil)))) rfl (Nat.le_of_ble_eq_true rfl))) rfl (fun others7 => ru_setx (ev_2pp o2_cat (ev_varo rfl) (ev_lstp (p := ([isX x6.x "NoText"] : (List Bool))) (ea_p (ev_isE rfl) rfl (ea_nil)) rfl (Nat.le_of_ble_eq_true rfl))) rfl (fun others8 => ru_setp (ev_lstp (p := ([isX x6.x "BadTown", isX x6.x "ValueError", decide (true ∈ others8)] : (List Bool))) (ea_p (ev_isE rfl) rfl (ea_p (ev_isE rfl) rfl (ea_p (ev_2tpp o2_inb (ev_bl _) (ev_varo rfl)) rfl (ea_nil)))) rfl (Nat.le_of_ble_eq_true rfl)) rfl (ru_kl rfl (ru_nil (z := ((([isX x6.x "BadTown", isX x6.x "ValueError", decide (true ∈ others8)] : (List Bool)) : (List Bool)), st)) rfl))))))))) (fun _ => rfl)) (fun s3 st9 => ru_retp (z := ((decide (s3 = ([true, true, false] : (List Bool))) : Bool), st9)) (ev_2tpp o2_eqLb (ev_varo rfl) (ev_lstp (p := ([true, true, false] : (List Bool))) (ea_p (ev_bl _) rfl (ea_p (ev_bl _) rfl (ea_p (ev_bl _) rfl (ea_nil)))) rfl (Nat.le_of_ble_eq_true rfl))) rfl))) (by rfl))
/-! law -/
noncomputable def f_law (script : Scr) (st : Sto) : Option (Bool × Sto) :=
  (((f_law_cell_at script (0 : Int)).bind fun x2 => some (x2 % (10 : Int))).bind fun y3 => some ((1 : Int) + y3)).bind fun size4 => (f_law_names script size4).bind fun names_here6 => ((f_law_ropes script size4).bind fun l8 => (some none).bind fun u9 => (some (some (19 : Int))).bind fun w10 => some (cutG l8 u9 w10)).bind fun ropes_here11 => (((f_Town_init names_here6 ropes_here11).bind fun x13 => some x13.many).bind fun x14 => some (!decide (x14 = (ropes_here11.length : Int)))).bind fun p37 => if p37 = true then some (false, st) else (((lrgG (9 : Int)).bind fun x15 => catG x15 (cutG script.l (some (31 : Int)) (some (55 : Int)))).bind fun l28 => forT (fun (cell18 : Int) (p27 : (Unit) × Sto) => (f_law_spoiled names_here6 ropes_here11 cell18).bind fun w20 => (((f_law_refused ((⟨w20.x0, w20.x1⟩ : (Hl2 (List Int) (List (Tp5 Int Int Int Int Int)))).x0) ((⟨w20.x0, w20.x1⟩ : (Hl2 (List Int) (List (Tp5 Int Int Int Int Int)))).x1) p27.2).bind fun p24 => some (!p24.1, p24.2)).bind fun p25 => if p25.1 = true then some (true, p25.2) else some (!decide ((⟨w20.x0, w20.x1⟩ : (Hl2 (List Int) (List (Tp5 Int Int Int Int Int)))) = (⟨w20.x0, w20.x1⟩ : (Hl2 (List Int) (List (Tp5 Int Int Int Int Int))))), p25.2)).bind fun p26 => if p26.1 = true then some (Ct.rt (false, p26.2)) else some (Ct.nx ((() : Unit), p26.2))) l28 ((), st)).bind fun c36 => c36.go (fun (p35 : (Unit) × Sto) => (((f_Town_init names_here6 ropes_here11).bind fun x32 => some x32.size).bind fun x33 => some (decide (x33 = size4))).bind fun r34 => some (r34, p35.2)) (fun r => some r)
theorem ev_law (script : Scr) (st : Sto) : m_law [en script] st = (f_law script st).map fun p => (Kx.sh.r (en p.1), p.2) := by
  refine Eq.trans (if_pos rfl) ?_
  exact ev_fnS (ru_of (ru_setx (ev_2tpx o2_add (ev_int _) (ev_modcx (c := 10) (by decide) (ev_callp (ea_p (ev_var rfl) rfl (ea_p (ev_int _) rfl (ea_nil))) (ev_law_cell_at script (0 : Int) st) rfl))) rfl (fun size4 => ru_setx (ev_callp (ea_p (ev_var rfl) rfl (ea_p (ev_var rfl) rfl (ea_nil))) (ev_law_names script size4 st) rfl) rfl (fun names_here6 => ru_setx (ev_slcx (ev_callp (ea_p (ev_var rfl) rfl (ea_p (ev_var rfl) rfl (ea_nil))) (ev_law_ropes script size4 st) rfl) (ep_no) (ep_p (ev_int _))) rfl (fun ropes_here11 => ru_ifx (ev_2txp (o2_ne (by decide)) (ev_1tx fl_Town_many (ev_makep (ea_p (ev_1tp o1_list (ev_varo rfl)) rfl (ea_p (ev_1tp o1_list (ev_varo rfl)) rfl (ea_nil))) (ev_Town_init names_here6 ropes_here11 st) rfl)) (ev_1tp o1_len (ev_varo rfl))) (ru_env [.sh (en (script : Scr)), .sh (en (size4 : Int)), .ow (en (names_here6 : (List Int))), .ow (en (ropes_here11 : (List (Tp5 Int Int Int Int Int)))), .no, .no, .no, .no] rfl (ru_as (ru_retp (z := ((false : Bool), st)) (ev_bl _) rfl))) (ru_id (ru_frz rfl (ru_frz rfl (ru_joincX (E := (fun (s16 : Unit) => [.sh (en (script : Scr)), .sh (en (size4 : Int)), .sh (en (names_here6 : (List Int))), .sh (en (ropes_here11 : (List (Tp5 Int Int Int Int Int)))), .no, .no, .no, .no])) (F := fun r => r) (rcx_for (st := st) (s0 := ()) (ei_lstx (ev_2xp o2_cat (ev_lrgp (ev_int _)) (ev_slcs (ev_var rfl) (ep_p (ev_int _)) (ep_p (ev_int _)))) rfl) rfl (fun _ _ => rfl) (fun cell18 s16 st17 => ru_asgx (ev_callp (ea_p (ev_var rfl) rfl (ea_p (ev_var rfl) rfl (ea_p (ev_var rfl) rfl (ea_nil)))) (ev_law_spoiled names_here6 ropes_here11 cell18 st17) rfl) rfl (fun _ => rfl) (fun w20 => ru_setp (ev_lstp (p := (⟨w20.x0, w20.x1⟩ : (Hl2 (List Int) (List (Tp5 Int Int Int Int Int))))) (ea_p (ev_1tp o1_list (ev_var rfl)) rfl (ea_p (ev_1tp o1_list (ev_var rfl)) rfl (ea_nil))) rfl (Nat.le_of_ble_eq_true rfl)) rfl (ru_ifX (evx_or (evx_not (evx_callX (F := fun (b21 : Unit) sq22 => f_law_refused ((⟨w20.x0, w20.x1⟩ : (Hl2 (List Int) (List (Tp5 Int Int Int Int Int)))).x0) ((⟨w20.x0, w20.x1⟩ : (Hl2 (List Int) (List (Tp5 Int Int Int Int Int)))).x1) sq22) (eax_of (ea_p (ev_prj qj2_0 (ev_varo rfl)) rfl (ea_p (ev_prj qj2_1 (ev_varo rfl)) rfl (ea_nil)))) (fun b21 sq22 => ev_law_refused ((⟨w20.x0, w20.x1⟩ : (Hl2 (List Int) (List (Tp5 Int Int Int Int Int)))).x0) ((⟨w20.x0, w20.x1⟩ : (Hl2 (List Int) (List (Tp5 Int Int Int Int Int)))).x1) sq22) (fun _ => rfl))) (fun st23 => evx_ofp (ev_2tpp (o2_ne (by decide)) (ev_varo rfl) (ev_lstp (p := (⟨w20.x0, w20.x1⟩ : (Hl2 (List Int) (List (Tp5 Int Int Int Int Int))))) (ea_p (ev_var rfl) rfl (ea_p (ev_var rfl) rfl (ea_nil))) rfl (Nat.le_of_ble_eq_true rfl))))) (fun st23 => ru_as (ru_retp (z := Ct.rt ((false : Bool), st23)) (ev_bl _) rfl)) (fun st23 => ru_id (ru_kl rfl (ru_nil (z := Ct.nx ((() : Unit), st23)) rfl))))))) (fun _ => rfl) (fun s29 st30 => ru_env [.sh (en (script : Scr)), .sh (en (size4 : Int)), .sh (en (names_here6 : (List Int))), .sh (en (ropes_here11 : (List (Tp5 Int Int Int Int Int)))), .no, .no, .no, .no] rfl (ru_retx (F := fun r34 => (r34, st30)) (ev_2txp (o2_eq (by decide)) (ev_1tx fl_Town_size (ev_makep (ea_p (ev_1tp o1_list (ev_var rfl)) rfl (ea_p (ev_1tp o1_list (ev_var rfl)) rfl (ea_nil))) (ev_Town_init names_here6 ropes_here11 st30) rfl)) (ev_var rfl)) (fun _ => rfl))))))))))) (by rfl))
/-! ### plain: lists by whole numbers, loops -/
def gI {α : Type} (l : List α) (i : Int) (z : α) : α := l.getD i.toNat z
theorem atI_g {α : Type} {l : List α} {i : Int} (z : α) (h0 : 0 ≤ i) (h1 : i < l.length) : atI l i = some (gI l i z) := by
  obtain ⟨k, rfl⟩ := Int.eq_ofNat_of_zero_le h0
  have hk : k < l.length := by omega
  rw [atI_nat (List.getElem?_eq_getElem hk)]
  unfold gI
  rw [List.getD_eq_getElem?_getD, Int.toNat_natCast, List.getElem?_eq_getElem hk]; rfl
theorem gI_mem {α : Type} {l : List α} {i : Int} (z : α) (h0 : 0 ≤ i) (h1 : i < l.length) : gI l i z ∈ l := by
  unfold gI
  have hk : i.toNat < l.length := by omega
  rw [List.getD_eq_getElem?_getD, List.getElem?_eq_getElem hk]
  exact List.getElem_mem hk
theorem gI_get {α : Type} {l : List α} {i : Int} (z : α) {k : Nat} (hk : k < l.length) (h : i = k) : gI l i z = l[k] := by
  subst h
  unfold gI
  rw [List.getD_eq_getElem?_getD, Int.toNat_natCast, List.getElem?_eq_getElem hk]; rfl
theorem atI_mem {α : Type} {l : List α} {i : Int} (h0 : 0 ≤ i) (h1 : i < l.length) : ∃ x ∈ l, atI l i = some x := by
  obtain ⟨k, rfl⟩ := Int.eq_ofNat_of_zero_le h0
  have hk : k < l.length := by omega
  exact ⟨l[k], List.getElem_mem hk, atI_nat (List.getElem?_eq_getElem hk)⟩
theorem ixN_g {n : Nat} {i : Int} (h0 : 0 ≤ i) (h1 : i < n) : ixN n i = some i.toNat := by
  obtain ⟨k, rfl⟩ := Int.eq_ofNat_of_zero_le h0
  rw [ixN_nat (by omega)]; rfl
theorem setG_g {α : Type} {l : List α} {i : Int} {x : α} (h0 : 0 ≤ i) (h1 : i < l.length) : setG l i x = some (l.set i.toNat x) := by
  unfold setG; rw [ixN_g h0 h1]; rfl
theorem gI_set {α : Type} {l : List α} {i j : Int} {x z : α} (h0 : 0 ≤ i) (h1 : i < l.length) (h2 : 0 ≤ j) : gI (l.set i.toNat x) j z = if j = i then x else gI l j z := by
  unfold gI
  rw [List.getD_eq_getElem?_getD, List.getElem?_set]
  by_cases e : j = i
  · subst e
    rw [if_pos rfl, if_pos (by omega), if_pos rfl]; rfl
  · rw [if_neg (by omega), if_neg e, ← List.getD_eq_getElem?_getD]
theorem mem_rngI {lo x : Int} {n : Nat} : x ∈ rngI lo n ↔ lo ≤ x ∧ x < lo + n := by
  unfold rngI
  rw [List.mem_map]
  constructor
  · rintro ⟨k, hk, rfl⟩
    have := List.mem_range.mp hk
    omega
  · intro h
    exact ⟨(x - lo).toNat, List.mem_range.mpr (by omega), by omega⟩
theorem rngI_len (lo : Int) (n : Nat) : (rngI lo n).length = n := by unfold rngI; rw [List.length_map, List.length_range]
theorem rngI_succ (lo : Int) (n : Nat) : rngI lo (n + 1) = lo :: rngI (lo + 1) n := by
  unfold rngI
  rw [List.range_succ_eq_map, List.map_cons, List.map_map]
  refine congr (congrArg _ (by simp)) (List.map_congr_left fun k _ => ?_)
  simp; omega
theorem rngG0 {j : Int} (h0 : 0 ≤ j) (h : j ≤ 1000000) : rngG 0 j = some (rngI 0 j.toNat) := by
  rw [rngG_of (by decide) (by omega), Int.sub_zero]
theorem gI_rng {n : Nat} {i z : Int} (h0 : 0 ≤ i) (h1 : i < n) : gI (rngI 0 n) i z = i := by
  have hk : i.toNat < (rngI 0 n).length := by rw [rngI_len]; omega
  rw [gI_get z hk (by omega)]
  have e : (rngI 0 n)[i.toNat] = 0 + ((i.toNat : Nat) : Int) := by simp [rngI]
  rw [e]; omega
theorem gI_map {α β : Type} (F : α → β) {l : List α} {i : Int} (z : α) (z' : β) (h0 : 0 ≤ i) (h1 : i < l.length) : gI (l.map F) i z' = F (gI l i z) := by
  have hk : i.toNat < l.length := by omega
  rw [gI_get z hk (by omega), gI_get z' (by rw [List.length_map]; exact hk) (by omega), List.getElem_map]
/-- a list by its places -/
theorem list_ext_g {α : Type} {l m : List α} (z : α) (hl : l.length = m.length) (h : ∀ i : Int, 0 ≤ i → i < l.length → gI l i z = gI m i z) : l = m := by
  refine List.ext_getElem hl fun k h1 h2 => ?_
  have := h k (by omega) (by omega)
  rwa [gI_get z h1 rfl, gI_get z h2 rfl] at this
section
variable {α σ ρ : Type}
/-- by the number of turns -/
theorem foldT_num {step : α → σ → Option σ} (P : Nat → σ → Prop) {l : List α} {s : σ} (h0 : P 0 s) (h : ∀ k x s, x ∈ l → k < l.length → P k s → ∃ s', step x s = some s' ∧ P (k + 1) s') : ∃ s', foldT step l s = some s' ∧ P l.length s' := by
  have key : ∀ (m : List α) (k : Nat) (s : σ), P k s → k + m.length = l.length → (∀ x ∈ m, x ∈ l) → ∃ s', foldT step m s = some s' ∧ P l.length s' := fun m => by
    induction m with
    | nil => intro k s hp hk _; exact ⟨s, rfl, by rw [← hk]; exact hp⟩
    | cons x m ih =>
      intro k s hp hk hm
      rw [List.length_cons] at hk
      obtain ⟨s1, h1, h2⟩ := h k x s (hm x List.mem_cons_self) (by omega) hp
      obtain ⟨s2, h3, h4⟩ := ih (k + 1) s1 h2 (by omega) fun y hy => hm y (List.mem_cons_of_mem _ hy)
      exact ⟨s2, by rw [foldT, h1]; exact h3, h4⟩
  exact key l 0 s h0 (by omega) fun _ h => h
theorem forT_nx {step : α → σ → Option (Ct ρ σ)} (g : σ → α → σ) (P : σ → Prop) : ∀ (l : List α) (s : σ), P s → (∀ x ∈ l, ∀ s, P s → step x s = some (.nx (g s x)) ∧ P (g s x)) → forT step l s = some (.nx (l.foldl g s)) ∧ P (l.foldl g s)
  | [], s, hp, _ => ⟨rfl, hp⟩
  | x :: l, s, hp, h => by
    obtain ⟨h1, h2⟩ := h x List.mem_cons_self s hp
    rw [forT, h1]
    exact forT_nx g P l (g s x) h2 fun y hy => h y (List.mem_cons_of_mem _ hy)
theorem forT_unit {step : α → Unit → Option (Ct ρ Unit)} {l : List α} (h : ∀ x ∈ l, step x () = some (.nx ())) : forT step l () = some (.nx ()) := (forT_nx (fun _ _ => ()) (fun _ => True) l () trivial fun x hx _ _ => ⟨h x hx, trivial⟩).1
theorem forT_num {step : α → σ → Option (Ct ρ σ)} (P : Nat → σ → Prop) {l : List α} {s : σ} (h0 : P 0 s) (h : ∀ k x s, x ∈ l → k < l.length → P k s → ∃ s', step x s = some (.nx s') ∧ P (k + 1) s') : ∃ s', forT step l s = some (.nx s') ∧ P l.length s' := by
  have key : ∀ (m : List α) (k : Nat) (s : σ), P k s → k + m.length = l.length → (∀ x ∈ m, x ∈ l) → ∃ s', forT step m s = some (.nx s') ∧ P l.length s' := fun m => by
    induction m with
    | nil => intro k s hp hk _; exact ⟨s, rfl, by rw [← hk]; exact hp⟩
    | cons x m ih =>
      intro k s hp hk hm
      rw [List.length_cons] at hk
      obtain ⟨s1, h1, h2⟩ := h k x s (hm x List.mem_cons_self) (by omega) hp
      obtain ⟨s2, h3, h4⟩ := ih (k + 1) s1 h2 (by omega) fun y hy => hm y (List.mem_cons_of_mem _ hy)
      exact ⟨s2, by rw [forT, h1]; exact h3, h4⟩
  exact key l 0 s h0 (by omega) fun _ h => h
/-- a while by a measure -/
theorem whT_ex {c : σ → Option Bool} {step : σ → Option σ} (P : σ → Prop) (μ : σ → Nat) (h : ∀ s, P s → (c s = some false) ∨ (c s = some true ∧ ∃ s', step s = some s' ∧ P s' ∧ μ s' < μ s)) : ∀ (n : Nat) (s : σ), P s → μ s < n → ∃ s', whT c step n s = some s' ∧ P s' ∧ c s' = some false
  | 0, s, _, hn => absurd hn (by omega)
  | n + 1, s, hp, hn => by
    rcases h s hp with hc | ⟨hc, s1, h1, h2, h3⟩
    · exact ⟨s, by rw [whT, hc]; rfl, hp, hc⟩
    · obtain ⟨s2, h4, h5⟩ := whT_ex P μ h n s1 h2 (by omega)
      exact ⟨s2, by rw [whT, hc]; show ((step s).bind _) = _; rw [h1]; exact h4, h5⟩
/-- a comprehension of what is so somehow -/
theorem lcT_ex [En α] {β : Type} [En β] {f : α → Option β} (P : β → Prop) {l : List α} (h : ∀ x ∈ l, ∃ y, f x = some y ∧ P y) : ∃ m, lcT (fun _ => some true) f l = some m ∧ m.length = l.length ∧ ∀ y ∈ m, P y := by
  induction l with
  | nil => exact ⟨[], rfl, rfl, fun y hy => absurd hy List.not_mem_nil⟩
  | cons x l ih =>
    obtain ⟨y, h1, h2⟩ := h x List.mem_cons_self
    obtain ⟨m, h3, h4, h5⟩ := ih fun y hy => h y (List.mem_cons_of_mem _ hy)
    refine ⟨y :: m, by rw [lcT, h1, h3]; rfl, by rw [List.length_cons, List.length_cons, h4], fun z hz => ?_⟩
    rcases List.mem_cons.mp hz with rfl | hz
    · exact h2
    · exact h5 z hz
end
theorem gMul_b {i j : Int} (h1 : i.natAbs ≤ 2 ^ 250) (h2 : j.natAbs ≤ 2 ^ 250) : gMul i j = some (i * j) := by
  have : 2 ^ 251 ≤ 2 ^ 400000 := Nat.pow_le_pow_right (by decide) (by decide)
  refine gMul_of ?_ ?_
  all_goals
    generalize 2 ^ 400000 = z at this
    omega
theorem gDiv_b {i j : Int} (h : 0 < j) (h2 : j ≤ 2 ^ 250) : gDiv i j = some (i / j) := by
  refine gDiv_of h ?_
  have e : (2 : Int) ^ 8000 = ((2 ^ 8000 : Nat) : Int) := (Int.natCast_pow 2 8000).symm
  have : 2 ^ 251 ≤ 2 ^ 8000 := Nat.pow_le_pow_right (by decide) (by decide)
  rw [e]
  generalize 2 ^ 8000 = z at this
  omega
theorem gMod_b {i j : Int} (h : 0 < j) : gMod i j = some (i % j) := if_pos h
theorem gPow_10 {n : Int} (h : 0 ≤ n) (h2 : n ≤ 1000) : gPow 10 n = some (10 ^ n.toNat) := by
  unfold gPow
  rw [if_pos ⟨h, by omega, by decide⟩]
/-! ### plain: what a reading comes to -/
def Ok {β : Type} (t : Option β) (Q : β → Prop) : Prop := ∃ y, t = some y ∧ Q y
section
variable {α β σ ρ : Type}
theorem Ok.mk {y : β} {Q : β → Prop} (h : Q y) : Ok (some y) Q := ⟨y, rfl, h⟩
theorem Ok.bind {t : Option σ} {f : σ → Option β} {Q : β → Prop} (P : σ → Prop) (h : Ok t P) (k : ∀ s, P s → Ok (f s) Q) : Ok (t.bind f) Q := by
  obtain ⟨s, rfl, hp⟩ := h
  exact k s hp
theorem Ok.imp {t : Option β} {P Q : β → Prop} (h : Ok t P) (k : ∀ y, P y → Q y) : Ok t Q := let ⟨y, e, p⟩ := h; ⟨y, e, k y p⟩
theorem Ok.eq {t : Option β} {y : β} {Q : β → Prop} (e : t = some y) (h : Q y) : Ok t Q := ⟨y, e, h⟩
theorem Ok.ite {c : Prop} [Decidable c] {t u : Option β} {Q : β → Prop} (h : c → Ok t Q) (k : ¬ c → Ok u Q) : Ok (if c then t else u) Q := by
  by_cases e : c
  · rw [if_pos e]; exact h e
  · rw [if_neg e]; exact k e
theorem Ok.at {l : List α} {i : Int} {Q : α → Prop} (h0 : 0 ≤ i) (h1 : i < l.length) (k : ∀ x ∈ l, Q x) : Ok (atI l i) Q := by
  obtain ⟨x, hx, e⟩ := atI_mem h0 h1
  exact ⟨x, e, k x hx⟩
theorem Ok.num {step : α → σ → Option σ} {l : List α} {s : σ} (P : Nat → σ → Prop) (h0 : P 0 s) (h : ∀ k x s, x ∈ l → k < l.length → P k s → Ok (step x s) (P (k + 1))) : Ok (foldT step l s) (P l.length) := foldT_num P h0 h
theorem Ok.numC {step : α → σ → Option (Ct ρ σ)} {l : List α} {s : σ} (P : Nat → σ → Prop) (h0 : P 0 s) (h : ∀ k x s, x ∈ l → k < l.length → P k s → Ok (step x s) fun c => ∃ s', c = .nx s' ∧ P (k + 1) s') : Ok (forT step l s) fun c => ∃ s', c = .nx s' ∧ P l.length s' := by
  obtain ⟨s', h1, h2⟩ := forT_num (step := step) P h0 fun k x s hx hk hp => by
    obtain ⟨c, e1, s2, rfl, h3⟩ := h k x s hx hk hp
    exact ⟨s2, e1, h3⟩
  exact ⟨_, h1, s', rfl, h2⟩
theorem Ok.wh {c : σ → Option Bool} {step : σ → Option σ} {n : Nat} {s : σ} (P : σ → Prop) (μ : σ → Nat) (h0 : P s) (hn : μ s < n) (h : ∀ s, P s → Ok (c s) fun b => b = true → Ok (step s) fun s' => P s' ∧ μ s' < μ s) : Ok (whT c step n s) fun s' => P s' ∧ c s' = some false := by
  obtain ⟨s', h1, h2, h3⟩ := whT_ex P μ (fun s hp => by
    obtain ⟨b, e, k⟩ := h s hp
    cases b with
    | false => exact .inl e
    | true => obtain ⟨s2, e2, h4, h5⟩ := k rfl; exact .inr ⟨e, s2, e2, h4, h5⟩) n s h0 hn
  exact ⟨s', h1, h2, h3⟩
theorem Ok.lc [En α] [En β] {f : α → Option β} {l : List α} (P : β → Prop) (hl : l.length ≤ 1000) (h : ∀ x ∈ l, Ok (f x) P) : Ok ((lcT (fun _ => some true) f l).bind szG) fun m => m.length = l.length ∧ ∀ y ∈ m, P y := by
  obtain ⟨m, h1, h2, h3⟩ := lcT_ex P h
  refine ⟨m, ?_, h2, h3⟩
  rw [h1]
  exact szG_of (by omega)
end
section
variable {α β σ ρ : Type}
theorem Ok.rngA {step : Int → σ → Option σ} {n : Nat} (P : Nat → σ → Prop) (h : ∀ (k : Nat) s, k < n → P k s → Ok (step (k : Int) s) (P (k + 1))) : ∀ (m i : Nat) (s : σ), i + m = n → P i s → Ok (foldT step (rngI (i : Nat) m) s) (P n)
  | 0, i, s, hi, hp => by
    have : i = n := by omega
    subst this
    exact ⟨s, rfl, hp⟩
  | m + 1, i, s, hi, hp => by
    obtain ⟨s1, h1, h2⟩ := h i s (by omega) hp
    have := Ok.rngA P h m (i + 1) s1 (by omega) h2
    obtain ⟨s2, h3, h4⟩ := this
    exact ⟨s2, by rw [rngI_succ, foldT, h1]; exact h3, h4⟩
theorem Ok.rng {step : Int → σ → Option σ} {n : Nat} {s : σ} (P : Nat → σ → Prop) (h0 : P 0 s) (h : ∀ (k : Nat) s, k < n → P k s → Ok (step (k : Int) s) (P (k + 1))) : Ok (foldT step (rngI 0 n) s) (P n) := Ok.rngA P h n 0 s (by omega) h0
end
theorem repG_of {α : Type} [En α] {l : List α} {k : Nat} (h : l.length * k ≤ 1000) (hk : k ≤ 1000) : repG l (k : Int) = some (List.replicate k l).flatten := by
  unfold repG
  rw [if_pos ⟨by omega, by omega, by rw [Int.toNat_natCast]; exact x_sz h⟩, Int.toNat_natCast]
/-! ### plain: names -/
structure NmOk (ns : List Int) : Prop where
  len : 1 ≤ ns.length ∧ ns.length ≤ 10
  nn : ∀ x ∈ ns, 0 ≤ x
  nd : ns.Nodup
theorem names_while {l : List Int} (x : Int) (h0 : 0 ≤ x) (hl : l.length ≤ 100) : Ok (whT (fun (s : Int) => some (decide (s ∈ l))) (fun (s : Int) => some (s + 1)) 100000 x) fun y => 0 ≤ y ∧ y ∉ l := by
  have key : ∀ (m : Nat) (s : Int), (l.filter fun y => decide (s ≤ y)).length ≤ m → 0 ≤ s → ∀ n, m < n → Ok (whT (fun (s : Int) => some (decide (s ∈ l))) (fun (s : Int) => some (s + 1)) n s) fun y => 0 ≤ y ∧ y ∉ l := fun m => by
    induction m with
    | zero =>
      intro s hm hs n hn
      obtain ⟨n, rfl⟩ : ∃ k, n = k + 1 := ⟨n - 1, by omega⟩
      have : s ∉ l := fun q => by
        have : s ∈ l.filter fun y => decide (s ≤ y) := List.mem_filter.mpr ⟨q, by simp⟩
        have := List.length_pos_of_mem this
        omega
      exact ⟨s, by rw [whT]; simp [this], hs, this⟩
    | succ m ih =>
      intro s hm hs n hn
      obtain ⟨n, rfl⟩ : ∃ k, n = k + 1 := ⟨n - 1, by omega⟩
      by_cases hin : s ∈ l
      · have lt : (l.filter fun y => decide (s + 1 ≤ y)).length < (l.filter fun y => decide (s ≤ y)).length := by
          clear ih hm hn
          induction l with
          | nil => cases hin
          | cons y l ih =>
            have le : ∀ l : List Int, (l.filter fun y => decide (s + 1 ≤ y)).length ≤ (l.filter fun y => decide (s ≤ y)).length := fun l => by
              induction l with
              | nil => exact Nat.le_refl _
              | cons z l ih =>
                rw [List.filter_cons, List.filter_cons]
                by_cases c1 : s + 1 ≤ z
                · have c2 : s ≤ z := by omega
                  simp only [c1, c2, decide_true, if_true, List.length_cons]; omega
                · by_cases c2 : s ≤ z
                  · simp only [c1, c2, decide_true, decide_false, if_true, List.length_cons]
                    simp; omega
                  · simp only [c1, c2, decide_false]; simpa using ih
            rw [List.filter_cons, List.filter_cons]
            by_cases e : s = y
            · subst e
              have := le l
              have c1 : ¬ (s + 1 ≤ s) := by omega
              simp only [c1, decide_false, Int.le_refl, decide_true, if_true, List.length_cons]
              simp; omega
            · have hin' : s ∈ l := by
                rcases List.mem_cons.mp hin with q | q
                · exact absurd q e
                · exact q
              have := ih (by simp at hl; omega) hin'
              by_cases c1 : s + 1 ≤ y
              · have c2 : s ≤ y := by omega
                simp only [c1, c2, decide_true, if_true, List.length_cons]; omega
              · by_cases c2 : s ≤ y
                · exact absurd (by omega : s = y) e
                · simp only [c1, c2, decide_false]; simpa using this
        obtain ⟨y, h1, h2⟩ := ih (s + 1) (by omega) (by omega) n (by omega)
        exact ⟨y, by rw [whT]; simp only [hin, decide_true, Option.bind_some, if_true]; exact h1, h2⟩
      · exact ⟨s, by rw [whT]; simp [hin], hs, hin⟩
  exact key l.length x (List.length_filter_le _ _) h0 100000 (by omega)
/-! ### plain: ropes, live ropes, rows at hand -/
abbrev RpT := Tp5 Int Int Int Int Int
structure RpOk (n : Int) (r : RpT) : Prop where
  a : 0 ≤ r.x0 ∧ r.x0 < n
  b : 0 ≤ r.x1 ∧ r.x1 < n
  ne : r.x0 ≠ r.x1
  c : 1 ≤ r.x2
  w : 1 ≤ r.x3 ∧ r.x3 ≤ 4
  l : 1 ≤ r.x4 ∧ r.x4 ≤ 7
/-- rising numbers of ropes -/
structure LvOk (m : Int) (l : List Int) : Prop where
  lt : ∀ k ∈ l, 0 ≤ k ∧ k < m
  up : l.Pairwise (· < ·)
theorem LvOk.len {m : Int} {l : List Int} (h : LvOk m l) (hm : 0 ≤ m) : (l.length : Int) ≤ m := by
  have key : ∀ (l : List Int) (a : Int), (∀ k ∈ l, a ≤ k ∧ k < m) → l.Pairwise (· < ·) → a ≤ m → (l.length : Int) ≤ m - a := fun l => by
    induction l with
    | nil => intro a _ _ ha; simp; omega
    | cons x l ih =>
      intro a h1 h2 ha
      obtain ⟨h3, h4⟩ := List.pairwise_cons.mp h2
      have hx := h1 x List.mem_cons_self
      have := ih (x + 1) (fun k hk => ⟨by have := h3 k hk; omega, (h1 k (List.mem_cons_of_mem _ hk)).2⟩) h4 (by omega)
      rw [List.length_cons]; omega
  have := key l 0 h.lt h.up hm
  omega
theorem LvOk.mono {m m' : Int} {l : List Int} (h : LvOk m l) (hm : m ≤ m') : LvOk m' l := ⟨fun k hk => by have := h.lt k hk; omega, h.up⟩
theorem cell_ok (sc : Scr) (k : Int) (h : 0 ≤ k) : Ok (f_law_cell_at sc k) fun _ => True := by
  unfold f_law_cell_at
  refine Ok.ite (fun c => ?_) fun _ => Ok.mk trivial
  have c := of_decide_eq_true c
  exact Ok.bind _ (.at h c fun _ _ => trivial) fun _ _ => Ok.mk trivial
/-! ### plain: lists by houses, the town, dues -/
section
variable {α β σ : Type}
theorem foldT_pre {step : α → σ → Option σ} (P : List α → σ → Prop) : ∀ (m pre : List α) (s : σ) (l : List α), pre ++ m = l → P pre s → (∀ pre x s, (∃ r, pre ++ x :: r = l) → P pre s → ∃ s', step x s = some s' ∧ P (pre ++ [x]) s') → ∃ s', foldT step m s = some s' ∧ P l s'
  | [], pre, s, l, e, hp, _ => ⟨s, rfl, by rw [← e, List.append_nil]; exact hp⟩
  | x :: m, pre, s, l, e, hp, h => by
    obtain ⟨s1, h1, h2⟩ := h pre x s ⟨m, e⟩ hp
    obtain ⟨s2, h3, h4⟩ := foldT_pre P m (pre ++ [x]) s1 l (by rw [← e]; simp) h2 h
    exact ⟨s2, by rw [foldT, h1]; exact h3, h4⟩
theorem bind_eq {t : Option σ} {s : σ} {f : σ → Option β} {r : Option β} (h : t = some s) (k : f s = r) : t.bind f = r := by rw [h]; exact k
/-- the state is known from what was gone through -/
theorem foldT_is {step : α → σ → Option σ} {l : List α} {s : σ} (G : List α → σ) (h0 : s = G []) (h : ∀ pre x, (∃ r, pre ++ x :: r = l) → step x (G pre) = some (G (pre ++ [x]))) : foldT step l s = some (G l) := by
  obtain ⟨s', e, hs⟩ := foldT_pre (fun pre s => s = G pre) l [] s l rfl h0 fun pre x s hx hs => ⟨_, by rw [hs]; exact h pre x hx, rfl⟩
  rw [e, hs]
def bk (n : Nat) (P : List (Int × α)) : List (List α) := (rngI 0 n).map fun h => (P.filter fun p => decide (p.1 = h)).map (·.2)
theorem bk_len (n : Nat) (P : List (Int × α)) : (bk n P).length = n := by unfold bk; rw [List.length_map, rngI_len]
theorem bk_get {n : Nat} (P : List (Int × α)) {h : Int} (h0 : 0 ≤ h) (h1 : h < n) : gI (bk n P) h [] = (P.filter fun p => decide (p.1 = h)).map (·.2) := by
  unfold bk
  rw [gI_map _ 0 [] h0 (by rw [rngI_len]; exact h1), gI_rng h0 h1]
theorem bk_push [En α] {n : Nat} {P : List (Int × α)} {j : Int} {x : α} (hP : P.length ≤ 1000) (h0 : 0 ≤ j) (h1 : j < n) : app2G (bk n P) j x = some (bk n (P ++ [(j, x)])) := by
  unfold app2G
  rw [bk_len, ixN_g h0 h1]
  have hk : j.toNat < (bk n P).length := by rw [bk_len]; omega
  show (((bk n P)[j.toNat]?).bind fun r => if r.length < sizeLine then some ((bk n P).set j.toNat (r ++ [x])) else none) = _
  rw [List.getElem?_eq_getElem hk]
  have e : (bk n P)[j.toNat] = (P.filter fun p => decide (p.1 = j)).map (·.2) := by
    rw [← gI_get [] hk (show j = _ by omega), bk_get P h0 h1]
  show (if ((bk n P)[j.toNat]).length < sizeLine then some ((bk n P).set j.toNat ((bk n P)[j.toNat] ++ [x])) else none) = _
  rw [e, if_pos (x_sz2 (by rw [List.length_map]; exact Nat.le_trans (List.length_filter_le _ _) hP))]
  congr 1
  refine list_ext_g [] (by rw [List.length_set, bk_len, bk_len]) fun i h2 h3 => ?_
  rw [List.length_set, bk_len] at h3
  rw [gI_set h0 (by rw [bk_len]; exact h1) h2, bk_get P h2 h3, bk_get (P ++ [(j, x)]) h2 h3, List.filter_append, List.map_append]
  by_cases q : i = j
  · subst q
    rw [if_pos rfl]; simp
  · have q' : ¬ j = i := fun z => q z.symm
    rw [if_neg q]; simp [q']
end
theorem bk_nil {α : Type} (n : Nat) : bk n ([] : List (Int × α)) = List.replicate n [] := by
  unfold bk
  show (rngI 0 n).map (fun _ => []) = _
  rw [List.map_const', rngI_len]
def tP (rs : List RpT) : List (Int × Int) := (enumT 0 rs).flatMap fun x => [(x.x1.x0, x.x0), (x.x1.x1, x.x0)]
noncomputable def mkT (ns : List Int) (rs : List RpT) : O_Town := ⟨ns.length, rs.length, ns, rs, bk ns.length (tP rs)⟩
theorem ask_rope_ok {n : Int} {r : RpT} (h : RpOk n r) : f_ask_rope n r = some () := by
  obtain ⟨⟨a1, a2⟩, ⟨b1, b2⟩, ne, c, ⟨w1, w2⟩, l1, l2⟩ := h
  have c' : ¬ r.x2 < 1 := by omega
  simp [f_ask_rope, a1, a2, b1, b2, ne, c', w1, w2, l1, l2]
theorem ask_names_ok {ns : List Int} (h : NmOk ns) : f_ask_names ns = some () := by
  have hl := h.len
  have h1 : (1 : Int) ≤ (ns.length : Int) := by omega
  have h2 : (ns.length : Int) ≤ 10 := by omega
  unfold f_ask_names
  rw [rngG0 (by omega) (by omega), Int.toNat_natCast]
  simp only [h1, h2, decide_true, Bool.and_self, Bool.not_true, Bool.false_eq_true, if_false, Option.bind_some]
  have : Ok (foldT (fun (k2 : Int) (s1 : Unit) => (((atI ns k2).bind fun x3 => some (decide (x3 < (0 : Int)))).bind fun p5 => if p5 = true then some true else (atI ns k2).bind fun x4 => some (decide (x4 ∈ (cutG ns none (some k2))))).bind fun p6 => if p6 = true then none else some ()) (rngI 0 ns.length) ()) fun _ => True := by
    refine Ok.rng (fun _ _ => True) trivial fun k s hk _ => ?_
    have e : atI ns (k : Int) = some ns[k] := atI_nat (List.getElem?_eq_getElem hk)
    have h0 : ¬ ns[k] < 0 := by have := h.nn _ (List.getElem_mem hk); omega
    have hin : ns[k] ∉ ns.take k := fun hm => by
      obtain ⟨j, hj, e⟩ := List.getElem_of_mem hm
      rw [List.length_take] at hj
      rw [List.getElem_take] at e
      have e2 : ns[j]? = ns[k]? := by rw [List.getElem?_eq_getElem (by omega), List.getElem?_eq_getElem hk, e]
      have := (List.getElem?_inj (by omega) h.nd).mp e2
      omega
    rw [e, cutG_to]
    exact ⟨(), by simp [h0, hin], trivial⟩
  obtain ⟨u, e, _⟩ := this
  rw [e]; rfl
theorem enumT_len {α : Type} [En α] : ∀ (l : List α) (i : Int), (enumT i l).length = l.length
  | [], _ => rfl
  | x :: xs, i => by rw [enumT, List.length_cons, List.length_cons, enumT_len xs]
theorem enumT_mem {α : Type} [En α] : ∀ {l : List α} {i : Int} {p : Tp2 Int α}, p ∈ enumT i l → p.x1 ∈ l
  | [], _, _, h => absurd h List.not_mem_nil
  | x :: xs, i, p, h => by
    rw [enumT] at h
    rcases List.mem_cons.mp h with rfl | h
    · exact List.mem_cons_self
    · exact List.mem_cons_of_mem _ (enumT_mem h)
theorem flat2_len {α β : Type} (F : α → β × β) : ∀ l : List α, (l.flatMap fun x => [(F x).1, (F x).2]).length = 2 * l.length
  | [] => rfl
  | x :: xs => by rw [List.flatMap_cons, List.length_append, flat2_len F xs, List.length_cons]; simp; omega
theorem town_ok {ns : List Int} (hn : NmOk ns) {rs : List RpT} (hr : ∀ r ∈ rs, RpOk ns.length r) (hl : rs.length ≤ 20) : f_Town_init ns rs = some (mkT ns rs) := by
  have hnl := hn.len
  unfold f_Town_init mkT
  rw [ask_names_ok hn]
  have h20 : ¬ ((20 : Int) < (rs.length : Int)) := by omega
  simp only [Option.bind_some, h20, decide_false, Bool.false_eq_true, if_false]
  rw [szG_of (by rw [List.length_map]; omega)]
  simp only [Option.bind_some]
  refine bind_eq (foldT_is (fun pre => bk ns.length (pre.flatMap fun x : Tp2 Int RpT => [(x.x1.x0, x.x0), (x.x1.x1, x.x0)])) ?_ fun pre x hx => ?_) rfl
  · show _ = bk _ []
    rw [bk_nil, List.map_const']
  · obtain ⟨r, hx⟩ := hx
    have hlen : pre.length + 1 ≤ rs.length := by
      have := congrArg List.length hx
      rw [enumT_len, List.length_append, List.length_cons] at this
      omega
    have ok := hr x.x1 (enumT_mem (l := rs) (i := 0) (by rw [← hx]; simp))
    have hf := flat2_len (fun x : Tp2 Int RpT => ((x.x1.x0, x.x0), (x.x1.x1, x.x0))) pre
    dsimp only at hf
    rw [List.flatMap_append]
    show _ = some (bk ns.length ((pre.flatMap fun x : Tp2 Int RpT => [(x.x1.x0, x.x0), (x.x1.x1, x.x0)]) ++ ([(x.x1.x0, x.x0)] ++ [(x.x1.x1, x.x0)])))
    generalize (pre.flatMap fun x : Tp2 Int RpT => [(x.x1.x0, x.x0), (x.x1.x1, x.x0)]) = Q at hf ⊢
    rw [ask_rope_ok ok]
    simp only [Option.bind_some]
    rw [bk_push (by omega) ok.a.1 ok.a.2]
    simp only [Option.bind_some]
    rw [bk_push (by rw [List.length_append]; simp; omega) ok.b.1 ok.b.2, List.append_assoc]
    rfl
theorem cutG_len {α : Type} (xs : List α) (a b : Nat) : (cutG xs (some (a : Int)) (some (b : Int))).length ≤ b - a := by
  rw [cutG_mid, List.length_drop, List.length_take]; omega
theorem names01_ok {n : Int} (h1 : 1 ≤ n) (h2 : n ≤ 10) (sc : Scr) : Ok (f_law_names sc n) fun ns => NmOk ns ∧ (ns.length : Int) = n := by
  unfold f_law_names
  rw [rngG0 (by omega) (by omega)]
  simp only [Option.bind_some]
  refine Ok.bind _ (Ok.num (fun k s => s.length = k ∧ (∀ x ∈ s, 0 ≤ x) ∧ s.Nodup) ⟨rfl, fun x hx => absurd hx List.not_mem_nil, List.nodup_nil⟩ fun k x s hx hk hp => ?_) fun s hp => ?_
  · obtain ⟨p1, p2, p3⟩ := hp
    have hx := mem_rngI.mp hx
    rw [rngI_len] at hk
    refine Ok.bind (fun z => 0 ≤ z) ?_ fun number hnu => ?_
    · refine Ok.bind _ (cell_ok sc _ (by omega)) fun c _ => ?_
      rw [gPow_10 (by decide) (by decide)]
      simp only [Option.bind_some]
      rw [gMul_b (by decide) (by decide)]
      simp only [Option.bind_some]
      rw [gMod_b (by decide)]
      exact Ok.mk (Int.emod_nonneg _ (by decide))
    · refine Ok.bind (fun z => 0 ≤ z) ?_ fun name hna => ?_
      · rw [gPow_10 (by decide) (by decide)]
        simp only [Option.bind_some]
        rw [gMod_b (by decide)]
        exact Ok.mk (Int.emod_nonneg _ (by decide))
      refine Ok.bind (fun z => 0 ≤ z) (Ok.ite (fun _ => ?_) fun _ => Ok.mk hna) fun nm hnm => ?_
      · rw [gMod_b (by omega)]
        exact Ok.mk (Int.emod_nonneg _ (by omega))
      refine Ok.bind _ (names_while nm hnm (by omega)) fun y hy => ?_
      rw [appG_of (by omega)]
      refine Ok.mk ⟨by rw [List.length_append]; simp [p1], fun w hw => ?_, ?_⟩
      · rcases List.mem_append.mp hw with hw | hw
        · exact p2 w hw
        · rw [List.mem_singleton.mp hw]; exact hy.1
      · refine List.nodup_append.mpr ⟨p3, by simp, fun a ha b hb => ?_⟩
        rw [List.mem_singleton.mp hb]
        exact fun e => hy.2 (by rw [← e]; exact ha)
  · rw [rngI_len] at hp
    exact Ok.mk ⟨⟨by omega, hp.2.1, hp.2.2⟩, by omega⟩
theorem ends_ne {n a b : Int} (h1 : 2 ≤ n) (a1 : 0 ≤ a) (a2 : a < n) (b1 : 0 ≤ b) (b2 : b < n - 1) : a ≠ (a + 1 + b) % n := by
  by_cases q : a + 1 + b < n
  · rw [Int.emod_eq_of_lt (by omega) q]; omega
  · have : (a + 1 + b) % n = a + 1 + b - n := by
      rw [← Int.sub_emod_right, Int.emod_eq_of_lt (by omega) (by omega)]
    rw [this]; omega
theorem rope01_ok {n : Int} (h1 : 2 ≤ n) (h2 : n ≤ 10) (c : Int) : Ok (f_law_rope c n) (RpOk n) := by
  unfold f_law_rope
  rw [gMod_b (by omega), gDiv_b (by omega) (by omega)]
  simp only [Option.bind_some]
  rw [gMod_b (by omega), gDiv_b (by omega) (by omega)]
  simp only [Option.bind_some]
  rw [gMod_b (by omega), gPow_10 (by decide) (by decide)]
  simp only [Option.bind_some]
  rw [gMod_b (by decide)]
  have b1 : 0 ≤ c / n % (n - 1) := Int.emod_nonneg _ (by omega)
  have b2 : c / n % (n - 1) < n - 1 := Int.emod_lt_of_pos _ (by omega)
  have a1 : 0 ≤ c % n := Int.emod_nonneg _ (by omega)
  have a2 : c % n < n := Int.emod_lt_of_pos _ (by omega)
  have q := ends_ne h1 a1 a2 b1 b2
  have o1 : 0 ≤ (c % n + 1 + c / n % (n - 1)) % n := Int.emod_nonneg _ (by omega)
  have o2 : (c % n + 1 + c / n % (n - 1)) % n < n := Int.emod_lt_of_pos _ (by omega)
  generalize c / n / (n - 1) = d
  refine Ok.mk ⟨⟨a1, a2⟩, ⟨o1, o2⟩, q, ?_, ?_, ?_⟩
  · show 1 ≤ 1 + d / 28 % (10 ^ (Int.toNat 60) - 1)
    have : 0 ≤ d / 28 % (10 ^ (Int.toNat 60) - 1) := Int.emod_nonneg _ (by decide)
    omega
  · show 1 ≤ 1 + d % 4 ∧ 1 + d % 4 ≤ 4
    omega
  · show 1 ≤ 1 + d / 4 % 7 ∧ 1 + d / 4 % 7 ≤ 7
    omega
theorem ropes01_ok {n : Int} (h1 : 1 ≤ n) (h2 : n ≤ 10) (sc : Scr) : Ok (f_law_ropes sc n) fun rs => rs.length ≤ 20 ∧ ∀ r ∈ rs, RpOk n r := by
  unfold f_law_ropes
  refine Ok.ite (fun _ => Ok.mk ⟨by decide, fun r hr => absurd hr List.not_mem_nil⟩) fun hn => ?_
  have hn : ¬ n = 1 := by simpa using hn
  have hl : (cutG sc.l (some (11 : Int)) (some (31 : Int))).length ≤ 20 := cutG_len sc.l 11 31
  refine Ok.bind _ (Ok.lc (RpOk n) (by omega) fun x _ => rope01_ok (by omega) h2 x) fun m hm => Ok.mk ⟨by omega, hm.2⟩
/-! ### plain: what is no town -/
theorem cutG_fr {α : Type} (xs : List α) (k : Nat) : cutG xs (some (k : Int)) none = xs.drop k := by
  unfold cutG
  rw [HT.sIx_nat, HT.sIx_none]
  by_cases h : k ≤ xs.length
  · rw [Nat.min_eq_left h, List.take_of_length_le (by rw [List.length_drop]; omega)]
  · rw [Nat.min_eq_right (by omega), List.drop_of_length_le (by omega), List.drop_of_length_le (by omega)]; simp
section
variable {α ρ σ : Type}
theorem forT_rt {step : α → Unit → Option (Ct ρ Unit)} {r : ρ} : ∀ {l : List α}, (∀ x ∈ l, step x () = some (.nx ()) ∨ step x () = some (.rt r)) → (∃ x ∈ l, step x () = some (.rt r)) → forT step l () = some (.rt r)
  | [], _, h => by obtain ⟨x, hx, _⟩ := h; cases hx
  | x :: l, ha, h => by
    rw [forT]
    rcases ha x List.mem_cons_self with e | e
    · rw [e]
      refine forT_rt (fun y hy => ha y (List.mem_cons_of_mem _ hy)) ?_
      obtain ⟨y, hy, ey⟩ := h
      rcases List.mem_cons.mp hy with rfl | hy
      · rw [e] at ey; cases ey
      · exact ⟨y, hy, ey⟩
    · rw [e]; rfl
theorem forT_appnx {step : α → σ → Option (Ct ρ σ)} : ∀ {l m : List α} {s s' : σ}, forT step l s = some (.nx s') → forT step (l ++ m) s = forT step m s'
  | [], m, s, s', h => by cases h; rfl
  | x :: l, m, s, s', h => by
    rw [List.cons_append, forT]
    rw [forT] at h
    cases e : step x s with
    | none => rw [e] at h; cases h
    | some c =>
      rw [e] at h
      cases c with
      | rt r => cases h
      | nx s1 => exact forT_appnx (l := l) h
theorem enumT_app [En α] : ∀ (l m : List α) (i : Int), enumT i (l ++ m) = enumT i l ++ enumT (i + l.length) m
  | [], m, i => by simp [enumT]
  | x :: l, m, i => by
    rw [List.cons_append, enumT, enumT, enumT_app l m (i + 1), List.cons_append, List.length_cons]
    congr 3
    omega
end
section
variable {ns : List Int} {rs : List RpT} {st : Sto}
theorem nmOk_of (hl : 1 ≤ ns.length ∧ ns.length ≤ 10) (h : ∀ k : Nat, (hk : k < ns.length) → ¬ ns[k] < 0 ∧ ns[k] ∉ ns.take k) : NmOk ns := by
  refine ⟨hl, fun x hx => ?_, ?_⟩
  · obtain ⟨k, hk, rfl⟩ := List.getElem_of_mem hx
    have := (h k hk).1
    omega
  · refine List.pairwise_iff_getElem.mpr fun i j hi hj ij e => (h j hj).2 ?_
    rw [← e]
    exact List.mem_take_iff_getElem.mpr ⟨i, by omega, rfl⟩
theorem xnames_bad (h : ¬ NmOk ns) : f_Xq_ask_names ns = some (txM "BadTown") := by
  unfold f_Xq_ask_names
  by_cases hl : 1 ≤ ns.length ∧ ns.length ≤ 10
  · have c1 : decide ((1 : Int) ≤ (ns.length : Int)) = true := decide_eq_true (by omega)
    have c2 : decide ((ns.length : Int) ≤ (10 : Int)) = true := decide_eq_true (by omega)
    rw [c1, c2]
    simp only [Bool.and_self, Bool.not_true, Bool.false_eq_true, if_false]
    rw [rngG0 (by omega) (by omega), Int.toNat_natCast]
    simp only [Option.bind_some]
    have key : ∀ k : Nat, (hk : k < ns.length) → (((atI ns (k : Int)).bind fun x3 => some (decide (x3 < (0 : Int)))).bind fun p5 => if p5 = true then some true else (atI ns (k : Int)).bind fun x4 => some (decide (x4 ∈ (cutG ns none (some (k : Int)))))) = some (decide (ns[k] < 0) || decide (ns[k] ∈ ns.take k)) := fun k hk => by
      rw [atI_nat (List.getElem?_eq_getElem hk), cutG_to]
      simp only [Option.bind_some]
      cases decide (ns[k] < 0) <;> rfl
    rw [forT_rt (r := txM "BadTown")]
    · rfl
    · intro x hx
      have hx := mem_rngI.mp hx
      obtain ⟨k, rfl⟩ := Int.eq_ofNat_of_zero_le (show 0 ≤ x by omega)
      rw [key k (by omega)]
      simp only [Option.bind_some]
      split
      · exact .inr rfl
      · exact .inl rfl
    · refine Classical.byContradiction fun q => h (nmOk_of hl fun k hk => ?_)
      refine Classical.byContradiction fun q2 => q ⟨(k : Int), mem_rngI.mpr (by omega), ?_⟩
      rw [key k hk]
      simp only [Option.bind_some]
      rw [if_pos]
      by_cases c : ns[k] < 0
      · simp [c]
      · have : ns[k] ∈ ns.take k := Classical.byContradiction fun q3 => q2 ⟨c, q3⟩
        simp [this]
  · by_cases c1 : 1 ≤ ns.length
    · have c2 : decide ((ns.length : Int) ≤ (10 : Int)) = false := decide_eq_false (by omega)
      rw [c2]; simp
    · have c2 : decide ((1 : Int) ≤ (ns.length : Int)) = false := decide_eq_false (by omega)
      rw [c2]; simp
theorem xnames_good (h : NmOk ns) : f_Xq_ask_names ns = none := by
  have hl := h.len
  unfold f_Xq_ask_names
  have c1 : decide ((1 : Int) ≤ (ns.length : Int)) = true := decide_eq_true (by omega)
  have c2 : decide ((ns.length : Int) ≤ (10 : Int)) = true := decide_eq_true (by omega)
  rw [c1, c2]
  simp only [Bool.and_self, Bool.not_true, Bool.false_eq_true, if_false]
  rw [rngG0 (by omega) (by omega), Int.toNat_natCast]
  simp only [Option.bind_some]
  rw [forT_unit]
  · rfl
  · intro x hx
    have hx := mem_rngI.mp hx
    obtain ⟨k, rfl⟩ := Int.eq_ofNat_of_zero_le (show 0 ≤ x by omega)
    have hk : k < ns.length := by omega
    rw [atI_nat (List.getElem?_eq_getElem hk), cutG_to]
    simp only [Option.bind_some]
    have a := h.nn _ (List.getElem_mem hk)
    have a' : ¬ ns[k] < 0 := by omega
    have b : ns[k] ∉ ns.take k := fun q => by
      obtain ⟨i, hi, e⟩ := List.mem_take_iff_getElem.mp q
      exact List.pairwise_iff_getElem.mp h.nd i k (by omega) hk (by omega) e
    simp [a', b]
theorem xrope_good {n : Int} {r : RpT} (h : RpOk n r) : f_Xq_ask_rope n r = none := by
  obtain ⟨⟨a1, a2⟩, ⟨b1, b2⟩, ne, c, ⟨w1, w2⟩, l1, l2⟩ := h
  unfold f_Xq_ask_rope
  have c' : ¬ r.x2 < 1 := by omega
  simp [a1, a2, b1, b2, ne, c', w1, w2, l1, l2]
theorem xrope_bad {n : Int} {r : RpT} (h : ¬ RpOk n r) : f_Xq_ask_rope n r = some (txM "BadTown") := by
  unfold f_Xq_ask_rope
  split
  · rfl
  · rename_i h1
    rw [if_pos]
    simp only [Bool.or_eq_true, Bool.not_eq_true', Bool.and_eq_false_imp, decide_eq_true_eq, decide_eq_false_iff_not, not_or] at h1 ⊢
    refine Classical.byContradiction fun q => h ?_
    simp only [not_or] at q
    obtain ⟨h1, h2, h3⟩ := h1
    obtain ⟨q1, q2, q3⟩ := q
    refine ⟨?_, ?_, h3, by omega, ?_, ?_⟩ <;> omega
theorem xtown_names (h : ¬ NmOk ns) : f_Xq_Town_init ns rs = some (txM "BadTown") := by
  unfold f_Xq_Town_init
  rw [xnames_bad h]; rfl
theorem xtown_many (h : NmOk ns) (hl : 20 < rs.length) : f_Xq_Town_init ns rs = some (txM "BadTown") := by
  unfold f_Xq_Town_init
  rw [xnames_good h, ask_names_ok h]
  simp only [Option.elim_none, Option.bind_some]
  rw [if_pos (decide_eq_true (by omega))]
theorem xtown_rope (h : NmOk ns) {pre post : List RpT} {b : RpT} (hl : (pre ++ b :: post).length ≤ 20) (hp : ∀ r ∈ pre, RpOk ns.length r) (hb : ¬ RpOk ns.length b) : f_Xq_Town_init ns (pre ++ b :: post) = some (txM "BadTown") := by
  have hnl := h.len
  unfold f_Xq_Town_init
  rw [xnames_good h, ask_names_ok h]
  simp only [Option.elim_none, Option.bind_some]
  rw [if_neg (by rw [decide_eq_true_eq]; omega), szG_of (by rw [List.length_map]; omega)]
  simp only [Option.bind_some]
  rw [enumT_app, show enumT ((0 : Int) + pre.length) (b :: post) = ⟨(0 : Int) + pre.length, b⟩ :: enumT ((0 : Int) + pre.length + 1) post from rfl]
  rw [List.length_append, List.length_cons] at hl
  obtain ⟨s', e, Q, hs, hq⟩ := forT_num (l := enumT 0 pre) (fun k (s : List (List Int)) => ∃ Q : List (Int × Int), s = bk ns.length Q ∧ Q.length = 2 * k) (s := ns.map fun _ => []) (step := fun (x6 : (Tp2 Int (Tp5 Int Int Int Int Int))) (s5 : (List (List Int))) => (f_Xq_ask_rope (ns.length : Int) x6.x1).elim ((f_ask_rope (ns.length : Int) x6.x1).bind fun u15 => (app2G s5 x6.x1.x0 x6.x0).bind fun near9 => (app2G near9 x6.x1.x1 x6.x0).bind fun near12 => some (Ct.nx near12)) fun x16 => some (Ct.rt x16)) ⟨[], by rw [bk_nil, List.map_const'], rfl⟩ fun k x s hx hk hp' => by
    obtain ⟨Q, rfl, hQ⟩ := hp'
    have ok := hp _ (enumT_mem hx)
    rw [enumT_len] at hk
    rw [xrope_good ok, ask_rope_ok ok]
    simp only [Option.elim_none, Option.bind_some]
    rw [bk_push (by omega) ok.a.1 ok.a.2]
    simp only [Option.bind_some]
    rw [bk_push (by rw [List.length_append]; simp; omega) ok.b.1 ok.b.2]
    exact ⟨_, rfl, _, rfl, by simp; omega⟩
  rw [forT_appnx e, forT, xrope_bad hb]
  rfl
theorem refB (hx : f_Xq_Town_init ns rs = some (txM "BadTown")) : f_law_refused ns rs st = some (true, st) := by
  unfold f_law_refused
  rw [hx]
  simp only [Option.elim_some]
  rw [if_pos (by decide +kernel), catG_of (by decide)]
  simp only [Option.bind_some]
  rw [catG_of (by decide)]
  simp only [Option.bind_some]
  have e : decide (([isX (txM "BadTown").x "BadTown", isX (txM "BadTown").x "ValueError", decide (true ∈ [isX (txM "BadTown").x "NoHouse", isX (txM "BadTown").x "NoGroup", isX (txM "BadTown").x "NoWire", isX (txM "BadTown").x "NoCaller"] ++ [isX (txM "BadTown").x "Apart", isX (txM "BadTown").x "NoCopy", isX (txM "BadTown").x "NoLetter"] ++ [isX (txM "BadTown").x "NoText"])] : List Bool) = [true, true, false]) = true := by decide +kernel
  rw [e]
/-! spoiled -/
theorem dup_not {l : List Int} {i j : Nat} (hi : i < l.length) (hj : j < l.length) (ij : i < j) (e : l[i] = l[j]) : ¬ NmOk l := fun h => List.pairwise_iff_getElem.mp h.nd i j hi hj ij e
theorem neg_not {l : List Int} {x : Int} (hx : x ∈ l) (h : x < 0) : ¬ NmOk l := fun q => by have := q.nn x hx; omega
theorem beyond_ok (c lo hi : Int) (h : lo ≤ hi) : Ok (f_law_beyond c lo hi) fun v => v < lo ∨ hi < v := by
  unfold f_law_beyond
  rw [gPow_10 (by decide) (by decide)]
  simp only [Option.bind_some]
  rw [gMod_b (by decide)]
  simp only [Option.bind_some]
  have f0 : 0 ≤ c / 6 % 10 ^ (59 : Int).toNat := Int.emod_nonneg _ (by decide)
  generalize c / 6 % 10 ^ (59 : Int).toNat = far at f0
  have m0 : 0 ≤ c / 2 % 3 := Int.emod_nonneg _ (by decide)
  have m1 : c / 2 % 3 < 3 := Int.emod_lt_of_pos _ (by decide)
  refine Ok.bind (fun v : Int => 0 ≤ v) (Ok.at m0 (by simp; omega) fun v hv => ?_) fun v hv => ?_
  · simp only [List.mem_cons, List.not_mem_nil, or_false] at hv
    omega
  · exact Ok.ite (fun _ => Ok.mk (by omega)) fun _ => Ok.mk (by omega)
theorem badnames_ok (h : NmOk ns) (c : Int) : Ok (f_law_bad_names ns c) fun l => ¬ NmOk l := by
  have hl := h.len
  unfold f_law_bad_names
  rw [gMod_b (by omega)]
  simp only [Option.bind_some]
  have a0 : 0 ≤ c / 3 % (ns.length : Int) := Int.emod_nonneg _ (by omega)
  have a1 : c / 3 % (ns.length : Int) < ns.length := Int.emod_lt_of_pos _ (by omega)
  generalize c / 3 % (ns.length : Int) = at_ at a0 a1
  refine Ok.bind (fun l => ¬ NmOk l) (Ok.ite (fun _ => ?_) fun _ => ?_) fun l hl => Ok.mk hl
  · rw [gPow_10 (by decide) (by decide)]
    simp only [Option.bind_some]
    rw [gMod_b (by decide)]
    simp only [Option.bind_some]
    have f0 : 0 ≤ c / 30 % 10 ^ (59 : Int).toNat := Int.emod_nonneg _ (by decide)
    generalize c / 30 % 10 ^ (59 : Int).toNat = far at f0
    have m0 : 0 ≤ c / 6 % 2 := Int.emod_nonneg _ (by decide)
    have m1 : c / 6 % 2 < 2 := Int.emod_lt_of_pos _ (by decide)
    refine Ok.bind (fun v : Int => v < 0) (Ok.bind (fun v : Int => 0 ≤ v) (Ok.at m0 (by simp; omega) fun v hv => ?_) fun v hv => Ok.mk (by omega)) fun v hv => ?_
    · simp only [List.mem_cons, List.not_mem_nil, or_false] at hv
      omega
    · rw [setG_g a0 a1]
      exact Ok.mk (neg_not (List.mem_set (show at_.toNat < ns.length by omega) v) hv)
  · refine Ok.bind (fun l => ¬ NmOk l) (Ok.ite (fun hc => ?_) fun hc => ?_) fun l hl => Ok.mk hl
    · have h10 : (ns.length : Int) < 10 := by
        rw [Bool.and_eq_true, decide_eq_true_eq, decide_eq_true_eq] at hc
        exact hc.2
      rw [gMod_b (by omega)]
      simp only [Option.bind_some]
      have j0 : 0 ≤ c / 30 % ((ns.length : Int) + 1) := Int.emod_nonneg _ (by omega)
      have j1 : c / 30 % ((ns.length : Int) + 1) < (ns.length : Int) + 1 := Int.emod_lt_of_pos _ (by omega)
      generalize c / 30 % ((ns.length : Int) + 1) = j at j0 j1
      rw [atI_g 0 a0 a1]
      simp only [Option.bind_some]
      rw [insG_of (by omega) j0 (by omega)]
      simp only [Option.bind_some]
      refine Ok.mk fun q => ?_
      have nd := q.nd
      have p : List.Perm (ns.take j.toNat ++ [gI ns at_ 0] ++ ns.drop j.toNat) (gI ns at_ 0 :: ns) := by
        rw [List.append_assoc]
        refine (List.perm_middle (l₁ := ns.take j.toNat) (l₂ := ns.drop j.toNat)).trans ?_
        rw [List.take_append_drop]
      exact (List.nodup_cons.mp (p.nodup_iff.mp nd)).1 (gI_mem 0 a0 a1)
    · refine Ok.bind (fun l => ¬ NmOk l) (Ok.ite (fun hc2 => ?_) fun _ => ?_) fun l hl => Ok.mk hl
      · have h10 : ns.length = 10 := by
          rw [hc2, Bool.true_and, decide_eq_true_eq] at hc
          omega
        obtain ⟨k, rfl⟩ := Int.eq_ofNat_of_zero_le a0
        have hk : k < ns.length := by omega
        by_cases k0 : k = 0
        · subst k0
          have e : atI ns (((0 : Nat) : Int) - 1) = some (ns[9]'(by omega)) := by
            show ((ixN ns.length (-1)).bind fun j => ns[j]?) = _
            have e9 : ixN ns.length (-1) = some 9 := by rw [h10]; rfl
            rw [e9]
            exact List.getElem?_eq_getElem (by omega)
          rw [e]
          simp only [Option.bind_some]
          rw [setG_g a0 a1]
          refine Ok.mk (dup_not (i := 0) (j := 9) (by rw [List.length_set]; omega) (by rw [List.length_set]; omega) (by omega) ?_)
          rw [List.getElem_set, List.getElem_set]
          simp
        · have e : atI ns ((k : Int) - 1) = some (ns[k - 1]'(by omega)) := by
            rw [show (k : Int) - 1 = ((k - 1 : Nat) : Int) by omega]
            exact atI_nat (List.getElem?_eq_getElem (by omega))
          rw [e]
          simp only [Option.bind_some]
          rw [setG_g a0 a1]
          refine Ok.mk (dup_not (i := k - 1) (j := k) (by rw [List.length_set]; omega) (by rw [List.length_set]; omega) (by omega) ?_)
          rw [List.getElem_set, List.getElem_set, Int.toNat_natCast, if_neg (by omega), if_pos rfl]
      · have m0 : 0 ≤ c / 3 % 3 := Int.emod_nonneg _ (by decide)
        have m1 : c / 3 % 3 < 3 := Int.emod_lt_of_pos _ (by decide)
        obtain ⟨k, hk⟩ := Int.eq_ofNat_of_zero_le (show 0 ≤ (11 : Int) + c / 3 % 3 by omega)
        rw [hk]
        have hk2 : 11 ≤ k ∧ k ≤ 13 := by omega
        have lr : lrgG (k : Int) = some (rngI 0 k) := lrgG_of (by omega)
        rw [lr]
        simp only [Option.bind_some]
        have q0 : 0 ≤ c / 9 % 2 := Int.emod_nonneg _ (by decide)
        have q1 : c / 9 % 2 < 2 := Int.emod_lt_of_pos _ (by decide)
        obtain ⟨z, hz⟩ := Int.eq_ofNat_of_zero_le q0
        rw [hz, repG_of (by rw [rngI_len]; exact Nat.le_trans (Nat.mul_le_mul hk2.2 (show z ≤ 1 by omega)) (by decide)) (by omega)]
        refine Ok.mk fun q => ?_
        have hq := q.len
        have : z = 0 ∨ z = 1 := by omega
        rcases this with rfl | rfl
        · simp at hq
        · simp [rngI_len] at hq; omega
theorem badrope_ok {n : Int} (n1 : 1 ≤ n) (c : Int) : Ok (f_law_bad_rope c n) fun r => ¬ RpOk n r := by
  unfold f_law_bad_rope
  have k0 : 0 ≤ c % 6 := Int.emod_nonneg _ (by decide)
  have k1 : c % 6 < 6 := Int.emod_lt_of_pos _ (by decide)
  have a0 : 0 ≤ c / 6 % 2 := Int.emod_nonneg _ (by decide)
  have a1 : c / 6 % 2 < 2 := Int.emod_lt_of_pos _ (by decide)
  have g0 : 0 ≤ c / 6 / 7 % 2 := Int.emod_nonneg _ (by decide)
  have g1 : c / 6 / 7 % 2 < 2 := Int.emod_lt_of_pos _ (by decide)
  -- lists of five, and what holds of their two ends
  refine Ok.bind (fun l : List Int => ∃ x y u v w, l = [x, y, u, v, w] ∧ ((c % 6 = 0 ∨ n = 1 ∧ c % 6 ≠ 1) → x < 0 ∨ n ≤ x ∨ y < 0 ∨ n ≤ y)) (Ok.ite (fun hc => ?_) fun hc => Ok.mk ⟨_, _, _, _, _, rfl, fun q => ?_⟩) fun l1 h1 => ?_
  · refine Ok.bind _ (beyond_ok _ 0 (n - 1) (by omega)) fun v hv => ?_
    rw [setG_g a0 (by simp; omega)]
    simp only [Option.bind_some]
    have : c / 6 % 2 = 0 ∨ c / 6 % 2 = 1 := by omega
    rcases this with e | e
    · rw [e]; exact Ok.mk ⟨_, _, _, _, _, rfl, fun _ => by omega⟩
    · rw [e]; exact Ok.mk ⟨_, _, _, _, _, rfl, fun _ => by omega⟩
  · exfalso
    simp only [Bool.or_eq_true, decide_eq_true_eq, Bool.and_eq_true, Bool.not_eq_true', decide_eq_false_iff_not, not_or, not_and] at hc
    rcases q with q | ⟨q1, q2⟩
    · exact hc.1 q
    · exact hc.2 q1 q2
  obtain ⟨x, y, u, v, w, rfl, h1⟩ := h1
  refine Ok.bind (fun l : List Int => ∃ x y, l = [x, y, u, v, w] ∧ ((c % 6 = 0 ∨ c % 6 = 1 ∨ n = 1) → x < 0 ∨ n ≤ x ∨ y < 0 ∨ n ≤ y ∨ x = y)) (Ok.ite (fun hc => ?_) fun hc => Ok.mk ⟨_, _, rfl, fun q => ?_⟩) fun l2 h2 => ?_
  · rw [gMod_b (by omega)]
    simp only [Option.bind_some]
    rw [setG_g (by decide) (by simp)]
    simp only [Option.bind_some]
    rw [setG_g (by decide) (by simp)]
    exact Ok.mk ⟨_, _, rfl, fun _ => by omega⟩
  · have hc : ¬ c % 6 = 1 := by simpa using hc
    have := h1 (by omega)
    omega
  obtain ⟨x, y, rfl, h2⟩ := h2
  refine Ok.bind (fun l : List Int => ∃ u, l = [x, y, u, v, w] ∧ (c % 6 = 2 → u < 1)) (Ok.ite (fun hc => ?_) fun hc => Ok.mk ⟨_, rfl, fun q => absurd q (by simpa using hc)⟩) fun l3 h3 => ?_
  · rw [gPow_10 (by decide) (by decide)]
    simp only [Option.bind_some]
    rw [gMod_b (by decide)]
    simp only [Option.bind_some]
    have f0 : 0 ≤ c / 6 % 10 ^ (59 : Int).toNat := Int.emod_nonneg _ (by decide)
    generalize c / 6 % 10 ^ (59 : Int).toNat = far at f0
    refine Ok.bind (fun v : Int => v < 1) (Ok.at g0 (by simp; omega) fun v hv => ?_) fun v hv => ?_
    · simp only [List.mem_cons, List.not_mem_nil, or_false] at hv
      omega
    · rw [setG_g (by decide) (by simp)]
      exact Ok.mk ⟨_, rfl, fun _ => hv⟩
  obtain ⟨u, rfl, h3⟩ := h3
  refine Ok.bind (fun l : List Int => ∃ v, l = [x, y, u, v, w] ∧ (c % 6 = 3 → v < 1 ∨ 4 < v)) (Ok.ite (fun hc => ?_) fun hc => Ok.mk ⟨_, rfl, fun q => absurd q (by simpa using hc)⟩) fun l4 h4 => ?_
  · refine Ok.bind _ (beyond_ok _ 1 4 (by decide)) fun v hv => ?_
    rw [setG_g (by decide) (by simp)]
    exact Ok.mk ⟨_, rfl, fun _ => hv⟩
  obtain ⟨v, rfl, h4⟩ := h4
  refine Ok.bind (fun l : List Int => ∃ w, l = [x, y, u, v, w] ∧ (4 ≤ c % 6 → w < 1 ∨ 7 < w)) (Ok.ite (fun hc => ?_) fun hc => Ok.mk ⟨_, rfl, fun q => absurd q (by simpa using hc)⟩) fun l5 h5 => ?_
  · refine Ok.bind _ (beyond_ok _ 1 7 (by decide)) fun v hv => ?_
    rw [setG_g (by decide) (by simp)]
    exact Ok.mk ⟨_, rfl, fun _ => hv⟩
  obtain ⟨w, rfl, h5⟩ := h5
  refine Ok.mk (y := (⟨x, y, u, v, w⟩ : RpT)) fun q => ?_
  obtain ⟨qa, qb, qn, qc, qw, ql⟩ := q
  dsimp only at qa qb qn qc qw ql
  by_cases e0 : c % 6 = 0 ∨ c % 6 = 1
  · have := h2 (by omega); omega
  · by_cases e2 : c % 6 = 2
    · have := h3 e2; omega
    · by_cases e3 : c % 6 = 3
      · have := h4 e3; omega
      · have := h5 (by omega); omega
theorem spoiled_ok (h : NmOk ns) (hr : ∀ r ∈ rs, RpOk ns.length r) (hl : rs.length ≤ 19) (c : Int) : Ok (f_law_spoiled ns rs c) fun p => f_Xq_Town_init p.x0 p.x1 = some (txM "BadTown") := by
  have hnl := h.len
  unfold f_law_spoiled
  refine Ok.ite (fun _ => ?_) fun _ => Ok.ite (fun _ => ?_) fun _ => ?_
  · refine Ok.bind (fun p => f_Xq_Town_init p.x0 p.x1 = some (txM "BadTown")) (Ok.bind (fun b => ¬ NmOk b.1) (Ok.bind _ (badnames_ok h _) fun l hl' => ?_) fun b hb => Ok.mk (xtown_names hb)) fun p hp => Ok.mk hp
    rw [szG_of (by rw [List.length_map]; exact Nat.le_trans (List.length_filter_le _ _) (by omega))]
    exact Ok.mk hl'
  · have e : repG ([(⟨(0 : Int), (ns.length : Int) - (1 : Int), (1 : Int), (1 : Int), (1 : Int)⟩ : RpT)] : List RpT) ((21 : Int) - (rs.length : Int)) = some (List.replicate (21 - rs.length) (⟨(0 : Int), (ns.length : Int) - (1 : Int), (1 : Int), (1 : Int), (1 : Int)⟩ : RpT)) := by
      rw [show (21 : Int) - (rs.length : Int) = ((21 - rs.length : Nat) : Int) by omega, repG_of (by simp; omega) (by omega)]
      congr 1
      exact List.flatten_replicate_singleton
    rw [e]
    simp only [Option.bind_some]
    rw [catG_of (by rw [List.length_replicate]; omega)]
    simp only [Option.bind_some]
    exact Ok.mk (xtown_many h (by rw [List.length_append, List.length_replicate]; omega))
  · rw [gMod_b (by omega)]
    simp only [Option.bind_some]
    have a0 : 0 ≤ c / 5 % ((rs.length : Int) + 1) := Int.emod_nonneg _ (by omega)
    have a1 : c / 5 % ((rs.length : Int) + 1) < (rs.length : Int) + 1 := Int.emod_lt_of_pos _ (by omega)
    obtain ⟨k, hk⟩ := Int.eq_ofNat_of_zero_le a0
    rw [hk]
    obtain ⟨b, e, hb⟩ := badrope_ok (n := (ns.length : Int)) (by omega) (c / 3)
    rw [e]
    simp only [Option.bind_some]
    rw [cutG_to, cutG_fr, catG_of (by rw [List.length_take]; simp; omega)]
    simp only [Option.bind_some]
    rw [catG_of (by rw [List.length_append, List.length_take, List.length_drop]; simp; omega)]
    simp only [Option.bind_some]
    rw [List.append_assoc]
    refine Ok.mk (xtown_rope h ?_ (fun r hr' => hr r (List.mem_of_mem_take hr')) hb)
    rw [List.length_append, List.length_take, List.length_cons]
    show _ + ((List.drop k rs).length + 1) ≤ 20
    rw [List.length_drop]; omega
end
theorem law_plain (sc : Scr) (hsc : sc.l.length ≤ 63) : Ok (f_law sc []) fun p => p.1 = true := by
  unfold f_law
  refine Ok.bind (fun n : Int => 1 ≤ n ∧ n ≤ 10) (Ok.bind (fun y : Int => 0 ≤ y ∧ y < 10) (Ok.bind _ (cell_ok sc 0 (by decide)) fun first _ => Ok.mk (by omega)) fun y hy => Ok.mk (by omega)) fun n hn => ?_
  obtain ⟨n1, n2⟩ := hn
  refine Ok.bind _ (names01_ok n1 n2 sc) fun ns hns => ?_
  obtain ⟨nm, nl⟩ := hns
  refine Ok.bind (fun rs => rs.length ≤ 19 ∧ ∀ r ∈ rs, RpOk n r) (Ok.bind _ (ropes01_ok n1 n2 sc) fun rs hrs => ?_) fun rs hrs => ?_
  · simp only [Option.bind_some]
    have e := cutG_to rs 19
    rw [show ((19 : Nat) : Int) = (19 : Int) from rfl] at e
    rw [e]
    exact Ok.mk ⟨by rw [List.length_take]; omega, fun r hr => hrs.2 r (List.mem_of_mem_take hr)⟩
  obtain ⟨hl, hr⟩ := hrs
  have hr' : ∀ r ∈ rs, RpOk ns.length r := by rw [nl]; exact hr
  rw [town_ok nm hr' (by omega)]
  simp only [Option.bind_some]
  rw [show (mkT ns rs).many = (rs.length : Int) from rfl, show (mkT ns rs).size = (ns.length : Int) from rfl]
  simp only [decide_true, Bool.not_true, Bool.false_eq_true, if_false]
  have lr : lrgG (9 : Int) = some (rngI 0 9) := lrgG_of (by decide)
  rw [lr]
  simp only [Option.bind_some]
  have cl := cutG_len sc.l 31 55
  have e1 : ((31 : Nat) : Int) = (31 : Int) := rfl
  have e2 : ((55 : Nat) : Int) = (55 : Int) := rfl
  rw [e1, e2] at cl
  rw [catG_of (by rw [rngI_len]; omega)]
  simp only [Option.bind_some]
  refine Ok.bind _ (Ok.numC (fun _ (p : Unit × Sto) => True) trivial fun k cell p _ _ _ => ?_) fun c hc => ?_
  · obtain ⟨w, e, hw⟩ := spoiled_ok nm hr' hl cell
    rw [e]
    simp only [Option.bind_some]
    rw [refB hw]
    simp only [Option.bind_some, Bool.not_true, Bool.false_eq_true, if_false, decide_true]
    exact Ok.mk ⟨_, rfl, trivial⟩
  · obtain ⟨p, rfl, _⟩ := hc
    simp only [Ct.go]
    exact Ok.mk (by simp [nl])
theorem law_true : ∀ ns : List Int, ns.length ≤ 63 → ∃ st', m_law [.scr ns] [] = some (.sh (.bl true), st') := fun ns h => by
  have := ev_law ⟨ns⟩ []
  obtain ⟨p, e, h⟩ := law_plain ⟨ns⟩ h
  rw [e] at this
  refine ⟨p.2, this.trans ?_⟩
  show some (Kx.sh.r (en p.1), p.2) = _
  rw [h]; rfl
theorem all_mk {l : PySem.W.OpenLaw} {w : World} {K : PySem.W.Frag} {h : Heap} {mg : Str → Option Value} {fa : Addr} (X : K.In h) (G : h.Ns mainGlobals mg) (hfa : mg "law" = some (.ref fa)) {od0 an0 : Option Addr} {sl0 : Array (Option Value)} {oc0 kV0 dc0 pm0 cd0 ct0 : Value} {f0 : Addr} {od1 an1 : Option Addr} {sl1 : Array (Option Value)} {oc1 kV1 dc1 pm1 cd1 ct1 : Value} {f1 : Addr} {od2 an2 : Option Addr} {sl2 : Array (Option Value)} {oc2 kV2 dc2 pm2 cd2 ct2 : Value} {f2 : Addr} {od3 an3 : Option Addr} {sl3 : Array (Option Value)} {oc3 kV3 dc3 pm3 cd3 ct3 : Value} {f3 : Addr} {od4 an4 : Option Addr} {sl4 : Array (Option Value)} {oc4 kV4 dc4 pm4 cd4 ct4 : Value} {f4 : Addr} {od5 an5 : Option Addr} {sl5 : Array (Option Value)} {oc5 kV5 dc5 pm5 cd5 ct5 : Value} {f5 : Addr} {od6 an6 : Option Addr} {sl6 : Array (Option Value)} {oc6 kV6 dc6 pm6 cd6 ct6 : Value} {f6 : Addr} {od7 an7 : Option Addr} {sl7 : Array (Option Value)} {oc7 kV7 dc7 pm7 cd7 ct7 : Value} {f7 : Addr} {od8 an8 : Option Addr} {sl8 : Array (Option Value)} {oc8 kV8 dc8 pm8 cd8 ct8 : Value} {f8 : Addr} {od9 an9 : Option Addr} {sl9 : Array (Option Value)} {oc9 kV9 dc9 pm9 cd9 ct9 : Value} {f9 : Addr} {od10 an10 : Option Addr} {sl10 : Array (Option Value)} {oc10 kV10 dc10 pm10 cd10 ct10 : Value} {f10 : Addr} {od14 an14 : Option Addr} {sl14 : Array (Option Value)} {oc14 kV14 dc14 pm14 cd14 ct14 : Value} {f14 : Addr} {od15 an15 : Option Addr} {sl15 : Array (Option Value)} {oc15 kV15 dc15 pm15 cd15 ct15 : Value} {f15 : Addr} {C_Town : Addr} {C_Apart : Addr} {C_BadTown : Addr} {C_KnotError : Addr} {C_NoCaller : Addr} {C_NoCopy : Addr} {C_NoGroup : Addr} {C_NoHouse : Addr} {C_NoLetter : Addr} {C_NoText : Addr} {C_NoWire : Addr} {t_MOST_HOUSES : Tok} {t_MOST_ROPES : Tok}
    (cC_Town : PySem.W.nsIn K mainGlobals "Town" = some (some (.ref C_Town)))
    (pg_Town : PySem.W.plainGet K C_Town Str.empty = true)
    (hd_Town : PySem.W.hasDictIn K C_Town = true)
    (po_Town : PySem.W.plainOver K C_Town = true)
    (sa_Town : PySem.W.findIn K (.ref C_Town) "__setattr__" = some (some (.builtin "object.__setattr__")))
    (mk_Town : PySem.W.makesIn K C_Town = true)
    (kc_Town : PySem.W.keepIn K (.ref C_Town) = true)
    (n_Town_size : PySem.W.findIn K (.ref C_Town) "size" = some none)
    (n_Town_many : PySem.W.findIn K (.ref C_Town) "many" = some none)
    (n_Town_names : PySem.W.findIn K (.ref C_Town) "names" = some none)
    (n_Town_kept : PySem.W.findIn K (.ref C_Town) "kept" = some none)
    (n_Town_near : PySem.W.findIn K (.ref C_Town) "near" = some none)
    (cC_Apart : PySem.W.nsIn K mainGlobals "Apart" = some (some (.ref C_Apart)))
    (cC_BadTown : PySem.W.nsIn K mainGlobals "BadTown" = some (some (.ref C_BadTown)))
    (cC_KnotError : PySem.W.nsIn K mainGlobals "KnotError" = some (some (.ref C_KnotError)))
    (cC_NoCaller : PySem.W.nsIn K mainGlobals "NoCaller" = some (some (.ref C_NoCaller)))
    (cC_NoCopy : PySem.W.nsIn K mainGlobals "NoCopy" = some (some (.ref C_NoCopy)))
    (cC_NoGroup : PySem.W.nsIn K mainGlobals "NoGroup" = some (some (.ref C_NoGroup)))
    (cC_NoHouse : PySem.W.nsIn K mainGlobals "NoHouse" = some (some (.ref C_NoHouse)))
    (cC_NoLetter : PySem.W.nsIn K mainGlobals "NoLetter" = some (some (.ref C_NoLetter)))
    (cC_NoText : PySem.W.nsIn K mainGlobals "NoText" = some (some (.ref C_NoText)))
    (cC_NoWire : PySem.W.nsIn K mainGlobals "NoWire" = some (some (.ref C_NoWire)))
    (xP_BadTown : PySem.W.excIn K C_BadTown [.type "ValueError", .type "Exception", .type "BaseException", .type "object"] "ValueError.__new__" = true)
    (kc_BadTown : PySem.W.keepIn K (.ref C_BadTown) = true)
    (bP_BadTown : PySem.W.subIn K (.ref C_BadTown) (.type "BaseException") = some true)
    (tP_BadTown : PySem.W.typeIn K (.ref C_BadTown) = some (.type "type"))
    (egn : PySem.W.specialIn K (.builtin "object.__class__") "__get__" = some (some (.builtin "getset_descriptor.__get__")))
    (egt : PySem.W.takesIn K (.builtin "object.__class__") = some true)
    (tb_KnotError : PySem.W.subIn K (.ref C_KnotError) (.type "BaseException") = some true)
    (td_KnotError : PySem.W.hasDictIn K C_KnotError = true)
    (tt_KnotError : PySem.W.typeIn K (.ref C_KnotError) = some (.type "type"))
    (eg_BadTown : PySem.W.findIn K (.ref C_BadTown) "__getattribute__" = some (some (.builtin "BaseException.__getattribute__")))
    (ek_BadTown : PySem.W.findIn K (.ref C_BadTown) "__getattr__" = some none)
    (ed_BadTown : PySem.W.hasDictIn K C_BadTown = true)
    (ea_BadTown : PySem.W.findIn K (.ref C_BadTown) "__class__" = some (some (.builtin "object.__class__")))
    (eh_BadTown : PySem.W.mroIn K C_BadTown (.type "object") = some true)
    (es_BadTown_KnotError : PySem.W.subIn K (.ref C_BadTown) (.ref C_KnotError) = some true)
    (kq_BadTown_Apart : PySem.W.kitOne K (.ref C_BadTown) (.ref C_Apart) = some false)
    (kq_BadTown_BadTown : PySem.W.kitOne K (.ref C_BadTown) (.ref C_BadTown) = some true)
    (kq_BadTown_NoCaller : PySem.W.kitOne K (.ref C_BadTown) (.ref C_NoCaller) = some false)
    (kq_BadTown_NoCopy : PySem.W.kitOne K (.ref C_BadTown) (.ref C_NoCopy) = some false)
    (kq_BadTown_NoGroup : PySem.W.kitOne K (.ref C_BadTown) (.ref C_NoGroup) = some false)
    (kq_BadTown_NoHouse : PySem.W.kitOne K (.ref C_BadTown) (.ref C_NoHouse) = some false)
    (kq_BadTown_NoLetter : PySem.W.kitOne K (.ref C_BadTown) (.ref C_NoLetter) = some false)
    (kq_BadTown_NoText : PySem.W.kitOne K (.ref C_BadTown) (.ref C_NoText) = some false)
    (kq_BadTown_NoWire : PySem.W.kitOne K (.ref C_BadTown) (.ref C_NoWire) = some false)
    (kq_BadTown_ValueError : PySem.W.kitOne K (.ref C_BadTown) (.type "ValueError") = some true)
    (a0 : PySem.W.nsIn K mainGlobals "_law_cell_at" = some (some (.ref f0)))
    (l0 : K.lookup f0 = some ⟨oc0, od0, .func (PySem.W.fnOf "_law_cell_at" "_law_cell_at" (defArgs s_law_cell_at) (defBody s_law_cell_at) (defScope s_law_cell_at) .none kV0 dc0 pm0 an0 cd0 ct0), sl0⟩)
    (e0 : PySem.W.codeIn K cd0 "_law_cell_at" = true)
    (k0 : PySem.W.keepIn K (.ref f0) = true)
    (a1 : PySem.W.nsIn K mainGlobals "_law_names" = some (some (.ref f1)))
    (l1 : K.lookup f1 = some ⟨oc1, od1, .func (PySem.W.fnOf "_law_names" "_law_names" (defArgs s_law_names) (defBody s_law_names) (defScope s_law_names) .none kV1 dc1 pm1 an1 cd1 ct1), sl1⟩)
    (e1 : PySem.W.codeIn K cd1 "_law_names" = true)
    (k1 : PySem.W.keepIn K (.ref f1) = true)
    (a2 : PySem.W.nsIn K mainGlobals "_law_rope" = some (some (.ref f2)))
    (l2 : K.lookup f2 = some ⟨oc2, od2, .func (PySem.W.fnOf "_law_rope" "_law_rope" (defArgs s_law_rope) (defBody s_law_rope) (defScope s_law_rope) .none kV2 dc2 pm2 an2 cd2 ct2), sl2⟩)
    (e2 : PySem.W.codeIn K cd2 "_law_rope" = true)
    (k2 : PySem.W.keepIn K (.ref f2) = true)
    (a3 : PySem.W.nsIn K mainGlobals "_law_ropes" = some (some (.ref f3)))
    (l3 : K.lookup f3 = some ⟨oc3, od3, .func (PySem.W.fnOf "_law_ropes" "_law_ropes" (defArgs s_law_ropes) (defBody s_law_ropes) (defScope s_law_ropes) .none kV3 dc3 pm3 an3 cd3 ct3), sl3⟩)
    (e3 : PySem.W.codeIn K cd3 "_law_ropes" = true)
    (k3 : PySem.W.keepIn K (.ref f3) = true)
    (a4 : PySem.W.nsIn K mainGlobals "_law_bad_names" = some (some (.ref f4)))
    (l4 : K.lookup f4 = some ⟨oc4, od4, .func (PySem.W.fnOf "_law_bad_names" "_law_bad_names" (defArgs s_law_bad_names) (defBody s_law_bad_names) (defScope s_law_bad_names) .none kV4 dc4 pm4 an4 cd4 ct4), sl4⟩)
    (e4 : PySem.W.codeIn K cd4 "_law_bad_names" = true)
    (k4 : PySem.W.keepIn K (.ref f4) = true)
    (a5 : PySem.W.nsIn K mainGlobals "_law_beyond" = some (some (.ref f5)))
    (l5 : K.lookup f5 = some ⟨oc5, od5, .func (PySem.W.fnOf "_law_beyond" "_law_beyond" (defArgs s_law_beyond) (defBody s_law_beyond) (defScope s_law_beyond) .none kV5 dc5 pm5 an5 cd5 ct5), sl5⟩)
    (e5 : PySem.W.codeIn K cd5 "_law_beyond" = true)
    (k5 : PySem.W.keepIn K (.ref f5) = true)
    (a6 : PySem.W.nsIn K mainGlobals "_law_bad_rope" = some (some (.ref f6)))
    (l6 : K.lookup f6 = some ⟨oc6, od6, .func (PySem.W.fnOf "_law_bad_rope" "_law_bad_rope" (defArgs s_law_bad_rope) (defBody s_law_bad_rope) (defScope s_law_bad_rope) .none kV6 dc6 pm6 an6 cd6 ct6), sl6⟩)
    (e6 : PySem.W.codeIn K cd6 "_law_bad_rope" = true)
    (k6 : PySem.W.keepIn K (.ref f6) = true)
    (a7 : PySem.W.nsIn K mainGlobals "_law_spoiled" = some (some (.ref f7)))
    (l7 : K.lookup f7 = some ⟨oc7, od7, .func (PySem.W.fnOf "_law_spoiled" "_law_spoiled" (defArgs s_law_spoiled) (defBody s_law_spoiled) (defScope s_law_spoiled) .none kV7 dc7 pm7 an7 cd7 ct7), sl7⟩)
    (e7 : PySem.W.codeIn K cd7 "_law_spoiled" = true)
    (k7 : PySem.W.keepIn K (.ref f7) = true)
    (a8 : PySem.W.nsIn K mainGlobals "ask_names" = some (some (.ref f8)))
    (l8 : K.lookup f8 = some ⟨oc8, od8, .func (PySem.W.fnOf "ask_names" "ask_names" (defArgs s_ask_names) (defBody s_ask_names) (defScope s_ask_names) .none kV8 dc8 pm8 an8 cd8 ct8), sl8⟩)
    (e8 : PySem.W.codeIn K cd8 "ask_names" = true)
    (k8 : PySem.W.keepIn K (.ref f8) = true)
    (a9 : PySem.W.nsIn K mainGlobals "ask_rope" = some (some (.ref f9)))
    (l9 : K.lookup f9 = some ⟨oc9, od9, .func (PySem.W.fnOf "ask_rope" "ask_rope" (defArgs s_ask_rope) (defBody s_ask_rope) (defScope s_ask_rope) .none kV9 dc9 pm9 an9 cd9 ct9), sl9⟩)
    (e9 : PySem.W.codeIn K cd9 "ask_rope" = true)
    (k9 : PySem.W.keepIn K (.ref f9) = true)
    (a10 : PySem.W.findIn K (.ref C_Town) "__init__" = some (some (.ref f10)))
    (i10 : PySem.W.isFn K (.ref f10) = true)
    (l10 : K.lookup f10 = some ⟨oc10, od10, .func (PySem.W.fnOf "__init__" "Town.__init__" (defArgs s_Town_init) (defBody s_Town_init) (defScope s_Town_init) .none kV10 dc10 pm10 an10 cd10 ct10), sl10⟩)
    (e10 : PySem.W.codeIn K cd10 "Town.__init__" = true)
    (k10 : PySem.W.keepIn K (.ref f10) = true)
    (a14 : PySem.W.nsIn K mainGlobals "_law_refused" = some (some (.ref f14)))
    (l14 : K.lookup f14 = some ⟨oc14, od14, .func (PySem.W.fnOf "_law_refused" "_law_refused" (defArgs s_law_refused) (defBody s_law_refused) (defScope s_law_refused) .none kV14 dc14 pm14 an14 cd14 ct14), sl14⟩)
    (e14 : PySem.W.codeIn K cd14 "_law_refused" = true)
    (k14 : PySem.W.keepIn K (.ref f14) = true)
    (a15 : PySem.W.nsIn K mainGlobals "law" = some (some (.ref f15)))
    (l15 : K.lookup f15 = some ⟨oc15, od15, .func (PySem.W.fnOf "law" "law" (defArgs s_law) (defBody s_law) (defScope s_law) .none kV15 dc15 pm15 an15 cd15 ct15), sl15⟩)
    (e15 : PySem.W.codeIn K cd15 "law" = true)
    (k15 : PySem.W.keepIn K (.ref f15) = true)
    (g_MOST_HOUSES : PySem.W.nsIn K mainGlobals "MOST_HOUSES" = some (some (.int 10 t_MOST_HOUSES)))
    (g_MOST_ROPES : PySem.W.nsIn K mainGlobals "MOST_ROPES" = some (some (.int 20 t_MOST_ROPES)))
    (z_ValueError : PySem.W.nsIn K mainGlobals "ValueError" = some none)
    (z_enumerate : PySem.W.nsIn K mainGlobals "enumerate" = some none)
    (z_int : PySem.W.nsIn K mainGlobals "int" = some none)
    (z_isinstance : PySem.W.nsIn K mainGlobals "isinstance" = some none)
    (z_len : PySem.W.nsIn K mainGlobals "len" = some none)
    (z_list : PySem.W.nsIn K mainGlobals "list" = some none)
    (z_range : PySem.W.nsIn K mainGlobals "range" = some none)
    (z_tuple : PySem.W.nsIn K mainGlobals "tuple" = some none)
    (hl : ∀ ns : List Int, ns.length ≤ 63 → ∃ st', m_law [.scr ns] [] = some (.sh (.bl true), st')) :
    ∃ fd : FuncData, (∀ (s : Shared) (v : Value), BindsTo s fd ⟨[v], []⟩ [("_law_script", v)]) ∧ ∀ base : Heap, K.In base → base.Ns mainGlobals mg → FnOk l.prog w K mg base CX0 5 fa fd ["_law_script"] (spLaw K) := by
  have e := hfa.symm.trans (PySem.W.mg_of X G a15)
  cases e
  have Z : Zs mg := ⟨PySem.W.mg_none_of X G z_ValueError, PySem.W.mg_none_of X G z_enumerate, PySem.W.mg_none_of X G z_int, PySem.W.mg_none_of X G z_isinstance, PySem.W.mg_none_of X G z_len, PySem.W.mg_none_of X G z_list, PySem.W.mg_none_of X G z_range, PySem.W.mg_none_of X G z_tuple⟩
  have O_Town : Own K (fun c => if c = "Town" then some (C_Town, ns_Town) else none) "Town" C_Town ns_Town := ⟨by first | rfl | simp, ⟨pg_Town, hd_Town, po_Town, sa_Town⟩, by decide +kernel, fun f hf => by
    have hf : f ∈ (["size", "many", "names", "kept", "near"] : List Str) := hf
    simp only [List.mem_cons, List.not_mem_nil, or_false] at hf
    rcases hf with rfl | rfl | rfl | rfl | rfl
    · exact n_Town_size
    · exact n_Town_many
    · exact n_Town_names
    · exact n_Town_kept
    · exact n_Town_near⟩
  have G_MOST_HOUSES := PySem.W.mg_of X G g_MOST_HOUSES
  have G_MOST_ROPES := PySem.W.mg_of X G g_MOST_ROPES
  have X_BadTown : ExK K mg (fun c => if c = "BadTown" then some C_BadTown else none) "BadTown" C_BadTown := ⟨xP_BadTown, PySem.W.mg_of X G cC_BadTown, kc_BadTown, bP_BadTown, tP_BadTown, by first | rfl | simp⟩
  have EC_BadTown : ExcC K C_BadTown := ⟨eg_BadTown, ek_BadTown, bP_BadTown, ed_BadTown, ea_BadTown, egn, egt, eh_BadTown⟩
  have em_BadTown := PySem.W.exm_ref tb_KnotError td_KnotError tt_KnotError es_BadTown_KnotError
  have kt_BadTown_Apart : PySem.W.kitOne K (.ref C_BadTown) (.ref C_Apart) = some (isX "BadTown" "Apart") := kq_BadTown_Apart.trans (congrArg some (by decide +kernel))
  have kt_BadTown_BadTown : PySem.W.kitOne K (.ref C_BadTown) (.ref C_BadTown) = some (isX "BadTown" "BadTown") := kq_BadTown_BadTown.trans (congrArg some (by decide +kernel))
  have kt_BadTown_NoCaller : PySem.W.kitOne K (.ref C_BadTown) (.ref C_NoCaller) = some (isX "BadTown" "NoCaller") := kq_BadTown_NoCaller.trans (congrArg some (by decide +kernel))
  have kt_BadTown_NoCopy : PySem.W.kitOne K (.ref C_BadTown) (.ref C_NoCopy) = some (isX "BadTown" "NoCopy") := kq_BadTown_NoCopy.trans (congrArg some (by decide +kernel))
  have kt_BadTown_NoGroup : PySem.W.kitOne K (.ref C_BadTown) (.ref C_NoGroup) = some (isX "BadTown" "NoGroup") := kq_BadTown_NoGroup.trans (congrArg some (by decide +kernel))
  have kt_BadTown_NoHouse : PySem.W.kitOne K (.ref C_BadTown) (.ref C_NoHouse) = some (isX "BadTown" "NoHouse") := kq_BadTown_NoHouse.trans (congrArg some (by decide +kernel))
  have kt_BadTown_NoLetter : PySem.W.kitOne K (.ref C_BadTown) (.ref C_NoLetter) = some (isX "BadTown" "NoLetter") := kq_BadTown_NoLetter.trans (congrArg some (by decide +kernel))
  have kt_BadTown_NoText : PySem.W.kitOne K (.ref C_BadTown) (.ref C_NoText) = some (isX "BadTown" "NoText") := kq_BadTown_NoText.trans (congrArg some (by decide +kernel))
  have kt_BadTown_NoWire : PySem.W.kitOne K (.ref C_BadTown) (.ref C_NoWire) = some (isX "BadTown" "NoWire") := kq_BadTown_NoWire.trans (congrArg some (by decide +kernel))
  have kt_BadTown_ValueError : PySem.W.kitOne K (.ref C_BadTown) (.type "ValueError") = some (isX "BadTown" "ValueError") := kq_BadTown_ValueError.trans (congrArg some (by decide +kernel))
  refine ⟨PySem.W.fnOf "law" "law" (defArgs s_law) (defBody s_law) (defScope s_law) .none kV15 dc15 pm15 an15 cd15 ct15, fun s v => .of_eq rfl, fun base _ _ => ?_⟩
  have F_law_cell_at := fun_mk (st := s_law_cell_at) l0 e0 k0
  have C_law_cell_at : Cal l.prog w K mg base (fun c => if c = "Town" then some (C_Town, ns_Town) else none) "_law_cell_at" 1 ["_law_script", "_law_k"] m_law_cell_at := ⟨f0, _, ok_law_cell_at F_law_cell_at Z , PySem.W.mg_of X G a0, F_law_cell_at.kp, (F_law_cell_at.binds (ps := ["_law_script", "_law_k"]) fun _ _ _ _ _ _ us hl => match us, hl with | [_, _], _ => rfl)⟩
  have F_law_names := fun_mk (st := s_law_names) l1 e1 k1
  have C_law_names : Cal l.prog w K mg base (fun c => if c = "Town" then some (C_Town, ns_Town) else none) "_law_names" 2 ["_law_script", "_law_size"] m_law_names := ⟨f1, _, ok_law_names F_law_names Z C_law_cell_at, PySem.W.mg_of X G a1, F_law_names.kp, (F_law_names.binds (ps := ["_law_script", "_law_size"]) fun _ _ _ _ _ _ us hl => match us, hl with | [_, _], _ => rfl)⟩
  have F_law_rope := fun_mk (st := s_law_rope) l2 e2 k2
  have C_law_rope : Cal l.prog w K mg base (fun c => if c = "Town" then some (C_Town, ns_Town) else none) "_law_rope" 1 ["_law_cell", "_law_size"] m_law_rope := ⟨f2, _, ok_law_rope F_law_rope Z , PySem.W.mg_of X G a2, F_law_rope.kp, (F_law_rope.binds (ps := ["_law_cell", "_law_size"]) fun _ _ _ _ _ _ us hl => match us, hl with | [_, _], _ => rfl)⟩
  have F_law_ropes := fun_mk (st := s_law_ropes) l3 e3 k3
  have C_law_ropes : Cal l.prog w K mg base (fun c => if c = "Town" then some (C_Town, ns_Town) else none) "_law_ropes" 2 ["_law_script", "_law_size"] m_law_ropes := ⟨f3, _, ok_law_ropes F_law_ropes Z C_law_rope, PySem.W.mg_of X G a3, F_law_ropes.kp, (F_law_ropes.binds (ps := ["_law_script", "_law_size"]) fun _ _ _ _ _ _ us hl => match us, hl with | [_, _], _ => rfl)⟩
  have F_law_bad_names := fun_mk (st := s_law_bad_names) l4 e4 k4
  have C_law_bad_names : Cal l.prog w K mg base (fun c => if c = "Town" then some (C_Town, ns_Town) else none) "_law_bad_names" 1 ["_law_names_here", "_law_cell"] m_law_bad_names := ⟨f4, _, ok_law_bad_names F_law_bad_names Z , PySem.W.mg_of X G a4, F_law_bad_names.kp, (F_law_bad_names.binds (ps := ["_law_names_here", "_law_cell"]) fun _ _ _ _ _ _ us hl => match us, hl with | [_, _], _ => rfl)⟩
  have F_law_beyond := fun_mk (st := s_law_beyond) l5 e5 k5
  have C_law_beyond : Cal l.prog w K mg base (fun c => if c = "Town" then some (C_Town, ns_Town) else none) "_law_beyond" 1 ["_law_cell", "_law_low", "_law_high"] m_law_beyond := ⟨f5, _, ok_law_beyond F_law_beyond Z , PySem.W.mg_of X G a5, F_law_beyond.kp, (F_law_beyond.binds (ps := ["_law_cell", "_law_low", "_law_high"]) fun _ _ _ _ _ _ us hl => match us, hl with | [_, _, _], _ => rfl)⟩
  have F_law_bad_rope := fun_mk (st := s_law_bad_rope) l6 e6 k6
  have C_law_bad_rope : Cal l.prog w K mg base (fun c => if c = "Town" then some (C_Town, ns_Town) else none) "_law_bad_rope" 2 ["_law_cell", "_law_size"] m_law_bad_rope := ⟨f6, _, ok_law_bad_rope F_law_bad_rope Z C_law_beyond, PySem.W.mg_of X G a6, F_law_bad_rope.kp, (F_law_bad_rope.binds (ps := ["_law_cell", "_law_size"]) fun _ _ _ _ _ _ us hl => match us, hl with | [_, _], _ => rfl)⟩
  have F_law_spoiled := fun_mk (st := s_law_spoiled) l7 e7 k7
  have C_law_spoiled : Cal l.prog w K mg base (fun c => if c = "Town" then some (C_Town, ns_Town) else none) "_law_spoiled" 3 ["_law_names_here", "_law_ropes_here", "_law_cell"] m_law_spoiled := ⟨f7, _, ok_law_spoiled F_law_spoiled Z C_law_bad_names C_law_bad_rope, PySem.W.mg_of X G a7, F_law_spoiled.kp, (F_law_spoiled.binds (ps := ["_law_names_here", "_law_ropes_here", "_law_cell"]) fun _ _ _ _ _ _ us hl => match us, hl with | [_, _, _], _ => rfl)⟩
  have F_ask_names := fun_mk (st := s_ask_names) l8 e8 k8
  have C_ask_names : Cal l.prog w K mg base (fun c => if c = "Town" then some (C_Town, ns_Town) else none) "ask_names" 1 ["names"] m_ask_names := ⟨f8, _, ok_ask_names F_ask_names Z G_MOST_HOUSES, PySem.W.mg_of X G a8, F_ask_names.kp, (F_ask_names.binds (ps := ["names"]) fun _ _ _ _ _ _ us hl => match us, hl with | [_], _ => rfl)⟩
  have F_ask_rope := fun_mk (st := s_ask_rope) l9 e9 k9
  have C_ask_rope : Cal l.prog w K mg base (fun c => if c = "Town" then some (C_Town, ns_Town) else none) "ask_rope" 1 ["size", "rope"] m_ask_rope := ⟨f9, _, ok_ask_rope F_ask_rope Z , PySem.W.mg_of X G a9, F_ask_rope.kp, (F_ask_rope.binds (ps := ["size", "rope"]) fun _ _ _ _ _ _ us hl => match us, hl with | [_, _], _ => rfl)⟩
  have F_Town_init := fun_mk (st := s_Town_init) l10 e10 k10
  have K_Town : Mkr l.prog w K mg base (fun c => if c = "Town" then some (C_Town, ns_Town) else none) "Town" C_Town "Town" 2 ["self", "names", "ropes"] m_Town_init := ⟨f10, _, ok_Town_init F_Town_init Z O_Town G_MOST_ROPES C_ask_names C_ask_rope, ⟨mk_Town, a10, i10, kc_Town⟩, (F_Town_init.binds (ps := ["self", "names", "ropes"]) fun _ _ _ _ _ _ us hl => match us, hl with | [_, _, _], _ => rfl), PySem.W.mg_of X G cC_Town⟩
  have C_Xq_ask_names : CalX l.prog w K mg base (fun c => if c = "Town" then some (C_Town, ns_Town) else none) (fun c => if c = "BadTown" then some C_BadTown else none) "ask_names" 1 ["names"] m_Xq_ask_names := ⟨f8, _, ok_Xq_ask_names (xt := fun c => if c = "BadTown" then some C_BadTown else none) F_ask_names Z G_MOST_HOUSES X_BadTown, PySem.W.mg_of X G a8, F_ask_names.kp, (F_ask_names.binds (ps := ["names"]) fun _ _ _ _ _ _ us hl => match us, hl with | [_], _ => rfl)⟩
  have C_Xq_ask_rope : CalX l.prog w K mg base (fun c => if c = "Town" then some (C_Town, ns_Town) else none) (fun c => if c = "BadTown" then some C_BadTown else none) "ask_rope" 1 ["size", "rope"] m_Xq_ask_rope := ⟨f9, _, ok_Xq_ask_rope (xt := fun c => if c = "BadTown" then some C_BadTown else none) F_ask_rope Z X_BadTown, PySem.W.mg_of X G a9, F_ask_rope.kp, (F_ask_rope.binds (ps := ["size", "rope"]) fun _ _ _ _ _ _ us hl => match us, hl with | [_, _], _ => rfl)⟩
  have K_Xq_Town_init : MkrX l.prog w K mg base (fun c => if c = "Town" then some (C_Town, ns_Town) else none) (fun c => if c = "BadTown" then some C_BadTown else none) C_Town "Town" 2 ["self", "names", "ropes"] m_Xq_Town_init := ⟨f10, _, ok_Xq_Town_init (xt := fun c => if c = "BadTown" then some C_BadTown else none) F_Town_init Z G_MOST_ROPES X_BadTown C_Xq_ask_names C_ask_names C_Xq_ask_rope C_ask_rope, ⟨mk_Town, a10, i10, kc_Town⟩, (F_Town_init.binds (ps := ["self", "names", "ropes"]) fun _ _ _ _ _ _ us hl => match us, hl with | [_, _, _], _ => rfl), PySem.W.mg_of X G cC_Town⟩
  have F_law_refused := fun_mk (st := s_law_refused) l14 e14 k14
  have C_law_refused : Cal l.prog w K mg base (fun c => if c = "Town" then some (C_Town, ns_Town) else none) "_law_refused" 4 ["_law_names_here", "_law_ropes_here"] m_law_refused := ⟨f14, _, ok_law_refused F_law_refused Z O_Town X_BadTown EC_BadTown em_BadTown kt_BadTown_Apart kt_BadTown_BadTown kt_BadTown_NoCaller kt_BadTown_NoCopy kt_BadTown_NoGroup kt_BadTown_NoHouse kt_BadTown_NoLetter kt_BadTown_NoText kt_BadTown_NoWire kt_BadTown_ValueError (PySem.W.mg_of X G cC_Apart) (PySem.W.mg_of X G cC_BadTown) (PySem.W.mg_of X G cC_KnotError) (PySem.W.mg_of X G cC_NoCaller) (PySem.W.mg_of X G cC_NoCopy) (PySem.W.mg_of X G cC_NoGroup) (PySem.W.mg_of X G cC_NoHouse) (PySem.W.mg_of X G cC_NoLetter) (PySem.W.mg_of X G cC_NoText) (PySem.W.mg_of X G cC_NoWire) K_Xq_Town_init K_Town, PySem.W.mg_of X G a14, F_law_refused.kp, (F_law_refused.binds (ps := ["_law_names_here", "_law_ropes_here"]) fun _ _ _ _ _ _ us hl => match us, hl with | [_, _], _ => rfl)⟩
  have F_law := fun_mk (st := s_law) l15 e15 k15
  have G_law := ok_law (P := l.prog) (w := w) (base := base) (ct := fun c => if c = "Town" then some (C_Town, ns_Town) else none) F_law Z O_Town C_law_cell_at C_law_names C_law_ropes K_Town C_law_spoiled C_law_refused
  exact law_ok G_law hl
theorem walk {l : PySem.W.OpenLaw} {q : Program} {loose : List Str} {XP : (Str → Option Value) → Heap → Prop} {YP : World → Heap → Prop} {d : DefRec} {K : Params → PySem.W.Frag} (hn : l.most = some 63) (hdf : d.params.defaults = [])
    (hY : ∀ (w : World) (h : Heap), YP w h → (K w.params).In h)
    (F : ∀ (w : World) (mg : Str → Option Value) (fa : Addr) (h : Heap), (K w.params).In h → h.Ns mainGlobals mg → mg d.name = some (.ref fa) →
      ∃ fd : FuncData, (∀ (s : Shared) (u : Value), BindsTo s fd ⟨[u], []⟩ [("_law_script", u)]) ∧ ∀ base : Heap, (K w.params).In base → base.Ns mainGlobals mg → FnOk l.prog w (K w.params) mg base CX0 5 fa fd ["_law_script"] (spLaw (K w.params))) :
    PySem.W.WalkO q loose XP YP l.row.toRowW d [] (fun f vs => PySem.call f vs) :=
  L2.walk_of (n := 63) (k := 5) (x := "_law_script") (CX := fun _ => CX0) (sp := fun w => spLaw (K w.params)) hn (by decide) hdf ⟨rfl, by decide, by decide⟩ hY F (fun _ _ a ns hl _ hS => ⟨a, ns, rfl, hS, hl, fun _ => rfl⟩) fun _ _ _ _ _ z => z
end Law
open PySem PySem.W PyProof.Rows in
set_option maxRecDepth 100000 in
set_option maxHeartbeats 0 in
theorem PySem.Challenge.cw_knotless_k02_town_refused_holds : PySem.Challenge.rw_knotless_k02_town_refused.Holds := by
  w_on; o_law; k_headL; (case hw => w_witness2)
  k_fill
  refine Law.walk (l := PySem.Challenge.rw_knotless_k02_town_refused) rfl rfl (fun w h Y => PySem.W.kIn_of Y) ?F
  case F =>
    intro w mg fa h KX G hmg
    refine' Law.all_mk KX G hmg ?cC_Town ?pg_Town ?hd_Town ?po_Town ?sa_Town ?mk_Town ?kc_Town ?n_Town_size ?n_Town_many ?n_Town_names ?n_Town_kept ?n_Town_near ?cC_Apart ?cC_BadTown ?cC_KnotError ?cC_NoCaller ?cC_NoCopy ?cC_NoGroup ?cC_NoHouse ?cC_NoLetter ?cC_NoText ?cC_NoWire ?xP_BadTown ?kc_BadTown ?bP_BadTown ?tP_BadTown ?egn ?egt ?tb_KnotError ?td_KnotError ?tt_KnotError ?eg_BadTown ?ek_BadTown ?ed_BadTown ?ea_BadTown ?eh_BadTown ?es_BadTown_KnotError ?kq_BadTown_Apart ?kq_BadTown_BadTown ?kq_BadTown_NoCaller ?kq_BadTown_NoCopy ?kq_BadTown_NoGroup ?kq_BadTown_NoHouse ?kq_BadTown_NoLetter ?kq_BadTown_NoText ?kq_BadTown_NoWire ?kq_BadTown_ValueError ?a0 ?l0 ?e0 ?k0 ?a1 ?l1 ?e1 ?k1 ?a2 ?l2 ?e2 ?k2 ?a3 ?l3 ?e3 ?k3 ?a4 ?l4 ?e4 ?k4 ?a5 ?l5 ?e5 ?k5 ?a6 ?l6 ?e6 ?k6 ?a7 ?l7 ?e7 ?k7 ?a8 ?l8 ?e8 ?k8 ?a9 ?l9 ?e9 ?k9 ?a10 ?i10 ?l10 ?e10 ?k10 ?a14 ?l14 ?e14 ?k14 ?a15 ?l15 ?e15 ?k15 ?g_MOST_HOUSES ?g_MOST_ROPES ?z_ValueError ?z_enumerate ?z_int ?z_isinstance ?z_len ?z_list ?z_range ?z_tuple Law.law_true
    (case cC_Town => k_is)
    (case pg_Town => k_is)
    (case hd_Town => k_is)
    (case po_Town => k_is)
    (case sa_Town => k_is)
    (case mk_Town => k_is)
    (case kc_Town => k_is)
    (case n_Town_size => k_is)
    (case n_Town_many => k_is)
    (case n_Town_names => k_is)
    (case n_Town_kept => k_is)
    (case n_Town_near => k_is)
    (case cC_Apart => k_is)
    (case cC_BadTown => k_is)
    (case cC_KnotError => k_is)
    (case cC_NoCaller => k_is)
    (case cC_NoCopy => k_is)
    (case cC_NoGroup => k_is)
    (case cC_NoHouse => k_is)
    (case cC_NoLetter => k_is)
    (case cC_NoText => k_is)
    (case cC_NoWire => k_is)
    (case xP_BadTown => k_exc)
    (case kc_BadTown => k_is)
    (case bP_BadTown => k_is)
    (case tP_BadTown => k_is)
    (case egn => k_is)
    (case egt => k_is)
    (case tb_KnotError => k_is)
    (case td_KnotError => k_is)
    (case tt_KnotError => k_is)
    (case eg_BadTown => k_is)
    (case ek_BadTown => k_is)
    (case ed_BadTown => k_is)
    (case ea_BadTown => k_is)
    (case eh_BadTown => k_is)
    (case es_BadTown_KnotError => k_is)
    (case kq_BadTown_Apart => kit_is)
    (case kq_BadTown_BadTown => kit_is)
    (case kq_BadTown_NoCaller => kit_is)
    (case kq_BadTown_NoCopy => kit_is)
    (case kq_BadTown_NoGroup => kit_is)
    (case kq_BadTown_NoHouse => kit_is)
    (case kq_BadTown_NoLetter => kit_is)
    (case kq_BadTown_NoText => kit_is)
    (case kq_BadTown_NoWire => kit_is)
    (case kq_BadTown_ValueError => kit_is)
    (case a0 => k_is)
    (case l0 => k_is)
    (case e0 => k_is)
    (case k0 => k_is)
    (case a1 => k_is)
    (case l1 => k_is)
    (case e1 => k_is)
    (case k1 => k_is)
    (case a2 => k_is)
    (case l2 => k_is)
    (case e2 => k_is)
    (case k2 => k_is)
    (case a3 => k_is)
    (case l3 => k_is)
    (case e3 => k_is)
    (case k3 => k_is)
    (case a4 => k_is)
    (case l4 => k_is)
    (case e4 => k_is)
    (case k4 => k_is)
    (case a5 => k_is)
    (case l5 => k_is)
    (case e5 => k_is)
    (case k5 => k_is)
    (case a6 => k_is)
    (case l6 => k_is)
    (case e6 => k_is)
    (case k6 => k_is)
    (case a7 => k_is)
    (case l7 => k_is)
    (case e7 => k_is)
    (case k7 => k_is)
    (case a8 => k_is)
    (case l8 => k_is)
    (case e8 => k_is)
    (case k8 => k_is)
    (case a9 => k_is)
    (case l9 => k_is)
    (case e9 => k_is)
    (case k9 => k_is)
    (case a10 => k_is)
    (case i10 => k_is)
    (case l10 => k_is)
    (case e10 => k_is)
    (case k10 => k_is)
    (case a14 => k_is)
    (case l14 => k_is)
    (case e14 => k_is)
    (case k14 => k_is)
    (case a15 => k_is)
    (case l15 => k_is)
    (case e15 => k_is)
    (case k15 => k_is)
    (case g_MOST_HOUSES => k_is)
    (case g_MOST_ROPES => k_is)
    (case z_ValueError => k_is)
    (case z_enumerate => k_is)
    (case z_int => k_is)
    (case z_isinstance => k_is)
    (case z_len => k_is)
    (case z_list => k_is)
    (case z_range => k_is)
    (case z_tuple => k_is)
