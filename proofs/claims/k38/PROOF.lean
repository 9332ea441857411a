import PyProof.Rows.All
import Wide.All
import OpenK.AllK
import Wide.FinOn
import HandS.ForMost
import HandS.IsInst
import HandS.Wide
import HandS.Deep
import HandS.Style
import HandS.SortInts
import HandS.Rev
import HandS.RevTup
import HandS.Conv
import KE.LtSeq
import HandS.More
import HandS.Strs
import HandS.DictTup
import HandS.ClsMeth
import HandS.Defaults
import HandS.TupSets
import KE.DataFind
import HandS.Finally
import KE.KDictCopyH
import HandS.ForExc
import HandS.ExcIs
import KE.RegKIsAll
import KE.OsRunLaw
import HandS.Text
import HandS.FStr
import HandS.Zip
import HandS.RaiseMore
import OpenK.KTop
import HandS.Codes
import KE.GoesComp
import KE.GoesRaise
import PySem.Challenge.RW_knotless_k38_town_text_refused
set_option Elab.async false
set_option linter.all false
set_option maxRecDepth 100000
set_option maxHeartbeats 4000000
set_option synthInstance.maxSize 2000
local macro_rules | `(tactic| k_head) => `(tactic| k_headL)
open PySem PySem.W PyProof.Rows in
set_option maxHeartbeats 0 in
open_top head0 for PySem.Challenge.rw_knotless_k38_town_text_refused
namespace Kn
open PySem L2
/-! data: what a value reads as -/
inductive D where
  | non | bl (b : Bool) | int (i : Int) | str (x : Str)
  | lst (ds : List D) | tup (ds : List D)
  | dic (kds : List (Key × D))
  | obj (c : Str) (ds : List D)
  | hnd (g : Nat)
  | scr (ns : List Int)
/-- shared heap and the objects by number -/
structure Wd where
  hs : Hp
  tp : Addr → Option (List V)
  rho : Nat → Option V
structure Wd.le (W W' : Wd) : Prop where
  hs : ∀ a o, W.hs a = some o → W'.hs a = some o
  tp : ∀ a o, W.tp a = some o → W'.tp a = some o
  rho : ∀ g v, W.rho g = some v → W'.rho g = some v
theorem Wd.le.refl (W : Wd) : W.le W := ⟨fun _ _ h => h, fun _ _ h => h, fun _ _ h => h⟩
theorem Wd.le.trans {A B C : Wd} (h : A.le B) (k : B.le C) : A.le C := ⟨fun a o e => k.1 a o (h.1 a o e), fun a o e => k.2 a o (h.2 a o e), fun g v e => k.3 g v (h.3 g v e)⟩
abbrev CT := Str → Option (Addr × List Str)
mutual
inductive Rep (K : PySem.W.Frag) (ct : CT) (W : Wd) : V → D → Prop
  | non : Rep K ct W .non .non
  | bl (b : Bool) : Rep K ct W (.bl b) (.bl b)
  | int (i : Int) : Rep K ct W (.int i) (.int i)
  | str (x : Str) : Rep K ct W (.str x) (.str x)
  | lst {a : Addr} {vs : List V} {ds : List D} : W.hs a = some (.lst vs) → RepL K ct W vs ds → Rep K ct W (.ref a) (.lst ds)
  | tup {a : Addr} {vs : List V} {ds : List D} : W.tp a = some vs → RepL K ct W vs ds → Rep K ct W (.ref a) (.tup ds)
  | dic {a : Addr} {kvs : List (Key × V)} {kds : List (Key × D)} : W.hs a = some (.dK kvs) → kvs.map (·.1) = kds.map (·.1) → RepL K ct W (kvs.map (·.2)) (kds.map (·.2)) → Rep K ct W (.ref a) (.dic kds)
  | obj {a C dx : Addr} {fs : List (Str × V)} {c : Str} {ns : List Str} {ds : List D} : W.hs a = some (.ins C dx fs) → ct c = some (C, ns) → fs.map (·.1) = ns.take ds.length → RepL K ct W (fs.map (·.2)) ds → Rep K ct W (.ref a) (.obj c ds)
  | hnd {g : Nat} {v : V} : W.rho g = some v → Rep K ct W v (.hnd g)
  | scr {a : Addr} {ns : List Int} : SqL K W.hs a (ns.map V.int) → Rep K ct W (.ref a) (.scr ns)
inductive RepL (K : PySem.W.Frag) (ct : CT) (W : Wd) : List V → List D → Prop
  | nil : RepL K ct W [] []
  | cons {v : V} {vs : List V} {d : D} {ds : List D} : Rep K ct W v d → RepL K ct W vs ds → RepL K ct W (v :: vs) (d :: ds)
end
section
variable {K : PySem.W.Frag} {ct : CT} {W W' : Wd}
theorem sq_mono {H H' : Hp} {a : Addr} {xs : List V} (e : ∀ a o, H a = some o → H' a = some o) (h : SqL K H a xs) : SqL K H' a xs := Same.seq (K := K) e h
mutual
theorem Rep.mono (l : W.le W') : ∀ {v : V} {d : D}, Rep K ct W v d → Rep K ct W' v d
  | _, _, .non => .non
  | _, _, .bl b => .bl b
  | _, _, .int i => .int i
  | _, _, .str x => .str x
  | _, _, .lst h r => .lst (l.1 _ _ h) (RepL.mono l r)
  | _, _, .scr h => .scr (sq_mono l.1 h)
  | _, _, .tup h r => .tup (l.2 _ _ h) (RepL.mono l r)
  | _, _, .dic h n r => .dic (l.1 _ _ h) n (RepL.mono l r)
  | _, _, .obj h c n r => .obj (l.1 _ _ h) c n (RepL.mono l r)
  | _, _, .hnd h => .hnd (l.3 _ _ h)
theorem RepL.mono (l : W.le W') : ∀ {vs : List V} {ds : List D}, RepL K ct W vs ds → RepL K ct W' vs ds
  | _, _, .nil => .nil
  | _, _, .cons h r => .cons (Rep.mono l h) (RepL.mono l r)
end
theorem RepL.length : ∀ {vs : List V} {ds : List D}, RepL K ct W vs ds → vs.length = ds.length
  | _, _, .nil => rfl
  | _, _, .cons _ r => congrArg (· + 1) (RepL.length r)
theorem RepL.get : ∀ {vs : List V} {ds : List D} {i : Nat} {d : D}, RepL K ct W vs ds → ds[i]? = some d → ∃ v, vs[i]? = some v ∧ Rep K ct W v d
  | _, _, _, _, .nil, e => by simp at e
  | _, _, 0, _, .cons h _, e => by simp at e; subst e; exact ⟨_, rfl, h⟩
  | _, _, i + 1, _, .cons _ r, e => RepL.get (i := i) r (by simpa using e)
theorem RepL.append : ∀ {vs ws : List V} {ds es : List D}, RepL K ct W vs ds → RepL K ct W ws es → RepL K ct W (vs ++ ws) (ds ++ es)
  | _, _, _, _, .nil, s => s
  | _, _, _, _, .cons h r, s => .cons h (RepL.append r s)
theorem RepL.take : ∀ {vs : List V} {ds : List D} (n : Nat), RepL K ct W vs ds → RepL K ct W (vs.take n) (ds.take n)
  | _, _, 0, _ => .nil
  | _, _, _ + 1, .nil => .nil
  | _, _, n + 1, .cons h r => .cons h (RepL.take n r)
theorem RepL.drop : ∀ {vs : List V} {ds : List D} (n : Nat), RepL K ct W vs ds → RepL K ct W (vs.drop n) (ds.drop n)
  | _, _, 0, r => r
  | _, _, _ + 1, .nil => .nil
  | _, _, n + 1, .cons _ r => RepL.drop n r
theorem RepL.set : ∀ {vs : List V} {ds : List D} {v : V} {d : D} (i : Nat), RepL K ct W vs ds → Rep K ct W v d → RepL K ct W (vs.set i v) (ds.set i d)
  | _, _, _, _, _, .nil, _ => .nil
  | _, _, _, _, 0, .cons _ r, h => .cons h r
  | _, _, _, _, i + 1, .cons g r, h => .cons g (RepL.set i r h)
theorem RepL.reverse {vs : List V} {ds : List D} (r : RepL K ct W vs ds) : RepL K ct W vs.reverse ds.reverse := by
  induction vs generalizing ds with
  | nil => cases r; exact .nil
  | cons v vs ih =>
    cases r with
    | cons h r =>
      rw [List.reverse_cons, List.reverse_cons]
      exact (ih r).append (.cons h .nil)
theorem RepL.rep {vs : List V} {ds : List D} (r : RepL K ct W vs ds) : ∀ k : Nat, RepL K ct W (List.replicate k vs).flatten (List.replicate k ds).flatten
  | 0 => .nil
  | k + 1 => by
    rw [List.replicate_succ, List.replicate_succ, List.flatten_cons, List.flatten_cons]
    exact r.append (RepL.rep r k)
theorem RepL.ints : ∀ {vs : List V} {ns : List Int}, RepL K ct W vs (ns.map D.int) → vs = ns.map V.int
  | _, [], .nil => rfl
  | _, n :: ns, .cons h r => by
    have e := RepL.ints (ns := ns) r
    cases h
    rw [e]; rfl
theorem RepL.strs : ∀ {vs : List V} {ns : List Str}, RepL K ct W vs (ns.map D.str) → vs = ns.map V.str
  | _, [], .nil => rfl
  | _, n :: ns, .cons h r => by
    have e := RepL.strs (ns := ns) r
    cases h
    rw [e]; rfl
theorem RepL.of_ints : ∀ ns : List Int, RepL K ct W (ns.map V.int) (ns.map D.int)
  | [] => .nil
  | n :: ns => .cons (.int n) (RepL.of_ints ns)
end
/-! the state -/
inductive Lab where
  | slot (i : Nat) | ob (g : Nat)
  deriving DecidableEq
inductive Slot where
  | no | sh (d : D) | ow (d : D) | o2 (dss : List (List D)) | me (a : Addr) (d : D) | exc (a : Addr)
/-- a kind of object of the store -/
structure Kd where
  P : PySem.W.Frag → CT → Wd → Hp → V → D → Prop
  mono : ∀ {K ct W W' F v d}, P K ct W F v d → W.le W' → P K ct W' F v d
abbrev Sto := List (Kd × D)
section
variable (K : PySem.W.Frag) (ct : CT)
/-- a list, a dict or an instance of one's own at a -/
inductive Cell (W : Wd) (H : Hp) (a : Addr) : D → Prop
  | lst {vs : List V} {ds : List D} : H a = some (.lst vs) → RepL K ct W vs ds → Cell W H a (.lst ds)
  | dic {kvs : List (Key × V)} {kds : List (Key × D)} : H a = some (.dK kvs) → kvs.map (·.1) = kds.map (·.1) → RepL K ct W (kvs.map (·.2)) (kds.map (·.2)) → Cell W H a (.dic kds)
  | obj {C dx : Addr} {fs : List (Str × V)} {c : Str} {ns : List Str} {ds : List D} : H a = some (.ins C dx fs) → ct c = some (C, ns) → fs.map (·.1) = ns.take ds.length → RepL K ct W (fs.map (·.2)) ds → Cell W H a (.obj c ds)
/-- rows of one's own -/
inductive Rows (W : Wd) (H : Hp) (L : Addr → Option Lab) (l : Lab) : List V → List (List D) → Prop
  | nil : Rows W H L l [] []
  | cons {a : Addr} {vs : List V} {ds : List D} {ws : List V} {dss : List (List D)} : H a = some (.lst vs) → L a = some l → RepL K ct W vs ds → V.ref a ∉ ws → Rows W H L l ws dss → Rows W H L l (.ref a :: ws) (ds :: dss)
def SlotOk (W : Wd) (L : Addr → Option Lab) (H : Hp) (σ : St) (i : Nat) : Slot → Prop
  | .no => True
  | .sh d => ∃ v, σ[i]? = some (some v) ∧ Rep K ct W v d
  | .ow d => ∃ a, σ[i]? = some (some (.ref a)) ∧ L a = some (.slot i) ∧ Cell K ct W H a d
  | .me a d => σ[i]? = some (some (.ref a)) ∧ L a = some (.slot i) ∧ Cell K ct W H a d
  | .exc a => σ[i]? = some (some (.ref a))
  | .o2 dss => ∃ a ws, σ[i]? = some (some (.ref a)) ∧ L a = some (.slot i) ∧ H a = some (.lst ws) ∧ V.ref a ∉ ws ∧ Rows K ct W H L (.slot i) ws dss
structure Rel (F : Hp) (W : Wd) (L : Addr → Option Lab) (env : List Slot) (st : Sto) (σ : St) (H : Hp) : Prop where
  fr : ∀ a o, F a = some o → H a = some o ∧ L a = none ∧ W.hs a = none
  hs : ∀ a o, W.hs a = some o → H a = some o ∧ L a = none
  tp : ∀ a vs, W.tp a = some vs → H a = some (.tup vs)
  ob : ∀ g κ d, st[g]? = some (κ, d) → ∃ v, W.rho g = some v ∧ κ.P K ct W (fun a => if L a = some (.ob g) then H a else none) v d
  rh : ∀ g v, W.rho g = some v → g < st.length
  len : σ.length = env.length
  sl : ∀ i s, env[i]? = some s → SlotOk K ct W L H σ i s
end
inductive R where
  | sh (d : D) | ow (d : D) | bw (i : Nat) (d : D)
def R.d : R → D
  | .sh d => d
  | .ow d => d
  | .bw _ d => d
/-- a thing just made is shared at once -/
def R.pin : R → R
  | .ow d => .sh d
  | r => r
section
variable (K : PySem.W.Frag) (ct : CT)
def RepR (F : Hp) (W : Wd) (L : Addr → Option Lab) (H : Hp) (env : List Slot) (σ : St) (v : V) : R → Prop
  | .sh d => Rep K ct W v d
  | .ow d => ∃ a, v = .ref a ∧ L a = none ∧ W.hs a = none ∧ F a = none ∧ Cell K ct W H a d
  | .bw i d => env[i]? = some (.ow d) ∧ σ[i]? = some (some v)
/-- what stays readable -/
def RdR (W : Wd) (env : List Slot) (σ : St) (v : V) : R → Prop
  | .sh d => Rep K ct W v d
  | .ow _ => False
  | .bw i d => env[i]? = some (.ow d) ∧ σ[i]? = some (some v)
/-- readable as the heap is now -/
def RdH (W : Wd) (H : Hp) (v : V) (d : D) : Prop := Rep K ct W v d ∨ ∃ a, v = .ref a ∧ Cell K ct W H a d
end
section
variable {K : PySem.W.Frag} {ct : CT} {F H H' : Hp} {W W' : Wd} {L L' : Addr → Option Lab} {env : List Slot} {st : Sto} {σ : St} {v : V} {d : D} {r : R} {a p : Addr} {o : HO}
theorem Cell.mono {W W' : Wd} {H H' : Hp} (c : Cell K ct W H a d) (l : W.le W') (e : ∀ o, H a = some o → H' a = some o) : Cell K ct W' H' a d := by
  cases c with
  | lst h q => exact .lst (e _ h) (q.mono l)
  | dic h n q => exact .dic (e _ h) n (q.mono l)
  | obj h c n q => exact .obj (e _ h) c n (q.mono l)
theorem Cell.there (c : Cell K ct W H a d) : ∃ o, H a = some o := by
  cases c with
  | lst h q => exact ⟨_, h⟩
  | dic h n q => exact ⟨_, h⟩
  | obj h c n q => exact ⟨_, h⟩
theorem Rows.mono {W W' : Wd} {H H' : Hp} {L L' : Addr → Option Lab} {l : Lab} (lw : W.le W') (e : ∀ a o, L a = some l → H a = some o → H' a = some o ∧ L' a = some l) : ∀ {ws : List V} {dss : List (List D)}, Rows K ct W H L l ws dss → Rows K ct W' H' L' l ws dss
  | _, _, .nil => .nil
  | _, _, .cons h hl q n r => .cons (e _ _ hl h).1 (e _ _ hl h).2 (q.mono lw) n (Rows.mono lw e r)
/-- more shared, labels of what is there kept, what is there kept -/
theorem SlotOk.mono {W W' : Wd} {H H' : Hp} {L L' : Addr → Option Lab} {σ : St} {i : Nat} (lw : W.le W') (e : ∀ a o, L a = some (.slot i) → H a = some o → H' a = some o ∧ L' a = some (.slot i)) : ∀ {s : Slot}, SlotOk K ct W L H σ i s → SlotOk K ct W' L' H' σ i s
  | .no, _ => trivial
  | .sh d, ⟨v, h, q⟩ => ⟨v, h, q.mono lw⟩
  | .ow d, ⟨a, h, hl, c⟩ => by
    obtain ⟨o, ho⟩ := c.there
    exact ⟨a, h, (e a o hl ho).2, c.mono lw fun o h => (e a o hl h).1⟩
  | .me a d, ⟨h, hl, c⟩ => by
    obtain ⟨o, ho⟩ := c.there
    exact ⟨h, (e a o hl ho).2, c.mono lw fun o h => (e a o hl h).1⟩
  | .exc a, h => h
  | .o2 dss, ⟨a, ws, h, hl, hc, n, rr⟩ => ⟨a, ws, h, (e a _ hl hc).2, (e a _ hl hc).1, n, rr.mono lw e⟩
/-- the heap grows, nothing that was tracked is changed -/
theorem Rel.grow (I : Rel K ct F W L env st σ H) (e : ∀ a o, H a = some o → H' a = some o) : Rel K ct F W (fun a => if (H a).isSome then L a else none) env st σ H' := by
  have lab : ∀ a o, H a = some o → (if (H a).isSome then L a else none) = L a := fun a o h => by rw [h]; rfl
  refine ⟨fun a o h => ?_, fun a o h => ?_, fun a vs h => e a _ (I.tp a vs h), fun g κ d h => ?_, I.rh, I.len, fun i s h => ?_⟩
  · obtain ⟨h1, h2, h3⟩ := I.fr a o h
    exact ⟨e a o h1, (lab a o h1).trans h2, h3⟩
  · obtain ⟨h1, h2⟩ := I.hs a o h
    exact ⟨e a o h1, (lab a o h1).trans h2⟩
  · obtain ⟨v, h1, h2⟩ := I.ob g κ d h
    refine ⟨v, h1, ?_⟩
    have q : (fun a => if (if (H a).isSome then L a else none) = some (Lab.ob g) then H' a else none) = fun a => if L a = some (.ob g) then H a else none := by
      funext a
      cases h : H a with
      | none => simp
      | some o => simp [e a o h]
    rw [q]; exact h2
  · exact (I.sl i s h).mono (Wd.le.refl W) fun a o hl ho => ⟨e a o ho, (lab a o ho).trans hl⟩
/-- an object that is nobody's is shared -/
def Wd.add (W : Wd) (p : Addr) (o : HO) : Wd := ⟨upd W.hs p o, W.tp, W.rho⟩
def Wd.addT (W : Wd) (p : Addr) (vs : List V) : Wd := ⟨W.hs, fun a => if a = p then some vs else W.tp a, W.rho⟩
theorem Rel.le_add (I : Rel K ct F W L env st σ H) (h : H p = some o) : W.le (W.add p o) := by
  refine ⟨fun a u e => ?_, fun _ _ e => e, fun _ _ e => e⟩
  by_cases hp : a = p
  · subst hp
    have := (I.hs a u e).1
    rw [h] at this; cases this
    exact upd_same
  · show upd W.hs p o a = some u
    rw [upd_ne hp]; exact e
theorem Rel.share (I : Rel K ct F W L env st σ H) (h : H p = some o) (hl : L p = none) (hf : F p = none) : Rel K ct F (W.add p o) L env st σ H := by
  have le := I.le_add h
  refine ⟨fun a u e => ?_, fun a u e => ?_, I.tp, fun g κ d e => ?_, I.rh, I.len, fun i s e => (I.sl i s e).mono le fun a o hl ho => ⟨ho, hl⟩⟩
  · obtain ⟨h1, h2, h3⟩ := I.fr a u e
    refine ⟨h1, h2, ?_⟩
    have : a ≠ p := by rintro rfl; rw [hf] at e; cases e
    show upd W.hs p o a = none
    rw [upd_ne this]; exact h3
  · by_cases hp : a = p
    · subst hp
      have e : upd W.hs a o a = some u := e
      rw [upd_same] at e; cases e
      exact ⟨h, hl⟩
    · have e : upd W.hs p o a = some u := e
      rw [upd_ne hp] at e
      exact I.hs a u e
  · obtain ⟨v, h1, h2⟩ := I.ob g κ d e
    exact ⟨v, h1, κ.mono h2 le⟩
/-- a tuple is shared -/
theorem Rel.shareT {vs : List V} (I : Rel K ct F W L env st σ H) (h : H p = some (.tup vs)) : W.le (W.addT p vs) ∧ Rel K ct F (W.addT p vs) L env st σ H ∧ (W.addT p vs).tp p = some vs := by
  have le : W.le (W.addT p vs) := by
    refine ⟨fun _ _ e => e, fun a u e => ?_, fun _ _ e => e⟩
    show (if a = p then some vs else W.tp a) = some u
    by_cases hp : a = p
    · subst hp
      have := I.tp a u e
      rw [h] at this; cases this
      exact if_pos rfl
    · rw [if_neg hp]; exact e
  refine ⟨le, ⟨I.fr, I.hs, fun a u e => ?_, fun g κ d e => ?_, I.rh, I.len, fun i s e => (I.sl i s e).mono le fun a o hl ho => ⟨ho, hl⟩⟩, if_pos rfl⟩
  · have e : (if a = p then some vs else W.tp a) = some u := e
    by_cases hp : a = p
    · rw [if_pos hp] at e; cases e; rw [hp]; exact h
    · rw [if_neg hp] at e; exact I.tp a u e
  · obtain ⟨v, h1, h2⟩ := I.ob g κ d e
    exact ⟨v, h1, κ.mono h2 le⟩
/-- a new object -/
theorem Rel.laid (I : Rel K ct F W L env st σ H) (hp : H p = none) : Rel K ct F W (fun a => if (H a).isSome then L a else none) env st σ (upd H p o) ∧ (if (H p).isSome then L p else none) = none ∧ W.hs p = none ∧ F p = none := by
  refine ⟨I.grow fun a u e => by rw [upd_ne (ne_of_none e hp)]; exact e, by rw [hp]; rfl, ?_, ?_⟩
  · cases q : W.hs p with
    | none => rfl
    | some u => have := (I.hs p u q).1; rw [hp] at this; cases this
  · cases q : F p with
    | none => rfl
    | some u => have := (I.fr p u q).1; rw [hp] at this; cases this
/-- what was just made is shared -/
theorem Rel.pin (I : Rel K ct F W L env st σ H) (h : RepR K ct F W L H env σ v r) : ∃ W', W.le W' ∧ Rel K ct F W' L env st σ H ∧ RdR K ct W' env σ v r.pin := by
  cases r with
  | sh d => exact ⟨W, .refl W, I, h⟩
  | bw i d => exact ⟨W, .refl W, I, h⟩
  | ow d =>
    obtain ⟨a, rfl, hl, hw, hf, c⟩ := h
    cases c with
    | lst e q =>
      have le := I.le_add e
      refine ⟨_, le, I.share e hl hf, .lst ?_ (q.mono le)⟩
      exact upd_same
    | dic e n q =>
      have le := I.le_add e
      refine ⟨_, le, I.share e hl hf, .dic ?_ n (q.mono le)⟩
      exact upd_same
    | obj e c n q =>
      have le := I.le_add e
      exact ⟨_, le, I.share e hl hf, Rep.obj (show (W.add a _).hs a = some _ from upd_same) c n (q.mono le)⟩
theorem RdR.mono {W W' : Wd} (h : RdR K ct W env σ v r) (l : W.le W') : RdR K ct W' env σ v r := by
  cases r with
  | sh d => exact Rep.mono l h
  | ow d => exact h
  | bw i d => exact h
theorem Rel.look (I : Rel K ct F W L env st σ H) (h : RdR K ct W env σ v r) : RdH K ct W H v r.d := by
  cases r with
  | sh d => exact .inl h
  | ow d => exact h.elim
  | bw i d =>
    obtain ⟨h1, h2⟩ := h
    obtain ⟨a, e, _, c⟩ := I.sl i _ h1
    rw [h2] at e; cases e
    exact .inr ⟨a, rfl, c⟩
theorem RdH.list {ds : List D} (h : RdH K ct W H v (.lst ds)) (I : Rel K ct F W L env st σ H) : ∃ a vs, v = .ref a ∧ H a = some (.lst vs) ∧ RepL K ct W vs ds := by
  rcases h with h | ⟨a, rfl, c⟩
  · cases h with
    | lst h q => exact ⟨_, _, rfl, (I.hs _ _ h).1, q⟩
  · cases c with
    | lst h q => exact ⟨a, _, rfl, h, q⟩
/-- the items of a list -/
def D.seqL : D → Option (List D)
  | .lst ds => some ds
  | .scr ns => some (ns.map D.int)
  | _ => none
theorem RdH.seqL {ds : List D} (h : RdH K ct W H v d) (e : d.seqL = some ds) (I : Rel K ct F W L env st σ H) : ∃ a vs, v = .ref a ∧ SqL K H a vs ∧ RepL K ct W vs ds := by
  cases d <;> simp only [D.seqL, Option.some.injEq, reduceCtorEq] at e
  · subst e
    obtain ⟨a, vs, e1, e2, e3⟩ := h.list I
    exact ⟨a, vs, e1, SqL.of e2, e3⟩
  · subst e
    rcases h with h | ⟨a, rfl, c⟩
    · cases h with
      | scr h => exact ⟨_, _, rfl, sq_mono (fun a o e => (I.hs a o e).1) h, RepL.of_ints _⟩
    · cases c
theorem RdH.tup {ds : List D} (h : RdH K ct W H v (.tup ds)) (I : Rel K ct F W L env st σ H) : ∃ a vs, v = .ref a ∧ H a = some (.tup vs) ∧ RepL K ct W vs ds := by
  rcases h with h | ⟨a, rfl, c⟩
  · cases h with
    | tup h q => exact ⟨_, _, rfl, I.tp _ _ h, q⟩
  · cases c
theorem RdH.int {i : Int} (h : RdH K ct W H v (.int i)) : v = .int i := by
  rcases h with h | ⟨a, rfl, c⟩
  · cases h; rfl
  · cases c
theorem RdH.bl {i : Bool} (h : RdH K ct W H v (.bl i)) : v = .bl i := by
  rcases h with h | ⟨a, rfl, c⟩
  · cases h; rfl
  · cases c
theorem RdH.str {i : Str} (h : RdH K ct W H v (.str i)) : v = .str i := by
  rcases h with h | ⟨a, rfl, c⟩
  · cases h; rfl
  · cases c
theorem RdH.non (h : RdH K ct W H v .non) : v = .non := by
  rcases h with h | ⟨a, rfl, c⟩
  · cases h; rfl
  · cases c
end
/-! readings by functions -/
abbrev Sem := List Slot → Sto → Option (R × Sto)
abbrev SemA := List Slot → Sto → Option (List R × Sto)
section
variable (K : PySem.W.Frag) (ct : CT)
def tE (e : Sem) : TE := fun σ H Q => ∃ F W L env st r st', Rel K ct F W L env st σ H ∧ e env st = some (r, st') ∧
  ∀ v H' W' L', W.le W' → Rel K ct F W' L' env st' σ H' → RepR K ct F W' L' H' env σ v r → Q v H'
def tT (e : Sem) : TT := fun σ H Q => ∃ F W L env st b st', Rel K ct F W L env st σ H ∧ e env st = some (.sh (.bl b), st') ∧
  ∀ H' W' L', W.le W' → Rel K ct F W' L' env st' σ H' → Q b H'
inductive RdRs (W : Wd) (env : List Slot) (σ : St) : List V → List R → Prop
  | nil : RdRs W env σ [] []
  | cons {v : V} {vs : List V} {r : R} {rs : List R} : RdR K ct W env σ v r → RdRs W env σ vs rs → RdRs W env σ (v :: vs) (r :: rs)
def tA (e : SemA) : TA := fun σ H Q => ∃ F W L env st rs st', Rel K ct F W L env st σ H ∧ e env st = some (rs, st') ∧
  ∀ vs H' W' L', W.le W' → Rel K ct F W' L' env st' σ H' → RdRs K ct W' env σ vs rs → Q vs H'
end
structure SE (X : Cx) (ct : CT) (x : Expr) (e : Sem) : Prop where
  pe : PE X x (tE X.K ct e)
structure ST (X : Cx) (ct : CT) (x : Expr) (e : Sem) : Prop where
  pt : PT X x (tT X.K ct e)
structure SW (X : Cx) (ct : CT) (x : Expr) (e : Sem) : Prop where
  pw : PW X x (tT X.K ct e)
structure SA (X : Cx) (ct : CT) (xs : List Expr) (e : SemA) : Prop where
  pa : PA X xs (tA X.K ct e)
theorem pe_mono {X : Cx} {x : Expr} {t t' : TE} (h : PE X x t) (k : ∀ σ H Q, t' σ H Q → t σ H Q) : PE X x t' := ⟨fun pins s σ H Q I q => h.run pins s σ H Q I (k σ H Q q)⟩
theorem pt_mono {X : Cx} {x : Expr} {t t' : TT} (h : PT X x t) (k : ∀ σ H Q, t' σ H Q → t σ H Q) : PT X x t' := ⟨fun pins s σ H Q I q => h.run pins s σ H Q I (k σ H Q q)⟩
theorem pw_mono {X : Cx} {x : Expr} {t t' : TT} (h : PW X x t) (k : ∀ σ H Q, t' σ H Q → t σ H Q) : PW X x t' := ⟨fun wh pins s σ H Q I q => h.run wh pins s σ H Q I (k σ H Q q)⟩
theorem pa_mono {X : Cx} {x : List Expr} {t t' : TA} (h : PA X x t) (k : ∀ σ H Q, t' σ H Q → t σ H Q) : PA X x t' := ⟨fun pos pins s σ H Q I q => h.run pos pins s σ H Q I (k σ H Q q)⟩
theorem RdRs.mono {K : PySem.W.Frag} {ct : CT} {W W' : Wd} {env : List Slot} {σ : St} (l : W.le W') : ∀ {vs : List V} {rs : List R}, RdRs K ct W env σ vs rs → RdRs K ct W' env σ vs rs
  | _, _, .nil => .nil
  | _, _, .cons h r => .cons (h.mono l) (RdRs.mono l r)
end Kn
namespace Kn
open PySem L2
section
variable {X : Cx} {ct : CT} {pos : Pos}
theorem R.pin_d (r : R) : r.pin.d = r.d := by cases r <;> rfl
/-! names and constants -/
def eVar (i : Nat) : Sem := fun env st => match env[i]? with
  | some (.sh d) => some (.sh d, st)
  | some (.ow d) => some (.bw i d, st)
  | _ => none
def eC (d : D) : Sem := fun _ st => some (.sh d, st)
theorem se_var (i : Nat) {x : Str} (hN : X.N[i]? = some x := by rfl) (hv : Vis X.env.scope x := by first | exact Or.inl rfl | exact Or.inr (Or.inl rfl) | exact Or.inr (Or.inr rfl)) (hd : (x == ("__debug__" : Str)) = false := by decide)
    (hcd : (x == ("__classdict__" : Str)) = false := by decide) : SE X ct (.Name x pos) (eVar i) := by
  refine ⟨pe_mono (pe_var hN hv hd hcd) fun σ H Q ⟨F, W, L, env, st, r, st', I, e, k⟩ => ?_⟩
  unfold eVar at e
  split at e
  · rename_i d he
    cases e
    obtain ⟨v, h1, h2⟩ := I.sl i _ he
    exact ⟨v, h1, k v H W L (.refl W) I h2⟩
  · rename_i d he
    cases e
    obtain ⟨a, h1, h2⟩ := I.sl i _ he
    exact ⟨_, h1, k _ H W L (.refl W) I ⟨he, h1⟩⟩
  · cases e
theorem se_const {x : Expr} {v : V} {d : D} (h : PE X x (tC v)) (r : ∀ W, Rep X.K ct W v d) : SE X ct x (eC d) := by
  refine ⟨pe_mono h fun σ H Q ⟨F, W, L, env, st, r', st', I, e, k⟩ => ?_⟩
  cases e
  exact k v H W L (.refl W) I (r W)
theorem se_int {i j} : SE X ct (.Constant (.int i) j pos) (eC (.int i)) := se_const pe_int fun _ => .int i
theorem se_bl {i j} : SE X ct (.Constant (.bool i) j pos) (eC (.bl i)) := se_const pe_bl fun _ => .bl i
theorem se_str {i j} : SE X ct (.Constant (.str i) j pos) (eC (.str i)) := se_const pe_str fun _ => .str i
/-! two operands -/
def e2 (f : D → D → Option R) (a b : Sem) : Sem := fun env st => (a env st).bind fun p => (b env p.2).bind fun q => (f p.1.d q.1.d).map fun r => (r, q.2)
def e1 (f : D → Option R) (a : Sem) : Sem := fun env st => (a env st).bind fun p => (f p.1.d).map fun r => (r, p.2)
def OpS (K : PySem.W.Frag) (ct : CT) (rr : R2) (f : D → D → Option R) : Prop := ∀ F W L env st σ H x y d1 d2 r Q, Rel K ct F W L env st σ H → RdH K ct W H x d1 → RdH K ct W H y d2 → f d1 d2 = some r →
  (∀ v H' W' L', W.le W' → Rel K ct F W' L' env st σ H' → RepR K ct F W' L' H' env σ v r → Q v H') → rr x y H Q
def UnS (K : PySem.W.Frag) (ct : CT) (rr : V → Hp → VK → Prop) (f : D → Option R) : Prop := ∀ F W L env st σ H x d1 r Q, Rel K ct F W L env st σ H → RdH K ct W H x d1 → f d1 = some r →
  (∀ v H' W' L', W.le W' → Rel K ct F W' L' env st σ H' → RepR K ct F W' L' H' env σ v r → Q v H') → rr x H Q
theorem bind2 {α β : Type} {o : Option α} {f : α → Option β} {b : β} (h : o.bind f = some b) : ∃ a, o = some a ∧ f a = some b := by
  cases o with
  | none => cases h
  | some a => exact ⟨a, rfl, h⟩
theorem map2 {α β : Type} {o : Option α} {f : α → β} {b : β} (h : o.map f = some b) : ∃ a, o = some a ∧ f a = b := by
  cases o with
  | none => cases h
  | some a => exact ⟨a, rfl, Option.some.inj h⟩
theorem tE_e2 {K : PySem.W.Frag} {rr : R2} {f : D → D → Option R} {a b : Sem} (os : OpS K ct rr f) {σ : St} {H : Hp} {Q : VK} (h : tE K ct (e2 f a b) σ H Q) : tOp rr (tE K ct a) (tE K ct b) σ H Q := by
  obtain ⟨F, W, L, env, st, r, st', I, e, k⟩ := h
  obtain ⟨⟨r1, st1⟩, h1, e⟩ := bind2 e
  obtain ⟨⟨r2, st2⟩, h2, e⟩ := bind2 e
  obtain ⟨r3, h3, e⟩ := map2 e
  cases e
  refine ⟨F, W, L, env, st, r1, st1, I, h1, fun x H1 W1 L1 l1 I1 p1 => ?_⟩
  obtain ⟨W1', m1, J1, q1⟩ := I1.pin p1
  refine ⟨F, W1', L1, env, st1, r2, st2, J1, h2, fun y H2 W2 L2 l2 I2 p2 => ?_⟩
  obtain ⟨W2', m2, J2, q2⟩ := I2.pin p2
  have q1' := J2.look (q1.mono (l2.trans m2))
  have q2' := J2.look q2
  rw [R.pin_d] at q1' q2'
  exact os F W2' L2 env st2 σ H2 x y _ _ _ Q J2 q1' q2' h3 fun v H' W' L' l' I' p' => k v H' W' L' (l1.trans (m1.trans (l2.trans (m2.trans l')))) I' p'
theorem tE_e1 {K : PySem.W.Frag} {rr : V → Hp → VK → Prop} {f : D → Option R} {a : Sem} (os : UnS K ct rr f) {σ : St} {H : Hp} {Q : VK} (h : tE K ct (e1 f a) σ H Q) : tUn rr (tE K ct a) σ H Q := by
  obtain ⟨F, W, L, env, st, r, st', I, e, k⟩ := h
  obtain ⟨⟨r1, st1⟩, h1, e⟩ := bind2 e
  obtain ⟨r3, h3, e⟩ := map2 e
  cases e
  refine ⟨F, W, L, env, st, r1, st1, I, h1, fun x H1 W1 L1 l1 I1 p1 => ?_⟩
  obtain ⟨W1', m1, J1, q1⟩ := I1.pin p1
  have q1' := J1.look q1
  rw [R.pin_d] at q1'
  exact os F W1' L1 env st1 σ H1 x _ _ Q J1 q1' h3 fun v H' W' L' l' I' p' => k v H' W' L' (l1.trans (m1.trans l')) I' p'
theorem se_op {op : Operator} {rr : R2} {f : D → D → Option R} {x y : Expr} {a b : Sem} (ho : OpR X (binaryOp op) rr) (os : OpS X.K ct rr f) (ha : SE X ct x a) (hb : SE X ct y b) : SE X ct (.BinOp x op y pos) (e2 f a b) :=
  ⟨pe_mono (pe_op ho ha.pe hb.pe) fun _ _ _ h => tE_e2 os h⟩
theorem se_cmp {op : CmpOp} {rr : R2} {f : D → D → Option R} {x y : Expr} {a b : Sem} (ho : OpR X (compareOp op) rr) (os : OpS X.K ct rr f) (hm : behindInMarks op y = false) (ha : SE X ct x a) (hb : SE X ct y b) : SE X ct (.Compare x [op] [y] pos) (e2 f a b) :=
  ⟨pe_mono (pe_cmpR ho ha.pe hb.pe hm) fun _ _ _ h => tE_e2 os h⟩
theorem tT_tE {K : PySem.W.Frag} {a : Sem} {σ : St} {H : Hp} {Q : Bool → Hp → Prop} (h : tT K ct a σ H Q) : tE K ct a σ H (fun x H' => ∃ k, x = .bl k ∧ Q k H') := by
  obtain ⟨F, W, L, env, st, b, st', I, e, k⟩ := h
  refine ⟨F, W, L, env, st, _, st', I, e, fun v H' W' L' l I' p => ⟨b, ?_, k H' W' L' l I'⟩⟩
  cases (show Rep K ct W' v (.bl b) from p)
  rfl
theorem st_cmp {op : CmpOp} {rr : R2} {f : D → D → Option R} {x y : Expr} {a b : Sem} (ho : OpR X (compareOp op) rr) (os : OpS X.K ct rr f) (hm : behindInMarks op y = false) (ha : SE X ct x a) (hb : SE X ct y b) : ST X ct (.Compare x [op] [y] pos) (e2 f a b) :=
  ⟨pt_mono (pt_cmpR ho ha.pe hb.pe hm) fun _ _ _ h => tE_e2 os (tT_tE h)⟩
/-- a truth as a test -/
theorem st_val {x : Expr} {a : Sem} (h : SE X ct x a) (he : ∀ whole, isTrue x X.env whole = (do let v ← whole; standAt x.pos; holding [v] (truthy v)) := by intro _; rfl) : ST X ct x a :=
  ⟨pt_mono (pt_val h.pe he) fun _ _ _ h => tT_tE h⟩
/-! chains: a op b op' c -/
def eChain (f g : D → D → Option R) (a b c : Sem) : Sem := fun env st => (a env st).bind fun p => (b env p.2).bind fun q => (f p.1.d q.1.d).bind fun r => match r with
  | .sh (.bl true) => (c env q.2).bind fun u => (g q.1.d u.1.d).map fun r => (r, u.2)
  | .sh (.bl false) => some (.sh (.bl false), q.2)
  | _ => none
theorem tE_chain {K : PySem.W.Frag} {rr rr' : R2} {f g : D → D → Option R} {a b c : Sem} (os : OpS K ct rr f) (os' : OpS K ct rr' g) {σ : St} {H : Hp} {Q : VK} (h : tE K ct (eChain f g a b c) σ H Q) : tChain rr rr' (tE K ct a) (tE K ct b) (tE K ct c) σ H Q := by
  obtain ⟨F, W, L, env, st, r, st', I, e, k⟩ := h
  obtain ⟨⟨r1, st1⟩, h1, e⟩ := bind2 e
  obtain ⟨⟨r2, st2⟩, h2, e⟩ := bind2 e
  obtain ⟨r3, h3, e⟩ := bind2 e
  refine ⟨F, W, L, env, st, r1, st1, I, h1, fun x H1 W1 L1 l1 I1 p1 => ?_⟩
  obtain ⟨W1', m1, J1, q1⟩ := I1.pin p1
  refine ⟨F, W1', L1, env, st1, r2, st2, J1, h2, fun y H2 W2 L2 l2 I2 p2 => ?_⟩
  obtain ⟨W2', m2, J2, q2⟩ := I2.pin p2
  have q1' := J2.look (q1.mono (l2.trans m2))
  have q2' := J2.look q2
  rw [R.pin_d] at q1' q2'
  refine os F W2' L2 env st2 σ H2 x y _ _ _ _ J2 q1' q2' h3 fun v H3 W3 L3 l3 I3 p3 => ?_
  have le3 := l1.trans (m1.trans (l2.trans (m2.trans l3)))
  cases r3 with
  | ow d => cases e
  | bw i d => cases e
  | sh d =>
    cases d with
    | bl b =>
      cases (show Rep K ct W3 v (.bl b) from p3)
      refine ⟨b, rfl, ?_⟩
      cases b with
      | false =>
        cases e
        exact iteF (k _ _ _ _ le3 I3 (.bl false))
      | true =>
        refine iteT ?_
        obtain ⟨⟨r4, st4⟩, h4, e⟩ := bind2 e
        obtain ⟨r5, h5, e⟩ := map2 e
        cases e
        refine ⟨F, W3, L3, env, st2, r4, st4, I3, h4, fun z H4 W4 L4 l4 I4 p4 => ?_⟩
        obtain ⟨W4', m4, J4, q4⟩ := I4.pin p4
        have q4' := J4.look q4
        have q2'' := J4.look (q2.mono (l3.trans (l4.trans m4)))
        rw [R.pin_d] at q4' q2''
        exact os' F W4' L4 env st4 σ H4 y z _ _ _ Q J4 q2'' q4' h5 fun v H' W' L' l' I' p' => k v H' W' L' (le3.trans (l4.trans (m4.trans l'))) I' p'
    | _ => cases e
theorem st_chain {op op' : CmpOp} {rr rr' : R2} {f g : D → D → Option R} {x y z : Expr} {a b c : Sem} (ho : OpR X (compareOp op) rr) (os : OpS X.K ct rr f) (ho' : OpR X (compareOp op') rr') (os' : OpS X.K ct rr' g) (ha : SE X ct x a) (hb : SE X ct y b) (hc : SE X ct z c)
    (hm : lastMarks [op, op'] [y, z] = false := by with_unfolding_all rfl) : ST X ct (.Compare x [op, op'] [y, z] pos) (eChain f g a b c) := ⟨pt_mono (pt_chain ho ho' ha.pe hb.pe hc.pe hm) fun _ _ _ h => tE_chain os os' (tT_tE h)⟩
/-! and, or, not, if-else -/
def eAnd (a b : Sem) : Sem := fun env st => (a env st).bind fun p => match p.1 with
  | .sh (.bl true) => b env p.2
  | .sh (.bl false) => some (.sh (.bl false), p.2)
  | _ => none
def eOr (a b : Sem) : Sem := fun env st => (a env st).bind fun p => match p.1 with
  | .sh (.bl false) => b env p.2
  | .sh (.bl true) => some (.sh (.bl true), p.2)
  | _ => none
def eNot (a : Sem) : Sem := fun env st => (a env st).bind fun p => match p.1 with
  | .sh (.bl b) => some (.sh (.bl (!b)), p.2)
  | _ => none
def eIf (c a b : Sem) : Sem := fun env st => (c env st).bind fun p => match p.1 with
  | .sh (.bl true) => a env p.2
  | .sh (.bl false) => b env p.2
  | _ => none
theorem eAnd_inv {a b : Sem} {env st r st'} (h : eAnd a b env st = some (r, st')) : (∃ st1, a env st = some (.sh (.bl true), st1) ∧ b env st1 = some (r, st')) ∨ (a env st = some (.sh (.bl false), st') ∧ r = .sh (.bl false)) := by
  obtain ⟨⟨r1, st1⟩, h1, h⟩ := bind2 h
  cases r1 with
  | sh d =>
    cases d with
    | bl b =>
      cases b with
      | true => exact .inl ⟨st1, h1, h⟩
      | false => cases h; exact .inr ⟨h1, rfl⟩
    | _ => cases h
  | _ => cases h
theorem eOr_inv {a b : Sem} {env st r st'} (h : eOr a b env st = some (r, st')) : (∃ st1, a env st = some (.sh (.bl false), st1) ∧ b env st1 = some (r, st')) ∨ (a env st = some (.sh (.bl true), st') ∧ r = .sh (.bl true)) := by
  obtain ⟨⟨r1, st1⟩, h1, h⟩ := bind2 h
  cases r1 with
  | sh d =>
    cases d with
    | bl b =>
      cases b with
      | false => exact .inl ⟨st1, h1, h⟩
      | true => cases h; exact .inr ⟨h1, rfl⟩
    | _ => cases h
  | _ => cases h
theorem eNot_inv {a : Sem} {env st r st'} (h : eNot a env st = some (r, st')) : ∃ k, a env st = some (.sh (.bl k), st') ∧ r = .sh (.bl (!k)) := by
  obtain ⟨⟨r1, st1⟩, h1, h⟩ := bind2 h
  cases r1 with
  | sh d =>
    cases d with
    | bl k => cases h; exact ⟨k, h1, rfl⟩
    | _ => cases h
  | _ => cases h
theorem st_not {x : Expr} {a : Sem} (h : ST X ct x a) : ST X ct (.UnaryOp .Not x pos) (eNot a) := by
  refine ⟨pt_mono (pt_not h.pt) fun σ H Q ⟨F, W, L, env, st, b, st', I, e, k⟩ => ?_⟩
  obtain ⟨k', h1, h2⟩ := eNot_inv e
  cases h2
  refine ⟨F, W, L, env, st, k', st', I, h1, fun H' W' L' l I' => ?_⟩
  exact k H' W' L' l I'
variable {rest : List Expr} {x y : Expr} {a b c : Sem}
theorem sw_and1 (h : ST X ct x a) : SW X ct (.BoolOp .And [x] pos) a := ⟨pw_and1 h.pt⟩
theorem sw_or1 (h : ST X ct x a) : SW X ct (.BoolOp .Or [x] pos) a := ⟨pw_or1 h.pt⟩
theorem sw_and (h : ST X ct x a) (k : SW X ct (.BoolOp .And (y :: rest) pos) b) : SW X ct (.BoolOp .And (x :: y :: rest) pos) (eAnd a b) := by
  refine ⟨pw_mono (pw_and h.pt k.pw) fun σ H Q ⟨F, W, L, env, st, r, st', I, e, k⟩ => ?_⟩
  rcases eAnd_inv e with ⟨st1, h1, h2⟩ | ⟨h1, h2⟩
  · refine ⟨F, W, L, env, st, true, st1, I, h1, fun H' W' L' l I' => ?_⟩
    exact iteT ⟨F, W', L', env, st1, r, st', I', h2, fun H2 W2 L2 l2 I2 => k H2 W2 L2 (l.trans l2) I2⟩
  · cases h2
    refine ⟨F, W, L, env, st, false, st', I, h1, fun H' W' L' l I' => ?_⟩
    exact iteF (k H' W' L' l I')
theorem sw_or (h : ST X ct x a) (k : SW X ct (.BoolOp .Or (y :: rest) pos) b) : SW X ct (.BoolOp .Or (x :: y :: rest) pos) (eOr a b) := by
  refine ⟨pw_mono (pw_or h.pt k.pw) fun σ H Q ⟨F, W, L, env, st, r, st', I, e, k⟩ => ?_⟩
  rcases eOr_inv e with ⟨st1, h1, h2⟩ | ⟨h1, h2⟩
  · refine ⟨F, W, L, env, st, false, st1, I, h1, fun H' W' L' l I' => ?_⟩
    exact iteF ⟨F, W', L', env, st1, r, st', I', h2, fun H2 W2 L2 l2 I2 => k H2 W2 L2 (l.trans l2) I2⟩
  · cases h2
    refine ⟨F, W, L, env, st, true, st', I, h1, fun H' W' L' l I' => ?_⟩
    exact iteT (k H' W' L' l I')
theorem SW.st (h : SW X ct x a) : ST X ct x a := ⟨h.pw.pt⟩
end
end Kn
namespace Kn
open PySem L2
/-! data as the library's -/
mutual
def D.py : D → PyData
  | .non => .none
  | .bl b => .bool b
  | .int i => .int i
  | .str x => .str x
  | .lst ds => .list (D.pyL ds)
  | .tup ds => .tuple (D.pyL ds)
  | .scr ns => .list (ns.map .int)
  | _ => .dict []
def D.pyL : List D → List PyData
  | [] => []
  | d :: ds => d.py :: D.pyL ds
end
theorem D.pyL_eq : ∀ ds : List D, D.pyL ds = ds.map D.py
  | [] => rfl
  | d :: ds => by rw [D.pyL, D.pyL_eq ds]; rfl
theorem dp_ints (K : PySem.W.Frag) (H : Hp) : ∀ ns : List Int, DpAll K H (ns.map V.int) (ns.map PyData.int)
  | [] => .nil
  | n :: ns => .cons (.int n) (dp_ints K H ns)
section
variable {K : PySem.W.Frag} {ct : CT} {W : Wd} {H : Hp}
mutual
theorem Rep.dp (e : ∀ a o, W.hs a = some o → H a = some o) (e' : ∀ a vs, W.tp a = some vs → H a = some (.tup vs)) : ∀ {v : V} {d : D}, Rep K ct W v d → d.py.canLay0 = true → Dp K H v d.py
  | _, _, .non, _ => .non
  | _, _, .bl b, _ => .bl b
  | _, _, .int i, _ => .int i
  | _, _, .str x, _ => .str x
  | _, _, .lst h r, c => by
    rw [D.py] at c ⊢
    exact .lst (SqL.of (e _ _ h)) (RepL.dp e e' r (by simpa [PyData.canLay0] using c))
  | _, _, .tup h r, c => by
    rw [D.py] at c ⊢
    exact .tup (SqT.of (e' _ _ h)) (RepL.dp e e' r (by simpa [PyData.canLay0] using c))
  | _, _, .scr h, c => by
    rw [D.py]
    exact .lst (sq_mono e h) (dp_ints K H _)
  | _, _, .dic h _ r, c => by simp [D.py, PyData.canLay0] at c
  | _, _, .obj h _ _ r, c => by simp [D.py, PyData.canLay0] at c
  | _, _, .hnd h, c => by simp [D.py, PyData.canLay0] at c
theorem RepL.dp (e : ∀ a o, W.hs a = some o → H a = some o) (e' : ∀ a vs, W.tp a = some vs → H a = some (.tup vs)) : ∀ {vs : List V} {ds : List D}, RepL K ct W vs ds → PyData.canLayAll0 (D.pyL ds) = true → DpAll K H vs (D.pyL ds)
  | _, _, .nil, _ => by rw [D.pyL]; exact .nil
  | _, _, .cons h r, c => by
    rw [D.pyL] at c ⊢
    rw [PyData.canLayAll0, Bool.and_eq_true] at c
    exact .cons (Rep.dp e e' h c.1) (RepL.dp e e' r c.2)
end
theorem RdH.dp {F : Hp} {L : Addr → Option Lab} {env : List Slot} {st : Sto} {σ : St} {v : V} {d : D} (h : RdH K ct W H v d) (I : Rel K ct F W L env st σ H) (c : SeqAt.shaped d.py = true) : Dp K H v d.py := by
  have c := SeqAt.canLay_of_shaped c
  rcases h with h | ⟨a, rfl, cl⟩
  · exact h.dp (fun a o e => (I.hs a o e).1) I.tp c
  · cases cl with
    | lst h q =>
      rw [D.py] at c ⊢
      exact .lst (SqL.of h) (q.dp (fun a o e => (I.hs a o e).1) I.tp (by simpa [PyData.canLay0] using c))
    | dic h _ q => simp [D.py, PyData.canLay0] at c
    | obj h _ _ q => simp [D.py, PyData.canLay0] at c
end
/-! operators -/
section
variable {X : Cx} {ct : CT} {pos : Pos}
theorem fresh_out {K : PySem.W.Frag} {F H : Hp} {W : Wd} {L : Addr → Option Lab} {env : List Slot} {st : Sto} {σ : St} {Q : VK} {d : D} {o : HO} {p : Addr} (I : Rel K ct F W L env st σ H) (hp : H p = none) (c : Cell K ct W (upd H p o) p d)
    (k : ∀ v H' W' L', W.le W' → Rel K ct F W' L' env st σ H' → RepR K ct F W' L' H' env σ v (.ow d) → Q v H') : Q (.ref p) (upd H p o) := by
  obtain ⟨I', h1, h2, h3⟩ := I.laid (o := o) hp
  exact k _ _ W _ (.refl W) I' ⟨p, rfl, h1, h2, h3, c⟩
theorem tup_out {K : PySem.W.Frag} {F H : Hp} {W : Wd} {L : Addr → Option Lab} {env : List Slot} {st : Sto} {σ : St} {Q : VK} {ds : List D} {vs : List V} {p : Addr} (I : Rel K ct F W L env st σ H) (hp : H p = none) (r : RepL K ct W vs ds)
    (k : ∀ v H' W' L', W.le W' → Rel K ct F W' L' env st σ H' → RepR K ct F W' L' H' env σ v (.sh (.tup ds)) → Q v H') : Q (.ref p) (upd H p (.tup vs)) := by
  obtain ⟨I', _⟩ := I.laid (o := .tup vs) hp
  obtain ⟨le, J, e⟩ := I'.shareT (p := p) upd_same
  exact k _ _ _ _ le J (Rep.tup e (r.mono le))
def fAdd : D → D → Option R
  | .int i, .int j => some (.sh (.int (i + j)))
  | .str a, .str b => if a.length + b.length ≤ sizeLine then some (.sh (.str (a ++ b))) else none
  | .lst a, .lst b => if a.length + b.length ≤ sizeLine then some (.ow (.lst (a ++ b))) else none
  | .tup (a :: as), .tup (b :: bs) => if (a :: as).length + (b :: bs).length ≤ sizeLine then some (.sh (.tup ((a :: as) ++ (b :: bs)))) else none
  | _, _ => none
def rrAdd (K : PySem.W.Frag) : R2 := fun x y H Q => (rI0 fun i j => .int (i + j)) x y H Q ∨ (∃ i j, x = .str i ∧ y = .str j ∧ i.length + j.length ≤ sizeLine ∧ Q (.str (i ++ j)) H) ∨ rCat x y H Q ∨ rCatT K x y H Q
theorem op_addA : OpR X (binaryOp .Add) (rrAdd X.K) := OpR.or op_add (OpR.or op_add_str (OpR.or op_cat op_catT))
theorem os_add {K : PySem.W.Frag} : OpS K ct (rrAdd K) fAdd := by
  intro F W L env st σ H x y d1 d2 r Q I h1 h2 e k
  unfold fAdd at e
  split at e
  · cases e
    exact .inl ⟨_, _, h1.int, h2.int, k _ H W L (.refl W) I (.int _)⟩
  · split at e <;> cases e
    rename_i c
    exact .inr (.inl ⟨_, _, h1.str, h2.str, c, k _ H W L (.refl W) I (.str _)⟩)
  · split at e <;> cases e
    rename_i c
    obtain ⟨a, vs, rfl, g1, q1⟩ := h1.list I
    obtain ⟨b, ws, rfl, g2, q2⟩ := h2.list I
    refine .inr (.inr (.inl ⟨a, b, vs, ws, rfl, rfl, g1, g2, by rw [q1.length, q2.length]; exact c, fun p hp => ?_⟩))
    exact fresh_out I hp (.lst upd_same (q1.append q2)) k
  · split at e <;> cases e
    rename_i c
    obtain ⟨a, vs, rfl, g1, q1⟩ := h1.tup I
    obtain ⟨b, ws, rfl, g2, q2⟩ := h2.tup I
    refine .inr (.inr (.inr ⟨a, b, vs, ws, rfl, rfl, SqT.of g1, SqT.of g2, ?_, by rw [q1.length, q2.length]; exact c, ?_⟩))
    · rintro rfl; cases q1
    · refine ⟨?_, fun _ p hp => tup_out I hp (q1.append q2) k⟩
      rintro rfl; cases q2
  · cases e
theorem se_add {x y : Expr} {a b : Sem} (ha : SE X ct x a) (hb : SE X ct y b) : SE X ct (.BinOp x .Add y pos) (e2 fAdd a b) := se_op op_addA os_add ha hb
/-- a rule over two ints -/
def fI (g : Int → Int → Option Int) : D → D → Option R
  | .int i, .int j => (g i j).map fun k => .sh (.int k)
  | _, _ => none
theorem os_I {K : PySem.W.Frag} {C : Int → Int → Prop} {f : Int → Int → Int} {g : Int → Int → Option Int} (h : ∀ i j k, g i j = some k → C i j ∧ k = f i j) : OpS K ct (rI C fun i j => .int (f i j)) (fI g) := by
  intro F W L env st σ H x y d1 d2 r Q I h1 h2 e k
  unfold fI at e
  split at e
  · obtain ⟨m, e1, e2⟩ := map2 e
    subst e2
    obtain ⟨c, rfl⟩ := h _ _ _ e1
    exact ⟨_, _, h1.int, h2.int, c, k _ H W L (.refl W) I (.int _)⟩
  · cases e
def gSub' : Int → Int → Option Int := fun i j => some (i - j)
def gMul : Int → Int → Option Int := fun i j => if i.natAbs.log2 + j.natAbs.log2 < 1000000 then some (i * j) else none
def gDiv : Int → Int → Option Int := fun i j => if 0 < j ∧ j.natAbs.log2 < 9000 then some (i / j) else none
def gMod : Int → Int → Option Int := fun i j => if 0 < j then some (i % j) else none
def gPow : Int → Int → Option Int := fun i j => if 0 ≤ j ∧ j ≤ 1000000 ∧ i.natAbs < 2 ^ 64 then some (i ^ j.toNat) else none
variable {x y : Expr} {a b : Sem}
theorem ifs {α : Type} {c : Prop} [Decidable c] {v w : α} (h : (if c then some v else none) = some w) : c ∧ w = v := by
  split at h
  · exact ⟨by assumption, (Option.some.inj h).symm⟩
  · cases h
/-- a product of ints, or a list so many times -/
def fMul : D → D → Option R
  | .int i, .int j => (gMul i j).map fun k => .sh (.int k)
  | .lst ds, .int k => if -(2 ^ 63) ≤ k ∧ k < 2 ^ 63 ∧ ds.length * k.toNat ≤ sizeLine then some (.ow (.lst (List.replicate k.toNat ds).flatten)) else none
  | _, _ => none
theorem se_div (ha : SE X ct x a) (hb : SE X ct y b) : SE X ct (.BinOp x .FloorDiv y pos) (e2 (fI gDiv) a b) := se_op op_fdivW (os_I (C := CDivW) (f := fun i j => i / j) fun i j k h => ⟨(ifs h).1, (ifs h).2⟩) ha hb
theorem se_mod (ha : SE X ct x a) (hb : SE X ct y b) : SE X ct (.BinOp x .Mod y pos) (e2 (fI gMod) a b) := se_op op_mod (os_I (C := fun _ j => 0 < j) (f := fun i j => i % j) fun i j k h => ⟨(ifs h).1, (ifs h).2⟩) ha hb
theorem se_pow (ha : SE X ct x a) (hb : SE X ct y b) : SE X ct (.BinOp x .Pow y pos) (e2 (fI gPow) a b) := se_op op_pow (os_I (C := CPow) (f := fun i j => i ^ j.toNat) fun i j k h => ⟨(ifs h).1, (ifs h).2⟩) ha hb
def fNeg : D → Option R
  | .int i => some (.sh (.int (-i)))
  | _ => none
/-! comparisons -/
def fC (g : Int → Int → Bool) : D → D → Option R
  | .int i, .int j => some (.sh (.bl (g i j)))
  | _, _ => none
theorem os_C {K : PySem.W.Frag} {g : Int → Int → Bool} : OpS K ct (rI0 fun i j => .bl (g i j)) (fC g) := by
  intro F W L env st σ H x y d1 d2 r Q I h1 h2 e k
  unfold fC at e
  split at e <;> cases e
  exact ⟨_, _, h1.int, h2.int, k _ H W L (.refl W) I (.bl _)⟩
abbrev fLt := fC fun i j => decide (i < j)
abbrev fLe := fC fun i j => decide (i ≤ j)
theorem st_lt (ha : SE X ct x a) (hb : SE X ct y b) : ST X ct (.Compare x [.Lt] [y] pos) (e2 fLt a b) := st_cmp op_lt os_C (nomark _) ha hb
theorem st_chLL {z : Expr} {c : Sem} (ha : SE X ct x a) (hb : SE X ct y b) (hc : SE X ct z c) (hm : lastMarks [.LtE, .LtE] [y, z] = false := by with_unfolding_all rfl) : ST X ct (.Compare x [.LtE, .LtE] [y, z] pos) (eChain fLe fLe a b c) := st_chain op_le os_C op_le os_C ha hb hc hm
def D.ok (d : D) : Bool := SeqAt.shaped d.py
def D.eq (d e : D) : Bool := PyData.eqv d.py e.py
def fEq (d e : D) : Option R := if d.ok = true ∧ e.ok = true then some (.sh (.bl (d.eq e))) else none
def fNe (d e : D) : Option R := if d.ok = true ∧ e.ok = true then some (.sh (.bl (!d.eq e))) else none
theorem os_eq {K : PySem.W.Frag} : OpS K ct (rEqD K) fEq := by
  intro F W L env st σ H x y d1 d2 r Q I h1 h2 e k
  obtain ⟨c, rfl⟩ := ifs e
  exact ⟨_, _, h1.dp I c.1, h2.dp I c.2, c.1, c.2, k _ H W L (.refl W) I (.bl _)⟩
theorem os_ne {K : PySem.W.Frag} : OpS K ct (rNeD K) fNe := by
  intro F W L env st σ H x y d1 d2 r Q I h1 h2 e k
  obtain ⟨c, rfl⟩ := ifs e
  exact ⟨_, _, h1.dp I c.1, h2.dp I c.2, c.1, c.2, k _ H W L (.refl W) I (.bl _)⟩
theorem se_eq {k : Nat} (hr : Room k X.A) (ha : SE X ct x a) (hb : SE X ct y b) : SE X ct (.Compare x [.Eq] [y] pos) (e2 fEq a b) := se_cmp (op_eqD hr.units) os_eq (nomark _) ha hb
theorem st_eq {k : Nat} (hr : Room k X.A) (ha : SE X ct x a) (hb : SE X ct y b) : ST X ct (.Compare x [.Eq] [y] pos) (e2 fEq a b) := st_cmp (op_eqD hr.units) os_eq (nomark _) ha hb
theorem st_ne {k : Nat} (hr : Room k X.A) (ha : SE X ct x a) (hb : SE X ct y b) : ST X ct (.Compare x [.NotEq] [y] pos) (e2 fNe a b) := st_cmp (op_neD hr.units) os_ne (nomark _) ha hb
/-- is None -/
def D.isN : D → Bool
  | .non => true
  | _ => false
def fIsN (d : D) : Option R := match d with
  | .hnd _ => none
  | d => some (.sh (.bl d.isN))
def fNotN (d : D) : Option R := match d with
  | .hnd _ => none
  | d => some (.sh (.bl (!d.isN)))
theorem RdH.isN {K : PySem.W.Frag} {W : Wd} {H : Hp} {v : V} {d : D} (h : RdH K ct W H v d) (n : ∀ g, d ≠ .hnd g) : decide (v = .non) = d.isN := by
  rcases h with h | ⟨a, rfl, c⟩
  · cases h <;> first | rfl | (rename_i g _; exact absurd rfl (n _))
  · cases c <;> rfl
/-- in, not in: a list, a tuple of flat things, a dict -/
def D.flat : D → Bool
  | .non | .bl _ | .int _ | .str _ => true
  | _ => false
def D.key : D → Option Key
  | .int i => some (.inl i)
  | .str x => some (.inr x)
  | _ => none
def valD (kds : List (Key × D)) (k : Key) : Option D := (kds.find? fun kv => decide (kv.1 = k)).map (·.2)
def fInB (x y : D) : Option Bool := match y with
  | .lst ds => if x.ok = true ∧ y.ok = true then some (ds.any fun z => z.eq x) else none
  | .scr ns => if x.ok = true then some ((ns.map D.int).any fun z => z.eq x) else none
  | .tup ds => if x.flat = true ∧ ds.all D.flat = true then some (ds.any fun z => z.eq x) else none
  | .dic kds => x.key.map fun k => (valD kds k).isSome
  | _ => none
def fIn (x y : D) : Option R := (fInB x y).map fun b => .sh (.bl b)
theorem RdH.dic {K : PySem.W.Frag} {F H : Hp} {W : Wd} {L : Addr → Option Lab} {env : List Slot} {st : Sto} {σ : St} {v : V} {kds : List (Key × D)} (h : RdH K ct W H v (.dic kds)) (I : Rel K ct F W L env st σ H) :
    ∃ a kvs, v = .ref a ∧ H a = some (.dK kvs) ∧ kvs.map (·.1) = kds.map (·.1) ∧ RepL K ct W (kvs.map (·.2)) (kds.map (·.2)) := by
  rcases h with h | ⟨a, rfl, c⟩
  · cases h with
    | dic h n q => exact ⟨_, _, rfl, (I.hs _ _ h).1, n, q⟩
  · cases c with
    | dic h n q => exact ⟨a, _, rfl, h, n, q⟩
theorem valD_rep {K : PySem.W.Frag} {W : Wd} (k : Key) : ∀ {kvs : List (Key × V)} {kds : List (Key × D)}, kvs.map (·.1) = kds.map (·.1) → RepL K ct W (kvs.map (·.2)) (kds.map (·.2)) →
    (valV kvs k = none ∧ valD kds k = none) ∨ ∃ v d, valV kvs k = some v ∧ valD kds k = some d ∧ Rep K ct W v d
  | [], [], _, _ => .inl ⟨rfl, rfl⟩
  | [], _ :: _, n, _ => by cases n
  | _ :: _, [], n, _ => by cases n
  | (k1, v) :: kvs, (k2, d) :: kds, n, r => by
    simp only [List.map_cons, List.cons.injEq] at n
    obtain ⟨n1, n2⟩ := n
    cases r with
    | cons h r =>
      by_cases e : k1 = k
      · have e2 : k2 = k := n1.symm.trans e
        exact .inr ⟨v, d, valV_pos e, by simp [valD, List.find?_cons, e2], h⟩
      · have e2 : ¬ k2 = k := fun q => e (n1.trans q)
        have q1 : valV ((k1, v) :: kvs) k = valV kvs k := valV_neg e
        have q2 : valD ((k2, d) :: kds) k = valD kds k := by simp [valD, List.find?_cons, e2]
        rw [q1, q2]
        exact valD_rep k n2 r
theorem D.key_v {K : PySem.W.Frag} {W : Wd} {H : Hp} {v : V} {d : D} {k : Key} (h : RdH K ct W H v d) (e : d.key = some k) : v = kV k := by
  cases d <;> simp only [D.key, Option.some.injEq, reduceCtorEq] at e
  · subst e; exact h.int
  · subst e; exact h.str
theorem any_pyL (x : D) : ∀ ds : List D, (D.pyL ds).any (fun z => PyData.eqv z x.py) = ds.any fun z => z.eq x
  | [] => rfl
  | d :: ds => by rw [D.pyL, List.any_cons, List.any_cons, any_pyL x ds]; rfl
theorem Rep.flat {K : PySem.W.Frag} {W : Wd} {v : V} {d : D} (h : Rep K ct W v d) (f : d.flat = true) : flatV v = true := by
  cases h <;> first | rfl | (cases f; done)
theorem Rep.eqV {K : PySem.W.Frag} {W : Wd} {v w : V} {d e : D} (h : Rep K ct W v d) (k : Rep K ct W w e) (f : d.flat = true) (g : e.flat = true) : eqV v w = d.eq e := by
  cases h <;> first | (cases f; done) | (cases k <;> first | (cases g; done) | (unfold D.eq; simp only [D.py, PyData.eqv, L2.eqV]))
theorem RdH.rep {K : PySem.W.Frag} {W : Wd} {H : Hp} {v : V} {d : D} (h : RdH K ct W H v d) (f : d.flat = true) : Rep K ct W v d := by
  rcases h with h | ⟨a, rfl, c⟩
  · exact h
  · cases c <;> cases f
theorem inV_eq {K : PySem.W.Frag} {W : Wd} {x : V} {d : D} (h : Rep K ct W x d) (f : d.flat = true) : ∀ {vs : List V} {ds : List D}, RepL K ct W vs ds → ds.all D.flat = true → vs.all flatV = true ∧ inV x vs = ds.any fun z => z.eq d
  | _, _, .nil, _ => ⟨rfl, rfl⟩
  | _, _, .cons q r, g => by
    rw [List.all_cons, Bool.and_eq_true] at g
    obtain ⟨h1, h2⟩ := inV_eq h f r g.2
    unfold inV at h2 ⊢
    rw [List.all_cons, List.any_cons, List.any_cons, q.flat g.1, h1, h2, q.eqV h g.1 f]
    exact ⟨rfl, rfl⟩
theorem shaped_ints : ∀ ns : List Int, SeqAt.shaped (.list (ns.map PyData.int)) = true := fun ns => by
  have c : ∀ ns : List Int, PyData.canLayAll0 (ns.map PyData.int) = true := fun ns => by
    induction ns with
    | nil => rfl
    | cons n ns ih =>
      rw [List.map_cons, PyData.canLayAll0, ih]
      rfl
  have d : ∀ ns : List Int, PyData.depthAll (ns.map PyData.int) = 0 := fun ns => by
    induction ns with
    | nil => rfl
    | cons n ns ih =>
      rw [List.map_cons, PyData.depthAll, ih]
      rfl
  unfold SeqAt.shaped
  rw [PyData.canLay0, PyData.depth, c, d]
  rfl
theorem os_in {K : PySem.W.Frag} (neg : Bool) : OpS K ct (fun x y H Q => (if neg then rNotInD K else rInD K) x y H Q ∨ rIn K neg x y H Q ∨ ∃ a o, y = .ref a ∧ DGet H a x o ∧ Q (.bl (if neg then !o.isSome else o.isSome)) H) (fun x y => (fInB x y).map fun b => .sh (.bl (if neg then !b else b))) := by
  intro F W L env st σ H x y d1 d2 r Q I h1 h2 e k
  obtain ⟨m, e1, e2⟩ := map2 e
  subst e2
  unfold fInB at e1
  split at e1
  · rename_i ds
    obtain ⟨c, rfl⟩ := ifs e1
    have g2 := h2.dp I c.2
    have s2 : SeqAt.shaped (D.py (.lst ds)) = true := c.2
    rw [D.py] at g2 s2
    refine .inl ?_
    rw [← any_pyL] at k
    cases neg with
    | true => exact ⟨_, _, h1.dp I c.1, g2, c.1, s2, k _ H W L (.refl W) I (.bl _)⟩
    | false => exact ⟨_, _, h1.dp I c.1, g2, c.1, s2, k _ H W L (.refl W) I (.bl _)⟩
  · rename_i ns
    obtain ⟨c, rfl⟩ := ifs e1
    have s2 : SeqAt.shaped (D.py (.scr ns)) = true := by rw [D.py]; exact shaped_ints ns
    have g2 := h2.dp I s2
    rw [D.py] at g2 s2
    have pe : (ns.map PyData.int) = D.pyL (ns.map D.int) := by rw [D.pyL_eq, List.map_map]; exact List.map_congr_left fun n _ => rfl
    rw [pe] at g2 s2
    refine .inl ?_
    rw [← any_pyL] at k
    cases neg with
    | true => exact ⟨_, _, h1.dp I c, g2, c, s2, k _ H W L (.refl W) I (.bl _)⟩
    | false => exact ⟨_, _, h1.dp I c, g2, c, s2, k _ H W L (.refl W) I (.bl _)⟩
  · obtain ⟨c, rfl⟩ := ifs e1
    obtain ⟨a, vs, rfl, g, q⟩ := h2.tup I
    obtain ⟨f1, f2⟩ := inV_eq (h1.rep c.1) c.1 q c.2
    refine .inr (.inl ⟨a, vs, rfl, .inr (SqT.of g), (h1.rep c.1).flat c.1, f1, ?_⟩)
    rw [f2]
    exact k _ H W L (.refl W) I (.bl _)
  · rename_i kds
    obtain ⟨ky, ek, rfl⟩ := map2 e1
    obtain ⟨a, kvs, rfl, g, n, q⟩ := h2.dic I
    refine .inr (.inr ⟨a, valV kvs ky, rfl, ?_, ?_⟩)
    · rw [D.key_v h1 ek]; exact DGet.k g
    · have e : (valV kvs ky).isSome = (valD kds ky).isSome := by
        rcases valD_rep ky n q with ⟨e1, e2⟩ | ⟨v, d, e1, e2, _⟩ <;> rw [e1, e2] <;> rfl
      rw [e]
      exact k _ H W L (.refl W) I (.bl _)
  · cases e1
theorem op_inDict (hu : X.A.units + 1 < cLine) : OpR X (compareOp .In) (fun x y H Q => ∃ a o, y = .ref a ∧ DGet H a x o ∧ Q (.bl o.isSome) H) := by
  intro pins s σ H x y v u Q I rx ry ⟨a, o, e, g, q⟩
  subst e
  cases (show u = Value.ref a from ry)
  exact d_in hu I g rx fun s' I' => ⟨.bl _, H, I', rfl, q⟩
end
end Kn
namespace Kn
open PySem L2
section
variable {X : Cx} {ct : CT} {pos : Pos} {x y : Expr} {a b : Sem}
/-! an item -/
def fIdx : D → D → Option R
  | .lst ds, .int i => (atI ds i).map .sh
  | .scr ns, .int i => (atI ns i).map fun n => .sh (.int n)
  | .tup ds, .int i => (atI ds i).map .sh
  | .str z, .int i => if z.length ≤ sizeLine then (atI z.cps.toList i).map fun c => .sh (.str ⟨#[c]⟩) else none
  | .dic kds, d => d.key.bind fun k => (valD kds k).map .sh
  | _, _ => none
theorem atI_rep {K : PySem.W.Frag} {W : Wd} {vs : List V} {ds : List D} {i : Int} {d : D} (r : RepL K ct W vs ds) (h : atI ds i = some d) : ∃ v, atI vs i = some v ∧ Rep K ct W v d := by
  unfold atI at h ⊢
  obtain ⟨j, h1, h2⟩ := bind2 h
  obtain ⟨v, h3, h4⟩ := r.get h2
  refine ⟨v, ?_, h4⟩
  rw [r.length, h1]
  exact h3
theorem ix_dict (hu : X.A.units + 1 < cLine) : IxR X (fun x y H Q => ∃ a v, x = .ref a ∧ DGet H a y (some v) ∧ Q v H) := by
  intro value slice pins s σ H x y v u Q I rx ry ⟨a, w, e, g, q⟩ hs
  subst e
  cases (show v = Value.ref a from rx)
  exact PyProof.Rows.tail_any (dict_typeIs I g) PySem.F.slot_dict_getitem.lookup (d_getItem hu I g ry fun w' s3 I3 rw' => ⟨w, H, I3, rw', q⟩) hs
theorem os_idx {K : PySem.W.Frag} : OpS K ct (fun x y H Q => (∃ a v, x = .ref a ∧ DGet H a y (some v) ∧ Q v H) ∨ rIx K x y H Q) fIdx := by
  intro F W L env st σ H x y d1 d2 r Q I h1 h2 e k
  have go : ∀ (v : V) (d : D), Rep K ct W v d → r = .sh d → Q v H := fun v d h e => k v H W L (.refl W) I (by rw [e]; exact h)
  unfold fIdx at e
  split at e
  · obtain ⟨d, e1, rfl⟩ := map2 e
    obtain ⟨a, vs, rfl, g, q⟩ := h1.list I
    obtain ⟨v, h3, h4⟩ := atI_rep q e1
    exact .inr (.inl ⟨a, vs, _, v, rfl, h2.int, SqL.of g, h3, go v d h4 rfl⟩)
  · rename_i ns i
    obtain ⟨n, e1, rfl⟩ := map2 e
    obtain ⟨a, vs, rfl, g, q⟩ := h1.seqL (ds := ns.map D.int) rfl I
    have e2 : atI (ns.map D.int) i = some (.int n) := by
      unfold atI at e1 ⊢
      obtain ⟨j, e3, e4⟩ := bind2 e1
      rw [List.length_map, e3]
      show (ns.map D.int)[j]? = _
      rw [List.getElem?_map, e4]; rfl
    obtain ⟨v, h3, h4⟩ := atI_rep q e2
    exact .inr (.inl ⟨a, vs, _, v, rfl, h2.int, g, h3, go v _ h4 rfl⟩)
  · obtain ⟨d, e1, rfl⟩ := map2 e
    obtain ⟨a, vs, rfl, g, q⟩ := h1.tup I
    obtain ⟨v, h3, h4⟩ := atI_rep q e1
    exact .inr (.inr (.inl ⟨a, vs, _, v, rfl, h2.int, SqT.of g, h3, go v d h4 rfl⟩))
  · split at e
    · rename_i c
      obtain ⟨m, e1, rfl⟩ := map2 e
      exact .inr (.inr (.inr ⟨_, _, m, h1.str, h2.int, c, e1, go _ _ (.str _) rfl⟩))
    · cases e
  · obtain ⟨ky, ek, e⟩ := bind2 e
    obtain ⟨d, e1, rfl⟩ := map2 e
    obtain ⟨a, kvs, rfl, g, n, q⟩ := h1.dic I
    rcases valD_rep ky n q with ⟨_, e2⟩ | ⟨v, d', e2, e3, h⟩
    · rw [e1] at e2; cases e2
    · rw [e1] at e3; cases e3
      refine .inl ⟨a, v, rfl, ?_, go v d h rfl⟩
      rw [D.key_v h2 ek, ← e2]
      exact DGet.k g
  · cases e
theorem se_idx {k : Nat} (hr : Room k X.A) (ha : SE X ct x a) (hb : SE X ct y b) (hs : PlainIx y := by exact fun _ _ => rfl) : SE X ct (.Subscript x y pos) (e2 fIdx a b) :=
  ⟨pe_mono (pe_ix (IxR.or (ix_dict (hu_of hr)) ix_seq) ha.pe hb.pe hs) fun _ _ _ h => tE_e2 os_idx h⟩
/-! slices -/
def cutG {α : Type} (xs : List α) (lo hi : Option Int) : List α := (xs.drop (HT.sIx xs.length 0 lo)).take (HT.sIx xs.length xs.length hi - HT.sIx xs.length 0 lo)
theorem RepL.cut {K : PySem.W.Frag} {W : Wd} {vs : List V} {ds : List D} (r : RepL K ct W vs ds) (lo hi : Option Int) : RepL K ct W (cutV vs lo hi) (cutG ds lo hi) := by
  unfold cutV cutG
  rw [r.length]
  exact (r.drop _).take _
theorem cutG_map {α β : Type} (f : α → β) (xs : List α) (lo hi : Option Int) : cutG (xs.map f) lo hi = (cutG xs lo hi).map f := by
  unfold cutG
  rw [List.length_map, List.map_take, List.map_drop]
abbrev SemP := List Slot → Sto → Option (Option Int × Sto)
def pNo : SemP := fun _ st => some (none, st)
def pSome (e : Sem) : SemP := fun env st => (e env st).bind fun p => match p.1.d with
  | .int i => some (some i, p.2)
  | _ => none
def tP (K : PySem.W.Frag) (ct : CT) (e : SemP) : TO := fun σ H Q => ∃ F W L env st r st', Rel K ct F W L env st σ H ∧ e env st = some (r, st') ∧
  ∀ H' W' L', W.le W' → Rel K ct F W' L' env st' σ H' → Q r H'
structure SP' (X : Cx) (ct : CT) (x : Option Expr) (e : SemP) : Prop where
  po : PO X x (tP X.K ct e)
theorem po_mono {x : Option Expr} {t t' : TO} (h : PO X x t) (k : ∀ σ H Q, t' σ H Q → t σ H Q) : PO X x t' := ⟨fun pins s σ H Q I q => h.run pins s σ H Q I (k σ H Q q)⟩
theorem sp_no : SP' X ct none pNo := ⟨po_mono po_none fun σ H Q ⟨F, W, L, env, st, r, st', I, e, k⟩ => by cases e; exact k H W L (.refl W) I⟩
theorem sp_some (ha : SE X ct x a) : SP' X ct (some x) (pSome a) := by
  refine ⟨po_mono (po_some ha.pe) fun σ H Q ⟨F, W, L, env, st, r, st', I, e, k⟩ => ?_⟩
  obtain ⟨⟨r1, st1⟩, h1, e⟩ := bind2 e
  refine ⟨F, W, L, env, st, r1, st1, I, h1, fun v H1 W1 L1 l1 I1 p1 => ?_⟩
  obtain ⟨W1', m1, J1, q1⟩ := I1.pin p1
  have q1' := J1.look q1
  rw [R.pin_d] at q1'
  split at e
  · rename_i i ei
    cases e
    have ei : r1.d = .int i := ei
    rw [ei] at q1'
    exact ⟨i, q1'.int, k _ _ _ (l1.trans m1) J1⟩
  · cases e
def fSlc (d : D) (lo hi : Option Int) : Option R := match d with
  | .lst ds => some (.ow (.lst (cutG ds lo hi)))
  | .scr ns => some (.ow (.lst ((cutG ns lo hi).map .int)))
  | .tup ds => if ¬ (HT.sIx ds.length 0 lo = 0 ∧ HT.sIx ds.length ds.length hi = ds.length) then some (.sh (.tup (cutG ds lo hi))) else none
  | _ => none
def eSlc (a : Sem) (lo hi : SemP) : Sem := fun env st => (a env st).bind fun p => (lo env p.2).bind fun l => (hi env l.2).bind fun h => (fSlc p.1.d l.1 h.1).map fun r => (r, h.2)
theorem se_slc {lo hi : Option Expr} {l h : SemP} {p2 : Pos} (ha : SE X ct x a) (hl : SP' X ct lo l) (hh : SP' X ct hi h) : SE X ct (.Subscript x (.Slice lo hi none p2) pos) (eSlc a l h) := by
  refine ⟨pe_mono (pe_slice (SlR.or sl_list sl_tup) ha.pe hl.po hh.po) fun σ H Q ⟨F, W, L, env, st, r, st', I, e, k⟩ => ?_⟩
  obtain ⟨⟨r1, st1⟩, h1, e⟩ := bind2 e
  obtain ⟨⟨o1, st2⟩, h2, e⟩ := bind2 e
  obtain ⟨⟨o2, st3⟩, h3, e⟩ := bind2 e
  obtain ⟨r4, h4, e⟩ := map2 e
  cases e
  refine ⟨F, W, L, env, st, r1, st1, I, h1, fun v H1 W1 L1 l1 I1 p1 => ?_⟩
  obtain ⟨W1', m1, J1, q1⟩ := I1.pin p1
  refine ⟨F, W1', L1, env, st1, o1, st2, J1, h2, fun H2 W2 L2 l2 I2 => ?_⟩
  refine ⟨F, W2, L2, env, st2, o2, st3, I2, h3, fun H3 W3 L3 l3 I3 => ?_⟩
  have q3 := I3.look (q1.mono (l2.trans l3))
  rw [R.pin_d] at q3
  have k' : ∀ v H' W' L', W3.le W' → Rel X.K ct F W' L' env st3 σ H' → RepR X.K ct F W' L' H' env σ v r → Q v H' := fun v H' W' L' l' => k v H' W' L' (l1.trans (m1.trans (l2.trans (l3.trans l'))))
  have h4 : fSlc r1.d o1 o2 = some r := h4
  unfold fSlc at h4
  split at h4
  · rename_i ds ed
    cases h4
    rw [ed] at q3
    obtain ⟨a, vs, rfl, g, q⟩ := q3.list I3
    exact .inl ⟨a, vs, rfl, SqL.of g, fun p hp => fresh_out I3 hp (.lst upd_same (q.cut o1 o2)) k'⟩
  · rename_i ns ed
    cases h4
    rw [ed] at q3
    obtain ⟨a, vs, rfl, g, q⟩ := q3.seqL (ds := ns.map D.int) rfl I3
    refine .inl ⟨a, vs, rfl, g, fun p hp => fresh_out I3 hp (.lst upd_same ?_) k'⟩
    rw [← cutG_map]
    exact q.cut o1 o2
  · rename_i ds ed
    obtain ⟨c, rfl⟩ := ifs h4
    rw [ed] at q3
    obtain ⟨a, vs, rfl, g, q⟩ := q3.tup I3
    exact .inr ⟨a, vs, rfl, SqT.of g, by rw [q.length]; exact c, fun p hp => tup_out I3 hp (q.cut o1 o2) k'⟩
  · cases h4
/-! argument lists, displays -/
def aNil : SemA := fun _ st => some ([], st)
def aCons (e : Sem) (as : SemA) : SemA := fun env st => (e env st).bind fun p => (as env p.2).map fun q => (p.1.pin :: q.1, q.2)
theorem sa_nil : SA X ct [] aNil := ⟨pa_mono pa_nil fun σ H Q ⟨F, W, L, env, st, r, st', I, e, k⟩ => by cases e; exact k [] H W L (.refl W) I .nil⟩
theorem sa_cons {es : List Expr} {as : SemA} (ha : SE X ct x a) (hr : SA X ct es as) (hs : starEach (x :: es) X.env = (false, eval x X.env) :: starEach es X.env := by rfl) : SA X ct (x :: es) (aCons a as) := by
  refine ⟨pa_mono (pa_cons ha.pe hr.pa hs) fun σ H Q ⟨F, W, L, env, st, r, st', I, e, k⟩ => ?_⟩
  obtain ⟨⟨r1, st1⟩, h1, e⟩ := bind2 e
  obtain ⟨⟨rs, st2⟩, h2, e⟩ := map2 e
  cases e
  refine ⟨F, W, L, env, st, r1, st1, I, h1, fun v H1 W1 L1 l1 I1 p1 => ?_⟩
  obtain ⟨W1', m1, J1, q1⟩ := I1.pin p1
  refine ⟨F, W1', L1, env, st1, rs, st2, J1, h2, fun vs H2 W2 L2 l2 I2 qs => ?_⟩
  exact k _ H2 W2 L2 (l1.trans (m1.trans l2)) I2 (.cons (q1.mono l2) qs)
/-- all shared -/
def valsR : List R → Option (List D)
  | [] => some []
  | .sh d :: rs => (valsR rs).map fun ds => d :: ds
  | _ :: _ => none
theorem RdRs.vals {K : PySem.W.Frag} {W : Wd} {env : List Slot} {σ : St} : ∀ {vs : List V} {rs : List R} {ds : List D}, RdRs K ct W env σ vs rs → valsR rs = some ds → RepL K ct W vs ds
  | _, _, _, .nil, e => by cases e; exact .nil
  | _, _, _, .cons (r := .sh d) h q, e => by
    obtain ⟨ds', e1, rfl⟩ := map2 e
    exact .cons h (q.vals e1)
  | _, _, _, .cons (r := .ow d) h q, e => by cases e
  | _, _, _, .cons (r := .bw i d) h q, e => by cases e
def eTup (as : SemA) : Sem := fun env st => (as env st).bind fun p => (valsR p.1).bind fun ds => if ds.length ≤ sizeLine then some (.sh (.tup ds), p.2) else none
def eLst (as : SemA) : Sem := fun env st => (as env st).bind fun p => (valsR p.1).bind fun ds => if ds.length ≤ sizeLine then some (.ow (.lst ds), p.2) else none
variable {es : List Expr} {as : SemA}
theorem se_tup {x1} (ha : SA X ct es as) : SE X ct (.Tuple es x1 pos) (eTup as) := by
  refine ⟨pe_mono (pe_tup ha.pa) fun σ H Q ⟨F, W, L, env, st, r, st', I, e, k⟩ => ?_⟩
  obtain ⟨⟨rs, st1⟩, h1, e⟩ := bind2 e
  obtain ⟨ds, h2, e⟩ := bind2 e
  obtain ⟨c, e⟩ := ifs e
  cases e
  refine ⟨F, W, L, env, st, rs, st1, I, h1, fun vs H1 W1 L1 l1 I1 qs => ?_⟩
  have q := qs.vals h2
  exact ⟨by rw [q.length]; exact c, fun p hp => tup_out I1 hp q fun v H' W' L' l' => k v H' W' L' (l1.trans l')⟩
theorem se_lst (ha : SA X ct es as) : SE X ct (.List es pos) (eLst as) := by
  refine ⟨pe_mono (pe_lst ha.pa) fun σ H Q ⟨F, W, L, env, st, r, st', I, e, k⟩ => ?_⟩
  obtain ⟨⟨rs, st1⟩, h1, e⟩ := bind2 e
  obtain ⟨ds, h2, e⟩ := bind2 e
  obtain ⟨c, e⟩ := ifs e
  cases e
  refine ⟨F, W, L, env, st, rs, st1, I, h1, fun vs H1 W1 L1 l1 I1 qs => ?_⟩
  have q := qs.vals h2
  exact ⟨by rw [q.length]; exact c, fun p hp => fresh_out I1 hp (.lst upd_same q) fun v H' W' L' l' => k v H' W' L' (l1.trans l')⟩
/-! calls of built-ins -/
theorem se_b1 {id : String} {n : Str} {rr : List V → Hp → VK → Prop} {f : D → Option R} {p : Pos} (hc : CallR X (.builtin id) rr) (os : UnS X.K ct (fun x H Q => rr [x] H Q) f) (hg : Gl X n) (hm : X.mg n = none) (hv : bootBuiltins n = some (.builtin id)) (ha : SE X ct x a)
    (hn : n ≠ "__name__" := by decide) (hdb : (n == ("__debug__" : Str)) = false := by decide) (he : starEach [x] X.env = (false, eval x X.env) :: starEach [] X.env := by rfl) (hpl : (backTo pos (starEach [] X.env)).any (·.1) = false := by rfl) : SE X ct (.Call (.Name n p) [x] [] pos) (e1 f a) :=
  ⟨pe_mono (pe_callB hc hg hm hv (pa_cons ha.pe pa_nil he) hn hdb he hpl) fun _ _ _ h => tE_e1 os h⟩
theorem se_t1 {T : String} {n : Str} {rr : List V → Hp → VK → Prop} {f : D → Option R} {p : Pos} (hc : CallR X (.type T) rr) (os : UnS X.K ct (fun x H Q => rr [x] H Q) f) (hg : Gl X n) (hm : X.mg n = none) (hv : bootBuiltins n = some (.type T)) (ha : SE X ct x a)
    (hn : n ≠ "__name__" := by decide) (hdb : (n == ("__debug__" : Str)) = false := by decide) (he : starEach [x] X.env = (false, eval x X.env) :: starEach [] X.env := by rfl) (hpl : (backTo pos (starEach [] X.env)).any (·.1) = false := by rfl) : SE X ct (.Call (.Name n p) [x] [] pos) (e1 f a) :=
  ⟨pe_mono (pe_callTy hc hg hm hv (pa_cons ha.pe pa_nil he) hn hdb he hpl) fun _ _ _ h => tE_e1 os h⟩
variable {p : Pos}
def fLen : D → Option R
  | .lst ds => some (.sh (.int ds.length))
  | .scr ns => some (.sh (.int ns.length))
  | .tup ds => some (.sh (.int ds.length))
  | .dic kds => some (.sh (.int kds.length))
  | .str z => if z.length ≤ sizeLine then some (.sh (.int z.length)) else none
  | _ => none
theorem us_len : UnS X.K ct (fun x H Q => (∃ p ys, [x] = [V.ref p] ∧ (SqL X.K H p ys ∨ SqT X.K H p ys) ∧ Q (.int ys.length) H) ∨ (∃ d kvs, [x] = [V.ref d] ∧ H d = some (.dK kvs) ∧ Q (.int kvs.length) H) ∨ ∃ z, [x] = [V.str z] ∧ z.length ≤ sizeLine ∧ Q (.int z.length) H) fLen := by
  intro F W L env st σ H x d r Q I h e k
  have go : ∀ n : Nat, r = .sh (.int n) → Q (.int n) H := fun n e => k _ H W L (.refl W) I (by rw [e]; exact .int _)
  unfold fLen at e
  split at e
  · cases e
    obtain ⟨a, vs, rfl, g, q⟩ := h.list I
    exact .inl ⟨a, vs, rfl, .inl (SqL.of g), by rw [q.length]; exact go _ rfl⟩
  · rename_i ns
    cases e
    obtain ⟨a, vs, rfl, g, q⟩ := h.seqL (ds := ns.map D.int) rfl I
    exact .inl ⟨a, vs, rfl, .inl g, by rw [q.length, List.length_map]; exact go _ rfl⟩
  · cases e
    obtain ⟨a, vs, rfl, g, q⟩ := h.tup I
    exact .inl ⟨a, vs, rfl, .inr (SqT.of g), by rw [q.length]; exact go _ rfl⟩
  · cases e
    obtain ⟨a, kvs, rfl, g, n, q⟩ := h.dic I
    refine .inr (.inl ⟨a, kvs, rfl, g, ?_⟩)
    have := congrArg List.length n
    rw [List.length_map, List.length_map] at this
    rw [this]; exact go _ rfl
  · obtain ⟨c, rfl⟩ := ifs e
    exact .inr (.inr ⟨_, by rw [h.str], c, go _ rfl⟩)
  · cases e
theorem se_len (hg : Gl X "len") (hm : X.mg "len" = none) (ha : SE X ct x a) (he : starEach [x] X.env = (false, eval x X.env) :: starEach [] X.env := by rfl) (hpl : (backTo pos (starEach [] X.env)).any (·.1) = false := by rfl) :
    SE X ct (.Call (.Name "len" p) [x] [] pos) (e1 fLen a) := se_b1 (CallR.or call_len_seq (CallR.or call_lenD call_len_str)) us_len hg hm PySem.boot_len ha (by decide) (by decide) he hpl
def fLofs : D → Option R
  | .lst ds => some (.ow (.lst ds))
  | .scr ns => some (.ow (.lst (ns.map .int)))
  | .tup ds => some (.ow (.lst ds))
  | _ => none
def fTofs : D → Option R
  | .lst ds => some (.sh (.tup ds))
  | .tup ds => some (.sh (.tup ds))
  | _ => none
theorem se_tuple (hg : Gl X "tuple") (hm : X.mg "tuple" = none) (ha : SE X ct x a) (he : starEach [x] X.env = (false, eval x X.env) :: starEach [] X.env := by rfl) (hpl : (backTo pos (starEach [] X.env)).any (·.1) = false := by rfl) :
    SE X ct (.Call (.Name "tuple" p) [x] [] pos) (e1 fTofs a) := by
  refine se_t1 call_tuple_of ?_ hg hm PyProof.Rows.boot_tuple ha (by decide) (by decide) he hpl
  intro F W L env st σ H x d r Q I h e k
  unfold fTofs at e
  split at e
  · cases e
    obtain ⟨a, vs, rfl, g, q⟩ := h.list I
    exact ⟨a, vs, rfl, .inl ⟨SqL.of g, fun p hp => tup_out I hp q k⟩⟩
  · cases e
    have h0 := h
    obtain ⟨a, vs, rfl, g, q⟩ := h.tup I
    refine ⟨a, vs, rfl, .inr ⟨SqT.of g, k _ H W L (.refl W) I ?_⟩⟩
    rcases h0 with h | ⟨a', e', c⟩
    · exact h
    · cases c
  · cases e
def fInt : D → Option R
  | .int i => some (.sh (.int i))
  | .bl k => some (.sh (.int (if k then 1 else 0)))
  | _ => none
/-- a list of ints, of bools -/
def D.ints : D → Option (List Int)
  | .int i => some [i]
  | _ => none
/-- isinstance(x, T), T a built-in class -/
def D.ty : D → Option String
  | .non => some "NoneType"
  | .bl _ => some "bool"
  | .int _ => some "int"
  | .str _ => some "str"
  | .lst _ => some "list"
  | .tup _ => some "tuple"
  | .dic _ => some "dict"
  | _ => none
def fIsi (T : String) (d : D) : Option R := d.ty.bind fun t => (kitB t T).map fun b => .sh (.bl b)
end
end Kn
namespace Kn
open PySem L2
inductive Out where
  | nx | rt (r : R) | bk | ct
abbrev SemS := List Slot → Sto → Option (Out × List Slot × Sto)
abbrev SemG := D → List Slot → Option (List Slot)
abbrev SemI := List Slot → Sto → Option (List D × Sto)
section
variable (K : PySem.W.Frag) (ct : CT)
def OutOk (F : Hp) (W : Wd) (env' : List Slot) (st' : Sto) (D : Ends) : Out → Prop
  | .nx => ∀ σ' H' W' L', W.le W' → Rel K ct F W' L' env' st' σ' H' → D.nx σ' H'
  | .bk => ∀ σ' H' W' L', W.le W' → Rel K ct F W' L' env' st' σ' H' → D.bk σ' H'
  | .ct => ∀ σ' H' W' L', W.le W' → Rel K ct F W' L' env' st' σ' H' → D.ct σ' H'
  | .rt r => ∀ v σ' H' W' L', W.le W' → Rel K ct F W' L' env' st' σ' H' → RepR K ct F W' L' H' env' σ' v r → D.rt v H'
def tSm (s : SemS) : TS := fun D σ H => ∃ F W L env st o env' st', Rel K ct F W L env st σ H ∧ s env st = some (o, env', st') ∧ OutOk K ct F W env' st' D o
/-- only the slots ts differ -/
def OffTs (ts : List Nat) (σ σ' : St) : Prop := σ'.length = σ.length ∧ ∀ j : Nat, j ∉ ts → σ'[j]? = σ[j]?
def OffTe (ts : List Nat) (e e' : List Slot) : Prop := e'.length = e.length ∧ ∀ j : Nat, j ∉ ts → e'[j]? = e[j]?
def tG (ts : List Nat) (g : SemG) : TG := fun v σ H Q => ∃ F W L env st d env', Rel K ct F W L env st σ H ∧ Rep K ct W v d ∧ g d env = some env' ∧
  ∀ σ', OffTs ts σ σ' → OffTe ts env env' → Rel K ct F W L env' st σ' H → Q σ' H
/-- J walks ds -/
def Wk (J : It) (W0 : Wd) (ds : List D) : Prop := ∀ F W L env st σ H (i : Nat), W0.le W → Rel K ct F W L env st σ H →
  (∀ d, ds[i]? = some d → J.go i H ∧ ∀ x H', J.yld i H x H' → ∃ W' L', W.le W' ∧ Rel K ct F W' L' env st σ H' ∧ Rep K ct W' x d) ∧ (ds.length ≤ i → J.stop i H)
def tI (e : SemI) : TI := fun σ H R => ∃ F W L env st ds st', Rel K ct F W L env st σ H ∧ e env st = some (ds, st') ∧
  ∀ J H' W' L', W.le W' → Rel K ct F W' L' env st' σ H' → Wk K ct J W' ds → R J H'
end
structure SS (X : Cx) (ct : CT) (x : Stmt) (s : SemS) : Prop where
  ps : PS X x (tSm X.K ct s)
structure SB (X : Cx) (ct : CT) (x : List Stmt) (s : SemS) : Prop where
  pss : PSs X x (tSm X.K ct s)
structure SG (X : Cx) (ct : CT) (x : Expr) (ts : List Nat) (g : SemG) : Prop where
  pg : PG X x (tG X.K ct ts g)
structure SI (X : Cx) (ct : CT) (tg x : Expr) (e : SemI) : Prop where
  pi : PI X tg x (tI X.K ct e)
theorem ps_mono {X : Cx} {x : Stmt} {t t' : TS} (h : PS X x t) (k : ∀ D σ H, t' D σ H → t D σ H) : PS X x t' := ⟨fun pins s σ H D I q => h.run pins s σ H D I (k D σ H q)⟩
theorem pss_mono {X : Cx} {x : List Stmt} {t t' : TS} (h : PSs X x t) (k : ∀ D σ H, t' D σ H → t D σ H) : PSs X x t' := ⟨fun pins s σ H D I q => h.run pins s σ H D I (k D σ H q)⟩
theorem pg_mono {X : Cx} {x : Expr} {t t' : TG} (h : PG X x t) (k : ∀ v σ H Q, t' v σ H Q → t v σ H Q) : PG X x t' := ⟨fun pins s σ H v u Q I r q => h.run pins s σ H v u Q I r (k v σ H Q q)⟩
theorem pi_mono {X : Cx} {tg x : Expr} {t t' : TI} (h : PI X tg x t) (k : ∀ σ H R, t' σ H R → t σ H R) : PI X tg x t' := ⟨fun pins s σ H R I q => h.run pins s σ H R I (k σ H R q)⟩
theorem ps_or {X : Cx} {x : Stmt} {t t' : TS} (h : PS X x t) (h' : PS X x t') : PS X x (fun D σ H => t D σ H ∨ t' D σ H) := ⟨fun pins s σ H D I q => q.elim (h.run pins s σ H D I) (h'.run pins s σ H D I)⟩
theorem pi_or {X : Cx} {tg x : Expr} {t t' : TI} (h : PI X tg x t) (h' : PI X tg x t') : PI X tg x (fun σ H R => t σ H R ∨ t' σ H R) := ⟨fun pins s σ H R I q => q.elim (h.run pins s σ H R I) (h'.run pins s σ H R I)⟩
section
variable {K : PySem.W.Frag} {ct : CT} {F H H' : Hp} {W W' : Wd} {L L' : Addr → Option Lab} {env env' : List Slot} {st st' : Sto} {σ : St} {v : V} {d : D} {r : R} {a p : Addr} {o : HO} {D : Ends} {u : Out}
theorem OutOk.mono (h : OutOk K ct F W env' st' D u) (l : W.le W') : OutOk K ct F W' env' st' D u := by
  cases u with
  | nx => exact fun σ' H' W2 L2 l2 => h σ' H' W2 L2 (l.trans l2)
  | bk => exact fun σ' H' W2 L2 l2 => h σ' H' W2 L2 (l.trans l2)
  | ct => exact fun σ' H' W2 L2 l2 => h σ' H' W2 L2 (l.trans l2)
  | rt r => exact fun v σ' H' W2 L2 l2 => h v σ' H' W2 L2 (l.trans l2)
theorem getset {α : Type} {l : List α} {i j : Nat} {x y : α} (h : (l.set i x)[j]? = some y) : (j = i ∧ y = x ∧ i < l.length) ∨ (j ≠ i ∧ l[j]? = some y) := by
  by_cases e : i = j
  · subst e
    by_cases hi : i < l.length
    · rw [List.getElem?_set_self hi] at h
      exact .inl ⟨rfl, (Option.some.inj h).symm, hi⟩
    · rw [List.getElem?_eq_none (by simpa using hi)] at h
      cases h
  · rw [List.getElem?_set_ne e] at h
    exact .inr ⟨fun z => e z.symm, h⟩
theorem SlotOk.at' {σ' : St} {i : Nat} {s : Slot} (h : SlotOk K ct W L H σ i s) (e : σ'[i]? = σ[i]?) : SlotOk K ct W L H σ' i s := by
  cases s with
  | no => trivial
  | sh d => obtain ⟨v, h1, h2⟩ := h; exact ⟨v, e.trans h1, h2⟩
  | ow d => obtain ⟨a, h1, h2⟩ := h; exact ⟨a, e.trans h1, h2⟩
  | o2 d => obtain ⟨a, ws, h1, h2⟩ := h; exact ⟨a, ws, e.trans h1, h2⟩
  | me a d => obtain ⟨h1, h2⟩ := h; exact ⟨e.trans h1, h2⟩
  | exc a => exact e.trans h
/-- a slot takes a shared value -/
theorem Rel.setSh (I : Rel K ct F W L env st σ H) (i : Nat) (h : Rep K ct W v d) : Rel K ct F W L (env.set i (.sh d)) st (σ.set i (some v)) H := by
  refine ⟨I.fr, I.hs, I.tp, I.ob, I.rh, by rw [List.length_set, List.length_set]; exact I.len, fun j s e => ?_⟩
  rcases getset e with ⟨rfl, rfl, hi⟩ | ⟨hj, e⟩
  · refine ⟨v, ?_, h⟩
    rw [List.getElem?_set_self (by rw [I.len]; exact hi)]
  · exact (I.sl j s e).at' (List.getElem?_set_ne (Ne.symm hj))
/-- a slot takes a thing just made for one's own -/
theorem Rel.setOw (I : Rel K ct F W L env st σ H) (i : Nat) (hl : L a = none) (hw : W.hs a = none) (hf : F a = none) (c : Cell K ct W H a d) :
    Rel K ct F W (fun b => if b = a then some (.slot i) else L b) (env.set i (.ow d)) st (σ.set i (some (.ref a))) H := by
  have lab : ∀ b, b ≠ a → (if b = a then some (Lab.slot i) else L b) = L b := fun b h => if_neg h
  refine ⟨fun b u e => ?_, fun b u e => ?_, I.tp, fun g κ x e => ?_, I.rh, by rw [List.length_set, List.length_set]; exact I.len, fun j s e => ?_⟩
  · have nb : b ≠ a := by rintro rfl; rw [hf] at e; cases e
    obtain ⟨h1, h2, h3⟩ := I.fr b u e
    exact ⟨h1, (lab b nb).trans h2, h3⟩
  · have nb : b ≠ a := by rintro rfl; rw [hw] at e; cases e
    obtain ⟨h1, h2⟩ := I.hs b u e
    exact ⟨h1, (lab b nb).trans h2⟩
  · obtain ⟨v, h1, h2⟩ := I.ob g κ x e
    refine ⟨v, h1, ?_⟩
    have q : (fun b => if (if b = a then some (Lab.slot i) else L b) = some (.ob g) then H b else none) = fun b => if L b = some (.ob g) then H b else none := by
      funext b
      by_cases hb : b = a
      · subst hb; simp [hl]
      · rw [lab b hb]
    rw [q]; exact h2
  · rcases getset e with ⟨rfl, rfl, hi⟩ | ⟨hj, e⟩
    · exact ⟨a, by rw [List.getElem?_set_self (by rw [I.len]; exact hi)], if_pos rfl, c⟩
    · refine SlotOk.at' (σ := σ) ?_ (List.getElem?_set_ne (Ne.symm hj))
      refine (I.sl j s e).mono (.refl W) fun b u hb hu => ⟨hu, ?_⟩
      have nb : b ≠ a := by rintro rfl; rw [hl] at hb; cases hb
      exact (lab b nb).trans hb
/-- a slot's own thing is changed -/
theorem Rel.updOw' (I : Rel K ct F W L env st σ H) {i : Nat} (hs : σ[i]? = some (some (.ref a))) (hl : L a = some (.slot i)) (hn : ∀ xs, H a ≠ some (.tup xs)) {d' : Kn.D} (c' : Cell K ct W (upd H a o) a d') :
    Rel K ct F W L (env.set i (.ow d')) st σ (upd H a o) := by
  have ne : ∀ b, L b ≠ some (.slot i) → (upd H a o) b = H b := fun b h => upd_ne (by rintro rfl; exact h hl)
  refine ⟨fun b u e => ?_, fun b u e => ?_, fun b vs e => ?_, fun g κ x e => ?_, I.rh, by rw [List.length_set]; exact I.len, fun j s e => ?_⟩
  · obtain ⟨h1, h2, h3⟩ := I.fr b u e
    exact ⟨by rw [ne b (by rw [h2]; exact fun z => nomatch z)]; exact h1, h2, h3⟩
  · obtain ⟨h1, h2⟩ := I.hs b u e
    exact ⟨by rw [ne b (by rw [h2]; exact fun z => nomatch z)]; exact h1, h2⟩
  · rw [upd_ne (by rintro rfl; exact hn _ (I.tp _ _ e))]
    exact I.tp b vs e
  · obtain ⟨v, h1, h2⟩ := I.ob g κ x e
    refine ⟨v, h1, ?_⟩
    have q : (fun b => if L b = some (.ob g) then (upd H a o) b else none) = fun b => if L b = some (.ob g) then H b else none := by
      funext b
      by_cases hb : L b = some (.ob g)
      · rw [if_pos hb, if_pos hb, ne b (by rw [hb]; exact fun z => nomatch z)]
      · rw [if_neg hb, if_neg hb]
    rw [q]; exact h2
  · rcases getset e with ⟨rfl, rfl, hi⟩ | ⟨hj, e⟩
    · exact ⟨a, hs, hl, c'⟩
    · refine (I.sl j s e).mono (.refl W) fun b u hb hu => ⟨?_, hb⟩
      rw [ne b (by rw [hb]; intro z; cases z; exact hj rfl)]; exact hu
/-- a label is taken away -/
theorem Rel.unlab (I : Rel K ct F W L env st σ H) {i : Nat} (hl : L a = some (.slot i)) : Rel K ct F W (fun b => if b = a then none else L b) (env.set i .no) st σ H := by
  have lab : ∀ b, b ≠ a → (if b = a then none else L b) = L b := fun b h => if_neg h
  refine ⟨fun b u e => ?_, fun b u e => ?_, I.tp, fun g κ x e => ?_, I.rh, by rw [List.length_set]; exact I.len, fun j s e => ?_⟩
  · obtain ⟨h1, h2, h3⟩ := I.fr b u e
    refine ⟨h1, ?_, h3⟩
    by_cases hb : b = a
    · exact if_pos hb
    · exact (lab b hb).trans h2
  · obtain ⟨h1, h2⟩ := I.hs b u e
    refine ⟨h1, ?_⟩
    by_cases hb : b = a
    · exact if_pos hb
    · exact (lab b hb).trans h2
  · obtain ⟨v, h1, h2⟩ := I.ob g κ x e
    refine ⟨v, h1, ?_⟩
    have q : (fun b => if (if b = a then none else L b) = some (.ob g) then H b else none) = fun b => if L b = some (.ob g) then H b else none := by
      funext b
      by_cases hb : b = a
      · subst hb; simp [hl]
      · rw [lab b hb]
    rw [q]; exact h2
  · rcases getset e with ⟨rfl, rfl, hi⟩ | ⟨hj, e⟩
    · trivial
    · refine (I.sl j s e).mono (.refl W) fun b u hb hu => ⟨hu, ?_⟩
      have nb : b ≠ a := by rintro rfl; rw [hl] at hb; cases hb; exact hj rfl
      exact (lab b nb).trans hb
/-- a slot's own thing is shared -/
theorem Rel.freeze (I : Rel K ct F W L env st σ H) {i : Nat} (he : env[i]? = some (.ow d)) : ∃ W' L', W.le W' ∧ Rel K ct F W' L' (env.set i (.sh d)) st σ H := by
  obtain ⟨a, h1, h2, c⟩ := I.sl i _ he
  have J := I.unlab h2
  have na : (fun b => if b = a then none else L b) a = none := if_pos rfl
  have hf : F a = none := by
    cases q : F a with
    | none => rfl
    | some u => have := (I.fr a u q).2.1; rw [h2] at this; cases this
  have hw : W.hs a = none := by
    cases q : W.hs a with
    | none => rfl
    | some u => have := (I.hs a u q).2; rw [h2] at this; cases this
  obtain ⟨W', le, J', q⟩ := J.pin (v := .ref a) (r := .ow d) ⟨a, rfl, na, hw, hf, c⟩
  refine ⟨W', (fun b => if b = a then none else L b), le, ?_⟩
  have s := J'.setSh (v := .ref a) (d := d) i q
  rw [List.set_set] at s
  have e : σ.set i (some (.ref a)) = σ := by
    refine List.ext_getElem? fun j => ?_
    by_cases hj : i = j
    · subst hj
      rw [List.getElem?_set_self (List.getElem?_eq_some_iff.mp h1).1, h1]
    · rw [List.getElem?_set_ne hj]
  rw [e] at s
  exact s
end
section
variable {X : Cx} {ct : CT} {pos : Pos} {x y : Expr} {a b c : Sem} {sx : Stmt} {sxs rest : List Stmt} {f g : SemS}
/-! blocks -/
def sNil : SemS := fun env st => some (.nx, env, st)
def sSeq (f g : SemS) : SemS := fun env st => (f env st).bind fun p => match p with
  | (.nx, env', st') => g env' st'
  | q => some q
theorem sb_nil : SB X ct [] sNil := ⟨pss_mono pss_nil fun D σ H ⟨F, W, L, env, st, o, env', st', I, e, k⟩ => by cases e; exact k σ H W L (.refl W) I⟩
theorem tSm_seq {K : PySem.W.Frag} {D : Ends} {σ : St} {H : Hp} (h : tSm K ct (sSeq f g) D σ H) : tSeq (tSm K ct f) (tSm K ct g) D σ H := by
  obtain ⟨F, W, L, env, st, o, env', st', I, e, k⟩ := h
  obtain ⟨⟨o1, env1, st1⟩, h1, e⟩ := bind2 e
  cases o1 with
  | nx => exact ⟨F, W, L, env, st, .nx, env1, st1, I, h1, fun σ' H' W' L' l I' => ⟨F, W', L', env1, st1, o, env', st', I', e, k.mono l⟩⟩
  | bk => cases e; exact ⟨F, W, L, env, st, .bk, _, _, I, h1, k⟩
  | ct => cases e; exact ⟨F, W, L, env, st, .ct, _, _, I, h1, k⟩
  | rt r => cases e; exact ⟨F, W, L, env, st, .rt r, _, _, I, h1, k⟩
theorem sb_cons (h : SS X ct sx f) (k : SB X ct rest g) : SB X ct (sx :: rest) (sSeq f g) := ⟨pss_mono (pss_cons h.ps k.pss) fun _ _ _ h => tSm_seq h⟩
/-- own things shared ahead of a statement -/
def sFrz (i : Nat) (f : SemS) : SemS := fun env st => match env[i]? with
  | some (.ow d) => f (env.set i (.sh d)) st
  | _ => f env st
/-! targets -/
def gNm (i : Nat) : SemG := fun d env => some (env.set i (.sh d))
def gL : List SemG → List D → List Slot → Option (List Slot)
  | [], [], env => some env
  | g :: gs, d :: ds, env => (g d env).bind fun env' => gL gs ds env'
  | _, _, _ => none
def gTp (gs : List SemG) : SemG := fun d env => match d with
  | .tup ds => gL gs ds env
  | _ => none
theorem offSet {α : Type} (l : List α) (i : Nat) (x : α) : (l.set i x).length = l.length ∧ ∀ j : Nat, j ∉ [i] → (l.set i x)[j]? = l[j]? :=
  ⟨List.length_set, fun j hj => List.getElem?_set_ne (by rintro rfl; exact hj List.mem_cons_self)⟩
theorem sg_nm (i : Nat) {n : Str} (hN : X.N.Nodup) (hi : X.N[i]? = some n := by rfl) (hx : Loc X.env.scope n := by first | exact .inl rfl | exact .inr rfl) (hf : X.fn n = true ∨ X.env.scope.names.lookup n = some .local := by first | exact .inl rfl | exact .inr rfl) : SG X ct (.Name n pos) [i] (gNm i) := by
  refine ⟨pg_mono (pg_name hN hi hx hf) fun v σ H Q ⟨F, W, L, env, st, d, env', I, r, e, k⟩ => ?_⟩
  cases e
  exact k _ (offSet _ _ _) (offSet _ _ _) (I.setSh i r)
/-! assignments -/
def sSet (i : Nat) (e : Sem) : SemS := fun env st => (e env st).bind fun p => match p.1 with
  | .sh d => some (.nx, env.set i (.sh d), p.2)
  | .ow d => some (.nx, env.set i (.ow d), p.2)
  | .bw _ _ => none
theorem tSm_set {K : PySem.W.Frag} {i : Nat} {D : Ends} {σ : St} {H : Hp} (h : tSm K ct (sSet i a) D σ H) : tAsg (tE K ct a) (gName i) D σ H := by
  obtain ⟨F, W, L, env, st, o, env', st', I, e, k⟩ := h
  obtain ⟨⟨r1, st1⟩, h1, e⟩ := bind2 e
  refine ⟨F, W, L, env, st, r1, st1, I, h1, fun v H1 W1 L1 l1 I1 p1 => ?_⟩
  cases r1 with
  | sh d => cases e; exact k _ H1 W1 L1 l1 (I1.setSh i p1)
  | ow d =>
    cases e
    obtain ⟨a, rfl, h1, h2, h3, c⟩ := p1
    exact k _ H1 W1 _ l1 (I1.setOw i h1 h2 h3 c)
  | bw j d => cases e
theorem ss_set (i : Nat) {n : Str} {pos' : Pos} (hN : X.N.Nodup) (he : SE X ct x a) (hi : X.N[i]? = some n := by rfl) (hx : Loc X.env.scope n := by first | exact .inl rfl | exact .inr rfl) (hs : swapsWith x (some (.Name n pos')) pos.line X.env = pure false := by rfl)
    (hf : X.fn n = true ∨ X.env.scope.names.lookup n = some .local := by first | exact .inl rfl | exact .inr rfl) : SS X ct (.Assign [.Name n pos'] x pos) (sSet i a) := ⟨ps_mono (ps_set hN hi hx he.pe hs hf) fun _ _ _ h => tSm_set h⟩
/-- into a tuple of names -/
def sAsg (e : Sem) (g : SemG) : SemS := fun env st => (e env st).bind fun p => match p.1.pin with
  | .sh d => (g d env).map fun env' => (.nx, env', p.2)
  | _ => none
/-- a, b = x, y -/
def sPar (i j : Nat) (as : SemA) : SemS := fun env st => (as env st).bind fun p => match p.1 with
  | [.sh d, .sh e] => some (.nx, (env.set i (.sh d)).set j (.sh e), p.2)
  | _ => none
/-- x op= e -/
def sAug (i : Nat) (f : D → D → Option R) (e : Sem) : SemS := fun env st => match env[i]? with
  | some (.sh d) => (e env st).bind fun p => (f d p.1.d).bind fun r => match r with
    | .sh d' => some (.nx, env.set i (.sh d'), p.2)
    | _ => none
  | _ => none
/-! small statements -/
def sEx (e : Sem) : SemS := fun env st => (e env st).map fun p => (.nx, env, p.2)
theorem ss_ex (he : SE X ct x a) (hs : swapsWith x none pos.line X.env = pure false := by rfl) : SS X ct (.Expr x pos) (sEx a) := by
  refine ⟨ps_mono (ps_expr he.pe hs) fun D σ H ⟨F, W, L, env, st, o, env', st', I, e, k⟩ => ?_⟩
  obtain ⟨⟨r1, st1⟩, h1, e⟩ := map2 e
  cases e
  exact ⟨F, W, L, env, st, r1, _, I, h1, fun v H1 W1 L1 l1 I1 _ => k _ H1 W1 L1 l1 I1⟩
def sRet (e : Sem) : SemS := fun env st => (e env st).map fun p => (.rt p.1, env, p.2)
theorem ss_ret (he : SE X ct x a) : SS X ct (.Return (some x) pos) (sRet a) := by
  refine ⟨ps_mono (ps_ret he.pe) fun D σ H ⟨F, W, L, env, st, o, env', st', I, e, k⟩ => ?_⟩
  obtain ⟨⟨r1, st1⟩, h1, e⟩ := map2 e
  cases e
  exact ⟨F, W, L, env, st, r1, _, I, h1, fun v H1 W1 L1 l1 I1 p => k v _ H1 W1 L1 l1 I1 p⟩
def sRetN : SemS := fun env st => some (.rt (.sh .non), env, st)
/-- what is never come to -/
def sNever : SemS := fun _ _ => none
theorem ss_never : SS X ct sx sNever := ⟨ps_mono ps_never fun D σ H ⟨F, W, L, env, st, o, env', st', I, e, k⟩ => by cases e⟩
def R.tr : R → Option Bool
  | .sh (.bl b) => some b
  | _ => none
theorem R.tr_eq : ∀ {r : R} {b : Bool}, r.tr = some b → r = .sh (.bl b)
  | .sh (.bl _), _, e => by cases e; rfl
  | .sh .non, _, e => nomatch e
  | .sh (.int _), _, e => nomatch e
  | .sh (.str _), _, e => nomatch e
  | .sh (.lst _), _, e => nomatch e
  | .sh (.tup _), _, e => nomatch e
  | .sh (.dic _), _, e => nomatch e
  | .sh (.obj _ _), _, e => nomatch e
  | .sh (.hnd _), _, e => nomatch e
  | .sh (.scr _), _, e => nomatch e
  | .ow _, _, e => nomatch e
  | .bw _ _, _, e => nomatch e
def sIf (c : Sem) (f g : SemS) : SemS := fun env st => (c env st).bind fun p => p.1.tr.bind fun k => if k = true then f env p.2 else g env p.2
theorem ss_if {s1 s2 : List Stmt} (hc : ST X ct x c) (hf : SB X ct s1 f) (hg : SB X ct s2 g) : SS X ct (.If x s1 s2 pos) (sIf c f g) := by
  refine ⟨ps_mono (ps_if hc.pt hf.pss hg.pss) fun D σ H ⟨F, W, L, env, st, o, env', st', I, e, k⟩ => ?_⟩
  obtain ⟨⟨r1, st1⟩, h1, e⟩ := bind2 e
  obtain ⟨b, hb, e⟩ := bind2 e
  have hb := R.tr_eq hb
  rw [show r1 = _ from hb] at h1
  refine ⟨F, W, L, env, st, b, st1, I, h1, fun H1 W1 L1 l1 I1 => ?_⟩
  cases b with
  | true => exact iteT ⟨F, W1, L1, env, st1, o, env', st', I1, e, k.mono l1⟩
  | false => exact iteF ⟨F, W1, L1, env, st1, o, env', st', I1, e, k.mono l1⟩
/-- while, at most n turns -/
def whL (c : Sem) (f : SemS) : Nat → List Slot → Sto → Option (Out × List Slot × Sto)
  | 0, _, _ => none
  | n + 1, env, st => (c env st).bind fun p => p.1.tr.bind fun k => if k = true then (f env p.2).bind fun q => match q with
      | (.nx, env', st') => whL c f n env' st'
      | (.ct, env', st') => whL c f n env' st'
      | (.bk, env', st') => some (.nx, env', st')
      | (.rt r, env', st') => some (.rt r, env', st')
    else some (.nx, env, p.2)
def sWhl (n : Nat) (c : Sem) (f : SemS) : SemS := fun env st => whL c f n env st
/-! for -/
def forL (g : SemG) (f : SemS) : List D → List Slot → Sto → Option (Out × List Slot × Sto)
  | [], env, st => some (.nx, env, st)
  | d :: ds, env, st => (g d env).bind fun env1 => (f env1 st).bind fun q => match q with
    | (.nx, env', st') => forL g f ds env' st'
    | (.ct, env', st') => forL g f ds env' st'
    | (.bk, env', st') => some (.nx, env', st')
    | (.rt r, env', st') => some (.rt r, env', st')
def sFor (it : SemI) (g : SemG) (f : SemS) : SemS := fun env st => (it env st).bind fun p => forL g f p.1 env p.2
theorem ss_for {tg : Expr} {ts : List Nat} {g : SemG} {it : SemI} {s1 : List Stmt} (hp : PassesOwn (model X.prog X.w) X.A X.env X.xe) (hc : X.calm = true) (hi : SI X ct tg x it) (hg : SG X ct tg ts g) (hf : SB X ct s1 f) (hs : ∀ z, foldedSetIterable x X.env z = pure z := by intro _; rfl) :
    SS X ct (.For tg x s1 [] pos) (sFor it g f) := by
  refine ⟨ps_mono (ps_for hp hc hi.pi hg.pg hf.pss hs) fun D σ H ⟨F, W, L, env, st, o, env', st', I, e, k⟩ => ?_⟩
  obtain ⟨⟨ds, st1⟩, h1, e⟩ := bind2 e
  refine ⟨F, W, L, env, st, ds, st1, I, h1, fun J H1 W1 L1 l1 I1 wk => ?_⟩
  refine ⟨fun i m σ H => m = ds.length - i ∧ i ≤ ds.length ∧ ∃ W2 L2 env2 st2, W1.le W2 ∧ Rel X.K ct F W2 L2 env2 st2 σ H ∧ forL g f (ds.drop i) env2 st2 = some (o, env', st'), ⟨_, rfl, Nat.zero_le _, W1, L1, env, st1, .refl W1, I1, e⟩, ?_⟩
  rintro i m σ H ⟨rfl, hi, W2, L2, env2, st2, l2, I2, e2⟩
  have wk2 := wk F W2 L2 env2 st2 σ H i l2 I2
  by_cases hlt : i < ds.length
  · rw [List.drop_eq_getElem_cons hlt] at e2
    obtain ⟨env3, h3, e2⟩ := bind2 e2
    obtain ⟨⟨o4, env4, st4⟩, h4, e2⟩ := bind2 e2
    obtain ⟨go, yl⟩ := wk2.1 ds[i] (List.getElem?_eq_getElem hlt)
    refine .inr ⟨go, fun σ' H' => i + 1 ≤ ds.length ∧ ∃ W2 L2 env2 st2, W1.le W2 ∧ Rel X.K ct F W2 L2 env2 st2 σ' H' ∧ forL g f (ds.drop (i + 1)) env2 st2 = some (o, env', st'), fun σ' H' q => ⟨_, by omega, rfl, q⟩, fun v H' y => ?_⟩
    obtain ⟨W3, L3, l3, I3, r3⟩ := yl v H' y
    refine ⟨F, W3, L3, env2, st2, _, env3, I3, r3, h3, fun σ3 _ _ I3' => ?_⟩
    refine ⟨F, W3, L3, env3, st2, o4, env4, st4, I3', h4, ?_⟩
    have ll := l2.trans l3
    cases o4 with
    | nx => exact fun σ' H' W5 L5 l5 I5 => ⟨hlt, W5, L5, env4, st4, ll.trans l5, I5, e2⟩
    | ct => exact fun σ' H' W5 L5 l5 I5 => ⟨hlt, W5, L5, env4, st4, ll.trans l5, I5, e2⟩
    | bk => cases e2; exact fun σ' H' W5 L5 l5 I5 => k _ _ _ _ (l1.trans (ll.trans l5)) I5
    | rt r => cases e2; exact fun v σ' H' W5 L5 l5 I5 => k v _ _ _ _ (l1.trans (ll.trans l5)) I5
  · have ei : i = ds.length := by omega
    rw [ei, List.drop_length] at e2
    cases e2
    exact .inl ⟨wk2.2 (by omega), k _ _ _ _ (l1.trans l2) I2⟩
end
end Kn
namespace Kn
open PySem L2
section
variable {X : Cx} {ct : CT} {pos : Pos} {x y : Expr} {a b c : Sem} {es : List Expr} {as : SemA}
/-! a list of one's own is changed by its methods -/
def MuS (rr : V → List V → Hp → VK → Prop) (f : List D → List D → Option (List D)) : Prop := ∀ K ct W H l vs ds ws xs ds' Q, H l = some (.lst vs) → RepL K ct W vs ds → RepL K ct W ws xs → f xs ds = some ds' →
  (∀ v vs', RepL K ct W vs' ds' → Q v (upd H l (.lst vs'))) → rr (.ref l) ws H Q
def sMut (i : Nat) (f : List D → List D → Option (List D)) (as : SemA) : SemS := fun env st => (as env st).bind fun p => (valsR p.1).bind fun xs => match env[i]? with
  | some (.ow (.lst ds)) => (f xs ds).map fun ds' => (.nx, env.set i (.ow (.lst ds')), p.2)
  | _ => none
theorem tSm_mut {K : PySem.W.Frag} {i : Nat} {rr : V → List V → Hp → VK → Prop} {f : List D → List D → Option (List D)} (ms : MuS rr f) {D : Ends} {σ : St} {H : Hp} (h : tSm K ct (sMut i f as) D σ H) :
    ∃ l vs, σ[i]? = some (some (.ref l)) ∧ H l = some (.lst vs) ∧ tA K ct as σ H fun ws H2 => rr (.ref l) ws H2 fun _ H3 => D.nx σ H3 := by
  obtain ⟨F, W, L, env, st, o, env', st', I, e, k⟩ := h
  obtain ⟨⟨rs, st1⟩, h1, e⟩ := bind2 e
  obtain ⟨xs, h2, e⟩ := bind2 e
  split at e
  · rename_i ds he
    obtain ⟨ds', h3, e3⟩ := map2 e
    cases e3
    obtain ⟨l, s1, s2, c⟩ := I.sl i _ he
    cases c with
    | lst g q =>
      refine ⟨l, _, s1, g, F, W, L, env, st, rs, _, I, h1, fun ws H2 W2 L2 l2 I2 qs => ?_⟩
      obtain ⟨l', t1, t2, c2⟩ := I2.sl i _ he
      rw [s1] at t1; cases t1
      cases c2 with
      | lst g2 q2 =>
        refine ms _ _ _ _ _ _ _ _ _ _ _ g2 q2 (qs.vals h2) h3 fun v vs' q' => ?_
        exact k _ _ _ _ l2 (I2.updOw' s1 t2 (fun xs z => by rw [g2] at z; cases z) (.lst upd_same q'))
  · cases e
theorem ss_mut1 {id : String} {name n : Str} {rr : V → List V → Hp → VK → Prop} {f : List D → List D → Option (List D)} {apos cpos npos : Pos} (i : Nat) (slot : PySem.Slot "list" name id) (hty : typeOf (.builtin id) = pure (.type "method_descriptor")) (hm : MtR X id rr) (ms : MuS rr f) (ha : SA X ct (x :: es) as)
    (hN : X.N[i]? = some n := by rfl) (hv : Vis X.env.scope n := by first | exact Or.inl rfl | exact Or.inr (Or.inl rfl) | exact Or.inr (Or.inr rfl)) (hd : (n == ("__debug__" : Str)) = false := by decide)
    (hcd : (n == ("__classdict__" : Str)) = false := by decide) (hbase : attributeBase (.Name n npos) name X.env (eval (.Name n npos) X.env) = eval (.Name n npos) X.env := by rfl)
    (hfew : ((backTo cpos (starEach (x :: es) X.env)).all (fun x => !x.1) && (backToKw cpos (keywordEach [] X.env)).all (fun x => x.1.isSome)
      && decide ((x :: es).length + ([] : List Keyword).length + (if ([] : List Keyword).isEmpty then 0 else 1) < 30)) = true := by rfl)
    (hline : (apos.endLine == cpos.line) = true := by rfl) (hs : starEach (x :: es) X.env = (false, eval x X.env) :: starEach es X.env := by rfl) (hplain : (backTo cpos (starEach es X.env)).any (·.1) = false := by rfl)
    (hsw : swapsWith (.Call (.Attribute (.Name n npos) name apos) (x :: es) [] cpos) none pos.line X.env = pure false := by rfl) :
    SS X ct (.Expr (.Call (.Attribute (.Name n npos) name apos) (x :: es) [] cpos) pos) (sMut i f as) := by
  refine ⟨ps_mono (ps_expr (pe_bm PySem.F.plainAttrs_list slot hty hm (pe_var hN hv hd hcd) ha.pa hbase hfew hline hs hplain) hsw) fun D σ H h => ?_⟩
  obtain ⟨l, vs, s1, g, t⟩ := tSm_mut ms h
  exact ⟨_, s1, .inl ⟨rfl, _, SqL.of g⟩, t⟩
def fApp (xs ds : List D) : Option (List D) := match xs with
  | [d] => if ds.length < sizeLine then some (ds ++ [d]) else none
  | _ => none
theorem ms_app : MuS rAppend fApp := by
  intro K ct W H l vs ds ws xs ds' Q g q qx e k
  unfold fApp at e
  split at e
  · obtain ⟨c, rfl⟩ := ifs e
    cases qx with
    | cons h r =>
      cases r
      exact ⟨l, vs, _, rfl, rfl, g, by rw [q.length]; exact c, k _ _ (q.append (.cons h .nil))⟩
  · cases e
def fClr (xs _ : List D) : Option (List D) := match xs with
  | [] => some []
  | _ => none
def fPop (xs ds : List D) : Option (List D) := match xs with
  | [] => if ds ≠ [] then some ds.dropLast else none
  | _ => none
theorem RepL.dropLast {K : PySem.W.Frag} {W : Wd} {vs : List V} {ds : List D} (r : RepL K ct W vs ds) : RepL K ct W vs.dropLast ds.dropLast := by
  rw [List.dropLast_eq_take, List.dropLast_eq_take, r.length]
  exact r.take _
/-! an item of one's own list or dict is stored -/
def putD (kds : List (Key × D)) (k : Key) (d : D) : List (Key × D) := if (valD kds k).isSome = true then kds.map fun kv => if kv.1 = k then (kv.1, d) else kv else kds ++ [(k, d)]
def setItm : D → D → D → Option D
  | .lst ds, .int k, d => (ixN ds.length k).map fun j => .lst (ds.set j d)
  | .dic kds, i, d => i.key.bind fun k => if kds.length < sizeLine then some (.dic (putD kds k d)) else none
  | _, _, _ => none
def sSub (i : Nat) (ix e : Sem) : SemS := fun env st => (e env st).bind fun p => (ix env p.2).bind fun q => match p.1.pin, env[i]? with
  | .sh d, some (.ow c) => (setItm c q.1.d d).map fun c' => (.nx, env.set i (.ow c'), q.2)
  | _, _ => none
/-- {} -/
def eDnew : Sem := fun _ st => some (.ow (.dic []), st)
/-! what is walked -/
variable {tg : Expr}
theorem wk_list {K : PySem.W.Frag} {W0 : Wd} {l : Addr} {vs : List V} {ds : List D} (h : SqL K W0.hs l vs) (r : RepL K ct W0 vs ds) : Wk K ct (Itl K l) W0 ds := by
  intro F W L env st σ H i le I
  have hs : SqL K H l vs := sq_mono (fun a o e => (I.hs a o (le.1 a o e)).1) h
  refine ⟨fun d hd => ?_, fun hi => ⟨vs, hs, by rw [r.length]; exact hi⟩⟩
  obtain ⟨v, hv, hr⟩ := r.get hd
  exact ⟨⟨vs, v, hs, hv⟩, fun x H' ⟨e, y⟩ => by
    subst e
    have e2 := y vs hs
    rw [hv] at e2; cases e2
    exact ⟨W, L, .refl W, I, hr.mono le⟩⟩
theorem wk_tup {K : PySem.W.Frag} {W0 : Wd} {l : Addr} {vs : List V} {ds : List D} (h : W0.tp l = some vs) (r : RepL K ct W0 vs ds) : Wk K ct (Itt K l) W0 ds := by
  intro F W L env st σ H i le I
  have hs : SqT K H l vs := SqT.of (I.tp _ _ (le.2 _ _ h))
  refine ⟨fun d hd => ?_, fun hi => ⟨vs, hs, by rw [r.length]; exact hi⟩⟩
  obtain ⟨v, hv, hr⟩ := r.get hd
  exact ⟨⟨vs, v, hs, hv⟩, fun x H' ⟨e, y⟩ => by
    subst e
    have e2 := y vs hs
    rw [hv] at e2; cases e2
    exact ⟨W, L, .refl W, I, hr.mono le⟩⟩
def D.seq : D → Option (List D)
  | .lst ds => some ds
  | .scr ns => some (ns.map D.int)
  | .tup ds => some ds
  | _ => none
def R.sh? : R → Option D
  | .sh d => some d
  | .ow d => some d
  | .bw _ _ => none
theorem R.sh_pin : ∀ {r : R} {d : D}, r.sh? = some d → r.pin = .sh d
  | .sh _, _, e => by cases e; rfl
  | .ow _, _, e => by cases e; rfl
  | .bw _ _, _, e => by cases e
def iSeq (a : Sem) : SemI := fun env st => (a env st).bind fun p => p.1.sh?.bind fun d => d.seq.map fun ds => (ds, p.2)
theorem si_seq (ha : SE X ct x a) : SI X ct tg x (iSeq a) := by
  refine ⟨pi_mono (pi_or (pi_list ha.pe) (pi_tup ha.pe)) fun σ H RR ⟨F, W, L, env, st, ds, st', I, e, k⟩ => ?_⟩
  obtain ⟨⟨r1, st1⟩, h1, e⟩ := bind2 e
  obtain ⟨d, h2, e⟩ := bind2 e
  obtain ⟨ds', h3, e⟩ := map2 e
  cases e
  have hp := R.sh_pin h2
  have out : (∀ v H1 W1 L1, W.le W1 → Rel X.K ct F W1 L1 env st1 σ H1 → Rep X.K ct W1 v d → ∃ a, v = .ref a ∧ (∃ vs, SqL X.K W1.hs a vs ∧ RepL X.K ct W1 vs ds)) ∨
      (∀ v H1 W1 L1, W.le W1 → Rel X.K ct F W1 L1 env st1 σ H1 → Rep X.K ct W1 v d → ∃ a, v = .ref a ∧ (∃ vs, W1.tp a = some vs ∧ RepL X.K ct W1 vs ds)) := by
    cases d <;> simp only [D.seq, Option.some.injEq, reduceCtorEq] at h3
    · subst h3
      refine .inl fun v H1 W1 L1 _ _ r => ?_
      cases r with
      | lst h q => exact ⟨_, rfl, _, SqL.of h, q⟩
    · subst h3
      refine .inr fun v H1 W1 L1 _ _ r => ?_
      cases r with
      | tup h q => exact ⟨_, rfl, _, h, q⟩
    · subst h3
      refine .inl fun v H1 W1 L1 _ _ r => ?_
      cases r with
      | scr h => exact ⟨_, rfl, _, h, RepL.of_ints _⟩
  rcases out with out | out
  · refine .inl ⟨F, W, L, env, st, r1, st1, I, h1, fun v H1 W1 L1 l1 I1 p1 => ?_⟩
    obtain ⟨W1', m1, J1, q1⟩ := I1.pin p1
    rw [hp] at q1
    obtain ⟨l, rfl, vs, g, q⟩ := out v H1 W1' L1 (l1.trans m1) J1 q1
    exact ⟨l, rfl, ⟨vs, sq_mono (fun a o e => (J1.hs a o e).1) g⟩, k _ H1 W1' L1 (l1.trans m1) J1 (wk_list g q)⟩
  · refine .inr ⟨F, W, L, env, st, r1, st1, I, h1, fun v H1 W1 L1 l1 I1 p1 => ?_⟩
    obtain ⟨W1', m1, J1, q1⟩ := I1.pin p1
    rw [hp] at q1
    obtain ⟨l, rfl, vs, g, q⟩ := out v H1 W1' L1 (l1.trans m1) J1 q1
    exact ⟨l, rfl, ⟨vs, SqT.of (J1.tp _ _ g)⟩, k _ H1 W1' L1 (l1.trans m1) J1 (wk_tup g q)⟩
/-- lo, lo + 1, .. -/
def rngD (lo : Int) (n : Nat) : List D := (List.range n).map fun (k : Nat) => D.int (lo + k)
theorem wk_rng {K : PySem.W.Frag} {W0 : Wd} (lo : Int) (n : Nat) : Wk K ct (Itr lo n) W0 (rngD lo n) := by
  intro F W L env st σ H i le I
  have hl : (rngD lo n).length = n := by unfold rngD; rw [List.length_map, List.length_range]
  refine ⟨fun d hd => ?_, fun hi => by rw [hl] at hi; exact hi⟩
  have hi : i < n := by
    have := (List.getElem?_eq_some_iff.mp hd).1
    rw [hl] at this; exact this
  have e : d = .int (lo + i) := by
    unfold rngD at hd
    rw [List.getElem?_map, List.getElem?_range hi] at hd
    exact (Option.some.inj hd).symm
  subst e
  exact ⟨hi, fun x H' ⟨e1, e2⟩ => by subst e1; subst e2; exact ⟨W, L, .refl W, I, .int _⟩⟩
/-- within the bounds of a range -/
structure Rg (j : Int) : Prop where
  lo : -(2 ^ 62) ≤ j
  hi : j < 2 ^ 62
noncomputable instance (j : Int) : Decidable (Rg j) := Classical.propDecidable _
theorem Rg.of {j : Int} (h : -1000000 ≤ j ∧ j ≤ 1000000) : Rg j := ⟨by omega, by omega⟩
noncomputable def iRng1' (a : Sem) : SemI := fun env st => (a env st).bind fun p => match p.1.d with
  | .int j => if Rg j then some (rngD 0 j.toNat, p.2) else none
  | _ => none
theorem si_rng1 {p : Pos} (hg : Gl X "range") (hm : X.mg "range" = none) (ha : SE X ct x a) (he : starEach [x] X.env = (false, eval x X.env) :: starEach [] X.env := by rfl) (hs : starEach [x] X.env = [(false, eval x X.env)] := by rfl) : SI X ct tg (.Call (.Name "range" p) [x] [] pos) (iRng1' a) := by
  refine ⟨pi_mono (pi_range1 hg hm (pa_cons ha.pe pa_nil he) hs) fun σ H RR ⟨F, W, L, env, st, ds, st', I, e, k⟩ => ?_⟩
  obtain ⟨⟨r1, st1⟩, h1, e⟩ := bind2 e
  refine ⟨F, W, L, env, st, r1, st1, I, h1, fun v H1 W1 L1 l1 I1 p1 => ?_⟩
  obtain ⟨W1', m1, J1, q1⟩ := I1.pin p1
  have q1' := J1.look q1
  rw [R.pin_d] at q1'
  cases hr : r1.d <;> rw [show ((r1, st1) : R × Sto).1.d = _ from hr] at e <;> try (cases e; done)
  obtain ⟨c, e⟩ := ifs e
  cases e
  rw [hr] at q1'
  exact ⟨_, by rw [q1'.int], c.1, c.2, k _ _ _ _ (l1.trans m1) J1 (wk_rng 0 _)⟩
noncomputable def iRng2' (a b : Sem) : SemI := fun env st => (a env st).bind fun p => (b env p.2).bind fun q => match p.1.d, q.1.d with
  | .int i, .int j => if Rg i ∧ Rg j then some (rngD i (j - i).toNat, q.2) else none
  | _, _ => none
theorem si_rng2 {p : Pos} (hg : Gl X "range") (hm : X.mg "range" = none) (ha : SE X ct x a) (hb : SE X ct y b) (he : starEach [x, y] X.env = (false, eval x X.env) :: starEach [y] X.env := by rfl) (he2 : starEach [y] X.env = (false, eval y X.env) :: starEach [] X.env := by rfl)
    (hs : starEach [x, y] X.env = [(false, eval x X.env), (false, eval y X.env)] := by rfl) (hs2 : starEach [y] X.env = [(false, eval y X.env)] := by rfl) : SI X ct tg (.Call (.Name "range" p) [x, y] [] pos) (iRng2' a b) := by
  refine ⟨pi_mono (pi_range2 hg hm (pa_cons ha.pe (pa_cons hb.pe pa_nil he2) he) hs hs2) fun σ H RR ⟨F, W, L, env, st, ds, st', I, e, k⟩ => ?_⟩
  obtain ⟨⟨r1, st1⟩, h1, e⟩ := bind2 e
  obtain ⟨⟨r2, st2⟩, h2, e⟩ := bind2 e
  refine ⟨F, W, L, env, st, r1, st1, I, h1, fun v H1 W1 L1 l1 I1 p1 => ?_⟩
  obtain ⟨W1', m1, J1, q1⟩ := I1.pin p1
  refine ⟨F, W1', L1, env, st1, r2, st2, J1, h2, fun w H2 W2 L2 l2 I2 p2 => ?_⟩
  obtain ⟨W2', m2, J2, q2⟩ := I2.pin p2
  have q1' := J2.look (q1.mono (l2.trans m2))
  have q2' := J2.look q2
  rw [R.pin_d] at q1' q2'
  cases hr : r1.d <;> rw [show ((r1, st1) : R × Sto).1.d = _ from hr] at e <;> try (cases e; done)
  cases hr2 : r2.d <;> rw [show ((r2, st2) : R × Sto).1.d = _ from hr2] at e <;> try (cases e; done)
  obtain ⟨c, e⟩ := ifs e
  cases e
  rw [hr] at q1'
  rw [hr2] at q2'
  exact ⟨_, _, by rw [q1'.int, q2'.int], ⟨c.1.1, c.1.2, c.2.1, c.2.2⟩, k _ _ _ _ (l1.trans (m1.trans (l2.trans m2))) J2 (wk_rng _ _)⟩
def enumF : Nat → List D → List D
  | _, [] => []
  | k, d :: ds => .tup [.int k, d] :: enumF (k + 1) ds
def iEnum' (a : Sem) : SemI := fun env st => (a env st).bind fun p => p.1.sh?.bind fun d => d.seqL.map fun ds => (enumF 0 ds, p.2)
def zipD : List D → List D → List D
  | d :: ds, e :: es => .tup [d, e] :: zipD ds es
  | _, _ => []
def iZip' (a b : Sem) : SemI := fun env st => (a env st).bind fun p => p.1.sh?.bind fun d => d.seqL.bind fun ds => (b env p.2).bind fun q => q.1.sh?.bind fun e => e.seqL.map fun es => (zipD ds es, q.2)
end
end Kn
namespace Kn
open PySem L2
section
variable {X : Cx} {ct : CT} {pos : Pos} {x y : Expr} {a b c : Sem} {es : List Expr} {as : SemA}
/-! list comprehensions -/
def wipeE (env : List Slot) : List Nat → List Slot
  | [] => env
  | v :: vs => (wipeE env vs).set v .no
theorem wipeE_len (env : List Slot) : ∀ vs, (wipeE env vs).length = env.length
  | [] => rfl
  | v :: vs => by rw [wipeE, List.length_set, wipeE_len env vs]
theorem wipeE_out {env : List Slot} {i : Nat} : ∀ {vs : List Nat}, i ∉ vs → (wipeE env vs)[i]? = env[i]?
  | [], _ => rfl
  | v :: vs, h => by
    rw [wipeE, List.getElem?_set_ne fun e => h (by rw [e]; exact List.mem_cons_self)]
    exact wipeE_out fun m => h (List.mem_cons_of_mem _ m)
theorem wipeE_in {env : List Slot} {i : Nat} {s : Slot} : ∀ {vs : List Nat}, i ∈ vs → (wipeE env vs)[i]? = some s → s = .no
  | v :: vs, h, e => by
    rw [wipeE] at e
    rcases getset e with ⟨_, e, _⟩ | ⟨hj, e⟩
    · exact e
    · rcases List.mem_cons.mp h with h | h
      · exact absurd h hj
      · exact wipeE_in h e
theorem wipe_in {σ : St} {i : Nat} : ∀ {vs : List Nat}, i ∈ vs → i < σ.length → (wipe σ vs)[i]? = some none
  | v :: vs, h, hi => by
    unfold wipe
    by_cases e : v = i
    · subst e
      rw [List.getElem?_set_self (by rw [wipe_length]; exact hi)]
    · rw [List.getElem?_set_ne e]
      rcases List.mem_cons.mp h with h | h
      · exact absurd h.symm e
      · exact wipe_in h hi
theorem wipe_again {σ σ' : St} {vs : List Nat} (hl : σ'.length = σ.length) (h : ∀ j : Nat, j ∉ vs → σ'[j]? = (wipe σ vs)[j]?) : wipe σ' vs = wipe σ vs := by
  refine List.ext_getElem? fun j => ?_
  by_cases hj : j ∈ vs
  · by_cases hi : j < σ.length
    · rw [wipe_in hj hi, wipe_in hj (by rw [hl]; exact hi)]
    · rw [List.getElem?_eq_none (by rw [wipe_length]; omega), List.getElem?_eq_none (by rw [wipe_length]; omega)]
  · rw [wipe_out hj, h j hj]
theorem Rel.wiped {K : PySem.W.Frag} {F H : Hp} {W : Wd} {L : Addr → Option Lab} {env : List Slot} {st : Sto} {σ : St} (I : Rel K ct F W L env st σ H) (vs : List Nat) : Rel K ct F W L (wipeE env vs) st (wipe σ vs) H := by
  refine ⟨I.fr, I.hs, I.tp, I.ob, I.rh, by rw [wipe_length, wipeE_len]; exact I.len, fun j s e => ?_⟩
  by_cases hj : j ∈ vs
  · rw [wipeE_in hj e]; trivial
  · rw [wipeE_out hj] at e
    exact (I.sl j s e).at' (wipe_out hj)
def Slot.okW : Slot → Bool
  | .no => true
  | .sh _ => true
  | _ => false
/-- back out of the block -/
theorem Rel.back {K : PySem.W.Frag} {F H1 H : Hp} {W W1 : Wd} {L L1 : Addr → Option Lab} {env env1 : List Slot} {st st1 : Sto} {σ σ1 : St} {F0 : Hp} {vs : List Nat} (I0 : Rel K ct F0 W L env st σ H) (le : W.le W1) (I1 : Rel K ct F W1 L1 env1 st1 σ1 H1)
    (hs : ∀ j : Nat, j ∉ vs → σ1[j]? = σ[j]?) (he : ∀ j : Nat, j ∉ vs → env1[j]? = env[j]?) (hv : ∀ j : Nat, j ∈ vs → ∀ s, env[j]? = some s → s.okW = true) : Rel K ct F W1 L1 env st1 σ H1 := by
  refine ⟨I1.fr, I1.hs, I1.tp, I1.ob, I1.rh, I0.len, fun j s e => ?_⟩
  by_cases hj : j ∈ vs
  · have h0 := I0.sl j s e
    have ok := hv j hj s e
    cases s with
    | no => trivial
    | sh d =>
      obtain ⟨v, h1, h2⟩ := h0
      exact ⟨v, h1, h2.mono le⟩
    | ow d => cases ok
    | o2 d => cases ok
    | me a d => cases ok
    | exc a => cases ok
  · rw [← he j hj] at e
    exact (I1.sl j s e).at' (hs j hj).symm
def lcL (g : SemG) (c a : Sem) (vs : List Nat) (env : List Slot) : List D → Sto → Option (List D × Sto)
  | [], st => some ([], st)
  | d :: ds, st => (g d (wipeE env vs)).bind fun env1 => (c env1 st).bind fun p => p.1.tr.bind fun k => if k = true then (a env1 p.2).bind fun q => q.1.sh?.bind fun e => (lcL g c a vs env ds q.2).map fun r => (e :: r.1, r.2)
    else lcL g c a vs env ds p.2
def eLc (it : SemI) (vs : List Nat) (g : SemG) (c a : Sem) : Sem := fun env st => (it env st).bind fun p => if vs.all (fun j => (env[j]?.map Slot.okW).getD true) = true then (lcL g c a vs env p.1 p.2).bind fun q => if q.1.length ≤ sizeLine then some (.ow (.lst q.1), q.2) else none else none
/-- the tests of a clause -/
structure STs (X : Cx) (ct : CT) (x : List Expr) (e : Sem) : Prop where
  pts : PTs X x (tT X.K ct e)
def eYes : Sem := fun _ st => some (.sh (.bl true), st)
theorem pts_mono {x : List Expr} {t t' : TT} (h : PTs X x t) (k : ∀ σ H Q, t' σ H Q → t σ H Q) : PTs X x t' := ⟨fun pins s σ H Q I q => h.run pins s σ H Q I (k σ H Q q)⟩
theorem sts_nil : STs X ct [] eYes := ⟨pts_mono pts_nil fun σ H Q ⟨F, W, L, env, st, r, st', I, e, k⟩ => by cases e; exact k H W L (.refl W) I⟩
theorem frame_add {K : PySem.W.Frag} {F H : Hp} {W : Wd} {L : Addr → Option Lab} {env : List Slot} {st : Sto} {σ : St} {p : Addr} {o : HO} (I : Rel K ct F W L env st σ H) (h : H p = some o) (hl : L p = none) (hw : W.hs p = none) : Rel K ct (upd F p o) W L env st σ H := by
  refine ⟨fun b u e => ?_, I.hs, I.tp, I.ob, I.rh, I.len, I.sl⟩
  by_cases hb : b = p
  · subst hb; rw [upd_same] at e; cases e; exact ⟨h, hl, hw⟩
  · rw [upd_ne hb] at e; exact I.fr b u e
theorem frame_sub {K : PySem.W.Frag} {F H : Hp} {W : Wd} {L : Addr → Option Lab} {env : List Slot} {st : Sto} {σ : St} {p : Addr} {o : HO} (I : Rel K ct (upd F p o) W L env st σ H) (hf : F p = none) : Rel K ct F W L env st σ H := by
  refine ⟨fun b u e => ?_, I.hs, I.tp, I.ob, I.rh, I.len, I.sl⟩
  have nb : b ≠ p := by rintro rfl; rw [hf] at e; cases e
  exact I.fr b u (by rw [upd_ne nb]; exact e)
/-- the frame's own list is changed -/
theorem frame_upd {K : PySem.W.Frag} {F H : Hp} {W : Wd} {L : Addr → Option Lab} {env : List Slot} {st : Sto} {σ : St} {p : Addr} {o o' : HO} (hn : ∀ xs, o ≠ .tup xs) (I : Rel K ct (upd F p o) W L env st σ H) : Rel K ct (upd F p o') W L env st σ (upd H p o') := by
  obtain ⟨h1, h2, h3⟩ := I.fr p o upd_same
  refine ⟨fun b u e => ?_, fun b u e => ?_, fun b vs e => ?_, fun g κ d e => ?_, I.rh, I.len, fun i s e => (I.sl i s e).mono (.refl W) fun b u hl hu => ⟨?_, hl⟩⟩
  · by_cases hb : b = p
    · subst hb; rw [upd_same] at e; cases e; exact ⟨upd_same, h2, h3⟩
    · rw [upd_ne hb] at e
      rw [upd_ne hb]
      exact I.fr b u (by rw [upd_ne hb]; exact e)
  · have nb : b ≠ p := by rintro rfl; rw [h3] at e; cases e
    rw [upd_ne nb]
    exact I.hs b u e
  · have g := I.tp b vs e
    rw [upd_ne (by rintro rfl; rw [h1] at g; cases g; exact hn _ rfl)]
    exact g
  · obtain ⟨v, e1, e2⟩ := I.ob g κ d e
    refine ⟨v, e1, ?_⟩
    have q : (fun b => if L b = some (.ob g) then (upd H p o') b else none) = fun b => if L b = some (.ob g) then H b else none := by
      funext b
      by_cases hb : b = p
      · subst hb; simp [h2]
      · rw [upd_ne hb]
    rw [q]; exact e2
  · have nb : b ≠ p := by rintro rfl; rw [h2] at hl; cases hl
    rw [upd_ne nb]; exact hu
theorem tE_lc {K : PySem.W.Frag} {it : SemI} {vs ts : List Nat} {g : SemG} (hts : ∀ j ∈ ts, j ∈ vs) {σ : St} {H : Hp} {Q : VK} (h : tE K ct (eLc it vs g c a) σ H Q) : tLc (tI K ct it) (tG K ct ts g) (tT K ct c) (tE K ct a) vs σ H Q := by
  obtain ⟨F, W, L, env, st, r, st', I, e, k⟩ := h
  obtain ⟨⟨ds, st1⟩, h1, e⟩ := bind2 e
  have okv : vs.all (fun j => (env[j]?.map Slot.okW).getD true) = true ∧ ((lcL g c a vs env ds st1).bind fun q => if q.1.length ≤ sizeLine then some (R.ow (.lst q.1), q.2) else none) = some (r, st') := by
    dsimp only at e
    split at e
    · exact ⟨by assumption, e⟩
    · cases e
  obtain ⟨okv, e⟩ := okv
  obtain ⟨⟨out, st2⟩, h2, e⟩ := bind2 e
  obtain ⟨hz, e⟩ := ifs e
  cases e
  have hz : out.length ≤ sizeLine := hz
  have ok : ∀ j : Nat, j ∈ vs → ∀ s, env[j]? = some s → s.okW = true := fun j hj s e => by
    have := List.all_eq_true.mp okv j hj
    rw [e] at this
    exact this
  refine ⟨F, W, L, env, st, ds, st1, I, h1, fun J H1 W1 L1 l1 I1 wk p hp => ?_⟩
  -- the new list at p
  obtain ⟨I2, n1, n2, n3⟩ := I1.laid (o := HO.lst []) hp
  have I3 := frame_add I2 (p := p) (o := HO.lst []) upd_same n1 n2
  refine ⟨fun i m H => m = ds.length - i ∧ i ≤ ds.length ∧ ∃ W2 L2 st5 acc accd rest, W1.le W2 ∧ Rel K ct (upd F p (.lst acc)) W2 L2 env st5 σ H ∧ RepL K ct W2 acc accd ∧ lcL g c a vs env (ds.drop i) st5 = some (rest, st2) ∧ accd ++ rest = out,
    ⟨_, rfl, Nat.zero_le _, W1, _, st1, [], [], out, .refl W1, I3, .nil, h2, rfl⟩, ?_⟩
  rintro i m H ⟨rfl, hi, W2, L2, st3, acc, accd, rest, l2, I4, ra, e2, eo⟩
  have wk2 := wk _ W2 L2 env st3 σ H i l2 I4
  have wk3 := wk _ W2 L2 (wipeE env vs) st3 (wipe σ vs) H i l2 (I4.wiped vs)
  by_cases hlt : i < ds.length
  · rw [List.drop_eq_getElem_cons hlt] at e2
    obtain ⟨env3, h3, e2⟩ := bind2 e2
    obtain ⟨⟨r4, st4⟩, h4, e2⟩ := bind2 e2
    obtain ⟨kb, hkb, e2⟩ := bind2 e2
    have hkb := R.tr_eq hkb
    rw [show r4 = _ from hkb] at h4
    obtain ⟨go, yl⟩ := wk3.1 ds[i] (List.getElem?_eq_getElem hlt)
    refine .inr ⟨go, fun H' => i + 1 ≤ ds.length ∧ ∃ W2 L2 st5 acc accd rest, W1.le W2 ∧ Rel K ct (upd F p (.lst acc)) W2 L2 env st5 σ H' ∧ RepL K ct W2 acc accd ∧ lcL g c a vs env (ds.drop (i + 1)) st5 = some (rest, st2) ∧ accd ++ rest = out, fun H' q => ⟨_, by omega, rfl, q⟩, fun v H' y => ?_⟩
    obtain ⟨W3, L3, l3, I5, r5⟩ := yl v H' y
    refine ⟨_, W3, L3, wipeE env vs, st3, _, env3, I5, r5, h3, fun σ3 o1 o2 I6 => ?_⟩
    have hs : ∀ j : Nat, j ∉ vs → σ3[j]? = (wipe σ vs)[j]? := fun j hj => o1.2 j fun z => hj (hts j z)
    have hs' : ∀ j : Nat, j ∉ vs → σ3[j]? = σ[j]? := fun j hj => (hs j hj).trans (wipe_out hj)
    have he : ∀ j : Nat, j ∉ vs → env3[j]? = env[j]? := fun j hj => (o2.2 j fun z => hj (hts j z)).trans (wipeE_out hj)
    refine ⟨wipe_again (by rw [o1.1, wipe_length]) hs, ?_⟩
    refine ⟨_, W3, L3, env3, st3, kb, st4, I6, h4, fun H6 W6 L6 l6 I7 => ?_⟩
    have ll := l2.trans (l3.trans l6)
    cases kb with
    | true =>
      refine iteT ?_
      have e2 : ((a env3 st4).bind fun q => q.1.sh?.bind fun e => (lcL g c a vs env (ds.drop (i + 1)) q.2).map fun r => (e :: r.1, r.2)) = some (rest, st2) := e2
      obtain ⟨⟨r7, st7⟩, h7, e2⟩ := bind2 e2
      obtain ⟨d7, h8, e2⟩ := bind2 e2
      obtain ⟨⟨rest', st8⟩, h9, e2⟩ := map2 e2
      cases e2
      refine ⟨_, W6, L6, env3, st4, r7, st7, I7, h7, fun v7 H7 W7 L7 l7 I8 p8 => ?_⟩
      obtain ⟨W8, m8, J8, q8⟩ := I8.pin p8
      rw [R.sh_pin h8] at q8
      have le := l3.trans (l6.trans (l7.trans m8))
      have hacc : H7 p = some (.lst acc) := (J8.fr p _ upd_same).1
      have I9 := Rel.back (vs := vs) I4 le J8 hs' he ok
      refine ⟨acc, hacc, ?_, hlt, W8, L7, st7, acc ++ [v7], accd ++ [d7], rest', l2.trans le, frame_upd (o := HO.lst acc) (fun xs z => nomatch z) I9, (ra.mono le).append (.cons q8 .nil), h9, ?_⟩
      · rw [ra.length]
        have := congrArg List.length eo
        rw [List.length_append, List.length_cons] at this
        omega
      · rw [← eo, List.append_assoc]; rfl
    | false =>
      refine iteF ?_
      have e2 : lcL g c a vs env (ds.drop (i + 1)) st4 = some (rest, st2) := e2
      have I9 := Rel.back (vs := vs) I4 (l3.trans l6) I7 hs' he ok
      exact ⟨hlt, W6, L6, st4, acc, accd, rest, ll, I9, ra.mono (l3.trans l6), e2, eo⟩
  · have ei : i = ds.length := by omega
    rw [ei, List.drop_length] at e2
    cases e2
    rw [List.append_nil] at eo
    subst eo
    refine .inl ⟨wk2.2 (by omega), ?_⟩
    obtain ⟨f1, f2, f3⟩ := I4.fr p _ upd_same
    exact k _ _ _ _ (l1.trans l2) (frame_sub I4 n3) ⟨p, rfl, f2, f3, n3, .lst f1 ra⟩
theorem ss_setLc (i : Nat) {n : Str} {py spos : Pos} {tg : Expr} {ifs : List Expr} {scope : Scope} {own : List (Str × Nat)} {it : SemI} {ts : List Nat} {g : SemG} (hc : X.calm = true) (hN : X.N.Nodup) (hi : SI X ct tg x it) (ok : BlkOk X.N X.env.scope scope own)
    (hg : ∀ (s : Shared) (H : Hp) (C : Addr) (cl : List (Str × Addr)) (fp : List Addr), SG (X.blk s H scope (compEnvC scope cl C X.env) fp) ct tg ts g) (ht : ∀ (s : Shared) (H : Hp) (C : Addr) (cl : List (Str × Addr)) (fp : List Addr), STs (X.blk s H scope (compEnvC scope cl C X.env) fp) ct ifs c)
    (he : ∀ (s : Shared) (H : Hp) (C : Addr) (cl : List (Str × Addr)) (fp : List Addr), SE (X.blk s H scope (compEnvC scope cl C X.env) fp) ct y a) (hy : X.N[i]? = some n := by rfl) (hyl : X.env.scope.names.lookup n = some .local := by rfl)
    (hsw : swapsWith (.ListComp y [⟨tg, x, ifs, 0⟩] scope pos) (some (.Name n py)) spos.line X.env = pure true := by exact sw_true rfl rfl rfl (by decide +kernel)) (hts : ∀ j ∈ ts, j ∈ own.map (·.2) := by decide) (hs : ∀ z, foldedSetIterable x X.env z = pure z := by intro _; rfl) :
    SS X ct (.Assign [.Name n py] (.ListComp y [⟨tg, x, ifs, 0⟩] scope pos) spos) (sSet i (eLc it (own.map (·.2)) g c a)) := by
  refine ⟨ps_mono (ps_setLc (te := tE X.K ct a) (tt := tT X.K ct c) (g := tG X.K ct ts g) hc hN hy hyl hsw hi.pi ok (fun s H C cl fp => (hg s H C cl fp).pg) (fun s H C cl fp => (ht s H C cl fp).pts) (fun s H C cl fp => (he s H C cl fp).pe) hs) fun D σ H h => ?_⟩
  exact tE_lc hts (tSm_set h)
end
/-! ### what a def promises -/
abbrev Fn := List D → Sto → Option (R × Sto)
def spD (K : PySem.W.Frag) (ct : CT) (n : Nat) (m : Fn) : Sp := fun vs H Q _ => ∃ F W L st ds r st', Rel K ct F W L [] st [] H ∧ RepL K ct W vs ds ∧ ds.length = n ∧ m ds st = some (r, st') ∧
  ∀ v H' W' L', W.le W' → Rel K ct F W' L' [] st' [] H' → RepR K ct F W' L' H' [] [] v r → Q v H'
def R.outR : R → R
  | .bw _ d => .ow d
  | r => r
/-- a body as a function; k: how many names -/
def runB (k : Nat) (f : SemS) : Fn := fun ds st => (f (ds.map .sh ++ List.replicate (k - ds.length) .no) st).bind fun p => match p.1 with
  | .nx => some (.sh .non, p.2.2)
  | .rt r => some (r.outR, p.2.2)
  | _ => none
section
variable {K : PySem.W.Frag} {ct : CT}
theorem spD_imp {n : Nat} {m m' : Fn} (h : ∀ ds st r st', ds.length = n → m' ds st = some (r, st') → m ds st = some (r, st')) : ∀ vs H Q E, spD K ct n m' vs H Q E → spD K ct n m vs H Q E := by
  rintro vs H Q E ⟨F, W, L, st, ds, r, st', I, q, hl, e, k⟩
  exact ⟨F, W, L, st, ds, r, st', I, q, hl, h _ _ _ _ hl e, k⟩
theorem rel_start {F H : Hp} {W : Wd} {L : Addr → Option Lab} {st : Sto} {vs : List V} {ds : List D} {N : List Str} (I : Rel K ct F W L [] st [] H) (q : RepL K ct W vs ds) (hN : vs.length ≤ N.length) :
    Rel K ct F W L (ds.map .sh ++ List.replicate (N.length - ds.length) .no) st (L2.start N vs) H := by
  have hl := q.length
  refine ⟨I.fr, I.hs, I.tp, I.ob, I.rh, ?_, fun i s e => ?_⟩
  · unfold L2.start
    rw [List.length_append, List.length_map, List.length_replicate, List.length_append, List.length_map, List.length_replicate, hl]
  · by_cases hi : i < ds.length
    · rw [List.getElem?_append_left (by simpa using hi), List.getElem?_map] at e
      obtain ⟨d, hd, rfl⟩ := Option.map_eq_some_iff.mp e
      obtain ⟨v, hv, hr⟩ := q.get hd
      refine ⟨v, ?_, hr⟩
      unfold L2.start
      rw [List.getElem?_append_left (by rw [List.length_map]; omega), List.getElem?_map, hv]
      rfl
    · rw [List.getElem?_append_right (by simpa using hi), List.getElem?_replicate] at e
      split at e
      · cases e; trivial
      · cases e
/-- the slots are forgotten -/
theorem rel_end {F H : Hp} {W : Wd} {L : Addr → Option Lab} {env : List Slot} {st : Sto} {σ : St} {v : V} {r : R} (I : Rel K ct F W L env st σ H) (p : RepR K ct F W L H env σ v r) :
    ∃ L', Rel K ct F W L' [] st [] H ∧ RepR K ct F W L' H [] [] v r.outR := by
  refine ⟨fun b => match L b with | some (.slot _) => none | z => z, ?_, ?_⟩
  · refine ⟨fun b u e => ?_, fun b u e => ?_, I.tp, fun g κ d e => ?_, I.rh, rfl, fun i s e => by simp at e⟩
    · obtain ⟨h1, h2, h3⟩ := I.fr b u e
      exact ⟨h1, by simp only [h2], h3⟩
    · obtain ⟨h1, h2⟩ := I.hs b u e
      exact ⟨h1, by simp only [h2]⟩
    · obtain ⟨v, h1, h2⟩ := I.ob g κ d e
      refine ⟨v, h1, ?_⟩
      have q : (fun b => if (match L b with | some (.slot _) => none | z => z) = some (Lab.ob g) then H b else none) = fun b => if L b = some (.ob g) then H b else none := by
        funext b
        cases hb : L b with
        | none => rfl
        | some l => cases l with
          | slot i => simp
          | ob g' => rfl
      rw [q]; exact h2
  · cases r with
    | sh d => exact p
    | ow d =>
      obtain ⟨a, h1, h2, h3⟩ := p
      exact ⟨a, h1, by simp only [h2], h3⟩
    | bw i d =>
      obtain ⟨h1, h2⟩ := p
      obtain ⟨a, e1, e2, c⟩ := I.sl i _ h1
      rw [h2] at e1; cases e1
      refine ⟨a, rfl, by simp only [e2], ?_, ?_, c⟩
      · cases q : W.hs a with
        | none => rfl
        | some u => have := (I.hs a u q).2; rw [e2] at this; cases this
      · cases q : F a with
        | none => rfl
        | some u => have := (I.fr a u q).2.1; rw [e2] at this; cases this
/-- THE RULE for a def: its body as a function -/
theorem fn_ok {P : Program} {w : World} {mg : Str → Option Value} {base : Heap} {name qual : Str} {st : Stmt} {f : Addr} {fd : FuncData} {N ps : List Str} {k : Nat} {b : SemS} (F : Fun K name qual st f fd) (S : FnScope N ps (defScope st))
    (hb : ∀ (cdv : Value) (A : Around) (outer : List Env) (s : Shared) (H : Hp) (E : XK), Room k (A.deeper (PyProof.Rows.envOfC qual (defScope st) s.heap.objs.size f cdv)) → SB (cxOf CX0 P w K mg base N qual (defScope st) f cdv A outer s H E).nox ct (defBody st) b) :
    FnOk P w K mg base CX0 (k + 1) f fd ps (spD K ct ps.length (runB N.length b)) := by
  refine F.ok S (fun vs H Q E h => ?_) (fun cdv A outer s H vs Q E hr h => ?_)
  · obtain ⟨F, W, L, st, ds, r, st', I, q, hl, e, k⟩ := h
    rw [q.length]; exact hl
  · obtain ⟨F, W, L, st, ds, r, st', I, q, hl, e, kk⟩ := h
    refine ⟨_, (hb cdv A outer s H E hr).pss, ?_⟩
    obtain ⟨⟨o, env', st1⟩, h1, e⟩ := bind2 e
    have hpl : ps.length ≤ N.length := by have := congrArg List.length S.pre; rw [List.length_take] at this; omega
    refine ⟨F, W, L, _, st, o, env', st1, rel_start I q (by rw [q.length, hl]; exact hpl), h1, ?_⟩
    cases o with
    | nx =>
      cases e
      intro σ' H' W' L' l I'
      obtain ⟨L2, I2, p2⟩ := rel_end I' (v := .non) (r := .sh .non) .non
      exact kk _ _ _ _ l I2 p2
    | rt r1 =>
      cases e
      intro v σ' H' W' L' l I' p
      obtain ⟨L2, I2, p2⟩ := rel_end I' p
      exact kk _ _ _ _ l I2 p2
    | bk => cases e
    | ct => cases e
end
/-! ### calls of defs -/
section
variable {X : Cx} {ct : CT} {pos : Pos} {x y : Expr} {a b c : Sem} {es : List Expr} {as : SemA}
def eCall (n : Nat) (m : Fn) (as : SemA) : Sem := fun env st => (as env st).bind fun p => (valsR p.1).bind fun ds => if ds.length = n then m ds p.2 else none
/-- the call by shared values -/
theorem call_out {K : PySem.W.Frag} {F H : Hp} {W : Wd} {L : Addr → Option Lab} {env : List Slot} {st st' : Sto} {σ : St} {vs : List V} {ds : List D} {n : Nat} {m : Fn} {r : R} {Q : VK} {E : XK} (I : Rel K ct F W L env st σ H) (q : RepL K ct W vs ds) (hl : ds.length = n) (e : m ds st = some (r, st'))
    (k : ∀ v H' W' L', W.le W' → Rel K ct F W' L' env st' σ H' → RepR K ct F W' L' H' env σ v r → Q v H') : spD K ct n m vs H Q E := by
  -- all that is no object's and not shared is the frame's
  refine ⟨fun b => match L b, W.hs b with | some (.ob _), _ => none | _, some _ => none | _, none => H b, W, fun b => match L b with | some (.ob g) => some (.ob g) | _ => none, st, ds, r, st', ?_, q, hl, e, ?_⟩
  · refine ⟨fun b u e => ?_, fun b u e => ?_, I.tp, fun g κ d e => ?_, I.rh, rfl, fun i s e => by simp at e⟩
    · cases hb : L b with
      | none =>
        cases hw : W.hs b with
        | none => simp only [hb, hw] at e; exact ⟨e, rfl, rfl⟩
        | some z => simp only [hb, hw] at e; cases e
      | some l =>
        cases l with
        | slot i =>
          cases hw : W.hs b with
          | none => simp only [hb, hw] at e; exact ⟨e, rfl, rfl⟩
          | some z => simp only [hb, hw] at e; cases e
        | ob g => simp only [hb] at e; cases e
    · obtain ⟨h1, h2⟩ := I.hs b u e
      exact ⟨h1, by simp only [h2]⟩
    · obtain ⟨v, h1, h2⟩ := I.ob g κ d e
      refine ⟨v, h1, ?_⟩
      have q : (fun b => if (match L b with | some (.ob g) => some (Lab.ob g) | _ => none) = some (Lab.ob g) then H b else none) = fun b => if L b = some (.ob g) then H b else none := by
        funext b
        cases hb : L b with
        | none => simp
        | some l => cases l with
          | slot i => simp
          | ob g' => rfl
      rw [q]; exact h2
  · intro v H' W' L' l I' p
    -- the frame's part
    have own : ∀ b i u, L b = some (.slot i) → H b = some u → H' b = some u ∧ L' b = none ∧ W'.hs b = none := fun b i u hb hu => by
      have hw : W.hs b = none := by
        cases q : W.hs b with
        | none => rfl
        | some z => have := (I.hs b z q).2; rw [hb] at this; cases this
      exact I'.fr b u (by simp only [hb, hw]; exact hu)
    refine k v H' W' (fun b => match L b, H b with | some (.slot i), some _ => some (.slot i) | _, _ => L' b) l ?_ ?_
    · have off : ∀ b, L' b = none ∨ (∀ i u, ¬ (L b = some (.slot i) ∧ H b = some u)) := fun b => by
        by_cases z : ∃ i u, L b = some (.slot i) ∧ H b = some u
        · obtain ⟨i, u, z1, z2⟩ := z
          exact .inl (own b i u z1 z2).2.1
        · exact .inr fun i u q => z ⟨i, u, q⟩
      have lab : ∀ b, (∀ i u, ¬ (L b = some (.slot i) ∧ H b = some u)) → (match L b, H b with | some (.slot i), some _ => some (Lab.slot i) | _, _ => L' b) = L' b := fun b z => by
        split
        · rename_i i u h1 h2
          exact absurd ⟨h1, h2⟩ (z i u)
        · rfl
      refine ⟨fun b u e => ?_, fun b u e => ?_, I'.tp, fun g κ d e => ?_, I'.rh, I.len, fun i s e => ?_⟩
      · obtain ⟨h1, h2, h3⟩ := I.fr b u e
        obtain ⟨g1, g2, g3⟩ := I'.fr b u (by simp only [h2, h3]; exact h1)
        exact ⟨g1, by simp only [h2]; exact g2, g3⟩
      · obtain ⟨g1, g2⟩ := I'.hs b u e
        refine ⟨g1, ?_⟩
        have z : ∀ i w, ¬ (L b = some (.slot i) ∧ H b = some w) := fun i w ⟨z1, z2⟩ => by
          rw [(own b i w z1 z2).2.2] at e; cases e
        rw [lab b z]; exact g2
      · obtain ⟨w, g1, g2⟩ := I'.ob g κ d e
        refine ⟨w, g1, ?_⟩
        have q : (fun b => if (match L b, H b with | some (.slot i), some _ => some (Lab.slot i) | _, _ => L' b) = some (Lab.ob g) then H' b else none) = fun b => if L' b = some (.ob g) then H' b else none := by
          funext b
          by_cases z : ∃ i u, L b = some (.slot i) ∧ H b = some u
          · obtain ⟨i, u, z1, z2⟩ := z
            simp only [z1, z2, (own b i u z1 z2).2.1]
            simp
          · rw [lab b fun i u q => z ⟨i, u, q⟩]
        rw [q]; exact g2
      · refine (I.sl i s e).mono l fun b u hb hu => ?_
        exact ⟨(own b i u hb hu).1, by simp only [hb, hu]⟩
    · cases r with
      | sh d => exact p
      | ow d =>
        obtain ⟨b, h1, h2, h3, h4, h5⟩ := p
        have hb : ∀ i u, ¬ (L b = some (.slot i) ∧ H b = some u) := fun i u ⟨z1, z2⟩ => by
          have hw : W.hs b = none := by
            cases q : W.hs b with
            | none => rfl
            | some z => have := (I.hs b z q).2; rw [z1] at this; cases this
          simp only [z1, hw, z2] at h4
          cases h4
        refine ⟨b, h1, ?_, h3, ?_, h5⟩
        · dsimp only
          split
          · rename_i i u z1 z2; exact absurd ⟨z1, z2⟩ (hb i u)
          · exact h2
        · cases q : F b with
          | none => rfl
          | some u =>
            obtain ⟨g1, g2, g3⟩ := I.fr b u q
            simp only [g2, g3] at h4
            rw [h4] at g1; cases g1
      | bw i d => exact absurd p.1 (by simp)
theorem tE_call {K : PySem.W.Frag} {n : Nat} {m : Fn} {E : XK} {σ : St} {H : Hp} {Q : VK} (h : tE K ct (eCall n m as) σ H Q) : tCall (spD K ct n m) [] E (tA K ct as) σ H Q := by
  obtain ⟨F, W, L, env, st, r, st', I, e, k⟩ := h
  obtain ⟨⟨rs, st1⟩, h1, e⟩ := bind2 e
  obtain ⟨ds, h2, e⟩ := bind2 e
  have hl : ds.length = n ∧ m ds st1 = some (r, st') := by
    dsimp only at e
    split at e
    · exact ⟨by assumption, e⟩
    · cases e
  refine ⟨F, W, L, env, st, rs, st1, I, h1, fun vs H1 W1 L1 l1 I1 qs => ?_⟩
  show spD K ct n m (vs ++ []) H1 Q E
  rw [List.append_nil]
  exact call_out I1 (qs.vals h2) hl.1 hl.2 fun v H' W' L' l' => k v H' W' L' (l1.trans l')
theorem se_call {k n : Nat} {f : Addr} {fd : FuncData} {ps : List Str} {m : Fn} {nm : Str} {p : Pos} (G : FnOk X.prog X.w X.K X.mg X.base CX0 k f fd ps (spD X.K ct n m)) (hr : Room k X.A) (hm : X.mg nm = some (.ref f)) (hk : PySem.W.keepIn X.K (.ref f) = true) (hb : Binds X.K fd ps []) (ha : SA X ct (x :: es) as) (hg : Gl X nm := by rfl)
    (hdb : (nm == ("__debug__" : Str)) = false := by decide) (he : starEach (x :: es) X.env = (false, eval x X.env) :: starEach es X.env := by rfl) (hpl : (backTo pos (starEach es X.env)).any (·.1) = false := by rfl) :
    SE X ct (.Call (.Name nm p) (x :: es) [] pos) (eCall n m as) := ⟨pe_mono (pe_call G hr hg hm hk hb .nil pass0 ha.pa hdb he hpl) fun _ _ _ h => tE_call h⟩
/-! flat things and tuples of such -/
mutual
def D.imm : D → Bool
  | .non | .bl _ | .int _ | .str _ => true
  | .tup ds => D.immL ds
  | _ => false
def D.immL : List D → Bool
  | [] => true
  | d :: ds => d.imm && D.immL ds
end
/-! no number of an object is in it -/
mutual
def D.nh : D → Bool
  | .hnd _ => false
  | .dic _ => false
  | .lst ds => D.nhL ds
  | .tup ds => D.nhL ds
  | .obj _ ds => D.nhL ds
  | _ => true
def D.nhL : List D → Bool
  | [] => true
  | d :: ds => d.nh && D.nhL ds
end
mutual
theorem Rep.nh {K : PySem.W.Frag} {W W' : Wd} (l : ∀ a o, W.hs a = some o → W'.hs a = some o) (l2 : ∀ a o, W.tp a = some o → W'.tp a = some o) : ∀ {v : V} {d : D}, Rep K ct W v d → d.nh = true → Rep K ct W' v d
  | _, _, .non, _ => .non
  | _, _, .bl b, _ => .bl b
  | _, _, .int i, _ => .int i
  | _, _, .str x, _ => .str x
  | _, _, .lst h r, n => .lst (l _ _ h) (RepL.nh l l2 r (by rw [D.nh] at n; exact n))
  | _, _, .tup h r, n => .tup (l2 _ _ h) (RepL.nh l l2 r (by rw [D.nh] at n; exact n))
  | _, _, .dic h _ r, n => by simp [D.nh] at n
  | _, _, .obj h c z r, n => .obj (l _ _ h) c z (RepL.nh l l2 r (by rw [D.nh] at n; exact n))
  | _, _, .hnd h, n => by simp [D.nh] at n
  | _, _, .scr h, _ => .scr (sq_mono l h)
theorem RepL.nh {K : PySem.W.Frag} {W W' : Wd} (l : ∀ a o, W.hs a = some o → W'.hs a = some o) (l2 : ∀ a o, W.tp a = some o → W'.tp a = some o) : ∀ {vs : List V} {ds : List D}, RepL K ct W vs ds → D.nhL ds = true → RepL K ct W' vs ds
  | _, _, .nil, _ => .nil
  | _, _, .cons h r, n => by
    rw [D.nhL, Bool.and_eq_true] at n
    exact .cons (Rep.nh l l2 h n.1) (RepL.nh l l2 r n.2)
end
/-- by things of one's own too, where the answer is flat and the store is not asked -/
def eCallP (n : Nat) (m : Fn) (as : SemA) : Sem := fun env st => (as env st).bind fun p => if p.1.length = n ∧ D.nhL (p.1.map R.d) = true then (m (p.1.map R.d) []).bind fun q => match q.1 with
  | .sh d => if d.imm = true then some (.sh d, p.2) else none
  | _ => none else none
end
end Kn
namespace Kn
open PySem L2
/-! a def that may be called, by its name -/
structure Cal (P : Program) (w : World) (K : PySem.W.Frag) (mg : Str → Option Value) (base : Heap) (ct : CT) (nm : Str) (k : Nat) (ps : List Str) (m : Fn) : Prop where
  ex : ∃ f fd, FnOk P w K mg base CX0 k f fd ps (spD K ct ps.length m) ∧ mg nm = some (.ref f) ∧ PySem.W.keepIn K (.ref f) = true ∧ Binds K fd ps []
theorem Cal.of {P : Program} {w : World} {K : PySem.W.Frag} {mg : Str → Option Value} {base : Heap} {ct : CT} {nm qual : Str} {k : Nat} {ps : List Str} {m : Fn} {st : Stmt} {f : Addr} {fd : FuncData} (F : Fun K nm qual st f fd) (hm : mg nm = some (.ref f)) (hb : Binds K fd ps [])
    (G : FnOk P w K mg base CX0 k f fd ps (spD K ct ps.length m)) : Cal P w K mg base ct nm k ps m := ⟨f, fd, G, hm, F.kp, hb⟩
/-- by a function that says less -/
theorem Cal.imp {P : Program} {w : World} {K : PySem.W.Frag} {mg : Str → Option Value} {base : Heap} {ct : CT} {nm : Str} {k : Nat} {ps : List Str} {m m' : Fn} (c : Cal P w K mg base ct nm k ps m) (h : ∀ ds st r st', ds.length = ps.length → m' ds st = some (r, st') → m ds st = some (r, st')) : Cal P w K mg base ct nm k ps m' := by
  obtain ⟨f, fd, G, h1, h2, h3⟩ := c.ex
  exact ⟨f, fd, G.imp (spD_imp h), h1, h2, h3⟩
section
variable {X : Cx} {ct : CT} {pos : Pos} {x : Expr} {es : List Expr} {as : SemA} {k : Nat} {ps : List Str} {m : Fn} {nm : Str} {p : Pos}
theorem sc_call (n : Nat) (c : Cal X.prog X.w X.K X.mg X.base ct nm k ps m) (hr : Room k X.A) (ha : SA X ct (x :: es) as) (hn : ps.length = n := by rfl) (hg : Gl X nm := by rfl)
    (hdb : (nm == ("__debug__" : Str)) = false := by decide) (he : starEach (x :: es) X.env = (false, eval x X.env) :: starEach es X.env := by rfl) (hpl : (backTo pos (starEach es X.env)).any (·.1) = false := by rfl) :
    SE X ct (.Call (.Name nm p) (x :: es) [] pos) (eCall n m as) := by
  subst hn
  obtain ⟨f, fd, G, h1, h2, h3⟩ := c.ex
  exact se_call G hr h1 h2 h3 ha hg hdb he hpl
end
/-! the law's own entry -/
def spLaw (K : PySem.W.Frag) : Sp := fun vs H Q _ => ∃ (a : Addr) (ns : List Int), vs = [.ref a] ∧ SqL K H a (ns.map V.int) ∧ ns.length ≤ 63 ∧ ∀ H', Q (.bl true) H'
theorem law_ok {P : Program} {w : World} {K : PySem.W.Frag} {mg : Str → Option Value} {base : Heap} {ct : CT} {x : Str} {k : Nat} {m : Fn} {f : Addr} {fd : FuncData} (G : FnOk P w K mg base CX0 k f fd [x] (spD K ct 1 m)) (h : ∀ ns : List Int, ns.length ≤ 63 → ∃ st', m [.scr ns] [] = some (.sh (.bl true), st')) :
    FnOk P w K mg base CX0 k f fd [x] (spLaw K) := by
  refine G.imp fun vs H Q E q => ?_
  obtain ⟨a, ns, rfl, hs, hl, q⟩ := q
  obtain ⟨st', e⟩ := h ns hl
  refine ⟨fun _ => none, ⟨H, fun _ => none, fun _ => none⟩, fun _ => none, [], [.scr ns], _, st', ?_, .cons (.scr hs) .nil, rfl, e, fun v H' W' L' l I' p => ?_⟩
  · exact ⟨fun _ _ e => (nomatch e), fun b u e => ⟨e, rfl⟩, fun _ _ e => (nomatch e), fun g κ d e => by simp at e, fun g v e => (nomatch e), rfl, fun i s e => by simp at e⟩
  · cases (show Rep K ct W' v (.bl true) from p)
    exact q H'
end Kn
namespace Kn
open PySem L2
/-! ### evaluating the functions (no program in sight) -/
theorem forL_nx {g : SemG} {f : SemS} {d ds env env1 st env' st'} (h1 : g d env = some env1) (h : f env1 st = some (.nx, env', st')) : forL g f (d :: ds) env st = forL g f ds env' st' := by
  rw [forL, h1]; show ((f env1 st).bind _) = _; rw [h]; rfl
theorem eqv_int (i j : Int) : (D.int i).eq (.int j) = decide (i = j) := by unfold D.eq; simp [D.py, PyData.eqv]; exact Bool.beq_eq_decide_eq i j
theorem fEq_int (i j : Int) : fEq (.int i) (.int j) = some (.sh (.bl (decide (i = j)))) := by unfold fEq; rw [eqv_int]; rfl
theorem fNe_int (i j : Int) : fNe (.int i) (.int j) = some (.sh (.bl (!decide (i = j)))) := by unfold fNe; rw [eqv_int]; rfl
theorem atI_map {α β : Type} (f : α → β) (xs : List α) (i : Int) : atI (xs.map f) i = (atI xs i).map f := by
  unfold atI
  rw [List.length_map]
  cases ixN xs.length i with
  | none => rfl
  | some j => show (xs.map f)[j]? = (xs[j]?).map f; rw [List.getElem?_map]
theorem kit_int_int : kitB "int" "int" = some true := by decide +kernel
theorem kit_int_bool : kitB "int" "bool" = some false := by decide +kernel
theorem kit_bool_bool : kitB "bool" "bool" = some true := by decide +kernel
theorem kit_bool_int : kitB "bool" "int" = some true := by decide +kernel
theorem kit_list_list : kitB "list" "list" = some true := by decide +kernel
theorem kit_tuple_tuple : kitB "tuple" "tuple" = some true := by decide +kernel
section
variable {env env' : List Slot} {st st' : Sto} {a b c : Sem} {f g : SemS} {i j n : Nat} {d : D} {as : SemA}
@[simp] theorem x_seq : sSeq f g env st = (f env st).bind fun p => match p with
  | (.nx, env', st') => g env' st'
  | q => some q := rfl
@[simp] theorem x_nil : sNil env st = some (.nx, env, st) := rfl
@[simp] theorem x_set : sSet i a env st = (a env st).bind fun p => match p.1 with
  | .sh d => some (.nx, env.set i (.sh d), p.2)
  | .ow d => some (.nx, env.set i (.ow d), p.2)
  | .bw _ _ => none := rfl
@[simp] theorem x_var : eVar i env st = match env[i]? with
  | some (.sh d) => some (.sh d, st)
  | some (.ow d) => some (.bw i d, st)
  | _ => none := rfl
@[simp] theorem x_c : eC d env st = some (.sh d, st) := rfl
@[simp] theorem x_e2 {o} : e2 o a b env st = (a env st).bind fun p => (b env p.2).bind fun q => (o p.1.d q.1.d).map fun r => (r, q.2) := rfl
@[simp] theorem x_e1 {o} : e1 o a env st = (a env st).bind fun p => (o p.1.d).map fun r => (r, p.2) := rfl
@[simp] theorem x_d1 : (R.sh d).d = d := rfl
@[simp] theorem x_d2 : (R.ow d).d = d := rfl
@[simp] theorem x_d3 : (R.bw i d).d = d := rfl
@[simp] theorem x_p1 : (R.sh d).pin = .sh d := rfl
@[simp] theorem x_p2 : (R.ow d).pin = .sh d := rfl
@[simp] theorem x_p3 : (R.bw i d).pin = .bw i d := rfl
@[simp] theorem x_s1 : (R.sh d).sh? = some d := rfl
@[simp] theorem x_s2 : (R.ow d).sh? = some d := rfl
@[simp] theorem x_o1 : (R.sh d).outR = .sh d := rfl
@[simp] theorem x_o2 : (R.ow d).outR = .ow d := rfl
@[simp] theorem x_o3 : (R.bw i d).outR = .ow d := rfl
@[simp] theorem x_if : sIf c f g env st = (c env st).bind fun p => p.1.tr.bind fun k => if k = true then f env p.2 else g env p.2 := rfl
@[simp] theorem x_tr {k : Bool} : (R.sh (.bl k)).tr = some k := rfl
@[simp] theorem x_ret : sRet a env st = (a env st).map fun p => (.rt p.1, env, p.2) := rfl
@[simp] theorem x_retN : sRetN env st = some (.rt (.sh .non), env, st) := rfl
@[simp] theorem x_ex : sEx a env st = (a env st).map fun p => (.nx, env, p.2) := rfl
@[simp] theorem x_frz : sFrz i f env st = match env[i]? with
  | some (.ow d) => f (env.set i (.sh d)) st
  | _ => f env st := rfl
@[simp] theorem x_aug {o} : sAug i o a env st = match env[i]? with
  | some (.sh d) => (a env st).bind fun p => (o d p.1.d).bind fun r => match r with
    | .sh d' => some (.nx, env.set i (.sh d'), p.2)
    | _ => none
  | _ => none := rfl
@[simp] theorem x_sub : sSub i a b env st = (b env st).bind fun p => (a env p.2).bind fun q => match p.1.pin, env[i]? with
  | .sh d, some (.ow c) => (setItm c q.1.d d).map fun c' => (.nx, env.set i (.ow c'), q.2)
  | _, _ => none := rfl
@[simp] theorem x_asg {o} : sAsg a o env st = (a env st).bind fun p => match p.1.pin with
  | .sh d => (o d env).map fun env' => (.nx, env', p.2)
  | _ => none := rfl
@[simp] theorem x_par : sPar i j as env st = (as env st).bind fun p => match p.1 with
  | [.sh d, .sh e] => some (.nx, (env.set i (.sh d)).set j (.sh e), p.2)
  | _ => none := rfl
@[simp] theorem x_mut {o} : sMut i o as env st = (as env st).bind fun p => (valsR p.1).bind fun xs => match env[i]? with
  | some (.ow (.lst ds)) => (o xs ds).map fun ds' => (.nx, env.set i (.ow (.lst ds')), p.2)
  | _ => none := rfl
@[simp] theorem x_anil : aNil env st = some ([], st) := rfl
@[simp] theorem x_acons : aCons a as env st = (a env st).bind fun p => (as env p.2).map fun q => (p.1.pin :: q.1, q.2) := rfl
@[simp] theorem x_v0 : valsR [] = some [] := rfl
@[simp] theorem x_v1 {rs} : valsR (.sh d :: rs) = (valsR rs).map fun ds => d :: ds := rfl
@[simp] theorem x_tup : eTup as env st = (as env st).bind fun p => (valsR p.1).bind fun ds => if ds.length ≤ sizeLine then some (.sh (.tup ds), p.2) else none := rfl
@[simp] theorem x_lst : eLst as env st = (as env st).bind fun p => (valsR p.1).bind fun ds => if ds.length ≤ sizeLine then some (.ow (.lst ds), p.2) else none := rfl
@[simp] theorem x_dnew : eDnew env st = some (.ow (.dic []), st) := rfl
@[simp] theorem x_call {m} : eCall n m as env st = (as env st).bind fun p => (valsR p.1).bind fun ds => if ds.length = n then m ds p.2 else none := rfl
@[simp] theorem x_for {it o} : sFor it o f env st = (it env st).bind fun p => forL o f p.1 env p.2 := rfl
@[simp] theorem x_whl : sWhl n c f env st = whL c f n env st := rfl
@[simp] theorem x_nm : gNm i d env = some (env.set i (.sh d)) := rfl
@[simp] theorem x_tp {gs} {ds} : gTp gs (.tup ds) env = gL gs ds env := rfl
@[simp] theorem x_gl0 : gL [] [] env = some env := rfl
@[simp] theorem x_gl1 {o gs ds} : gL (o :: gs) (d :: ds) env = (o d env).bind fun env' => gL gs ds env' := rfl
@[simp] theorem x_iseq : iSeq a env st = (a env st).bind fun p => p.1.sh?.bind fun d => d.seq.map fun ds => (ds, p.2) := rfl
@[simp] theorem x_seq1 {ds} : (D.lst ds).seq = some ds := rfl
@[simp] theorem x_seq2 {ds} : (D.tup ds).seq = some ds := rfl
@[simp] theorem x_seq3 {ns} : (D.scr ns).seq = some (ns.map D.int) := rfl
@[simp] theorem x_seql1 {ds} : (D.lst ds).seqL = some ds := rfl
@[simp] theorem x_seql2 {ns} : (D.scr ns).seqL = some (ns.map D.int) := rfl
@[simp] theorem x_rng1 : iRng1' a env st = (a env st).bind fun p => match p.1.d with
  | .int j => if Rg j then some (rngD 0 j.toNat, p.2) else none
  | _ => none := rfl
@[simp] theorem x_rng2 : iRng2' a b env st = (a env st).bind fun p => (b env p.2).bind fun q => match p.1.d, q.1.d with
  | .int i, .int j => if Rg i ∧ Rg j then some (rngD i (j - i).toNat, q.2) else none
  | _, _ => none := rfl
@[simp] theorem x_enum : iEnum' a env st = (a env st).bind fun p => p.1.sh?.bind fun d => d.seqL.map fun ds => (enumF 0 ds, p.2) := rfl
@[simp] theorem x_zip : iZip' a b env st = (a env st).bind fun p => p.1.sh?.bind fun d => d.seqL.bind fun ds => (b env p.2).bind fun q => q.1.sh?.bind fun e => e.seqL.map fun es => (zipD ds es, q.2) := rfl
@[simp] theorem x_slc {l h} : eSlc a l h env st = (a env st).bind fun p => (l env p.2).bind fun l => (h env l.2).bind fun h => (fSlc p.1.d l.1 h.1).map fun r => (r, h.2) := rfl
@[simp] theorem x_pno : pNo env st = some (none, st) := rfl
@[simp] theorem x_psome : pSome a env st = (a env st).bind fun p => match p.1.d with
  | .int i => some (some i, p.2)
  | _ => none := rfl
@[simp] theorem x_yes : eYes env st = some (.sh (.bl true), st) := rfl
@[simp] theorem x_lc {it vs o} : eLc it vs o c a env st = (it env st).bind fun p => if vs.all (fun j => (env[j]?.map Slot.okW).getD true) = true then (lcL o c a vs env p.1 p.2).bind fun q => if q.1.length ≤ sizeLine then some (.ow (.lst q.1), q.2) else none else none := rfl
@[simp] theorem x_and : eAnd a b env st = (a env st).bind fun p => match p.1 with
  | .sh (.bl true) => b env p.2
  | .sh (.bl false) => some (.sh (.bl false), p.2)
  | _ => none := rfl
@[simp] theorem x_or : eOr a b env st = (a env st).bind fun p => match p.1 with
  | .sh (.bl false) => b env p.2
  | .sh (.bl true) => some (.sh (.bl true), p.2)
  | _ => none := rfl
@[simp] theorem x_not : eNot a env st = (a env st).bind fun p => match p.1 with
  | .sh (.bl b) => some (.sh (.bl (!b)), p.2)
  | _ => none := rfl
@[simp] theorem x_eif : eIf c a b env st = (c env st).bind fun p => match p.1 with
  | .sh (.bl true) => a env p.2
  | .sh (.bl false) => b env p.2
  | _ => none := rfl
@[simp] theorem x_okw1 : Slot.okW .no = true := rfl
@[simp] theorem x_okw2 : Slot.okW (.sh d) = true := rfl
@[simp] theorem x_add {i j : Int} : fAdd (.int i) (.int j) = some (.sh (.int (i + j))) := rfl
@[simp] theorem x_I {o} {i j : Int} : fI o (.int i) (.int j) = (o i j).map fun k => .sh (.int k) := rfl
@[simp] theorem x_gsub {i j : Int} : gSub' i j = some (i - j) := rfl
@[simp] theorem x_C {o} {i j : Int} : fC o (.int i) (.int j) = some (.sh (.bl (o i j))) := rfl
@[simp] theorem x_eqi {i j : Int} : fEq (.int i) (.int j) = some (.sh (.bl (decide (i = j)))) := fEq_int i j
@[simp] theorem x_nei {i j : Int} : fNe (.int i) (.int j) = some (.sh (.bl (!decide (i = j)))) := fNe_int i j
@[simp] theorem x_len1 {ds : List D} : fLen (.lst ds) = some (.sh (.int ds.length)) := rfl
@[simp] theorem x_len2 {ds : List D} : fLen (.tup ds) = some (.sh (.int ds.length)) := rfl
@[simp] theorem x_len3 {ns : List Int} : fLen (.scr ns) = some (.sh (.int ns.length)) := rfl
@[simp] theorem x_len4 {kds : List (Key × D)} : fLen (.dic kds) = some (.sh (.int kds.length)) := rfl
@[simp] theorem x_idx1 {ds : List D} {i : Int} : fIdx (.lst ds) (.int i) = (atI ds i).map .sh := rfl
@[simp] theorem x_idx2 {ds : List D} {i : Int} : fIdx (.tup ds) (.int i) = (atI ds i).map .sh := rfl
@[simp] theorem x_idx3 {ns : List Int} {i : Int} : fIdx (.scr ns) (.int i) = (atI ns i).map fun n => .sh (.int n) := rfl
@[simp] theorem x_isn1 : fIsN .non = some (.sh (.bl true)) := rfl
@[simp] theorem x_isn2 {i : Int} : fIsN (.int i) = some (.sh (.bl false)) := rfl
@[simp] theorem x_isn3 {ds} : fIsN (.tup ds) = some (.sh (.bl false)) := rfl
@[simp] theorem x_isn4 {ds} : fIsN (.lst ds) = some (.sh (.bl false)) := rfl
@[simp] theorem x_ntn1 : fNotN .non = some (.sh (.bl false)) := rfl
@[simp] theorem x_ntn2 {i : Int} : fNotN (.int i) = some (.sh (.bl true)) := rfl
@[simp] theorem x_ntn3 {ds} : fNotN (.tup ds) = some (.sh (.bl true)) := rfl
@[simp] theorem x_ntn4 {ds} : fNotN (.lst ds) = some (.sh (.bl true)) := rfl
@[simp] theorem x_int1 {i : Int} : fInt (.int i) = some (.sh (.int i)) := rfl
@[simp] theorem x_int2 {k : Bool} : fInt (.bl k) = some (.sh (.int (if k then 1 else 0))) := rfl
@[simp] theorem x_isi_ii {i : Int} : fIsi "int" (.int i) = some (.sh (.bl true)) := by unfold fIsi; simp [D.ty, kit_int_int]
@[simp] theorem x_isi_bi {i : Int} : fIsi "bool" (.int i) = some (.sh (.bl false)) := by unfold fIsi; simp [D.ty, kit_int_bool]
@[simp] theorem x_isi_bb {i : Bool} : fIsi "bool" (.bl i) = some (.sh (.bl true)) := by unfold fIsi; simp [D.ty, kit_bool_bool]
@[simp] theorem x_isi_ib {i : Bool} : fIsi "int" (.bl i) = some (.sh (.bl true)) := by unfold fIsi; simp [D.ty, kit_bool_int]
@[simp] theorem x_isi_ll {ds} : fIsi "list" (.lst ds) = some (.sh (.bl true)) := by unfold fIsi; simp [D.ty, kit_list_list]
@[simp] theorem x_isi_tt {ds} : fIsi "tuple" (.tup ds) = some (.sh (.bl true)) := by unfold fIsi; simp [D.ty, kit_tuple_tuple]
@[simp] theorem x_slc1 {ds l h} : fSlc (.lst ds) l h = some (.ow (.lst (cutG ds l h))) := rfl
@[simp] theorem x_slc2 {ns : List Int} {l h} : fSlc (.scr ns) l h = some (.ow (.lst ((cutG ns l h).map .int))) := rfl
@[simp] theorem x_tofs1 {ds} : fLofs (.lst ds) = some (.ow (.lst ds)) := rfl
@[simp] theorem x_tofs2 {ds} : fLofs (.tup ds) = some (.ow (.lst ds)) := rfl
@[simp] theorem x_gmod {i j : Int} : gMod i j = if 0 < j then some (i % j) else none := rfl
@[simp] theorem x_wipe0 : wipeE env [] = env := rfl
@[simp] theorem x_wipe1 {v vs} : wipeE env (v :: vs) = (wipeE env vs).set v .no := rfl
@[simp] theorem x_app : fApp [d] ds = if ds.length < sizeLine then some (ds ++ [d]) else none := rfl
end
theorem gDiv_of {i j : Int} (h : 0 < j) (h2 : j < 2 ^ 8000) : gDiv i j = some (i / j) := by
  unfold gDiv
  rw [if_pos]
  refine ⟨h, ?_⟩
  have := PySem.Flt.log2_lt_of (n := j.natAbs) (k := 8000) (by decide) (by omega)
  omega
/-- data that may be compared, so deep at most -/
def D.okN (k : Nat) (d : D) : Prop := d.py.canLay0 = true ∧ d.py.depth ≤ k
theorem okN_ok {k : Nat} {d : D} (h : d.okN k) (hk : k ≤ 64) : d.ok = true := by
  unfold D.ok SeqAt.shaped
  rw [h.1, decide_eq_true (Nat.le_trans h.2 hk)]; rfl
theorem okN_mono {k m : Nat} {d : D} (h : d.okN k) (hk : k ≤ m) : d.okN m := ⟨h.1, Nat.le_trans h.2 hk⟩
theorem okN_int {k : Nat} (i : Int) : (D.int i).okN k := ⟨rfl, Nat.zero_le _⟩
theorem okN_non {k : Nat} : D.non.okN k := ⟨rfl, Nat.zero_le _⟩
theorem okN_all {k : Nat} : ∀ {ds : List D}, (∀ d ∈ ds, d.okN k) → PyData.canLayAll0 (D.pyL ds) = true ∧ PyData.depthAll (D.pyL ds) ≤ k
  | [], _ => ⟨rfl, Nat.zero_le _⟩
  | d :: ds, h => by
    obtain ⟨h1, h2⟩ := okN_all (ds := ds) fun e he => h e (List.mem_cons_of_mem _ he)
    obtain ⟨h3, h4⟩ := h d List.mem_cons_self
    rw [D.pyL, PyData.canLayAll0, PyData.depthAll, h1, h3]
    exact ⟨rfl, Nat.max_le.mpr ⟨h4, h2⟩⟩
theorem okN_lst {k : Nat} {ds : List D} (h : ∀ d ∈ ds, d.okN k) : (D.lst ds).okN (k + 1) := by
  obtain ⟨h1, h2⟩ := okN_all h
  exact ⟨by rw [D.py, PyData.canLay0]; exact h1, by rw [D.py, PyData.depth]; omega⟩
theorem okN_tup {k : Nat} {ds : List D} (h : ∀ d ∈ ds, d.okN k) : (D.tup ds).okN (k + 1) := by
  obtain ⟨h1, h2⟩ := okN_all h
  exact ⟨by rw [D.py, PyData.canLay0]; exact h1, by rw [D.py, PyData.depth]; omega⟩
@[simp] theorem x_sz {k : Nat} (h : k ≤ 1000) : k ≤ sizeLine := Nat.le_trans h (by decide)
@[simp] theorem x_sz2 {k : Nat} (h : k ≤ 1000) : k < sizeLine := Nat.lt_of_le_of_lt h (by decide)
end Kn
namespace Kn
open PySem L2
/-! ### list(range(..)), list(reversed(..)), {k: v}, reversed walks -/
section
open PySem.Spec PyProof.Rows
variable {prog : Program} {w : World} {A : Around} {s : Shared}
end
section
open PySem.Spec PyProof.Rows
end
section
variable {X : Cx} {ct : CT} {x y : Expr} {a b : Sem} {pos p p2 pos2 : Pos} {tg : Expr}
noncomputable def eLrg (a : Sem) : Sem := fun env st => (a env st).bind fun p => match p.1.d with
  | .int j => if Rg j ∧ j ≤ 1000 then some (.ow (.lst (rngD 0 j.toNat)), p.2) else none
  | _ => none
def fLrev : D → Option R
  | .lst ds => some (.ow (.lst ds.reverse))
  | _ => none
/-- for x in reversed(xs) -/
def iRevd (a : Sem) : SemI := fun env st => (a env st).bind fun p => p.1.sh?.bind fun d => match d with
  | .lst ds => some (ds.reverse, p.2)
  | _ => none
/-- one that stands aside -/
theorem Rel.aside {K : PySem.W.Frag} {F H : Hp} {W : Wd} {L : Addr → Option Lab} {env : List Kn.Slot} {st : Sto} {σ : St} {q : Addr} {o : HO} (I : Rel K ct F W L env st σ H) (hq : H q = none) :
    Rel K ct (upd F q o) W (fun a => if (H a).isSome then L a else none) env st σ (upd H q o) := by
  obtain ⟨I', h1, h2, h3⟩ := I.laid (o := o) hq
  refine ⟨fun b u e => ?_, I'.hs, I'.tp, I'.ob, I'.rh, I'.len, I'.sl⟩
  by_cases hb : b = q
  · subst hb
    rw [upd_same] at e; cases e
    exact ⟨upd_same, h1, h2⟩
  · rw [upd_ne hb] at e
    exact I'.fr b u e
/-- {k: v} -/
def eD1 (a b : Sem) : Sem := fun env st => (a env st).bind fun p => (b env p.2).bind fun q => match p.1.pin, q.1.pin with
  | .sh d, .sh d' => d.key.map fun ky => (.ow (.dic [(ky, d')]), q.2)
  | _, _ => none
/-! evaluating -/
variable {env env' : List Kn.Slot} {st st' : Sto} {ds : List D}
@[simp] theorem x_lrev : fLrev (.lst ds) = some (.ow (.lst ds.reverse)) := rfl
@[simp] theorem x_lrg : eLrg a env st = (a env st).bind fun p => match p.1.d with
  | .int j => if Rg j ∧ j ≤ 1000 then some (.ow (.lst (rngD 0 j.toNat)), p.2) else none
  | _ => none := rfl
@[simp] theorem x_revd : iRevd a env st = (a env st).bind fun p => p.1.sh?.bind fun d => match d with
  | .lst ds => some (ds.reverse, p.2)
  | _ => none := rfl
@[simp] theorem x_d1e : eD1 a b env st = (a env st).bind fun p => (b env p.2).bind fun q => match p.1.pin, q.1.pin with
  | .sh d, .sh d' => d.key.map fun ky => (.ow (.dic [(ky, d')]), q.2)
  | _, _ => none := rfl
@[simp] theorem x_key1 {i : Int} : (D.int i).key = some (.inl i) := rfl
end
end Kn
namespace Kn
open PySem L2
/-! ### plain lemmas -/
/-- a loop's turns, each to its end -/
inductive Runs (g : SemG) (f : SemS) (st : Sto) : List D → List Slot → List Slot → Prop
  | nil {env : List Slot} : Runs g f st [] env env
  | cons {d : D} {ds : List D} {env env1 env2 env' : List Slot} : g d env = some env1 → f env1 st = some (.nx, env2, st) → Runs g f st ds env2 env' → Runs g f st (d :: ds) env env'
theorem Runs.forL {g : SemG} {f : SemS} {st : Sto} {ds : List D} {env env' : List Slot} (h : Runs g f st ds env env') : Kn.forL g f ds env st = some (.nx, env', st) := by
  induction h with
  | nil => rfl
  | cons h1 h2 _ ih => rw [forL_nx h1 h2, ih]
section
variable {d : D} {i j k : Int} {f g : D → D → Option R} {a b c : Sem} {env : List Slot} {st : Sto} {n : Nat} {m : Fn} {as : SemA} {ds : List D}
@[simp] theorem x_neg : fNeg (.int i) = some (.sh (.int (-i))) := rfl
@[simp] theorem x_chain : eChain f g a b c env st = (a env st).bind fun p => (b env p.2).bind fun q => (f p.1.d q.1.d).bind fun r => match r with
  | .sh (.bl true) => (c env q.2).bind fun u => (g q.1.d u.1.d).map fun r => (r, u.2)
  | .sh (.bl false) => some (.sh (.bl false), q.2)
  | _ => none := rfl
@[simp] theorem x_callp : eCallP n m as env st = (as env st).bind fun p => if p.1.length = n ∧ D.nhL (p.1.map R.d) = true then (m (p.1.map R.d) []).bind fun q => match q.1 with
  | .sh d => if d.imm = true then some (.sh d, p.2) else none
  | _ => none else none := rfl
@[simp] theorem x_clr : fClr [] ds = some [] := rfl
@[simp] theorem x_pop : fPop [] ds = if ds ≠ [] then some ds.dropLast else none := rfl
end
/-! ### equality of plain data -/
mutual
def D.pl : D → Bool
  | .non => true
  | .int _ => true
  | .str x => PyData.strOk x
  | .lst ds => D.plL ds
  | .tup ds => D.plL ds
  | _ => false
def D.plL : List D → Bool
  | [] => true
  | d :: ds => d.pl && D.plL ds
end
mutual
theorem eq_pl : ∀ {d e : D}, d.pl = true → e.pl = true → (PyData.eqv d.py e.py = true ↔ d = e)
  | .str _, .non, _, _ => by simp [D.py, PyData.eqv]
  | .non, .str _, _, _ => by simp [D.py, PyData.eqv]
  | .str _, .int _, _, _ => by simp [D.py, PyData.eqv]
  | .int _, .str _, _, _ => by simp [D.py, PyData.eqv]
  | .str _, .lst _, _, _ => by simp [D.py, PyData.eqv]
  | .lst _, .str _, _, _ => by simp [D.py, PyData.eqv]
  | .str _, .tup _, _, _ => by simp [D.py, PyData.eqv]
  | .tup _, .str _, _, _ => by simp [D.py, PyData.eqv]
  | .str a, .str b, _, _ => by simp [D.py, PyData.eqv]
  | .non, .non, _, _ => by simp [D.py, PyData.eqv]
  | .non, .int _, _, _ => by simp [D.py, PyData.eqv]
  | .non, .lst _, _, _ => by simp [D.py, PyData.eqv]
  | .non, .tup _, _, _ => by simp [D.py, PyData.eqv]
  | .int _, .non, _, _ => by simp [D.py, PyData.eqv]
  | .int _, .int _, _, _ => by simp [D.py, PyData.eqv]
  | .int _, .lst _, _, _ => by simp [D.py, PyData.eqv]
  | .int _, .tup _, _, _ => by simp [D.py, PyData.eqv]
  | .lst _, .non, _, _ => by simp [D.py, PyData.eqv]
  | .lst _, .int _, _, _ => by simp [D.py, PyData.eqv]
  | .lst ds, .lst es, h, k => by
    rw [D.pl] at h k
    rw [D.py, D.py, PyData.eqv, eqL_pl h k]; simp
  | .lst _, .tup _, _, _ => by simp [D.py, PyData.eqv]
  | .tup _, .non, _, _ => by simp [D.py, PyData.eqv]
  | .tup _, .int _, _, _ => by simp [D.py, PyData.eqv]
  | .tup _, .lst _, _, _ => by simp [D.py, PyData.eqv]
  | .tup ds, .tup es, h, k => by
    rw [D.pl] at h k
    rw [D.py, D.py, PyData.eqv, eqL_pl h k]; simp
theorem eqL_pl : ∀ {ds es : List D}, D.plL ds = true → D.plL es = true → (PyData.eqvAll (D.pyL ds) (D.pyL es) = true ↔ ds = es)
  | [], [], _, _ => by simp [D.pyL, PyData.eqvAll]
  | [], _ :: _, _, _ => by simp [D.pyL, PyData.eqvAll]
  | _ :: _, [], _, _ => by simp [D.pyL, PyData.eqvAll]
  | d :: ds, e :: es, h, k => by
    rw [D.plL, Bool.and_eq_true] at h k
    rw [D.pyL, D.pyL, PyData.eqvAll, Bool.and_eq_true, eq_pl h.1 k.1, eqL_pl h.2 k.2]; simp
end
theorem plL_all {ds : List D} (h : ∀ d ∈ ds, d.pl = true) : D.plL ds = true := by
  induction ds with
  | nil => rfl
  | cons d ds ih => rw [D.plL, h d List.mem_cons_self, ih fun e he => h e (List.mem_cons_of_mem _ he)]; rfl
/-- plain, so deep at most -/
structure D.Pn (k : Nat) (d : D) : Prop where
  pl : d.pl = true
  ok : d.okN k
theorem Pn_int {k : Nat} (i : Int) : (D.int i).Pn k := ⟨rfl, okN_int i⟩
theorem Pn_non {k : Nat} : D.non.Pn k := ⟨rfl, okN_non⟩
theorem okN_str {k : Nat} {x : Str} (h : PyData.strOk x = true) : (D.str x).okN k := ⟨h, Nat.zero_le _⟩
theorem Pn_str {k : Nat} {x : Str} (h : PyData.strOk x = true) : (D.str x).Pn k := ⟨h, okN_str h⟩
theorem Pn_lst {k : Nat} {ds : List D} (h : ∀ d ∈ ds, d.Pn k) : (D.lst ds).Pn (k + 1) := ⟨by rw [D.pl]; exact plL_all fun d hd => (h d hd).pl, okN_lst fun d hd => (h d hd).ok⟩
theorem Pn_tup {k : Nat} {ds : List D} (h : ∀ d ∈ ds, d.Pn k) : (D.tup ds).Pn (k + 1) := ⟨by rw [D.pl]; exact plL_all fun d hd => (h d hd).pl, okN_tup fun d hd => (h d hd).ok⟩
theorem Pn_mono {k m : Nat} {d : D} (h : d.Pn k) (hk : k ≤ m) : d.Pn m := ⟨h.pl, okN_mono h.ok hk⟩
theorem nhL_all {ds : List D} (h : ∀ d ∈ ds, d.nh = true) : D.nhL ds = true := by
  induction ds with
  | nil => rfl
  | cons d ds ih => rw [D.nhL, h d List.mem_cons_self, ih fun e he => h e (List.mem_cons_of_mem _ he)]; rfl
@[simp] theorem x_mul {i j : Int} : fMul (.int i) (.int j) = (gMul i j).map fun k => .sh (.int k) := rfl
@[simp] theorem x_imm_bl {b : Bool} : (D.bl b).imm = true := rfl
@[simp] theorem x_imm_int {i : Int} : (D.int i).imm = true := rfl
@[simp] theorem x_imm_non : D.non.imm = true := rfl
theorem eq_bl (a b : Bool) : (D.bl a).eq (.bl b) = decide (a = b) := by cases a <;> cases b <;> simp [D.eq, D.py, PyData.eqv]
@[simp] theorem x_eqb {a b : Bool} : fEq (.bl a) (.bl b) = some (.sh (.bl (decide (a = b)))) := by unfold fEq; rw [eq_bl]; rfl
@[simp] theorem x_neb {a b : Bool} : fNe (.bl a) (.bl b) = some (.sh (.bl (!decide (a = b)))) := by unfold fNe; rw [eq_bl]; rfl
section
variable {α : Type} {a b c d e : α} {l : List α}
@[simp] theorem x_at0 : atI (a :: l) 0 = some a := by
  have := @atI_nat α (a :: l) 0 a rfl
  exact this
@[simp] theorem x_at1 : atI (a :: b :: l) 1 = some b := by
  have := @atI_nat α (a :: b :: l) 1 b rfl
  exact this
@[simp] theorem x_at2 : atI (a :: b :: c :: l) 2 = some c := by
  have := @atI_nat α (a :: b :: c :: l) 2 c rfl
  exact this
@[simp] theorem x_at3 : atI (a :: b :: c :: d :: l) 3 = some d := by
  have := @atI_nat α (a :: b :: c :: d :: l) 3 d rfl
  exact this
@[simp] theorem x_at4 : atI (a :: b :: c :: d :: e :: l) 4 = some e := by
  have := @atI_nat α (a :: b :: c :: d :: e :: l) 4 e rfl
  exact this
end
end Kn
namespace Kn
open PySem L2
/-! ### classes -/
section
variable {K : PySem.W.Frag} {ct : CT}
theorem RdH.obj {F H : Hp} {W : Wd} {L : Addr → Option Lab} {env : List Slot} {st : Sto} {σ : St} {v : V} {c : Str} {ds : List D} (h : RdH K ct W H v (.obj c ds)) (I : Rel K ct F W L env st σ H) :
    ∃ a C dx fs ns, v = .ref a ∧ H a = some (.ins C dx fs) ∧ ct c = some (C, ns) ∧ fs.map (·.1) = ns.take fs.length ∧ RepL K ct W (fs.map (·.2)) ds := by
  rcases h with h | ⟨a, rfl, cl⟩
  · cases h with
    | obj h1 h2 h3 h4 =>
      have e := h4.length
      rw [List.length_map] at e
      exact ⟨_, _, _, _, _, rfl, (I.hs _ _ h1).1, h2, by rw [e]; exact h3, h4⟩
  · cases cl with
    | obj h1 h2 h3 h4 =>
      have e := h4.length
      rw [List.length_map] at e
      exact ⟨_, _, _, _, _, rfl, h1, h2, by rw [e]; exact h3, h4⟩
end
section
variable {X : Cx} {ct : CT} {x y : Expr} {a b : Sem} {pos p apos : Pos} {c f m : Str} {C : Addr} {ns : List Str} {es : List Expr} {as : SemA}
/-- o.f -/
def fFld (c : Str) (k : Nat) : D → Option R
  | .obj c' ds => if c' = c then ds[k]?.map .sh else none
  | _ => none
/-- o.m(..), o an object that is shared -/
def eMeth (n : Nat) (c : Str) (m : Fn) (a : Sem) (as : SemA) : Sem := fun env st => (a env st).bind fun p => match p.1.pin with
  | .sh (.obj c' ds) => if c' = c then (as env p.2).bind fun q => (valsR q.1).bind fun es => if es.length + 1 = n then m (.obj c' ds :: es) q.2 else none else none
  | _ => none
/-- a method that may be called -/
structure Mcl (P : Program) (w : World) (K : PySem.W.Frag) (mg : Str → Option Value) (base : Heap) (ct : CT) (C : Addr) (nm : Str) (k : Nat) (ps : List Str) (m : Fn) : Prop where
  ex : ∃ f fd, FnOk P w K mg base CX0 k f fd ps (spD K ct ps.length m) ∧ Meth K C nm f ∧ Binds K fd ps []
end
/-! ### constructors -/
section
variable {K : PySem.W.Frag} {ct : CT}
end
section
variable {X : Cx} {ct : CT} {x y : Expr} {a b : Sem} {pos p apos : Pos} {c f m : Str} {C : Addr} {ns : List Str} {es : List Expr} {as : SemA}
def eMake (n : Nat) (m : Fn) (as : SemA) : Sem := fun env st => (as env st).bind fun p => (valsR p.1).bind fun ds => if ds.length + 1 = n then m ds p.2 else none
end
/-! ### a field of one's own self -/
section
variable {X : Cx} {ct : CT} {x y : Expr} {a b : Sem} {pos p apos npos : Pos} {c f m n : Str} {C : Addr} {ns : List Str}
def sFldM (i : Nat) (c : Str) (k : Nat) (a : Sem) : SemS := fun env st => (a env st).bind fun p => match p.1.pin, (env[i]? : Option Kn.Slot) with
  | .sh d, some (.me ad (.obj c' ds)) => if c' = c ∧ k = ds.length then some (.nx, env.set i (.me ad (.obj c' (ds ++ [d]))), p.2) else none
  | _, _ => none
end
end Kn
namespace Kn
open PySem L2
/-! ### lists of lists of one's own -/
section
variable {K : PySem.W.Frag} {ct : CT} {F H H' : Hp} {W W' : Wd} {L L' : Addr → Option Lab} {env : List Kn.Slot} {st : Sto} {σ : St} {l : Lab}
theorem Rows.at : ∀ {ws : List V} {dss : List (List D)} {j : Nat} {ds : List D}, Rows K ct W H L l ws dss → dss[j]? = some ds → ∃ a vs, ws[j]? = some (.ref a) ∧ H a = some (.lst vs) ∧ L a = some l ∧ RepL K ct W vs ds
  | _, _, 0, _, .cons h1 h2 h3 _ _, e => by cases e; exact ⟨_, _, rfl, h1, h2, h3⟩
  | _, _, j + 1, _, .cons _ _ _ _ r, e => by
    obtain ⟨a, vs, g1, g2⟩ := r.at (j := j) e
    exact ⟨a, vs, g1, g2⟩
theorem Rows.length : ∀ {ws : List V} {dss : List (List D)}, Rows K ct W H L l ws dss → ws.length = dss.length
  | _, _, .nil => rfl
  | _, _, .cons _ _ _ _ r => by rw [List.length_cons, List.length_cons, r.length]
theorem Rows.lab : ∀ {ws : List V} {dss : List (List D)}, Rows K ct W H L l ws dss → ∀ a, V.ref a ∈ ws → L a = some l ∧ ∃ vs, H a = some (.lst vs)
  | _, _, .cons h1 h2 _ _ r, a, h => by
    rcases List.mem_cons.mp h with h | h
    · cases h; exact ⟨h2, _, h1⟩
    · exact r.lab a h
theorem Rows.off : ∀ {ws : List V} {dss : List (List D)} {a : Addr} {o : HO}, Rows K ct W H L l ws dss → V.ref a ∉ ws → Rows K ct W (L2.upd H a o) L l ws dss
  | _, _, _, _, .nil, _ => .nil
  | _, _, a, o, .cons (a := a') g1 g2 g3 g4 r, n => by
    have ne : a' ≠ a := fun z => n (by rw [z]; exact List.mem_cons_self)
    exact .cons (by rw [upd_ne ne]; exact g1) g2 g3 g4 (r.off fun z => n (List.mem_cons_of_mem _ z))
/-- one row is another one -/
theorem Rows.upd : ∀ {ws : List V} {dss : List (List D)} {j : Nat} {a : Addr} {vs : List V} {ds : List D}, Rows K ct W H L l ws dss → ws[j]? = some (.ref a) → RepL K ct W vs ds → Rows K ct W (L2.upd H a (.lst vs)) L l ws (dss.set j ds)
  | _, _, 0, a, vs, ds, .cons (a := a') g1 g2 g3 g4 r, e, q => by
    cases e
    exact .cons upd_same g2 q g4 (r.off g4)
  | _, _, j + 1, a, vs, ds, .cons (a := a') (ws := ws) g1 g2 g3 g4 r, e, q => by
    have e : ws[j]? = some (V.ref a) := e
    have hm := List.mem_of_getElem? e
    have ne : a' ≠ a := fun z => g4 (by rw [z]; exact hm)
    exact .cons (by rw [upd_ne ne]; exact g1) g2 g3 g4 (r.upd (j := j) e q)
/-- a new thing is labelled as a slot's -/
theorem Rel.lab {a : Addr} (I : Rel K ct F W L env st σ H) (i : Nat) (hl : L a = none) (hw : W.hs a = none) (hf : F a = none) : Rel K ct F W (fun b => if b = a then some (.slot i) else L b) env st σ H := by
  have lab : ∀ b, b ≠ a → (if b = a then some (Lab.slot i) else L b) = L b := fun b h => if_neg h
  refine ⟨fun b u e => ?_, fun b u e => ?_, I.tp, fun g κ x e => ?_, I.rh, I.len, fun j s e => (I.sl j s e).mono (.refl W) fun b u hb hu => ⟨hu, ?_⟩⟩
  · have nb : b ≠ a := by rintro rfl; rw [hf] at e; cases e
    obtain ⟨h1, h2, h3⟩ := I.fr b u e
    exact ⟨h1, (lab b nb).trans h2, h3⟩
  · have nb : b ≠ a := by rintro rfl; rw [hw] at e; cases e
    obtain ⟨h1, h2⟩ := I.hs b u e
    exact ⟨h1, (lab b nb).trans h2⟩
  · obtain ⟨v, h1, h2⟩ := I.ob g κ x e
    refine ⟨v, h1, ?_⟩
    have q : (fun b => if (if b = a then some (Lab.slot i) else L b) = some (.ob g) then H b else none) = fun b => if L b = some (.ob g) then H b else none := by
      funext b
      by_cases hb : b = a
      · subst hb; simp [hl]
      · rw [lab b hb]
    rw [q]; exact h2
  · exact (lab b (by rintro rfl; rw [hl] at hb; cases hb)).trans hb
/-- a slot is emptied, its labels taken away -/
theorem Rel.clear (I : Rel K ct F W L env st σ H) (i : Nat) : Rel K ct F W (fun b => if L b = some (.slot i) then none else L b) (env.set i .no) st σ H := by
  refine ⟨fun b u e => ?_, fun b u e => ?_, I.tp, fun g κ x e => ?_, I.rh, by rw [List.length_set]; exact I.len, fun j s e => ?_⟩
  · obtain ⟨h1, h2, h3⟩ := I.fr b u e
    exact ⟨h1, by simp [h2], h3⟩
  · obtain ⟨h1, h2⟩ := I.hs b u e
    exact ⟨h1, by simp [h2]⟩
  · obtain ⟨v, h1, h2⟩ := I.ob g κ x e
    refine ⟨v, h1, ?_⟩
    have q : (fun b => if (if L b = some (Lab.slot i) then none else L b) = some (.ob g) then H b else none) = fun b => if L b = some (.ob g) then H b else none := by
      funext b
      by_cases hb : L b = some (.slot i)
      · simp [hb]
      · simp [hb]
    rw [q]; exact h2
  · rcases getset e with ⟨rfl, rfl, hi⟩ | ⟨hj, e⟩
    · trivial
    · refine (I.sl j s e).mono (.refl W) fun b u hb hu => ⟨hu, ?_⟩
      have : ¬ L b = some (.slot i) := fun z => by rw [hb] at z; cases z; exact hj rfl
      rw [if_neg this]; exact hb
end
section
variable {X : Cx} {ct : CT} {x y ix : Expr} {a b : Sem} {f : SemS} {pos p apos npos tpos : Pos} {n : Str} {sx : Stmt}
def sFrz2 (i : Nat) (f : SemS) : SemS := fun env st => match (env[i]? : Option Kn.Slot) with
  | some (.o2 dss) => f (env.set i (.sh (.lst (dss.map .lst)))) st
  | _ => f env st
end
/-! ### rows that stand aside in the frame -/
section
variable {K : PySem.W.Frag} {ct : CT} {F F' H H' : Hp} {W W' : Wd} {L L' : Addr → Option Lab} {env : List Kn.Slot} {st : Sto} {σ σ' : St} {l : Lab}
end
/-! ### x[i].append(v) -/
section
variable {X : Cx} {ct : CT} {x y : Expr} {a b : Sem} {as : SemA} {pos cpos apos npos tpos : Pos} {n : Str}
def app2 (dss : List (List D)) (j : Int) (xs : List D) : Option (List (List D)) := match xs with
  | [d] => (ixN dss.length j).bind fun k => (dss[k]?).bind fun ds => if ds.length < sizeLine then some (dss.set k (ds ++ [d])) else none
  | _ => none
def sApp2 (i : Nat) (b : Sem) (as : SemA) : SemS := fun env st => (b env st).bind fun p => (as (env.set i .no) p.2).bind fun q => (valsR q.1).bind fun xs => match p.1.d, (env[i]? : Option Kn.Slot) with
  | .int j, some (.o2 dss) => (app2 dss j xs).map fun dss' => (.nx, env.set i (.o2 dss'), q.2)
  | _, _ => none
end
/-! ### x = [[] for .. in ..] -/
section
variable {X : Cx} {ct : CT} {x : Expr} {pos spos py lp : Pos} {n : Str}
def sEmp (i : Nat) (it : SemI) (vs : List Nat) (g : SemG) : SemS := fun env st => (it env st).bind fun p => if vs.all (fun j => (env[j]?.map Slot.okW).getD true) = true ∧ p.1.all (fun d => (g d (wipeE env vs)).isSome) = true ∧ p.1.length ≤ sizeLine ∧ i < env.length then some (.nx, env.set i (.o2 (List.replicate p.1.length [])), p.2) else none
end
/-! ### evaluating -/
section
variable {env : List Kn.Slot} {st : Sto} {a b : Sem} {as : SemA} {f : SemS} {c : Str} {ds : List D} {n k i : Nat} {m : Fn} {it : SemI} {vs : List Nat} {g : SemG} {d : D}
@[simp] theorem x_fld : fFld c k (.obj c ds) = ds[k]?.map .sh := if_pos rfl
@[simp] theorem x_meth : eMeth n c m a as env st = (a env st).bind fun p => match p.1.pin with
  | .sh (.obj c' ds) => if c' = c then (as env p.2).bind fun q => (valsR q.1).bind fun es => if es.length + 1 = n then m (.obj c' ds :: es) q.2 else none else none
  | _ => none := rfl
@[simp] theorem x_make : eMake n m as env st = (as env st).bind fun p => (valsR p.1).bind fun ds => if ds.length + 1 = n then m ds p.2 else none := rfl
@[simp] theorem x_fldM : sFldM i c k a env st = (a env st).bind fun p => match p.1.pin, (env[i]? : Option Kn.Slot) with
  | .sh d, some (.me ad (.obj c' ds)) => if c' = c ∧ k = ds.length then some (.nx, env.set i (.me ad (.obj c' (ds ++ [d]))), p.2) else none
  | _, _ => none := rfl
@[simp] theorem x_frz2 : sFrz2 i f env st = match (env[i]? : Option Kn.Slot) with
  | some (.o2 dss) => f (env.set i (.sh (.lst (dss.map .lst)))) st
  | _ => f env st := rfl
@[simp] theorem x_app2 : sApp2 i b as env st = (b env st).bind fun p => (as (env.set i .no) p.2).bind fun q => (valsR q.1).bind fun xs => match p.1.d, (env[i]? : Option Kn.Slot) with
  | .int j, some (.o2 dss) => (app2 dss j xs).map fun dss' => (.nx, env.set i (.o2 dss'), q.2)
  | _, _ => none := rfl
@[simp] theorem x_emp : sEmp i it vs g env st = (it env st).bind fun p => if vs.all (fun j => (env[j]?.map Slot.okW).getD true) = true ∧ p.1.all (fun d => (g d (wipeE env vs)).isSome) = true ∧ p.1.length ≤ sizeLine ∧ i < env.length then some (.nx, env.set i (.o2 (List.replicate p.1.length [])), p.2) else none := rfl
end
end Kn
namespace Kn
open PySem L2
/-! ### t < u for tuples: the first place that differs decides, what stands behind it may be anything -/
section
open PySem.SeqAt PySem.Spec PyProof.Rows
open MeetsSeq MeetsSeq2 MeetsSeq3 SeqRoads2
end
section
open PySem.Spec PyProof.Rows
end
section
variable {X : Cx} {ct : CT} {x y : Expr} {a b : Sem} {pos : Pos}
def ltD : List D → List D → Option Bool
  | .int i :: xs, .int j :: ys => if i = j then ltD xs ys else some (decide (i < j))
  | [], [] => some false
  | [], _ :: _ => some true
  | _ :: _, [] => some false
  | _, _ => none
def fLtX : D → D → Option R
  | .int i, .int j => some (.sh (.bl (decide (i < j))))
  | .tup ds, .tup es => (ltD ds es).map fun k => .sh (.bl k)
  | _, _ => none
@[simp] theorem x_ltX1 {i j : Int} : fLtX (.int i) (.int j) = some (.sh (.bl (decide (i < j)))) := rfl
@[simp] theorem x_ltX2 {ds es : List D} : fLtX (.tup ds) (.tup es) = (ltD ds es).map fun k => .sh (.bl k) := rfl
end
end Kn
namespace Kn
open PySem L2
/-! ### typed readings of the functions -/
class En (α : Type) where
  en : α → D
open En
structure Scr where
  l : List Int
structure Tp1 (α : Type) where
  x0 : α
  deriving DecidableEq
structure Tp2 (α β : Type) where
  x0 : α
  x1 : β
  deriving DecidableEq
structure Tp3 (α β γ : Type) where
  x0 : α
  x1 : β
  x2 : γ
  deriving DecidableEq
structure Tp4 (α β γ δ : Type) where
  x0 : α
  x1 : β
  x2 : γ
  x3 : δ
  deriving DecidableEq
structure Tp5 (α β γ δ ε : Type) where
  x0 : α
  x1 : β
  x2 : γ
  x3 : δ
  x4 : ε
  deriving DecidableEq
structure Hl2 (α β : Type) where
  x0 : α
  x1 : β
  deriving DecidableEq
structure Hl3 (α β γ : Type) where
  x0 : α
  x1 : β
  x2 : γ
  deriving DecidableEq
section
variable {α β γ δ ε : Type} [En α] [En β] [En γ] [En δ] [En ε]
instance : En Int := ⟨.int⟩
instance : En Bool := ⟨.bl⟩
instance : En Unit := ⟨fun _ => .non⟩
instance : En Str := ⟨.str⟩
instance : En Scr := ⟨fun s => .scr s.l⟩
instance : En (List α) := ⟨fun l => .lst (l.map en)⟩
instance : En (Option α) := ⟨fun o => match o with | none => .non | some a => en a⟩
instance : En (Tp1 α) := ⟨fun p => .tup [en p.x0]⟩
instance : En (Tp2 α β) := ⟨fun p => .tup [en p.x0, en p.x1]⟩
instance : En (Tp3 α β γ) := ⟨fun p => .tup [en p.x0, en p.x1, en p.x2]⟩
instance : En (Tp4 α β γ δ) := ⟨fun p => .tup [en p.x0, en p.x1, en p.x2, en p.x3]⟩
instance : En (Tp5 α β γ δ ε) := ⟨fun p => .tup [en p.x0, en p.x1, en p.x2, en p.x3, en p.x4]⟩
instance : En (Hl2 α β) := ⟨fun p => .lst [en p.x0, en p.x1]⟩
instance : En (Hl3 α β γ) := ⟨fun p => .lst [en p.x0, en p.x1, en p.x2]⟩
/-- shared, one's own, a name's own -/
inductive Kx where
  | sh | ow | bw (i : Nat) | oo
def Kx.r : Kx → D → R
  | .sh, d => .sh d
  | .ow, d => .ow d
  | .bw i, d => .bw i d
  | .oo, .non => .sh .non
  | .oo, d => .ow d
def Kx.ok : Kx → Bool
  | .bw _ => false
  | .oo => false
  | _ => true
def Kx.slot : Kx → D → Kn.Slot
  | .ow, d => .ow d
  | _, d => .sh d
def Kx.out : Kx → Kx
  | .bw _ => .ow
  | k => k
theorem Kx.rd (k : Kx) (d : D) : (k.r d).d = d := by cases k <;> first | rfl | (cases d <;> rfl)
theorem Kx.outR (k : Kx) (d : D) : (k.r d).outR = k.out.r d := by cases k <;> first | rfl | (cases d <;> rfl)
theorem Kx.pin {k : Kx} (h : k.ok = true) (d : D) : (k.r d).pin = .sh d := by cases k <;> first | rfl | cases h
theorem Kx.sh? {k : Kx} (h : k.ok = true) (d : D) : (k.r d).sh? = some d := by cases k <;> first | rfl | cases h
def Ev (k : Kx) (e : Sem) (env : List Kn.Slot) (st : Sto) (t : Option α) : Prop := e env st = t.map fun a => (k.r (en a), st)
variable {k k1 k2 k3 : Kx} {env env' : List Kn.Slot} {st : Sto} {e a b c : Sem} {i j n : Nat} {x x' : α} {y y' : β} {z : γ} {tx : Option α} {ty : Option β} {tz : Option γ} {as : SemA} {ds : List D}
theorem ev_var (h : env[i]? = some (.sh (en x))) : Ev .sh (eVar i) env st (some x) := by
  show (match env[i]? with | some (.sh d) => some (Kn.R.sh d, st) | some (.ow d) => some (.bw i d, st) | _ => none) = _
  rw [h]; rfl
theorem ev_varo (h : env[i]? = some (.ow (en x))) : Ev (.bw i) (eVar i) env st (some x) := by
  show (match env[i]? with | some (.sh d) => some (Kn.R.sh d, st) | some (.ow d) => some (.bw i d, st) | _ => none) = _
  rw [h]; rfl
theorem ev_int (i : Int) : Ev .sh (eC (.int i)) env st (some i) := rfl
theorem ev_bl (i : Bool) : Ev .sh (eC (.bl i)) env st (some i) := rfl
def Op1 (k : Kx) (f : D → Option R) (F : α → Option β) : Prop := ∀ x, f (en x) = (F x).map fun c => k.r (en c)
def Op2 (k : Kx) (f : D → D → Option R) (F : α → β → Option γ) : Prop := ∀ x y, f (en x) (en y) = (F x y).map fun c => k.r (en c)
section
variable {f : D → Option R} {F : α → Option β} {g : D → D → Option R} {G : α → β → Option γ}
theorem ev_1p (h : Op1 k f F) (ha : Ev k1 a env st (some x)) : Ev k (e1 f a) env st (F x) := by
  unfold Ev at ha ⊢
  show ((a env st).bind fun p => (f p.1.d).map fun r => (r, p.2)) = _
  rw [ha]
  show ((f (k1.r (en x)).d).map fun r => (r, st)) = _
  rw [Kx.rd, h x, Option.map_map]; rfl
theorem ev_1x (h : Op1 k f F) (ha : Ev k1 a env st tx) : Ev k (e1 f a) env st (tx.bind F) := by
  cases tx with
  | none =>
    unfold Ev at ha ⊢
    show ((a env st).bind fun p => (f p.1.d).map fun r => (r, p.2)) = _
    rw [ha]; rfl
  | some x => exact ev_1p (F := F) h ha
theorem ev_2pp (h : Op2 k g G) (ha : Ev k1 a env st (some x)) (hb : Ev k2 b env st (some y)) : Ev k (e2 g a b) env st (G x y) := by
  unfold Ev at ha hb ⊢
  show ((a env st).bind fun p => (b env p.2).bind fun q => (g p.1.d q.1.d).map fun r => (r, q.2)) = _
  rw [ha]
  show ((b env st).bind fun q => (g (k1.r (en x)).d q.1.d).map fun r => (r, q.2)) = _
  rw [hb]
  show ((g (k1.r (en x)).d (k2.r (en y)).d).map fun r => (r, st)) = _
  rw [Kx.rd, Kx.rd, h x y, Option.map_map]; rfl
theorem ev_2xx (h : Op2 k g G) (ha : Ev k1 a env st tx) (hb : Ev k2 b env st ty) : Ev k (e2 g a b) env st (tx.bind fun x => ty.bind fun y => G x y) := by
  cases tx with
  | none =>
    unfold Ev at ha ⊢
    show ((a env st).bind fun p => (b env p.2).bind fun q => (g p.1.d q.1.d).map fun r => (r, q.2)) = _
    rw [ha]; rfl
  | some x =>
    cases ty with
    | none =>
      unfold Ev at ha hb ⊢
      show ((a env st).bind fun p => (b env p.2).bind fun q => (g p.1.d q.1.d).map fun r => (r, q.2)) = _
      rw [ha]
      show ((b env st).bind fun q => (g (k1.r (en x)).d q.1.d).map fun r => (r, q.2)) = _
      rw [hb]; rfl
    | some y => exact ev_2pp (G := G) h ha hb
theorem ev_2px (h : Op2 k g G) (ha : Ev k1 a env st (some x)) (hb : Ev k2 b env st ty) : Ev k (e2 g a b) env st (ty.bind fun y => G x y) := ev_2xx h ha hb
theorem ev_2xp (h : Op2 k g G) (ha : Ev k1 a env st tx) (hb : Ev k2 b env st (some y)) : Ev k (e2 g a b) env st (tx.bind fun x => G x y) := ev_2xx h ha hb
end
/-! tests -/
variable {p q : Bool} {tp tq : Option Bool}
theorem ev_notx (ha : Ev .sh a env st tp) : Ev .sh (eNot a) env st (tp.bind fun p => some (!p)) := by
  unfold Ev at ha ⊢; unfold eNot; rw [ha]; cases tp <;> rfl
theorem ev_andxx (ha : Ev .sh a env st tp) (hb : Ev .sh b env st tq) : Ev .sh (eAnd a b) env st (tp.bind fun p => if p = true then tq else some false) := by
  unfold Ev at ha hb ⊢; unfold eAnd; rw [ha]
  cases tp with
  | none => rfl
  | some p => cases p with
    | true => exact hb
    | false => rfl
theorem ev_andpp (ha : Ev .sh a env st (some p)) (hb : Ev .sh b env st (some q)) : Ev .sh (eAnd a b) env st (some (p && q)) := by
  have := ev_andxx ha hb
  cases p <;> exact this
theorem ev_andxp (ha : Ev .sh a env st tp) (hb : Ev .sh b env st (some q)) : Ev .sh (eAnd a b) env st (tp.bind fun p => some (p && q)) := by
  cases tp with
  | none => exact ev_andxx ha hb
  | some p => exact ev_andpp ha hb
theorem ev_orxx (ha : Ev .sh a env st tp) (hb : Ev .sh b env st tq) : Ev .sh (eOr a b) env st (tp.bind fun p => if p = true then some true else tq) := by
  unfold Ev at ha hb ⊢; unfold eOr; rw [ha]
  cases tp with
  | none => rfl
  | some p => cases p with
    | false => exact hb
    | true => rfl
theorem ev_orpp (ha : Ev .sh a env st (some p)) (hb : Ev .sh b env st (some q)) : Ev .sh (eOr a b) env st (some (p || q)) := by
  have := ev_orxx ha hb
  cases p <;> exact this
theorem ev_orxp (ha : Ev .sh a env st tp) (hb : Ev .sh b env st (some q)) : Ev .sh (eOr a b) env st (tp.bind fun p => some (p || q)) := by
  cases tp with
  | none => exact ev_orxx ha hb
  | some p => exact ev_orpp ha hb
/-! arguments -/
def EvAp (as : SemA) (env : List Kn.Slot) (st : Sto) (ds : List D) : Prop := as env st = some (ds.map .sh, st)
def EvA {μ : Type} (as : SemA) (env : List Kn.Slot) (st : Sto) (t : Option μ) (dec : μ → List D) : Prop := as env st = t.map fun b => ((dec b).map .sh, st)
theorem ea_nil : EvAp aNil env st [] := rfl
theorem ea_p (ha : Ev k a env st (some x)) (hk : k.ok = true) (h : EvAp as env st ds) : EvAp (aCons a as) env st (en x :: ds) := by
  unfold Ev at ha; unfold EvAp at h ⊢; unfold aCons
  rw [ha]
  show ((as env st).map fun q => ((k.r (en x)).pin :: q.1, q.2)) = _
  rw [h, Kx.pin hk]; rfl
theorem ea_xp (ha : Ev k a env st tx) (hk : k.ok = true) (h : EvAp as env st ds) : EvA (aCons a as) env st tx fun x => en x :: ds := by
  cases tx with
  | none => unfold Ev at ha; unfold EvA aCons; rw [ha]; rfl
  | some x => exact ea_p ha hk h
section
variable {μ : Type} {t : Option μ} {dec : μ → List D}
theorem ea_px (ha : Ev k a env st (some x)) (hk : k.ok = true) (h : EvA as env st t dec) : EvA (aCons a as) env st t fun b => en x :: dec b := by
  unfold Ev at ha; unfold EvA at h ⊢; unfold aCons
  rw [ha]
  show ((as env st).map fun q => ((k.r (en x)).pin :: q.1, q.2)) = _
  rw [h, Kx.pin hk]; cases t <;> rfl
theorem ea_xx (ha : Ev k a env st tx) (hk : k.ok = true) (h : EvA as env st t dec) : EvA (aCons a as) env st (tx.bind fun x => t.bind fun b => some (x, b)) fun p => en p.1 :: dec p.2 := by
  cases tx with
  | none => unfold Ev at ha; unfold EvA aCons; rw [ha]; rfl
  | some x =>
    have := ea_px ha hk h
    unfold EvA at this ⊢
    rw [this]; cases t <;> rfl
theorem vals_sh : ∀ ds : List D, valsR (ds.map .sh) = some ds
  | [] => rfl
  | d :: ds => by rw [List.map_cons, x_v1, vals_sh ds]; rfl
theorem ev_callp {m : Fn} (ha : EvAp as env st ds) (h : m ds st = tz.map fun r => (k.r (en r), st)) (hl : ds.length = n) : Ev k (eCall n m as) env st tz := by
  unfold EvAp at ha; unfold Ev eCall
  rw [ha]
  show ((valsR (ds.map .sh)).bind fun ds => if ds.length = n then m ds st else none) = _
  rw [vals_sh]
  show (if ds.length = n then m ds st else none) = _
  rw [if_pos hl, h]
theorem ev_tupp {p : γ} (ha : EvAp as env st ds) (hp : en p = .tup ds) (hl : ds.length ≤ 1000) : Ev .sh (eTup as) env st (some p) := by
  unfold EvAp at ha; unfold Ev eTup
  rw [ha]
  show ((valsR (ds.map .sh)).bind fun ds => if ds.length ≤ sizeLine then some (Kn.R.sh (.tup ds), st) else none) = _
  rw [vals_sh]
  show (if ds.length ≤ sizeLine then some (Kn.R.sh (.tup ds), st) else none) = _
  rw [if_pos (x_sz hl), ← hp]; rfl
theorem ev_lstp {p : γ} (ha : EvAp as env st ds) (hp : en p = .lst ds) (hl : ds.length ≤ 1000) : Ev .ow (eLst as) env st (some p) := by
  unfold EvAp at ha; unfold Ev eLst
  rw [ha]
  show ((valsR (ds.map .sh)).bind fun ds => if ds.length ≤ sizeLine then some (Kn.R.ow (.lst ds), st) else none) = _
  rw [vals_sh]
  show (if ds.length ≤ sizeLine then some (Kn.R.ow (.lst ds), st) else none) = _
  rw [if_pos (x_sz hl), ← hp]; rfl
theorem ev_lstx {F : μ → γ} (ha : EvA as env st t dec) (hp : ∀ b, en (F b) = .lst (dec b)) (hl : ∀ b, (dec b).length ≤ 1000) : Ev .ow (eLst as) env st (t.bind fun b => some (F b)) := by
  cases t with
  | none => unfold EvA at ha; unfold Ev eLst; rw [ha]; rfl
  | some b => exact ev_lstp (ds := dec b) ha (hp b) (hl b)
end
end
section
/-! calls by what is a name's own -/
class EnH (α : Type) [En α] : Prop where
  nh : ∀ a : α, (En.en a).nh = true
open En
variable {α β γ δ ε : Type} [En α] [En β] [En γ] [En δ] [En ε]
instance : EnH Int := ⟨fun _ => rfl⟩
instance : EnH Bool := ⟨fun _ => rfl⟩
instance : EnH Unit := ⟨fun _ => rfl⟩
instance : EnH Str := ⟨fun _ => rfl⟩
instance : EnH Scr := ⟨fun _ => rfl⟩
instance [EnH α] : EnH (List α) := ⟨fun l => by
  show D.nhL (l.map en) = true
  exact nhL_all fun d hd => by obtain ⟨a, _, rfl⟩ := List.mem_map.mp hd; exact EnH.nh a⟩
instance [EnH α] : EnH (Option α) := ⟨fun o => by cases o with | none => rfl | some a => exact EnH.nh a⟩
instance [EnH α] : EnH (Tp1 α) := ⟨fun p => by show D.nhL [_] = true; simp only [D.nhL, EnH.nh, Bool.and_self]⟩
instance [EnH α] [EnH β] : EnH (Tp2 α β) := ⟨fun p => by show D.nhL [_, _] = true; simp only [D.nhL, EnH.nh, Bool.and_self]⟩
instance [EnH α] [EnH β] [EnH γ] : EnH (Tp3 α β γ) := ⟨fun p => by show D.nhL [_, _, _] = true; simp only [D.nhL, EnH.nh, Bool.and_self]⟩
instance [EnH α] [EnH β] [EnH γ] [EnH δ] : EnH (Tp4 α β γ δ) := ⟨fun p => by show D.nhL [_, _, _, _] = true; simp only [D.nhL, EnH.nh, Bool.and_self]⟩
instance [EnH α] [EnH β] [EnH γ] [EnH δ] [EnH ε] : EnH (Tp5 α β γ δ ε) := ⟨fun p => by show D.nhL [_, _, _, _, _] = true; simp only [D.nhL, EnH.nh, Bool.and_self]⟩
instance [EnH α] [EnH β] : EnH (Hl2 α β) := ⟨fun p => by show D.nhL [_, _] = true; simp only [D.nhL, EnH.nh, Bool.and_self]⟩
class EnI (α : Type) [En α] : Prop where
  imm : ∀ a : α, (En.en a).imm = true
instance : EnI Int := ⟨fun _ => rfl⟩
instance : EnI Bool := ⟨fun _ => rfl⟩
instance : EnI Unit := ⟨fun _ => rfl⟩
instance : EnI Str := ⟨fun _ => rfl⟩
instance [EnI α] : EnI (Option α) := ⟨fun o => by cases o with | none => rfl | some a => exact EnI.imm a⟩
instance [EnI α] [EnI β] : EnI (Tp2 α β) := ⟨fun p => by show D.immL [_, _] = true; simp only [D.immL, EnI.imm, Bool.and_self]⟩
instance [EnI α] [EnI β] [EnI γ] : EnI (Tp3 α β γ) := ⟨fun p => by show D.immL [_, _, _] = true; simp only [D.immL, EnI.imm, Bool.and_self]⟩
instance [EnI α] [EnI β] [EnI γ] [EnI δ] : EnI (Tp4 α β γ δ) := ⟨fun p => by show D.immL [_, _, _, _] = true; simp only [D.immL, EnI.imm, Bool.and_self]⟩
variable {k k1 k2 k3 : Kx} {env env' : List Kn.Slot} {st : Sto} {a : Sem} {i j n : Nat} {x : α} {tz : Option γ} {as : SemA} {ds : List D}
end
end Kn
namespace Kn
open PySem L2
/-! ### typed readings: iterations, statements -/
open En
section
variable {α β γ δ σ ρ : Type} [En α] [En β] [En γ]
variable {k k1 k2 k3 : Kx} {env env' : List Kn.Slot} {st : Sto} {e a b c : Sem} {i j n : Nat} {x x' : α} {y : β} {tx : Option α} {ty : Option β} {as : SemA} {ds : List D}
def szG (l : List α) : Option (List α) := if l.length ≤ sizeLine then some l else none
theorem szG_of {l : List α} (h : l.length ≤ 1000) : szG l = some l := if_pos (x_sz h)
/-! comprehensions -/
def EvI (it : SemI) (env : List Kn.Slot) (st : Sto) (t : Option (List α)) : Prop := it env st = t.map fun l => (l.map en, st)
def lcT (c : α → Option Bool) (f : α → Option β) : List α → Option (List β)
  | [] => some []
  | x :: xs => (c x).bind fun b => if b = true then (f x).bind fun y => (lcT c f xs).bind fun l => some (y :: l) else lcT c f xs
theorem lcT_ev {g : SemG} {vs : List Nat} {tc : α → Option Bool} {ta : α → Option β} {en1 : α → List Kn.Slot} (hk : k.ok = true) (hg : ∀ x : α, g (en x) (wipeE env vs) = some (en1 x)) (hc : ∀ x, Ev .sh c (en1 x) st (tc x)) (ha : ∀ x, Ev k a (en1 x) st (ta x)) : ∀ l : List α,
    lcL g c a vs env (l.map en) st = (lcT tc ta l).map fun r => (r.map en, st)
  | [] => rfl
  | x :: xs => by
    have ih := lcT_ev hk hg hc ha xs
    have h1 := hc x
    have h2 := ha x
    unfold Ev at h1 h2
    rw [List.map_cons, lcL, hg x, lcT]
    show ((c (en1 x) st).bind _) = _
    rw [h1]
    cases tc x with
    | none => rfl
    | some p =>
      cases p with
      | false => exact ih
      | true =>
        show ((a (en1 x) st).bind _) = _
        rw [h2]
        cases hx : ta x with
        | none => rfl
        | some y =>
          show ((k.r (en y)).sh?.bind _) = _
          rw [Kx.sh? hk]
          show (lcL g c a vs env (xs.map en) st).map _ = _
          rw [ih]
          cases hl : lcT tc ta xs with
          | none => simp [hl]
          | some l => simp [hl]
theorem ev_lcx {it : SemI} {g : SemG} {vs : List Nat} {t : Option (List α)} {tc : α → Option Bool} {ta : α → Option β} {en1 : α → List Kn.Slot} (hi : EvI it env st t) (hv : vs.all (fun j => (env[j]?.map Slot.okW).getD true) = true) (hg : ∀ x : α, g (en x) (wipeE env vs) = some (en1 x)) (hc : ∀ x, Ev .sh c (en1 x) st (tc x)) (ha : ∀ x, Ev k a (en1 x) st (ta x)) (hk : k.ok = true) :
    Ev .ow (eLc it vs g c a) env st (t.bind fun l => (lcT tc ta l).bind szG) := by
  unfold EvI at hi; unfold Ev
  rw [x_lc, hi]
  cases t with
  | none => rfl
  | some l =>
    show (if vs.all (fun j => (env[j]?.map Slot.okW).getD true) = true then (lcL g c a vs env (l.map en) st).bind fun q => if q.1.length ≤ sizeLine then some (Kn.R.ow (.lst q.1), q.2) else none else none) = _
    rw [if_pos hv, lcT_ev hk hg hc ha l]
    show _ = ((lcT tc ta l).bind szG).map _
    cases lcT tc ta l with
    | none => rfl
    | some r =>
      show (if (r.map en).length ≤ sizeLine then some (Kn.R.ow (.lst (r.map en)), st) else none) = (szG r).map _
      unfold szG
      rw [List.length_map]
      split <;> rfl
theorem ev_yes : Ev .sh eYes env st (some true) := rfl
/-! what is gone through -/
class EnS (τ : Type) [En τ] (α : outParam Type) [En α] where
  items : τ → List α
  seq : ∀ t : τ, (en t).seq = some ((items t).map en)
instance : EnS (List α) α := ⟨id, fun _ => rfl⟩
instance : EnS Scr Int := ⟨Scr.l, fun _ => rfl⟩
instance : EnS (Tp2 α α) α := ⟨fun p => [p.x0, p.x1], fun _ => rfl⟩
instance : EnS (Tp3 α α α) α := ⟨fun p => [p.x0, p.x1, p.x2], fun _ => rfl⟩
theorem ei_seqp {τ : Type} [En τ] [EnS τ α] {v : τ} (ha : Ev k a env st (some v)) (hk : k.ok = true) : EvI (iSeq a) env st (some (EnS.items v)) := by
  unfold Ev at ha; unfold EvI
  rw [x_iseq, ha]
  show ((k.r (en v)).sh?.bind fun d => d.seq.map fun ds => (ds, st)) = _
  rw [Kx.sh? hk]
  show ((en v).seq.map fun ds => (ds, st)) = _
  rw [EnS.seq v]; rfl
theorem ei_lstp {v : List α} (ha : Ev k a env st (some v)) (hk : k.ok = true) : EvI (iSeq a) env st (some v) := ei_seqp ha hk
theorem ei_lstx {t : Option (List α)} (ha : Ev k a env st t) (hk : k.ok = true) : EvI (iSeq a) env st t := by
  cases t with
  | none => unfold Ev at ha; unfold EvI; rw [x_iseq, ha]; rfl
  | some v => exact ei_lstp ha hk
def rngI (lo : Int) (n : Nat) : List Int := (List.range n).map fun (k : Nat) => lo + (k : Int)
theorem rngD_en (lo : Int) (n : Nat) : rngD lo n = (rngI lo n).map en := by unfold rngD rngI; rw [List.map_map]; rfl
open Classical in
noncomputable def rngG (i j : Int) : Option (List Int) := if Rg i ∧ Rg j then some (rngI i (j - i).toNat) else none
theorem rg0 : Rg 0 := .of (by decide)
theorem rngG_of {i j : Int} (h : i.natAbs ≤ 1000000) (h2 : j.natAbs ≤ 1000000) : rngG i j = some (rngI i (j - i).toNat) := by
  unfold rngG
  rw [if_pos]
  exact ⟨.of (by omega), .of (by omega)⟩
theorem ei_rng1p {v : Int} (ha : Ev k a env st (some v)) : EvI (iRng1' a) env st (rngG 0 v) := by
  unfold Ev at ha; unfold EvI
  rw [x_rng1, ha]
  show (match (k.r (.int v)).d with | .int j => if Rg j then some (rngD 0 j.toNat, st) else none | _ => none) = _
  rw [Kx.rd]
  show (if Rg v then some (rngD 0 v.toNat, st) else none) = _
  unfold rngG
  by_cases h : Rg v
  · rw [if_pos h, if_pos ⟨rg0, h⟩, rngD_en, Int.sub_zero]; rfl
  · rw [if_neg h, if_neg fun z => h z.2]; rfl
theorem ei_rng2p {v w : Int} (ha : Ev k1 a env st (some v)) (hb : Ev k2 b env st (some w)) : EvI (iRng2' a b) env st (rngG v w) := by
  unfold Ev at ha hb; unfold EvI
  rw [x_rng2, ha]
  show ((b env st).bind fun q => match (k1.r (.int v)).d, q.1.d with | .int i, .int j => if Rg i ∧ Rg j then some (rngD i (j - i).toNat, q.2) else none | _, _ => none) = _
  rw [hb]
  show (match (k1.r (.int v)).d, (k2.r (.int w)).d with | .int i, .int j => if Rg i ∧ Rg j then some (rngD i (j - i).toNat, st) else none | _, _ => none) = _
  rw [Kx.rd, Kx.rd]
  show (if Rg v ∧ Rg w then some (rngD v (w - v).toNat, st) else none) = _
  unfold rngG
  split
  · rw [rngD_en]; rfl
  · rfl
/-! statements -/
inductive Ct (ρ σ : Type) where
  | nx (s : σ) | rt (r : ρ)
def Ct.go {ρ σ τ : Type} (c : Ct ρ σ) (f : σ → Option τ) (g : ρ → Option τ) : Option τ := match c with
  | .nx s => f s
  | .rt r => g r
abbrev Outs := Out × List Kn.Slot × Sto
def nrm (fn : Bool) : Outs → Outs
  | (.rt r, _, st) => (.rt r.outR, [], st)
  | (.nx, env, st) => if fn = true then (.rt (.sh .non), [], st) else (.nx, env, st)
  | q => q
def Ru {τ : Type} (fn : Bool) (enc : τ → Outs) (f : SemS) (env : List Kn.Slot) (st : Sto) (t : Option τ) : Prop := (f env st).map (nrm fn) = t.map enc
variable {τ : Type} {fn : Bool} {enc : τ → Outs} {f g h s1 : SemS} {t t1 t2 : Option τ} {z : τ}
theorem ru_of {t' : Option τ} (h : Ru fn enc f env st t') (e : t = t') : Ru fn enc f env st t := by rw [e]; exact h
theorem ru_nil (h : nrm fn (.nx, env, st) = enc z) : Ru fn enc sNil env st (some z) := by
  show some (nrm fn (.nx, env, st)) = some (enc z)
  rw [h]
theorem ru_id (h : Ru fn enc g env st t) : Ru fn enc (sSeq sNil g) env st t := h
theorem seq_assoc (f g h : SemS) : sSeq (sSeq f g) h = sSeq f (sSeq g h) := by
  funext env st
  unfold sSeq
  cases f env st with
  | none => rfl
  | some p =>
    obtain ⟨o, e', st'⟩ := p
    cases o <;> rfl
theorem ru_as (k : Ru fn enc (sSeq f (sSeq g h)) env st t) : Ru fn enc (sSeq (sSeq f g) h) env st t := by rw [seq_assoc]; exact k
theorem ru_setp (ha : Ev k a env st (some x)) (hk : k.ok = true) (hr : Ru fn enc g (env.set i (k.slot (en x))) st t) : Ru fn enc (sSeq (sSet i a) g) env st t := by
  unfold Ev at ha; unfold Ru at hr ⊢
  have : sSeq (sSet i a) g env st = g (env.set i (k.slot (en x))) st := by
    rw [x_seq, x_set, ha]
    cases k <;> first | rfl | cases hk
  rw [this]; exact hr
theorem ru_setx {T : α → Option τ} (ha : Ev k a env st tx) (hk : k.ok = true) (hr : ∀ x, Ru fn enc g (env.set i (k.slot (en x))) st (T x)) : Ru fn enc (sSeq (sSet i a) g) env st (tx.bind T) := by
  cases tx with
  | none => unfold Ev at ha; unfold Ru; rw [x_seq, x_set, ha]; rfl
  | some x => exact ru_setp ha hk (hr x)
theorem ru_exx {T : α → Option τ} (ha : Ev k a env st tx) (hr : ∀ x, Ru fn enc g env st (T x)) : Ru fn enc (sSeq (sEx a) g) env st (tx.bind T) := by
  cases tx with
  | none => unfold Ev at ha; unfold Ru; rw [x_seq, x_ex, ha]; rfl
  | some x =>
    unfold Ev at ha
    have hr := hr x
    unfold Ru at hr ⊢
    have : sSeq (sEx a) g env st = g env st := by rw [x_seq, x_ex, ha]; rfl
    rw [this]; exact hr
theorem ru_retp (ha : Ev k a env st (some x)) (he : enc z = (.rt (k.out.r (en x)), [], st)) : Ru fn enc (sSeq (sRet a) g) env st (some z) := by
  unfold Ev at ha; unfold Ru
  rw [x_seq, x_ret, ha]
  show some (nrm fn (.rt (k.r (en x)), env, st)) = some (enc z)
  rw [he]
  show some (Out.rt (k.r (en x)).outR, [], st) = _
  rw [Kx.outR]
theorem ru_retx {F : α → τ} (ha : Ev k a env st tx) (he : ∀ x, enc (F x) = (.rt (k.out.r (en x)), [], st)) : Ru fn enc (sSeq (sRet a) g) env st (tx.bind fun x => some (F x)) := by
  cases tx with
  | none => unfold Ev at ha; unfold Ru; rw [x_seq, x_ret, ha]; rfl
  | some x => exact ru_retp ha (he x)
theorem ru_never : Ru fn enc (sSeq sNever g) env st none := rfl
theorem ru_ifx {c : Sem} {tp : Option Bool} {T1 T2 : Option τ} (hc : Ev .sh c env st tp) (h1 : Ru fn enc (sSeq f h) env st T1) (h2 : Ru fn enc (sSeq g h) env st T2) : Ru fn enc (sSeq (sIf c f g) h) env st (tp.bind fun p => if p = true then T1 else T2) := by
  unfold Ev at hc; unfold Ru at h1 h2 ⊢
  rw [x_seq, x_if, hc]
  cases tp with
  | none => rfl
  | some p => cases p with
    | true => exact h1
    | false => exact h2
theorem ru_ifp {c : Sem} {p : Bool} {T1 T2 : Option τ} (hc : Ev .sh c env st (some p)) (h1 : Ru fn enc (sSeq f h) env st T1) (h2 : Ru fn enc (sSeq g h) env st T2) : Ru fn enc (sSeq (sIf c f g) h) env st (if p = true then T1 else T2) := ru_ifx hc h1 h2
/-- a statement that goes on with a state -/
def Rn {σ : Type} (E : σ → List Kn.Slot) (f : SemS) (env : List Kn.Slot) (st : Sto) (t : Option σ) : Prop := f env st = t.map fun s => (.nx, E s, st)
theorem rn_of {E : σ → List Kn.Slot} {t : Option σ} (h : Ru false (fun s => (.nx, E s, st)) (sSeq f sNil) env st t) : Rn E f env st t := by
  unfold Ru at h; unfold Rn
  rw [x_seq] at h
  cases hf : f env st with
  | none =>
    rw [hf] at h
    cases t with
    | none => rfl
    | some s => cases h
  | some p =>
    rw [hf] at h
    obtain ⟨o, e', st'⟩ := p
    cases t with
    | none => cases o <;> cases h
    | some s =>
      cases o with
      | nx => exact h
      | rt r => cases h
      | bk => cases h
      | ct => cases h
theorem ru_join {E : σ → List Kn.Slot} {t1 : Option σ} {T : σ → Option τ} (h1 : Rn E f env st t1) (h2 : ∀ s, Ru fn enc g (E s) st (T s)) : Ru fn enc (sSeq f g) env st (t1.bind T) := by
  unfold Rn at h1
  cases t1 with
  | none => unfold Ru; rw [x_seq, h1]; rfl
  | some s =>
    have h2 := h2 s
    unfold Ru at h2 ⊢
    have : sSeq f g env st = g (E s) st := by rw [x_seq, h1]; rfl
    rw [this]; exact h2
end
end Kn
namespace Kn
open PySem L2
/-! ### typed readings: loops, what is forgotten, what is changed -/
open En
section
variable {X : Cx} {ct : CT} {sxs : List Stmt} {f : SemS}
/-- names forgotten ahead of the rest -/
def sKl (js : List Nat) (f : SemS) : SemS := fun env st => f (wipeE env js) st
theorem Rel.wipe {K : PySem.W.Frag} {F H : Hp} {W : Wd} {L : Addr → Option Lab} {st : Sto} {σ : St} : ∀ {js : List Nat} {env : List Kn.Slot}, Rel K ct F W L env st σ H → Rel K ct F W L (wipeE env js) st σ H
  | [], _, I => I
  | j :: js, env, I => by
    have J := Rel.wipe (js := js) I
    refine ⟨J.fr, J.hs, J.tp, J.ob, J.rh, by rw [x_wipe1, List.length_set]; exact J.len, fun i s e => ?_⟩
    rw [x_wipe1] at e
    by_cases h : j = i
    · subst h
      rw [List.getElem?_set] at e
      simp only [if_true] at e
      split at e
      · cases e; trivial
      · cases e
    · rw [List.getElem?_set_ne h] at e
      exact J.sl i s e
theorem sb_kl (js : List Nat) (h : SB X ct sxs f) : SB X ct sxs (sKl js f) := by
  refine ⟨pss_mono h.pss fun D σ H ⟨F, W, L, env, st, o, env', st', I, e, k⟩ => ?_⟩
  exact ⟨F, W, L, _, st, o, env', st', I.wipe, e, k⟩
theorem sb_frz (i : Nat) (h : SB X ct sxs f) : SB X ct sxs (sFrz i f) := by
  refine ⟨pss_mono h.pss fun D σ H ⟨F, W, L, env, st, o, env', st', I, e, k⟩ => ?_⟩
  unfold sFrz at e
  split at e
  · rename_i d he
    obtain ⟨W', L', le, J⟩ := I.freeze he
    exact ⟨F, W', L', _, st, o, env', st', J, e, k.mono le⟩
  · exact ⟨F, W, L, env, st, o, env', st', I, e, k⟩
end
section
variable {α β γ δ σ ρ τ : Type} [En α] [En β] [En γ]
variable {k k1 k2 k3 : Kx} {env env' : List Kn.Slot} {st : Sto} {e a b c : Sem} {i j n : Nat} {x x' : α} {y : β} {tx : Option α} {ty : Option β} {as : SemA} {ds : List D}
variable {fn : Bool} {enc : τ → Outs} {f g h s1 : SemS} {t t1 t2 : Option τ} {z : τ}
theorem ru_kl {js : List Nat} {env1 : List Kn.Slot} (he : wipeE env js = env1) (hr : Ru fn enc f env1 st t) : Ru fn enc (sKl js f) env st t := by
  unfold Ru sKl; rw [he]; exact hr
theorem ru_frz (he : env[i]? = some (.ow (en x))) (hr : Ru fn enc f (env.set i (.sh (en x))) st t) : Ru fn enc (sFrz i f) env st t := by
  unfold Ru at hr ⊢
  have : sFrz i f env st = f (env.set i (.sh (en x))) st := by rw [x_frz, he]
  rw [this]; exact hr
/-! loops -/
def foldT (step : α → σ → Option σ) : List α → σ → Option σ
  | [], s => some s
  | x :: xs, s => (step x s).bind fun s' => foldT step xs s'
theorem foldT_ev {E : σ → List Kn.Slot} {o : SemG} {E1 : α → σ → List Kn.Slot} {step : α → σ → Option σ} (ho : ∀ x s, o (en x) (E s) = some (E1 x s)) (hf : ∀ x s, Ru false (fun s => (.nx, E s, st)) f (E1 x s) st (step x s)) : ∀ (l : List α) (s : σ),
    forL o f (l.map en) (E s) st = (foldT step l s).map fun s => (.nx, E s, st)
  | [], s => rfl
  | x :: xs, s => by
    have h1 := hf x s
    unfold Ru at h1
    rw [List.map_cons, forL, ho x s, foldT]
    show ((f (E1 x s) st).bind _) = _
    cases hs : step x s with
    | none =>
      rw [hs] at h1
      cases hx : f (E1 x s) st with
      | none => rfl
      | some p => rw [hx] at h1; cases h1
    | some s' =>
      rw [hs] at h1
      cases hx : f (E1 x s) st with
      | none => rw [hx] at h1; cases h1
      | some p =>
        rw [hx] at h1
        obtain ⟨q, e1, s1⟩ := p
        cases q with
        | nx =>
          have h1 := Option.some.inj h1
          have h1 : (Out.nx, e1, s1) = (Out.nx, E s', st) := h1
          cases h1
          exact foldT_ev ho hf xs s'
        | rt r => cases h1
        | bk => cases h1
        | ct => cases h1
theorem rn_for {it : SemI} {o : SemG} {E : σ → List Kn.Slot} {E1 : α → σ → List Kn.Slot} {step : α → σ → Option σ} {s0 : σ} {tl : Option (List α)} (hi : EvI it env st tl) (he : env = E s0) (ho : ∀ x s, o (en x) (E s) = some (E1 x s)) (hf : ∀ x s, Ru false (fun s => (.nx, E s, st)) f (E1 x s) st (step x s)) :
    Rn E (sFor it o f) env st (tl.bind fun l => foldT step l s0) := by
  unfold EvI at hi; unfold Rn
  rw [x_for, hi]
  cases tl with
  | none => rfl
  | some l =>
    show forL o f (l.map en) env st = _
    rw [he]
    exact foldT_ev ho hf l s0
theorem rn_forp {it : SemI} {o : SemG} {E : σ → List Kn.Slot} {E1 : α → σ → List Kn.Slot} {step : α → σ → Option σ} {s0 : σ} {l : List α} (hi : EvI it env st (some l)) (he : env = E s0) (ho : ∀ x s, o (en x) (E s) = some (E1 x s)) (hf : ∀ x s, Ru false (fun s => (.nx, E s, st)) f (E1 x s) st (step x s)) :
    Rn E (sFor it o f) env st (foldT step l s0) := rn_for hi he ho hf
/-- a loop that may hand back -/
def forT (step : α → σ → Option (Ct ρ σ)) : List α → σ → Option (Ct ρ σ)
  | [], s => some (.nx s)
  | x :: xs, s => (step x s).bind fun c => c.go (fun s' => forT step xs s') fun r => some (.rt r)
def encC [En ρ] (k : Kx) (E : σ → List Kn.Slot) (st : Sto) : Ct ρ σ → Outs
  | .nx s => (.nx, E s, st)
  | .rt r => (.rt (k.r (en r)), [], st)
theorem forT_ev [En ρ] {E : σ → List Kn.Slot} {o : SemG} {E1 : α → σ → List Kn.Slot} {step : α → σ → Option (Ct ρ σ)} (ho : ∀ x s, o (en x) (E s) = some (E1 x s)) (hf : ∀ x s, Ru false (encC k E st) f (E1 x s) st (step x s)) : ∀ (l : List α) (s : σ),
    (forL o f (l.map en) (E s) st).map (nrm false) = (forT step l s).map (encC k E st)
  | [], s => rfl
  | x :: xs, s => by
    have h1 := hf x s
    unfold Ru at h1
    rw [List.map_cons, forL, ho x s, forT]
    show (((f (E1 x s) st).bind _).map _) = _
    cases hs : step x s with
    | none =>
      rw [hs] at h1
      cases hx : f (E1 x s) st with
      | none => rfl
      | some p => rw [hx] at h1; cases h1
    | some c =>
      rw [hs] at h1
      cases hx : f (E1 x s) st with
      | none => rw [hx] at h1; cases h1
      | some p =>
        rw [hx] at h1
        obtain ⟨q, e1, s1⟩ := p
        have h1 := Option.some.inj h1
        cases c with
        | nx s' =>
          have h1 : nrm false (q, e1, s1) = (Out.nx, E s', st) := h1
          cases q with
          | nx =>
            have h1 : (Out.nx, e1, s1) = (Out.nx, E s', st) := h1
            cases h1
            exact forT_ev ho hf xs s'
          | rt r => cases h1
          | bk => cases h1
          | ct => cases h1
        | rt r =>
          have h1 : nrm false (q, e1, s1) = (Out.rt (k.r (en r)), [], st) := h1
          cases q with
          | nx => cases h1
          | rt r' =>
            show some (nrm false (.rt r', e1, s1)) = _
            rw [h1]; rfl
          | bk => cases h1
          | ct => cases h1
/-- a statement that goes on with a state or hands back -/
def Rc [En ρ] (k : Kx) (E : σ → List Kn.Slot) (f : SemS) (env : List Kn.Slot) (st : Sto) (t : Option (Ct ρ σ)) : Prop := (f env st).map (nrm false) = t.map (encC k E st)
theorem rc_for [En ρ] {it : SemI} {o : SemG} {E : σ → List Kn.Slot} {E1 : α → σ → List Kn.Slot} {step : α → σ → Option (Ct ρ σ)} {s0 : σ} {tl : Option (List α)} (hi : EvI it env st tl) (he : env = E s0) (ho : ∀ x s, o (en x) (E s) = some (E1 x s)) (hf : ∀ x s, Ru false (encC k E st) f (E1 x s) st (step x s)) :
    Rc k E (sFor it o f) env st (tl.bind fun l => forT step l s0) := by
  unfold EvI at hi; unfold Rc
  rw [x_for, hi]
  cases tl with
  | none => rfl
  | some l =>
    show (forL o f (l.map en) env st).map _ = _
    rw [he]
    exact forT_ev ho hf l s0
theorem rc_forp [En ρ] {it : SemI} {o : SemG} {E : σ → List Kn.Slot} {E1 : α → σ → List Kn.Slot} {step : α → σ → Option (Ct ρ σ)} {s0 : σ} {l : List α} (hi : EvI it env st (some l)) (he : env = E s0) (ho : ∀ x s, o (en x) (E s) = some (E1 x s)) (hf : ∀ x s, Ru false (encC k E st) f (E1 x s) st (step x s)) :
    Rc k E (sFor it o f) env st (forT step l s0) := rc_for hi he ho hf
theorem rc_of [En ρ] {E : σ → List Kn.Slot} {t : Option (Ct ρ σ)} (h : Ru false (encC k E st) (sSeq f sNil) env st t) : Rc k E f env st t := by
  unfold Ru at h; unfold Rc
  rw [← h, x_seq]
  cases f env st with
  | none => rfl
  | some p => obtain ⟨o, e', st'⟩ := p; cases o <;> rfl
theorem nrm_rt {fn : Bool} {p : Outs} {r : Kn.R} {st' : Sto} (h : nrm false p = (.rt r, [], st')) : nrm fn p = (.rt r, [], st') ∧ ∃ r0 e0, p = (.rt r0, e0, st') := by
  obtain ⟨o, e, s⟩ := p
  cases o with
  | nx => cases h
  | bk => cases h
  | ct => cases h
  | rt r0 =>
    have h : (Out.rt r0.outR, [], s) = ((.rt r, [], st') : Outs) := h
    have := (Prod.mk.inj (Prod.mk.inj h).2).2
    subst this
    exact ⟨h, r0, e, rfl⟩
theorem nrm_nx {p : Outs} {e1 : List Kn.Slot} {st' : Sto} (h : nrm false p = (.nx, e1, st')) : p = (.nx, e1, st') := by
  obtain ⟨o, e, s⟩ := p
  cases o with
  | nx => exact h
  | bk => cases h
  | ct => cases h
  | rt r0 => cases h
theorem ru_joinc [En ρ] {E : σ → List Kn.Slot} {t1 : Option (Ct ρ σ)} {T : σ → Option τ} {F : ρ → τ} (h1 : Rc k E f env st t1) (hF : ∀ r, enc (F r) = (.rt (k.r (en r)), [], st)) (h2 : ∀ s, Ru fn enc g (E s) st (T s)) : Ru fn enc (sSeq f g) env st (t1.bind fun c => c.go T fun r => some (F r)) := by
  unfold Rc at h1
  unfold Ru
  rw [x_seq]
  cases hf : f env st with
  | none =>
    rw [hf] at h1
    cases t1 with
    | none => rfl
    | some c => cases h1
  | some p =>
    rw [hf] at h1
    cases t1 with
    | none => cases h1
    | some c =>
      have h1 := Option.some.inj h1
      cases c with
      | nx s =>
        have := nrm_nx h1
        subst this
        exact h2 s
      | rt r =>
        obtain ⟨h3, r0, e0, rfl⟩ := nrm_rt (fn := fn) h1
        show some (nrm fn (.rt r0, e0, st)) = some (enc (F r))
        rw [h3, hF]
/-- while -/
def whT (c : σ → Option Bool) (step : σ → Option σ) : Nat → σ → Option σ
  | 0, _ => none
  | n + 1, s => (c s).bind fun b => if b = true then (step s).bind fun s' => whT c step n s' else some s
/-! what is one's own is changed -/
def appG (l : List α) (x : α) : Option (List α) := if l.length < sizeLine then some (l ++ [x]) else none
theorem mutp {m m' : List α} {fm : List D → List D → Option (List D)} {l : List α} (he : env[i]? = some (.ow (en l))) (ha : EvAp as env st ds) (hm : fm ds (l.map en) = some (m'.map en)) (hr : Ru fn enc g (env.set i (.ow (en m'))) st t) : Ru fn enc (sSeq (sMut i fm as) g) env st t := by
  unfold EvAp at ha; unfold Ru at hr ⊢
  have : sSeq (sMut i fm as) g env st = g (env.set i (.ow (en m'))) st := by
    rw [x_seq, x_mut, ha]
    show (((valsR (ds.map .sh)).bind _).bind _) = _
    rw [vals_sh]
    show ((match env[i]? with | some (.ow (.lst es)) => (fm ds es).map fun ds' => (Out.nx, env.set i (.ow (.lst ds')), st) | _ => none).bind _) = _
    rw [he]
    show (((fm ds (l.map en)).map fun ds' => (Out.nx, env.set i (.ow (.lst ds')), st)).bind _) = _
    rw [hm]; rfl
  rw [this]; exact hr
theorem mutn {fm : List D → List D → Option (List D)} {l : List α} (he : env[i]? = some (.ow (en l))) (ha : EvAp as env st ds) (hm : fm ds (l.map en) = none) : Ru fn enc (sSeq (sMut i fm as) g) env st none := by
  unfold EvAp at ha; unfold Ru
  rw [x_seq, x_mut, ha]
  show (((((valsR (ds.map .sh)).bind _).bind _) : Option Outs).map _) = _
  rw [vals_sh]
  show (((match env[i]? with | some (.ow (.lst es)) => (fm ds es).map fun ds' => (Out.nx, env.set i (.ow (.lst ds')), st) | _ => none).bind _ : Option Outs).map _) = _
  rw [he]
  show ((((fm ds (l.map en)).map fun ds' => (Out.nx, env.set i (.ow (.lst ds')), st)).bind _ : Option Outs).map _) = _
  rw [hm]; rfl
theorem ru_mut {fm : List D → List D → Option (List D)} {l : List α} {T : List α → Option τ} {m : Option (List α)} (he : env[i]? = some (.ow (en l))) (ha : EvAp as env st ds) (hm : fm ds (l.map en) = m.map fun m' => m'.map en) (hr : ∀ m', Ru fn enc g (env.set i (.ow (en m'))) st (T m')) : Ru fn enc (sSeq (sMut i fm as) g) env st (m.bind T) := by
  cases m with
  | none => exact mutn he ha hm
  | some m' => exact mutp (m := m') he ha hm (hr m')
theorem app_en (l : List α) (x : α) : fApp [en x] (l.map en) = (appG l x).map fun m' => m'.map en := by
  unfold appG
  rw [x_app, List.length_map]
  split <;> simp
theorem ru_appp {l : List α} {T : List α → Option τ} (he : env[i]? = some (.ow (en l))) (ha : Ev k a env st (some x)) (hk : k.ok = true) (hr : ∀ m', Ru fn enc g (env.set i (.ow (en m'))) st (T m')) : Ru fn enc (sSeq (sMut i fApp (aCons a aNil)) g) env st ((appG l x).bind T) := ru_mut he (ea_p ha hk ea_nil) (app_en l x) hr
theorem ru_appx {l : List α} {T : List α → Option τ} (he : env[i]? = some (.ow (en l))) (ha : Ev k a env st tx) (hk : k.ok = true) (hr : ∀ m', Ru fn enc g (env.set i (.ow (en m'))) st (T m')) : Ru fn enc (sSeq (sMut i fApp (aCons a aNil)) g) env st (tx.bind fun x => (appG l x).bind T) := by
  cases tx with
  | none =>
    have := ea_xp ha hk (ea_nil (env := env) (st := st))
    unfold EvA at this
    unfold Ru
    rw [x_seq, x_mut, this]; rfl
  | some x => exact ru_appp he ha hk hr
/-! rows of one's own -/
/-! a def by its body -/
def encF [En ρ] (k : Kx) (st : Sto) : ρ → Outs := fun r => (.rt (k.r (en r)), [], st)
theorem ev_fn [En ρ] {m : Nat} {b : SemS} {t : Option ρ} (h : Ru true (encF k st) b (ds.map .sh ++ List.replicate (m - ds.length) .no) st t) : runB m b ds st = t.map fun r => (k.r (en r), st) := by
  unfold Ru at h
  unfold runB
  cases hb : b (ds.map .sh ++ List.replicate (m - ds.length) .no) st with
  | none =>
    rw [hb] at h
    cases t with
    | none => rfl
    | some r => cases h
  | some p =>
    rw [hb] at h
    cases t with
    | none => cases h
    | some r =>
      have h := Option.some.inj h
      obtain ⟨o, e, s⟩ := p
      cases o with
      | nx =>
        have h : (Out.rt (.sh .non), [], s) = ((.rt (k.r (en r)), [], st) : Outs) := h
        injection h with h1 h2
        injection h2 with h2 h3
        injection h1 with h1
        show some (Kn.R.sh .non, s) = some (k.r (en r), st)
        rw [h1, h3]
      | rt r0 =>
        have h : (Out.rt r0.outR, [], s) = ((.rt (k.r (en r)), [], st) : Outs) := h
        injection h with h1 h2
        injection h2 with h2 h3
        injection h1 with h1
        show some (r0.outR, s) = some (k.r (en r), st)
        rw [h1, h3]
      | bk => cases h
      | ct => cases h
end
end Kn
namespace Kn
open PySem L2
/-! ### typed operations -/
open En
section
variable {α β γ δ ε σ ρ τ : Type} [En α] [En β] [En γ] [En δ] [En ε]
variable {k k1 k2 k3 : Kx} {env env' : List Kn.Slot} {st : Sto} {e a b c : Sem} {i j n : Nat} {x x' : α} {y : β} {tx : Option α} {ty : Option β}
theorem o2_add : Op2 (α := Int) (β := Int) .sh fAdd fun i j => some (i + j) := fun _ _ => rfl
theorem o2_I (g : Int → Int → Option Int) : Op2 (α := Int) (β := Int) .sh (fI g) fun i j => g i j := fun _ _ => rfl
theorem o2_div : Op2 (α := Int) (β := Int) .sh (fI gDiv) fun i j => gDiv i j := o2_I _
theorem o2_mod : Op2 (α := Int) (β := Int) .sh (fI gMod) fun i j => gMod i j := o2_I _
theorem o2_pow : Op2 (α := Int) (β := Int) .sh (fI gPow) fun i j => gPow i j := o2_I _
theorem o2_C (g : Int → Int → Bool) : Op2 (α := Int) (β := Int) .sh (fC g) fun i j => some (g i j) := fun _ _ => rfl
theorem o2_lt : Op2 (α := Int) (β := Int) .sh fLt fun i j => some (decide (i < j)) := o2_C _
theorem o2_le : Op2 (α := Int) (β := Int) .sh fLe fun i j => some (decide (i ≤ j)) := o2_C _
/-- division and rest by a small written number -/
theorem ev_divc {v c : Int} (h0 : 0 < c) (h1 : c ≤ 2 ^ 40) (ha : Ev k a env st (some v)) : Ev .sh (e2 (fI gDiv) a (eC (.int c))) env st (some (v / c)) := by
  have := ev_2pp o2_div ha (ev_int c)
  rwa [gDiv_of h0 (Int.lt_of_le_of_lt h1 (by
    have e : (2 : Int) ^ 8000 = ((2 ^ 8000 : Nat) : Int) := (Int.natCast_pow 2 8000).symm
    have : 2 ^ 41 ≤ 2 ^ 8000 := Nat.pow_le_pow_right (by decide) (by decide)
    rw [e]
    generalize 2 ^ 8000 = z at this
    omega))] at this
theorem ev_modc {v c : Int} (h0 : 0 < c) (ha : Ev k a env st (some v)) : Ev .sh (e2 (fI gMod) a (eC (.int c))) env st (some (v % c)) := by
  have := ev_2pp o2_mod ha (ev_int c)
  rwa [show gMod v c = some (v % c) from if_pos h0] at this
/-! lists -/
def catG (l m : List α) : Option (List α) := if l.length + m.length ≤ sizeLine then some (l ++ m) else none
theorem catG_of {l m : List α} (h : l.length + m.length ≤ 1000) : catG l m = some (l ++ m) := if_pos (x_sz h)
theorem o2_cat : Op2 (α := List α) (β := List α) .ow fAdd fun l m => catG l m := fun l m => by
  show (if (l.map en).length + (m.map en).length ≤ sizeLine then some (Kn.R.ow (.lst (l.map en ++ m.map en))) else none) = (catG l m).map fun c => Kx.ow.r (en c)
  unfold catG
  rw [List.length_map, List.length_map, ← List.map_append]
  split <;> rfl
theorem o1_len : Op1 (α := List α) .sh fLen fun l => some (l.length : Int) := fun l => by
  show some (Kn.R.sh (.int ((l.map en).length : Nat))) = _
  rw [List.length_map]; rfl
theorem o1_lens : Op1 (α := Scr) .sh fLen fun l => some (l.l.length : Int) := fun l => rfl
theorem o2_idx : Op2 (α := List α) (β := Int) .sh fIdx fun l i => atI l i := fun l i => by
  show (atI (l.map en) i).map Kn.R.sh = _
  rw [atI_map, Option.map_map]; rfl
theorem o2_idxs : Op2 (α := Scr) (β := Int) .sh fIdx fun l i => atI l.l i := fun l i => rfl
theorem ev_prj {v : γ} {w : α} {i : Int} (h : fIdx (en w) (.int i) = some (.sh (en v))) (ha : Ev k a env st (some w)) : Ev .sh (e2 fIdx a (eC (.int i))) env st (some v) := by
  unfold Ev at ha ⊢
  rw [x_e2, ha]
  show ((fIdx (k.r (en w)).d (.int i)).map fun r => (r, st)) = _
  rw [Kx.rd, h]; rfl
theorem ev_prjx {F : α → γ} {i : Int} (h : ∀ w, fIdx (en w) (.int i) = some (.sh (en (F w)))) (ha : Ev k a env st tx) : Ev .sh (e2 fIdx a (eC (.int i))) env st (tx.bind fun w => some (F w)) := by
  cases tx with
  | none => unfold Ev at ha ⊢; rw [x_e2, ha]; rfl
  | some w => exact ev_prj (h w) ha
section
variable {w1 : Tp1 α} {w2 : Tp2 α β} {w3 : Tp3 α β γ} {w4 : Tp4 α β γ δ} {w5 : Tp5 α β γ δ ε} {h2 : Hl2 α β} {h3 : Hl3 α β γ}
theorem pj3_0 : fIdx (en w3) (.int 0) = some (.sh (en w3.x0)) := by
  show (atI [en w3.x0, en w3.x1, en w3.x2] 0).map Kn.R.sh = _
  rw [x_at0]; rfl
end
/-! slices -/
def EvP (p : SemP) (env : List Kn.Slot) (st : Sto) (t : Option (Option Int)) : Prop := p env st = t.map fun o => (o, st)
theorem ep_no : EvP pNo env st (some none) := rfl
theorem ep_some {t : Option Int} (ha : Ev k a env st t) : EvP (pSome a) env st (t.bind fun v => some (some v)) := by
  unfold Ev at ha; unfold EvP
  rw [x_psome, ha]
  cases t with
  | none => rfl
  | some v =>
    show (match (k.r (.int v)).d with | .int i => some (some i, st) | _ => none) = _
    rw [Kx.rd]; rfl
theorem ep_p {v : Int} (ha : Ev k a env st (some v)) : EvP (pSome a) env st (some (some v)) := ep_some ha
theorem ev_slcx {t : Option (List α)} {lo hi : SemP} {tl th : Option (Option Int)} (ha : Ev k a env st t) (hl : EvP lo env st tl) (hh : EvP hi env st th) : Ev .ow (eSlc a lo hi) env st (t.bind fun l => tl.bind fun u => th.bind fun v => some (cutG l u v)) := by
  unfold Ev at ha; unfold EvP at hl hh; unfold Ev
  rw [x_slc, ha]
  cases t with
  | none => rfl
  | some l =>
    show ((lo env st).bind _) = _
    rw [hl]
    cases tl with
    | none => rfl
    | some u =>
      show ((hi env st).bind _) = _
      rw [hh]
      cases th with
      | none => rfl
      | some v =>
        show ((fSlc (k.r (.lst (l.map en))).d u v).map fun r => (r, st)) = _
        rw [Kx.rd, x_slc1, cutG_map]; rfl
theorem ev_slcp {l : List α} {lo hi : SemP} {u v : Option Int} (ha : Ev k a env st (some l)) (hl : EvP lo env st (some u)) (hh : EvP hi env st (some v)) : Ev .ow (eSlc a lo hi) env st (some (cutG l u v)) := ev_slcx ha hl hh
theorem ev_slcs {l : Scr} {lo hi : SemP} {u v : Option Int} (ha : Ev k a env st (some l)) (hl : EvP lo env st (some u)) (hh : EvP hi env st (some v)) : Ev .ow (eSlc a lo hi) env st (some (cutG l.l u v)) := by
  unfold Ev at ha; unfold EvP at hl hh; unfold Ev
  rw [x_slc, ha]
  show ((lo env st).bind _) = _
  rw [hl]
  show ((hi env st).bind _) = _
  rw [hh]
  show ((fSlc (k.r (.scr l.l)).d u v).map fun r => (r, st)) = _
  rw [Kx.rd]; rfl
/-! all, any, sum, least, greatest -/
/-! None -/
/-! kinds -/
end
/-! equality -/
class EnE (α : Type) [En α] where
  dep : Nat
  pn : ∀ a : α, (En.en a).Pn dep
  inj : ∀ a b : α, En.en a = En.en b → a = b
section
open En
variable {α β γ δ ε : Type} [En α] [En β] [En γ] [En δ] [En ε] [EnE α] [EnE β] [EnE γ] [EnE δ] [EnE ε]
instance : EnE Int := ⟨0, fun i => Pn_int i, fun a b h => D.int.inj h⟩
theorem map_en_inj : ∀ {l m : List α}, l.map en = m.map en → l = m
  | [], [], _ => rfl
  | [], _ :: _, h => by cases h
  | _ :: _, [], h => by cases h
  | x :: xs, y :: ys, h => by
    rw [List.map_cons, List.map_cons, List.cons.injEq] at h
    rw [EnE.inj _ _ h.1, map_en_inj h.2]
instance : EnE (List α) := ⟨EnE.dep α + 1, fun l => Pn_lst fun d hd => by obtain ⟨a, _, rfl⟩ := List.mem_map.mp hd; exact EnE.pn a, fun a b h => map_en_inj (D.lst.inj h)⟩
class EnN (α : Type) [En α] : Prop where
  nn : ∀ a : α, En.en a ≠ .non
instance : EnN Int := ⟨fun _ h => nomatch h⟩
instance {α : Type} [En α] : EnN (List α) := ⟨fun _ h => nomatch h⟩
instance {α β : Type} [En α] [En β] : EnN (Tp2 α β) := ⟨fun _ h => nomatch h⟩
instance {α β γ : Type} [En α] [En β] [En γ] : EnN (Tp3 α β γ) := ⟨fun _ h => nomatch h⟩
instance {α β γ δ : Type} [En α] [En β] [En γ] [En δ] : EnN (Tp4 α β γ δ) := ⟨fun _ h => nomatch h⟩
instance [EnN α] : EnE (Option α) := ⟨EnE.dep α, fun o => by cases o with | none => exact Pn_non | some a => exact EnE.pn a, fun a b h => by
  cases a with
  | none => cases b with
    | none => rfl
    | some b => exact (EnN.nn b h.symm).elim
  | some a => cases b with
    | none => exact (EnN.nn a h).elim
    | some b => exact congrArg some (EnE.inj a b h)⟩
instance : EnE (Tp2 α β) := ⟨max (EnE.dep α) (EnE.dep β) + 1, fun p => Pn_tup fun d hd => by
    simp only [List.mem_cons, List.not_mem_nil, or_false] at hd
    rcases hd with rfl | rfl
    · exact Pn_mono (EnE.pn _) (by omega)
    · exact Pn_mono (EnE.pn _) (by omega),
  fun a b h => by
    have h := D.tup.inj h
    simp only [List.cons.injEq, and_true] at h
    cases a; cases b
    have e0 := EnE.inj _ _ h.1
    have e1 := EnE.inj _ _ h.2
    dsimp only at e0 e1
    subst e0 e1
    rfl⟩
instance : EnE (Tp3 α β γ) := ⟨EnE.dep α + EnE.dep β + EnE.dep γ + 1, fun p => Pn_tup fun d hd => by
    simp only [List.mem_cons, List.not_mem_nil, or_false] at hd
    rcases hd with rfl | rfl | rfl
    · exact Pn_mono (EnE.pn _) (by omega)
    · exact Pn_mono (EnE.pn _) (by omega)
    · exact Pn_mono (EnE.pn _) (by omega),
  fun a b h => by
    have h := D.tup.inj h
    simp only [List.cons.injEq, and_true] at h
    cases a; cases b
    have e0 := EnE.inj _ _ h.1
    have e1 := EnE.inj _ _ h.2.1
    have e2 := EnE.inj _ _ h.2.2
    dsimp only at e0 e1 e2
    subst e0 e1 e2
    rfl⟩
instance : EnE (Tp4 α β γ δ) := ⟨EnE.dep α + EnE.dep β + EnE.dep γ + EnE.dep δ + 1, fun p => Pn_tup fun d hd => by
    simp only [List.mem_cons, List.not_mem_nil, or_false] at hd
    rcases hd with rfl | rfl | rfl | rfl
    · exact Pn_mono (EnE.pn _) (by omega)
    · exact Pn_mono (EnE.pn _) (by omega)
    · exact Pn_mono (EnE.pn _) (by omega)
    · exact Pn_mono (EnE.pn _) (by omega),
  fun a b h => by
    have h := D.tup.inj h
    simp only [List.cons.injEq, and_true] at h
    cases a; cases b
    have e0 := EnE.inj _ _ h.1
    have e1 := EnE.inj _ _ h.2.1
    have e2 := EnE.inj _ _ h.2.2.1
    have e3 := EnE.inj _ _ h.2.2.2
    dsimp only at e0 e1 e2 e3
    subst e0 e1 e2 e3
    rfl⟩
instance : EnE (Tp5 α β γ δ ε) := ⟨EnE.dep α + EnE.dep β + EnE.dep γ + EnE.dep δ + EnE.dep ε + 1, fun p => Pn_tup fun d hd => by
    simp only [List.mem_cons, List.not_mem_nil, or_false] at hd
    rcases hd with rfl | rfl | rfl | rfl | rfl
    · exact Pn_mono (EnE.pn _) (by omega)
    · exact Pn_mono (EnE.pn _) (by omega)
    · exact Pn_mono (EnE.pn _) (by omega)
    · exact Pn_mono (EnE.pn _) (by omega)
    · exact Pn_mono (EnE.pn _) (by omega),
  fun a b h => by
    have h := D.tup.inj h
    simp only [List.cons.injEq, and_true] at h
    cases a; cases b
    have e0 := EnE.inj _ _ h.1
    have e1 := EnE.inj _ _ h.2.1
    have e2 := EnE.inj _ _ h.2.2.1
    have e3 := EnE.inj _ _ h.2.2.2.1
    have e4 := EnE.inj _ _ h.2.2.2.2
    dsimp only at e0 e1 e2 e3 e4
    subst e0 e1 e2 e3 e4
    rfl⟩
instance : EnE (Hl2 α β) := ⟨max (EnE.dep α) (EnE.dep β) + 1, fun p => Pn_lst fun d hd => by
    simp only [List.mem_cons, List.not_mem_nil, or_false] at hd
    rcases hd with rfl | rfl
    · exact Pn_mono (EnE.pn _) (by omega)
    · exact Pn_mono (EnE.pn _) (by omega),
  fun a b h => by
    have h := D.lst.inj h
    simp only [List.cons.injEq, and_true] at h
    cases a; cases b
    have e0 := EnE.inj _ _ h.1
    have e1 := EnE.inj _ _ h.2
    dsimp only at e0 e1
    subst e0 e1
    rfl⟩
instance : EnE (Hl3 α β γ) := ⟨EnE.dep α + EnE.dep β + EnE.dep γ + 1, fun p => Pn_lst fun d hd => by
    simp only [List.mem_cons, List.not_mem_nil, or_false] at hd
    rcases hd with rfl | rfl | rfl
    · exact Pn_mono (EnE.pn _) (by omega)
    · exact Pn_mono (EnE.pn _) (by omega)
    · exact Pn_mono (EnE.pn _) (by omega),
  fun a b h => by
    have h := D.lst.inj h
    simp only [List.cons.injEq, and_true] at h
    cases a; cases b
    have e0 := EnE.inj _ _ h.1
    have e1 := EnE.inj _ _ h.2.1
    have e2 := EnE.inj _ _ h.2.2
    dsimp only at e0 e1 e2
    subst e0 e1 e2
    rfl⟩
theorem en_eq [DecidableEq α] (a b : α) : (en a).eq (en b) = decide (a = b) := by
  rw [Bool.eq_iff_iff, decide_eq_true_eq]
  exact (eq_pl (EnE.pn a).pl (EnE.pn b).pl).trans ⟨EnE.inj a b, fun h => by rw [h]⟩
theorem en_ok (hd : EnE.dep α ≤ 64) (a : α) : (en a).ok = true := okN_ok (EnE.pn a).ok hd
theorem o2_eq [DecidableEq α] (hd : EnE.dep α ≤ 64) : Op2 (α := α) (β := α) .sh fEq fun a b => some (decide (a = b)) := fun a b => by
  unfold fEq
  rw [en_ok hd a, en_ok hd b, en_eq a b]; rfl
theorem o2_ne [DecidableEq α] (hd : EnE.dep α ≤ 64) : Op2 (α := α) (β := α) .sh fNe fun a b => some (!decide (a = b)) := fun a b => by
  unfold fNe
  rw [en_ok hd a, en_ok hd b, en_eq a b]; rfl
/-! order of rows -/
end
end Kn
namespace Kn
open PySem L2
/-! ### typed readings: what may be nothing, continuations, constructors -/
open En
class EnQ (α : Type) [En α] : Prop where
  q : ∀ a : α, fIsN (En.en a) = some (.sh (.bl false)) ∧ fNotN (En.en a) = some (.sh (.bl true))
section
variable {α β γ δ ε : Type} [En α] [En β] [En γ] [En δ] [En ε]
instance : EnQ Int := ⟨fun _ => ⟨rfl, rfl⟩⟩
instance : EnQ Bool := ⟨fun _ => ⟨rfl, rfl⟩⟩
instance : EnQ (List α) := ⟨fun _ => ⟨rfl, rfl⟩⟩
instance : EnQ (Tp2 α β) := ⟨fun _ => ⟨rfl, rfl⟩⟩
instance : EnQ (Tp3 α β γ) := ⟨fun _ => ⟨rfl, rfl⟩⟩
instance : EnQ (Tp4 α β γ δ) := ⟨fun _ => ⟨rfl, rfl⟩⟩
instance : EnQ (Tp5 α β γ δ ε) := ⟨fun _ => ⟨rfl, rfl⟩⟩
end
section
variable {α β γ δ σ ρ τ : Type} [En α] [En β] [En γ]
variable {k k1 k2 k3 : Kx} {env env' : List Kn.Slot} {st : Sto} {e a b c c2 : Sem} {i j n : Nat} {x x' : α} {y : β} {tx : Option α} {ty : Option β} {as : SemA} {ds : List D}
variable {fn : Bool} {enc : τ → Outs} {f g h s1 : SemS} {t t1 t2 : Option τ} {z : τ}
def Op1t (k : Kx) (f : D → Option R) (G : α → β) : Prop := Op1 k f fun x => some (G x)
def Op2t (k : Kx) (f : D → D → Option R) (G : α → β → γ) : Prop := Op2 k f fun x y => some (G x y)
theorem ev_1tp {f : D → Option R} {G : α → β} (h : Op1t k f G) (ha : Ev k1 a env st (some x)) : Ev k (e1 f a) env st (some (G x)) := ev_1p (F := fun x => some (G x)) h ha
theorem ev_2tpp {g : D → D → Option R} {G : α → β → γ} (h : Op2t k g G) (ha : Ev k1 a env st (some x)) (hb : Ev k2 b env st (some y)) : Ev k (e2 g a b) env st (some (G x y)) := ev_2pp (G := fun x y => some (G x y)) h ha hb
theorem ev_2tpx {g : D → D → Option R} {G : α → β → γ} (h : Op2t k g G) (ha : Ev k1 a env st (some x)) (hb : Ev k2 b env st ty) : Ev k (e2 g a b) env st (ty.bind fun y => some (G x y)) := ev_2xx (G := fun x y => some (G x y)) h ha hb
theorem ev_2txp {g : D → D → Option R} {G : α → β → γ} (h : Op2t k g G) (ha : Ev k1 a env st tx) (hb : Ev k2 b env st (some y)) : Ev k (e2 g a b) env st (tx.bind fun x => some (G x y)) := ev_2xx (G := fun x y => some (G x y)) h ha hb
theorem ru_env (env' : List Kn.Slot) (he : env = env') (hr : Ru fn enc f env' st t) : Ru fn enc f env st t := by rw [he]; exact hr
section
variable {o : Option α} {E : Option α → List Kn.Slot} {T0 : Option τ} {T1 : α → Option τ}
theorem seq_nil (f : SemS) : sSeq f sNil = f := by
  funext env st
  unfold sSeq
  cases f env st with
  | none => rfl
  | some p =>
    obtain ⟨o, e', st'⟩ := p
    cases o <;> rfl
theorem ru_sn (hr : Ru fn enc f env st t) : Ru fn enc (sSeq f sNil) env st t := by rw [seq_nil]; exact hr
end
/-! constructors -/
end
end Kn
namespace Kn
open PySem L2
/-! ### is True; dicts by whole numbers, typed -/
open En
section
variable {X : Cx} {ct : CT} {pos : Pos} {x y : Expr} {a b : Sem}
end
structure Dc (α : Type) where
  l : List (Int × α)
section
variable {α β γ δ σ ρ τ : Type} [En α] [En β] [En γ]
instance : En (Dc α) := ⟨fun d => .dic (d.l.map fun p => (Sum.inl p.1, en p.2))⟩
variable {k k1 k2 k3 : Kx} {env env' : List Kn.Slot} {st : Sto} {e a b c : Sem} {i j n : Nat} {x x' : α} {y : β} {tx : Option α} {ty : Option β} {as : SemA} {ds : List D}
variable {fn : Bool} {enc : τ → Outs} {f g h s1 : SemS} {t t1 t2 : Option τ} {z : τ}
end
/-! calls by what is a name's own, some arguments not plain -/
section
open En
variable {α β γ : Type} [En α] [En β] [En γ] {μ : Type}
variable {k k1 k2 k3 : Kx} {env : List Kn.Slot} {st : Sto} {a : Sem} {n : Nat} {x : α} {tx : Option α} {as : SemA} {ds : List D} {t : Option μ} {dec : μ → List D}
end
end Kn
namespace Kn
open PySem L2
/-! ### the lesser of two tuples -/
section
open PySem.SeqAt PySem.Spec PyProof.Rows
section
variable {prog : Program} {w : World} {A : Around} {R : Result → Shared → Prop} {I S : Addr} {fp wr : List Addr} {P : Nat → Value → Prop} {St : Nat → Heap → Prop}
end
end
section
open PySem.Spec PyProof.Rows
end
section
variable {X : Cx} {ct : CT} {x y : Expr} {a b : Sem} {pos p : Pos}
end
end Kn
namespace Kn
open PySem L2
/-! ### a set of a list's ints, sorted -/
section
open PySem.Spec PyProof.Rows
section
variable {prog : Program} {w : World} {A : Around} {R : Result → Shared → Prop} {I S : Addr} {fp wr : List Addr} {G : Array GenState → Array GenState → Prop} {n : Nat} {P : Nat → Value → Prop} {St : Nat → Shared → Prop}
end
section
variable {w : World} {prog : Program} {A : Around} {s : Shared} {E : Value → Shared → Prop}
end
end
section
open PySem.Spec PyProof.Rows
section
variable {X : Cx} {ct : CT} {x : Expr} {a : Sem} {pos p p2 pos2 : Pos}
end
end
section
open En
end
end Kn
namespace Kn
open PySem L2
/-! ### list(range(a, b)) -/
section
variable {X : Cx} {ct : CT} {x y : Expr} {a b : Sem} {pos p p2 pos2 : Pos}
end
section
open En
end
end Kn
namespace Kn
open PySem L2
/-! ### x.append(y), x rows of one's own, y a name's own list -/
section
variable {X : Cx} {ct : CT} {pos cpos apos npos npos2 : Pos} {n n2 : Str}
end
section
variable {X : Cx} {ct : CT} {sxs : List Stmt} {f : SemS}
end
section
open En
variable {α τ : Type} [En α] {env : List Kn.Slot} {st : Sto} {fn : Bool} {enc : τ → Outs} {f g : SemS} {t : Option τ} {i j : Nat}
end
end Kn
namespace Kn
open PySem L2
/-! ### typed readings: a list of one's own, or nothing -/
open En
section
variable {α β γ σ ρ τ : Type} [En α] [En β] [En γ]
variable {k k1 k2 k3 : Kx} {env env' : List Kn.Slot} {st : Sto} {e a b c : Sem} {i j n : Nat} {x x' : α} {y : β} {tx : Option α} {ty : Option β} {as : SemA} {ds : List D}
variable {fn : Bool} {enc : τ → Outs} {f g h s1 : SemS} {t t1 t2 : Option τ} {z : τ}
end
end Kn
namespace Kn
open PySem L2
/-! ### sorted whole numbers; dicts of one item; items that may be nothing -/
section
variable {X : Cx} {ct : CT} {x : Expr} {a : Sem} {pos p : Pos}
end
open En
section
variable {α β γ σ ρ τ : Type} [En α] [En β] [En γ]
variable {k k1 k2 k3 : Kx} {env env' : List Kn.Slot} {st : Sto} {e a b c : Sem} {i j n : Nat} {x x' : α} {y : β} {tx : Option α} {ty : Option β} {as : SemA} {ds : List D}
variable {fn : Bool} {enc : τ → Outs} {f g h s1 : SemS} {t t1 t2 : Option τ} {z : τ}
end
end Kn
namespace Kn
open PySem L2
/-! ### things that many hold: cells of the store -/
open Classical in
/-- one list, dict or instance -/
def kC : Kd := ⟨fun K ct W F v d => ∃ a, v = .ref a ∧ Cell K ct W F a d, fun ⟨a, e, c⟩ l => ⟨a, e, c.mono l fun _ h => h⟩⟩
open Classical in
noncomputable def lookS (st : Sto) (g : Nat) : Option D := (st[g]?).bind fun p => if p.1 = kC then some p.2 else none
theorem lookS_some {st : Sto} {g : Nat} {d : D} (h : lookS st g = some d) : st[g]? = some (kC, d) := by
  unfold lookS at h
  obtain ⟨⟨κ, c⟩, h1, h2⟩ := bind2 h
  dsimp only at h2
  split at h2
  · rename_i e; cases h2; rw [h1, e]
  · cases h2
theorem lookS_of {st : Sto} {g : Nat} {d : D} (h : st[g]? = some (kC, d)) : lookS st g = some d := by
  unfold lookS; rw [h]; exact if_pos rfl
section
variable {K : PySem.W.Frag} {ct : CT} {F H H' : Hp} {W W' : Wd} {L L' : Addr → Option Lab} {env : List Kn.Slot} {st : Sto} {σ : St} {v : V} {d d' : Kn.D} {r : R} {a p : Addr} {o : HO} {g : Nat}
theorem Rel.cell (I : Rel K ct F W L env st σ H) (h : Rep K ct W v (.hnd g)) (e : lookS st g = some d) : ∃ a, v = .ref a ∧ L a = some (.ob g) ∧ Cell K ct W H a d := by
  obtain ⟨v', h1, a, rfl, c⟩ := I.ob g _ _ (lookS_some e)
  cases h with
  | hnd h2 =>
    rw [h1] at h2; cases h2
    obtain ⟨o, ho⟩ := c.there
    have hl : L a = some (.ob g) := by
      by_cases q : L a = some (.ob g)
      · exact q
      · rw [if_neg q] at ho; cases ho
    exact ⟨a, rfl, hl, c.mono (.refl W) fun o h => by rwa [if_pos hl] at h⟩
/-- what was just made is laid into the store -/
theorem Rel.store (I : Rel K ct F W L env st σ H) (h : RepR K ct F W L H env σ v (.ow d)) : ∃ W' L', W.le W' ∧ Rel K ct F W' L' env (st ++ [(kC, d)]) σ H ∧ Rep K ct W' v (.hnd st.length) := by
  obtain ⟨a, rfl, hl, hw, hf, c⟩ := h
  have fresh : W.rho st.length = none := by
    cases q : W.rho st.length with
    | none => rfl
    | some v => have := I.rh _ _ q; omega
  have le : W.le ⟨W.hs, W.tp, fun g => if g = st.length then some (.ref a) else W.rho g⟩ := ⟨fun _ _ h => h, fun _ _ h => h, fun g v h => by
    show (if g = st.length then some (V.ref a) else W.rho g) = some v
    rw [if_neg (by rintro rfl; rw [fresh] at h; cases h)]; exact h⟩
  have lab : ∀ b, b ≠ a → (if b = a then some (Lab.ob st.length) else L b) = L b := fun b h => if_neg h
  refine ⟨⟨W.hs, W.tp, fun g => if g = st.length then some (.ref a) else W.rho g⟩, fun b => if b = a then some (.ob st.length) else L b, le, ⟨fun b u e => ?_, fun b u e => ?_, I.tp, fun g κ x e => ?_, fun g v e => ?_, I.len, fun j s e => ?_⟩, .hnd (if_pos rfl)⟩
  · obtain ⟨h1, h2, h3⟩ := I.fr b u e
    exact ⟨h1, (lab b (by rintro rfl; rw [hf] at e; cases e)).trans h2, h3⟩
  · obtain ⟨h1, h2⟩ := I.hs b u e
    exact ⟨h1, (lab b (by rintro rfl; rw [hw] at e; cases e)).trans h2⟩
  · by_cases hg : g < st.length
    · rw [List.getElem?_append_left hg] at e
      obtain ⟨v, h1, h2⟩ := I.ob g κ x e
      refine ⟨v, le.rho _ _ h1, ?_⟩
      have q : (fun b => if (if b = a then some (Lab.ob st.length) else L b) = some (.ob g) then H b else none) = fun b => if L b = some (.ob g) then H b else none := by
        funext b
        by_cases hb : b = a
        · subst hb
          rw [if_pos rfl, hl, if_neg (by intro z; cases z; omega), if_neg (fun z => nomatch z)]
        · rw [if_neg hb]
      rw [q]; exact κ.mono h2 le
    · rw [List.getElem?_append_right (by omega)] at e
      have hz : g - st.length = 0 := by
        cases q : g - st.length with
        | zero => rfl
        | succ n => rw [q] at e; cases e
      rw [hz] at e
      cases e
      have : g = st.length := by omega
      subst this
      refine ⟨.ref a, if_pos rfl, a, rfl, c.mono le fun o h => ?_⟩
      show (if (if a = a then some (Lab.ob st.length) else L a) = some (Lab.ob st.length) then H a else none) = some o
      rw [if_pos (if_pos rfl)]; exact h
  · show g < (st ++ [(kC, d)]).length
    rw [List.length_append]
    have e : (if g = st.length then some (V.ref a) else W.rho g) = some v := e
    by_cases q : g = st.length
    · simp; omega
    · rw [if_neg q] at e
      have := I.rh g v e
      simp; omega
  · exact (I.sl j s e).mono le fun b u hb hu => ⟨hu, (lab b (by rintro rfl; rw [hl] at hb; cases hb)).trans hb⟩
end
/-! reading: at the thing itself, or through a handle -/
abbrev Dr := Sto → R → Option D
section
variable {X : Cx} {ct : CT} {pos : Pos} {x y : Expr} {a b c h ix e : Sem} {δ δ1 δ2 : Dr}
/-! a field of one's self while it is made -/
/-! writing through a handle -/
end
end Kn
namespace Kn
open PySem L2
/-! ### methods of things that many hold -/
section
variable {X : Cx} {ct : CT} {pos p apos : Pos} {x y z : Expr} {es : List Expr} {a b c h ix e : Sem} {as : SemA} {δ δ1 δ2 : Dr}
/-! o.m(..), o behind a handle -/
end
end Kn
namespace Kn
open PySem L2
/-! ### going through a thing that many hold -/
section
variable (K : PySem.W.Frag) (ct : CT)
end
theorem ifG {α : Type} {c : Prop} {d : Decidable c} {t : Option α} {w : α} (h : (if c then t else none) = some w) : c ∧ t = some w := by
  split at h
  · exact ⟨by assumption, h⟩
  · cases h
section
variable {X : Cx} {ct : CT} {pos p apos : Pos} {x y z : Expr} {es : List Expr} {a b c h ix e : Sem} {f : SemS} {as : SemA} {δ δ1 δ2 : Dr} {tg : Expr}
/-! lists behind handles -/
end
end Kn
namespace Kn
open PySem L2
/-! ### typed readings: the store -/
open En
structure Hd (τ : Type) where
  g : Nat
  deriving DecidableEq
section
variable {α β γ δ σ ρ τ μ : Type} [En α] [En β] [En γ]
instance {τ : Type} : En (Hd τ) := ⟨fun h => .hnd h.g⟩
open Classical in
noncomputable def getS [En α] (st : Sto) (g : Nat) : Option α := if h : ∃ x : α, lookS st g = some (en x) then some (choose h) else none
noncomputable def putS (st : Sto) (g : Nat) (x : α) : Sto := st.set g (kC, en x)
theorem getS_look {st : Sto} {g : Nat} {x : α} (h : getS st g = some x) : lookS st g = some (en x) := by
  unfold getS at h
  split at h
  · rename_i q
    cases h
    exact Classical.choose_spec q
  · cases h
variable {k k1 k2 k3 : Kx} {env env' : List Kn.Slot} {st : Sto} {e a b c h ix : Sem} {i j n : Nat} {x x' : α} {y : β} {tx : Option α} {ty : Option β} {as : SemA} {ds : List D}
variable {fn : Bool} {enc : τ → Outs} {f g s1 : SemS} {t t1 t2 : Option τ} {z : τ}
/-! reading through a handle -/
/-! what changes the store -/
def Evx (k : Kx) (e : Sem) (env : List Kn.Slot) (st : Sto) (t : Option (α × Sto)) : Prop := e env st = t.map fun p => (k.r (en p.1), p.2)
def EvAX (as : SemA) (env : List Kn.Slot) (st : Sto) (t : Option (μ × Sto)) (dec : μ → List D) : Prop := as env st = t.map fun b => ((dec b.1).map .sh, b.2)
theorem eax_ofx {t : Option μ} {dec : μ → List D} (h : EvA as env st t dec) : EvAX as env st (t.bind fun b => some (b, st)) dec := by
  unfold EvA at h; unfold EvAX
  rw [h]; cases t <;> rfl
section
variable {t : Option (μ × Sto)} {dec : μ → List D} {m : Fn}
theorem evx_callX {F : μ → Sto → Option (γ × Sto)} (ha : EvAX as env st t dec) (h : ∀ b st1, m (dec b) st1 = (F b st1).map fun p => (k.r (en p.1), p.2)) (hl : ∀ b, (dec b).length = n) : Evx k (eCall n m as) env st (t.bind fun b => F b.1 b.2) := by
  unfold EvAX at ha; unfold Evx eCall
  rw [ha]
  cases t with
  | none => rfl
  | some b =>
    show ((valsR ((dec b.1).map .sh)).bind fun ds => if ds.length = n then m ds b.2 else none) = _
    rw [vals_sh]
    show (if (dec b.1).length = n then m (dec b.1) b.2 else none) = _
    rw [if_pos (hl b.1), h]; rfl
end
/-! operations on what changed the store -/
theorem evx_not {t : Option (Bool × Sto)} (ha : Evx .sh a env st t) : Evx .sh (eNot a) env st (t.bind fun p => some (!p.1, p.2)) := by
  unfold Evx at ha ⊢; unfold eNot; rw [ha]; cases t <;> rfl
/-! comprehensions that change the store -/
/-! going through a list behind a handle, nothing changed -/
end
end Kn
namespace Kn
open PySem L2
/-! ### typed readings: statements that change the store -/
open En
section
variable {α β γ δ σ ρ τ μ : Type} [En α] [En β] [En γ]
variable {k k1 k2 k3 : Kx} {env env' : List Kn.Slot} {st : Sto} {e a b c h ix : Sem} {i j n : Nat} {x x' : α} {y : β} {tx : Option α} {ty : Option β} {as : SemA} {ds : List D}
variable {fn : Bool} {enc : τ → Outs} {f g s1 : SemS} {t1 t2 : Option τ} {z : τ}
theorem ru_ifX {c : Sem} {t : Option (Bool × Sto)} {T1 T2 : Sto → Option τ} (hc : Evx .sh c env st t) (h1 : ∀ st1, Ru fn enc (sSeq f s1) env st1 (T1 st1)) (h2 : ∀ st1, Ru fn enc (sSeq g s1) env st1 (T2 st1)) : Ru fn enc (sSeq (sIf c f g) s1) env st (t.bind fun p => if p.1 = true then T1 p.2 else T2 p.2) := by
  unfold Evx at hc
  cases t with
  | none => unfold Ru; rw [x_seq, x_if, hc]; rfl
  | some p =>
    obtain ⟨v, st1⟩ := p
    have h1 := h1 st1
    have h2 := h2 st1
    unfold Ru at h1 h2 ⊢
    rw [x_seq, x_if, hc]
    cases v with
    | true => exact h1
    | false => exact h2
/-! a statement that goes on with a state and a store -/
def encN (E : σ → List Kn.Slot) : σ × Sto → Outs := fun p => (.nx, E p.1, p.2)
def RnX (E : σ → List Kn.Slot) (f : SemS) (env : List Kn.Slot) (st : Sto) (t : Option (σ × Sto)) : Prop := f env st = t.map (encN E)
theorem rnx_of {E : σ → List Kn.Slot} {t : Option (σ × Sto)} (h : Ru false (encN E) (sSeq f sNil) env st t) : RnX E f env st t := by
  unfold Ru at h; unfold RnX
  rw [seq_nil] at h
  cases hf : f env st with
  | none =>
    rw [hf] at h
    cases t with
    | none => rfl
    | some s => cases h
  | some p =>
    rw [hf] at h
    cases t with
    | none => cases h
    | some s =>
      have := nrm_nx (Option.some.inj h)
      rw [this]; rfl
theorem ru_joinX {E : σ → List Kn.Slot} {t1 : Option (σ × Sto)} {T : σ → Sto → Option τ} (h1 : RnX E f env st t1) (h2 : ∀ s st1, Ru fn enc g (E s) st1 (T s st1)) : Ru fn enc (sSeq f g) env st (t1.bind fun p => T p.1 p.2) := by
  unfold RnX at h1
  cases t1 with
  | none => unfold Ru; rw [x_seq, h1]; rfl
  | some p =>
    have h2 := h2 p.1 p.2
    unfold Ru at h2 ⊢
    have : sSeq f g env st = g (E p.1) p.2 := by rw [x_seq, h1]; rfl
    rw [this]; exact h2
/-- a loop that may hand back -/
def encCX [En ρ] (k : Kx) (E : σ → List Kn.Slot) : Ct (ρ × Sto) (σ × Sto) → Outs
  | .nx p => (.nx, E p.1, p.2)
  | .rt r => (.rt (k.r (en r.1)), [], r.2)
theorem forTX_ev [En ρ] {E : σ → List Kn.Slot} {o : SemG} {E1 : α → σ → List Kn.Slot} {step : α → σ → Sto → Option (Ct (ρ × Sto) (σ × Sto))} (ho : ∀ x s, o (en x) (E s) = some (E1 x s)) (hf : ∀ x s st, Ru false (encCX k E) f (E1 x s) st (step x s st)) : ∀ (l : List α) (s : σ) (st : Sto),
    (forL o f (l.map en) (E s) st).map (nrm false) = (forT (fun x p => step x p.1 p.2) l (s, st)).map (encCX k E)
  | [], s, st => rfl
  | x :: xs, s, st => by
    have h1 := hf x s st
    unfold Ru at h1
    rw [List.map_cons, forL, ho x s, forT]
    show (((f (E1 x s) st).bind _).map _) = _
    cases hs : step x s st with
    | none =>
      rw [hs] at h1
      cases hx : f (E1 x s) st with
      | none => rfl
      | some p => rw [hx] at h1; cases h1
    | some c =>
      rw [hs] at h1
      cases hx : f (E1 x s) st with
      | none => rw [hx] at h1; cases h1
      | some p =>
        rw [hx] at h1
        cases c with
        | nx s' =>
          have h1 := nrm_nx (Option.some.inj h1)
          subst h1
          exact forTX_ev ho hf xs s'.1 s'.2
        | rt r =>
          obtain ⟨h3, r0, e0, rfl⟩ := nrm_rt (fn := false) (Option.some.inj h1)
          show some (nrm false (.rt r0, e0, r.2)) = _
          rw [h3]; rfl
def RcX [En ρ] (k : Kx) (E : σ → List Kn.Slot) (f : SemS) (env : List Kn.Slot) (st : Sto) (t : Option (Ct (ρ × Sto) (σ × Sto))) : Prop := (f env st).map (nrm false) = t.map (encCX k E)
theorem rcx_for [En ρ] {it : SemI} {o : SemG} {E : σ → List Kn.Slot} {E1 : α → σ → List Kn.Slot} {step : α → σ → Sto → Option (Ct (ρ × Sto) (σ × Sto))} {s0 : σ} {tl : Option (List α)} (hi : EvI it env st tl) (he : env = E s0) (ho : ∀ x s, o (en x) (E s) = some (E1 x s)) (hf : ∀ x s st, Ru false (encCX k E) f (E1 x s) st (step x s st)) :
    RcX k E (sFor it o f) env st (tl.bind fun l => forT (fun x p => step x p.1 p.2) l (s0, st)) := by
  unfold EvI at hi; unfold RcX
  rw [x_for, hi]
  cases tl with
  | none => rfl
  | some l =>
    show (forL o f (l.map en) env st).map _ = _
    rw [he]
    exact forTX_ev ho hf l s0 st
theorem ru_joincX [En ρ] {E : σ → List Kn.Slot} {t1 : Option (Ct (ρ × Sto) (σ × Sto))} {T : σ → Sto → Option τ} {F : ρ × Sto → τ} (h1 : RcX k E f env st t1) (hF : ∀ r, enc (F r) = (.rt (k.r (en r.1)), [], r.2)) (h2 : ∀ s st1, Ru fn enc g (E s) st1 (T s st1)) : Ru fn enc (sSeq f g) env st (t1.bind fun c => c.go (fun p => T p.1 p.2) fun r => some (F r)) := by
  unfold RcX at h1
  unfold Ru
  rw [x_seq]
  cases hf : f env st with
  | none =>
    rw [hf] at h1
    cases t1 with
    | none => rfl
    | some c => cases h1
  | some p =>
    rw [hf] at h1
    cases t1 with
    | none => cases h1
    | some c =>
      have h1 := Option.some.inj h1
      cases c with
      | nx s =>
        have := nrm_nx h1
        subst this
        exact h2 s.1 s.2
      | rt r =>
        obtain ⟨h3, r0, e0, rfl⟩ := nrm_rt (fn := fn) h1
        show some (nrm fn (.rt r0, e0, r.2)) = some (enc (F r))
        rw [h3, hF]
/-! defs -/
def encFS [En ρ] (k : Kx) : ρ × Sto → Outs := fun p => (.rt (k.r (en p.1)), [], p.2)
theorem ev_fnS [En ρ] {m : Nat} {b : SemS} {t : Option (ρ × Sto)} (h : Ru true (encFS k) b (ds.map .sh ++ List.replicate (m - ds.length) .no) st t) : runB m b ds st = t.map fun p => (k.r (en p.1), p.2) := by
  unfold Ru at h
  unfold runB
  cases hb : b (ds.map .sh ++ List.replicate (m - ds.length) .no) st with
  | none =>
    rw [hb] at h
    cases t with
    | none => rfl
    | some r => cases h
  | some p =>
    rw [hb] at h
    cases t with
    | none => cases h
    | some r =>
      have h := Option.some.inj h
      obtain ⟨o, e, s⟩ := p
      cases o with
      | nx =>
        have h : (Out.rt (.sh .non), [], s) = ((.rt (k.r (en r.1)), [], r.2) : Outs) := h
        injection h with h1 h2
        injection h2 with h2 h3
        injection h1 with h1
        show some (Kn.R.sh .non, s) = some (k.r (en r.1), r.2)
        rw [h1, h3]
      | rt r0 =>
        have h : (Out.rt r0.outR, [], s) = ((.rt (k.r (en r.1)), [], r.2) : Outs) := h
        injection h with h1 h2
        injection h2 with h2 h3
        injection h1 with h1
        show some (r0.outR, s) = some (k.r (en r.1), r.2)
        rw [h1, h3]
      | bk => cases h
      | ct => cases h
/-! writing through a handle -/
end
end Kn
namespace Kn
open PySem L2
/-! ### typed readings: the store, once more -/
open En
section
variable {X : Cx} {ct : CT} {pos p : Pos} {x : Expr} {a : Sem} {δ : Dr}
end
section
variable {α β γ δ σ ρ τ μ : Type} [En α] [En β] [En γ]
variable {k k1 k2 k3 : Kx} {env env' : List Kn.Slot} {st : Sto} {e a b c h ix : Sem} {i j n : Nat} {x x' : α} {y : β} {tx : Option α} {ty : Option β} {as : SemA} {ds : List D}
section
variable {t : Option (μ × Sto)} {dec : μ → List D} {m : Fn}
end
/-- a chain of tests, the last thing not plain -/
theorem ev_chainz {f g : D → D → Option R} {F : α → β → Bool} {G : β → γ → Bool} {tz : Option γ} (hf : Op2 .sh f fun x y => some (F x y)) (hg : Op2 .sh g fun x y => some (G x y)) (ha : Ev k1 a env st (some x)) (hb : Ev k2 b env st (some y)) (hc : Ev k3 c env st tz) : Ev .sh (eChain f g a b c) env st (if F x y = true then tz.bind fun z => some (G y z) else some false) := by
  unfold Ev at ha hb hc ⊢
  rw [x_chain, ha]
  show ((b env st).bind fun q => (f (k1.r (en x)).d q.1.d).bind fun r => match r with
    | .sh (.bl true) => (c env q.2).bind fun u => (g q.1.d u.1.d).map fun r => (r, u.2)
    | .sh (.bl false) => some (.sh (.bl false), q.2)
    | _ => none) = _
  rw [hb]
  show ((f (k1.r (en x)).d (k2.r (en y)).d).bind fun r => match r with
    | .sh (.bl true) => (c env st).bind fun u => (g (k2.r (en y)).d u.1.d).map fun r => (r, u.2)
    | .sh (.bl false) => some (.sh (.bl false), st)
    | _ => none) = _
  rw [Kx.rd, Kx.rd, hf x y]
  show ((some (Kn.R.sh (.bl (F x y)))).bind fun r => match r with
    | .sh (.bl true) => (c env st).bind fun u => (g (en y) u.1.d).map fun r => (r, u.2)
    | .sh (.bl false) => some (.sh (.bl false), st)
    | _ => none) = _
  cases F x y with
  | false => rfl
  | true =>
    show ((c env st).bind fun u => (g (en y) u.1.d).map fun r => (r, u.2)) = _
    rw [hc]
    cases tz with
    | none => rfl
    | some z =>
      show ((g (en y) (k3.r (en z)).d).map fun r => (r, st)) = _
      rw [Kx.rd, hg y z]; rfl
/-! truths in lists -/
theorem ok_bls (l : List Bool) : (D.lst (l.map D.bl)).ok = true := okN_ok (okN_lst (k := 0) fun d hd => by
  obtain ⟨b, _, rfl⟩ := List.mem_map.mp hd
  exact ⟨rfl, Nat.le_refl _⟩) (by decide)
theorem inB_bl (x : Bool) (l : List Bool) : fInB (en x) (en l) = some (decide (x ∈ l)) := by
  show (if (D.bl x).ok = true ∧ (D.lst (l.map D.bl)).ok = true then some ((l.map D.bl).any fun z => z.eq (.bl x)) else none) = _
  rw [if_pos ⟨rfl, ok_bls l⟩]
  congr 1
  rw [List.any_map, Bool.eq_iff_iff, List.any_eq_true, decide_eq_true_eq]
  constructor
  · rintro ⟨k, hk, e⟩
    have e : (D.bl k).eq (.bl x) = true := e
    rw [eq_bl] at e
    rw [← of_decide_eq_true e]; exact hk
  · intro h
    exact ⟨x, h, by show (D.bl x).eq (.bl x) = true; rw [eq_bl]; simp⟩
theorem o2_inb : Op2 (α := Bool) (β := List Bool) .sh fIn fun x l => some (decide (x ∈ l)) := fun x l => by
  unfold fIn; rw [inB_bl]; rfl
end
end Kn
namespace Kn
open PySem L2
/-! ### tables over a thing that many hold -/
section
variable {X : Cx} {ct : CT} {x : Expr} {pos spos py lp : Pos} {n : Str}
end
/-! ### equality through what is held -/
section
variable {K : PySem.W.Frag} {ct : CT} {W : Wd} {H : Hp}
theorem RdH.dp0 {F : Hp} {L : Addr → Option Lab} {env : List Slot} {st : Sto} {σ : St} {v : V} {d : D} (h : RdH K ct W H v d) (I : Rel K ct F W L env st σ H) (c : d.py.canLay0 = true) : Dp K H v d.py := by
  rcases h with h | ⟨a, rfl, cl⟩
  · exact h.dp (fun a o e => (I.hs a o e).1) I.tp c
  · cases cl with
    | lst h q =>
      rw [D.py] at c ⊢
      exact .lst (SqL.of h) (q.dp (fun a o e => (I.hs a o e).1) I.tp (by simpa [PyData.canLay0] using c))
    | dic h _ q => simp [D.py, PyData.canLay0] at c
    | obj h _ _ q => simp [D.py, PyData.canLay0] at c
end
section
variable {X : Cx} {ct : CT} {pos : Pos} {x y : Expr} {a b c h ix e : Sem} {δ δ1 δ2 : Dr}
/-! slices of a thing that many hold -/
end
/-! typed -/
open En
class Dpr (α : Type) (β : outParam Type) [En α] [En β] where
  rd : Sto → α → Option β
  inj : ∀ x y : α, en x = en y → x = y
  ok : ∀ {K ct F W L env st σ H v} {x : α} {y : β}, Rel K ct F W L env st σ H → RdH K ct W H v (en x) → rd st x = some y → (en y).py.canLay0 = true → Dp K H v (en y).py
theorem Hd.en_inj {τ : Type} (a b : Hd τ) (h : (en a : D) = en b) : a = b := by
  obtain ⟨a⟩ := a; obtain ⟨b⟩ := b
  have h : D.hnd a = D.hnd b := h
  cases h; rfl
section
variable {α β α' β' α2 β2 : Type} [En α] [En β] [En α'] [En β'] [En α2] [En β2]
instance dprE [EnE α] : Dpr α α := ⟨fun _ x => some x, EnE.inj, fun I h e c => by cases e; exact h.dp0 I c⟩
theorem not_hnd_cell {K : PySem.W.Frag} {ct : CT} {W : Wd} {H : Hp} {v : V} {g : Nat} (h : RdH K ct W H v (.hnd g)) : Rep K ct W v (.hnd g) := by
  rcases h with h | ⟨a, _, c⟩
  · exact h
  · cases c
noncomputable instance dprH [EnE α] : Dpr (Hd α) α := ⟨fun st h => getS st h.g, Hd.en_inj, fun I h e c => by
  obtain ⟨a, rfl, _, cl⟩ := I.cell (not_hnd_cell h) (getS_look e)
  exact RdH.dp0 (.inr ⟨a, rfl, cl⟩) I c⟩
theorem mapL_inj [Dpr α β] : ∀ {l m : List α}, l.map en = m.map en → l = m
  | [], [], _ => rfl
  | [], _ :: _, h => by cases h
  | _ :: _, [], h => by cases h
  | x :: xs, y :: ys, h => by
    rw [List.map_cons, List.map_cons] at h
    obtain ⟨h1, h2⟩ := List.cons.inj h
    rw [Dpr.inj x y h1, mapL_inj h2]
def rdL [Dpr α β] (st : Sto) : List α → Option (List β)
  | [] => some []
  | x :: xs => (Dpr.rd st x).bind fun y => (rdL st xs).map fun ys => y :: ys
theorem rdL_dp [Dpr α β] {K : PySem.W.Frag} {ct : CT} {F : Hp} {W : Wd} {L : Addr → Option Lab} {env : List Slot} {st : Sto} {σ : St} {H : Hp} (I : Rel K ct F W L env st σ H) : ∀ {l : List α} {m : List β} {vs : List V}, RepL K ct W vs (l.map en) → rdL st l = some m → PyData.canLayAll0 (D.pyL (m.map en)) = true → DpAll K H vs (D.pyL (m.map en))
  | [], m, vs, h, e, c => by cases e; cases h; rw [List.map_nil, D.pyL]; exact .nil
  | x :: xs, m, vs, h, e, c => by
    obtain ⟨y, h1, e⟩ := bind2 e
    obtain ⟨ys, h2, rfl⟩ := map2 e
    cases h with
    | cons h3 h4 =>
      rw [List.map_cons, D.pyL] at c ⊢
      rw [PyData.canLayAll0, Bool.and_eq_true] at c
      exact .cons (Dpr.ok I (.inl h3) h1 c.1) (rdL_dp I h4 h2 c.2)
instance (priority := 100) dprL [Dpr α β] : Dpr (List α) (List β) := ⟨rdL, fun a b h => mapL_inj (D.lst.inj h), fun {K ct F W L env st σ H v x y} I h e c => by
  have h : RdH K ct W H v (.lst (x.map en)) := h
  obtain ⟨a, vs, rfl, g, q⟩ := h.list I
  have c : (D.lst (y.map en)).py.canLay0 = true := c
  show Dp K H _ (D.lst (y.map en)).py
  rw [D.py] at c ⊢
  exact .lst (SqL.of g) (rdL_dp I q e (by simpa [PyData.canLay0] using c))⟩
instance (priority := 100) dprHl2 [Dpr α β] [Dpr α' β'] : Dpr (Hl2 α α') (Hl2 β β') := ⟨fun st x => (Dpr.rd st x.x0).bind fun a => (Dpr.rd st x.x1).bind fun b => some ⟨a, b⟩, fun a b h => by
    obtain ⟨a0, a1⟩ := a; obtain ⟨b0, b1⟩ := b
    have h := D.lst.inj h
    injection h with h1 h
    injection h with h2 h
    have e1 : a0 = b0 := Dpr.inj _ _ h1
    have e2 : a1 = b1 := Dpr.inj _ _ h2
    rw [e1, e2], fun {K ct F W L env st σ H v x y} I h e c => by
  have h : RdH K ct W H v (.lst [en x.x0, en x.x1]) := h
  obtain ⟨a, vs, rfl, g, q⟩ := h.list I
  obtain ⟨y0, e0, e⟩ := bind2 e
  obtain ⟨y1, e1, e⟩ := bind2 e
  cases e
  have c : (D.lst [en y0, en y1]).py.canLay0 = true := c
  show Dp K H _ (D.lst [en y0, en y1]).py
  rw [D.py] at c ⊢
  simp only [D.pyL, PyData.canLay0, PyData.canLayAll0, Bool.and_eq_true] at c ⊢
  cases q with
  | cons q0 q =>
    cases q with
    | cons q1 q =>
      cases q
      exact .lst (SqL.of g) (.cons (Dpr.ok I (.inl q0) e0 c.1) (.cons (Dpr.ok I (.inl q1) e1 c.2.1) .nil))⟩
instance (priority := 100) dprHl3 [Dpr α β] [Dpr α' β'] [Dpr α2 β2] : Dpr (Hl3 α α' α2) (Hl3 β β' β2) := ⟨fun st x => (Dpr.rd st x.x0).bind fun a => (Dpr.rd st x.x1).bind fun b => (Dpr.rd st x.x2).bind fun c => some ⟨a, b, c⟩, fun a b h => by
    obtain ⟨a0, a1, a2⟩ := a; obtain ⟨b0, b1, b2⟩ := b
    have h := D.lst.inj h
    injection h with h1 h
    injection h with h2 h
    injection h with h3 h
    have e1 : a0 = b0 := Dpr.inj _ _ h1
    have e2 : a1 = b1 := Dpr.inj _ _ h2
    have e3 : a2 = b2 := Dpr.inj _ _ h3
    rw [e1, e2, e3], fun {K ct F W L env st σ H v x y} I h e c => by
  have h : RdH K ct W H v (.lst [en x.x0, en x.x1, en x.x2]) := h
  obtain ⟨a, vs, rfl, g, q⟩ := h.list I
  obtain ⟨y0, e0, e⟩ := bind2 e
  obtain ⟨y1, e1, e⟩ := bind2 e
  obtain ⟨y2, e2, e⟩ := bind2 e
  cases e
  have c : (D.lst [en y0, en y1, en y2]).py.canLay0 = true := c
  show Dp K H _ (D.lst [en y0, en y1, en y2]).py
  rw [D.py] at c ⊢
  simp only [D.pyL, PyData.canLay0, PyData.canLayAll0, Bool.and_eq_true] at c ⊢
  cases q with
  | cons q0 q =>
    cases q with
    | cons q1 q =>
      cases q with
      | cons q2 q =>
        cases q
        exact .lst (SqL.of g) (.cons (Dpr.ok I (.inl q0) e0 c.1) (.cons (Dpr.ok I (.inl q1) e1 c.2.1) (.cons (Dpr.ok I (.inl q2) e2 c.2.2.1) .nil)))⟩
end
section
variable {α β γ δ σ ρ τ μ α' β' : Type} [En α] [En β] [En γ] [En α'] [En β']
variable {k k1 k2 k3 : Kx} {env env' : List Kn.Slot} {st : Sto} {e a b c h ix : Sem} {i j n : Nat} {x x' : α} {y : β} {tx : Option α} {ty : Option α'} {as : SemA} {ds : List D}
variable {fn : Bool} {enc : τ → Outs} {f g s1 : SemS} {t1 t2 : Option τ} {z : τ}
/-! the body changes the store: the thing gone through stays -/
end
section
variable {α β γ : Type} [En α] [En β] [En γ]
variable {k k1 k2 k3 : Kx} {env : List Kn.Slot} {st : Sto} {a b c : Sem} {x : α} {ty : Option β}
theorem ev_chainy {f g : D → D → Option R} {F : α → β → Bool} {G : β → γ → Bool} {tz : Option γ} (hf : Op2 .sh f fun x y => some (F x y)) (hg : Op2 .sh g fun x y => some (G x y)) (ha : Ev k1 a env st (some x)) (hb : Ev k2 b env st ty) (hc : Ev k3 c env st tz) : Ev .sh (eChain f g a b c) env st (ty.bind fun y => if F x y = true then tz.bind fun z => some (G y z) else some false) := by
  cases ty with
  | none =>
    unfold Ev at ha hb ⊢
    rw [x_chain, ha]
    show ((b env st).bind _) = _
    rw [hb]; rfl
  | some y => exact ev_chainz hf hg ha hb hc
end
end Kn
namespace Kn
open PySem L2
/-! ### sorted: tuples of ints of one length, any number of them -/
section
open PySem.Spec PyProof.Rows Srt
variable {prog : Program} {w : World} {A : Around} {E : Value → Shared → Prop} {s : Shared}
end
section
open PySem.Spec PyProof.Rows
variable {X : Cx}
end
/-! data -/
section
variable {X : Cx} {ct : CT} {x : Expr} {a : Sem} {pos p : Pos}
end
/-! typed -/
open En
class EnT (α : Type) [En α] where
  d : Nat
  ns : α → List Int
  of : List Int → α
  d1 : 1 ≤ d ∧ d ≤ 9
  en : ∀ x : α, En.en x = .tup ((ns x).map D.int)
  ln : ∀ x : α, (ns x).length = d
  bk : ∀ l : List Int, l.length = d → ns (of l) = l
instance : EnT (Tp2 Int Int) := ⟨2, fun x => [x.x0, x.x1], fun l => ⟨l.getD 0 0, l.getD 1 0⟩, by decide, fun x => rfl, fun x => rfl, fun l h => by
  match l, h with
  | [a, b], _ => rfl⟩
instance : EnT (Tp3 Int Int Int) := ⟨3, fun x => [x.x0, x.x1, x.x2], fun l => ⟨l.getD 0 0, l.getD 1 0, l.getD 2 0⟩, by decide, fun x => rfl, fun x => rfl, fun l h => by
  match l, h with
  | [a, b, c], _ => rfl⟩
section
variable {α : Type} [En α] [EnT α]
end
end Kn
namespace Kn
open PySem L2
/-! ### dicts whose keys are pairs of ints: their items, one by one -/
section
open PySem.Spec PyProof.Rows
end
end Kn
namespace Kn
open PySem L2
/-! ### dicts by pairs of ints: a kind of cell -/
abbrev PK := Int × Int
def kyT (k : PK) : List Key := [.inl k.1, .inl k.2]
def toT (kvs : List (PK × V)) : List (List Key × V) := kvs.map fun e => (kyT e.1, e.2)
def itD (e : PK × D) : D := .tup [.tup [.int e.1.1, .int e.1.2], e.2]
def enT (kds : List (PK × D)) : D := .lst (kds.map itD)
structure TOk (K : PySem.W.Frag) (ct : CT) (W : Wd) (kvs : List (PK × V)) (d : D) : Prop where
  ex : ∃ kds, d = enT kds ∧ kvs.map (·.1) = kds.map (·.1) ∧ RepL K ct W (kvs.map (·.2)) (kds.map (·.2))
theorem TOk.mono {K : PySem.W.Frag} {ct : CT} {W W' : Wd} {kvs : List (PK × V)} {d : D} (h : TOk K ct W kvs d) (l : W.le W') : TOk K ct W' kvs d := by
  obtain ⟨kds, h1, h2, h3⟩ := h.ex
  exact ⟨kds, h1, h2, h3.mono l⟩
def kT : Kd := ⟨fun K ct W F v d => ∃ a kvs, v = .ref a ∧ F a = some (.dT (toT kvs)) ∧ TOk K ct W kvs d, fun ⟨a, kvs, e, h, t⟩ l => ⟨a, kvs, e, h, t.mono l⟩⟩
/-- .. while it is gone through -/
def kF (z : Obj × List (PK × V)) : Kd := ⟨fun K ct W F v d => ∃ a, v = .ref a ∧ F a = some (.frz z.1 (.dT (toT z.2))) ∧ TOk K ct W z.2 d, fun ⟨a, e, h, t⟩ l => ⟨a, e, h, t.mono l⟩⟩
open Classical in
/-- what may be read -/
noncomputable def lookT (st : Sto) (g : Nat) : Option D := (st[g]?).bind fun p => if p.1 = kT ∨ ∃ z, p.1 = kF z then some p.2 else none
section
variable {K : PySem.W.Frag} {ct : CT} {F H H' : Hp} {W W' : Wd} {L L' : Addr → Option Lab} {env : List Kn.Slot} {st : Sto} {σ : St} {v : V} {d d' : Kn.D} {r : R} {a p : Addr} {o : HO} {g : Nat}
end
/-! ### the rules -/
section
variable {X : Cx} {ct : CT} {pos cpos apos tpos : Pos} {x y z : Expr} {a b h ix e : Sem}
end
end Kn
namespace Kn
open PySem L2
/-! ### a dict is gone through -/
section
variable {X : Cx} {ct : CT} {tg x : Expr} {a h e : Sem}
end
/-! ### typed -/
open En
structure Dt (β : Type) where
  l : List (Tp2 (Tp2 Int Int) β)
instance {β : Type} [En β] : En (Dt β) := ⟨fun d => .lst (d.l.map en)⟩
section
variable {α β γ ρ τ μ : Type} [En α] [En β] [En γ]
variable {k k1 k2 k3 : Kx} {env env' : List Kn.Slot} {st sz : Sto} {e a b c h ix : Sem} {i j n : Nat} {as : SemA} {ds : List D}
variable {fn : Bool} {enc : τ → Outs} {f g s1 : SemS} {t t1 t2 : Option τ} {z : τ}
open Classical in
noncomputable def getT [En α] (st : Sto) (g : Nat) : Option α := if h : ∃ x : α, lookT st g = some (en x) then some (choose h) else none
variable {tx : Option (Hd (Dt β))} {ty : Option (Tp2 Int Int)}
/-- what reads alike -/
structure Szo (st sz : Sto) : Prop where
  S : ∀ {α : Type} [En α] (g : Nat), getS (α := α) sz g = getS st g
  T : ∀ {α : Type} [En α] (g : Nat), getT (α := α) sz g = getT st g
theorem Szo.refl (st : Sto) : Szo st st := ⟨fun _ => rfl, fun _ => rfl⟩
end
end Kn
namespace Kn
open PySem L2
/-! ### tuples one behind the other; zip -/
open En
section
variable {α β γ δ : Type} [En α] [En β] [En γ] [En δ]
variable {k k1 k2 : Kx} {env : List Kn.Slot} {st : Sto} {a b : Sem}
end
end Kn
namespace Kn
open PySem L2
/-! ### a class under a class -/
section
variable {X : Cx} {ct : CT} {x y : Expr} {a b e : Sem} {as : SemA} {pos p apos npos cpos : Pos} {c f m n : Str} {C : Addr} {ns : List Str} {es : List Expr}
theorem pe_or {e : Expr} {t1 t2 : TE} (h1 : PE X e t1) (h2 : PE X e t2) : PE X e (fun σ H Q => t1 σ H Q ∨ t2 σ H Q) := ⟨fun pins s σ H Q I h => by
  rcases h with h | h
  · exact h1.run pins s σ H Q I h
  · exact h2.run pins s σ H Q I h⟩
end
section
variable {X : Cx} {ct : CT} {x y : Expr} {a b e : Sem} {as : SemA} {pos p apos npos cpos : Pos} {c f m n : Str} {C : Addr} {ns : List Str} {es : List Expr}
end
/-! ### a method by the class of its object -/
section
variable {X : Cx} {ct : CT} {x y : Expr} {a b e : Sem} {as : SemA} {pos p apos npos cpos : Pos} {c c1 c2 c3 f m n : Str} {C C1 C2 C3 : Addr} {ns ns1 ns2 ns3 : List Str} {es : List Expr}
/-! ### isinstance of one's own classes -/
end
/-! ### typed -/
open En
section
variable {α β γ : Type} [En α] [En β] [En γ]
variable {k k1 k2 k3 : Kx} {env : List Kn.Slot} {st : Sto} {a b : Sem} {as : SemA} {n : Nat}
end
end Kn
namespace Kn
open PySem L2
/-! ### isinstance through a handle -/
section
variable {X : Cx} {ct : CT} {x : Expr} {a : Sem} {pos p : Pos} {δ : Dr}
end
/-! ### zip of a thing that many hold with a list -/
section
variable {X : Cx} {ct : CT} {x y : Expr} {a b : Sem} {pos : Pos} {δ : Dr}
end
end Kn
namespace Kn
open PySem L2
/-! ### a list just made by a comprehension is laid into the store -/
section
variable {X : Cx} {ct : CT} {x y : Expr} {a b c : Sem} {pos p apos : Pos}
end
end Kn
namespace Kn
open PySem L2
/-! ### a, b = e, e' ; xs[i] += e, xs behind a handle ; | -/
section
variable {X : Cx} {ct : CT} {x y z : Expr} {a b h ix e : Sem} {as : SemA} {pos p apos tpos px py pt : Pos} {δ : Dr}
def D.int? : D → Option Int
  | .int i => some i
  | _ => none
/-! zip of a list with a thing that many hold -/
end
/-! typed -/
open En
section
variable {α β γ τ : Type} [En α] [En β] [En γ]
variable {k k1 k2 k3 : Kx} {env : List Kn.Slot} {st : Sto} {a b h ix e : Sem} {as : SemA} {i j : Nat}
variable {fn : Bool} {enc : τ → Outs} {g : SemS}
end
/-! rows of atoms -/
/-- a text of code points -/
structure Txt where
  x : Str
  ok : PyData.strOk x = true
  deriving DecidableEq
def txM (x : Str) (h : PyData.strOk x = true := by decide +kernel) : Txt := ⟨x, h⟩
instance : En Txt := ⟨fun t => .str t.x⟩
instance : EnH Txt := ⟨fun _ => rfl⟩
instance : EnE Txt := ⟨0, fun t => Pn_str t.ok, fun a b h => by
  obtain ⟨a, _⟩ := a; obtain ⟨b, _⟩ := b
  cases D.str.inj h; rfl⟩
instance : EnN Txt := ⟨fun _ h => nomatch h⟩
theorem ev_txt {env : List Kn.Slot} {st : Sto} (t : Txt) : Ev .sh (eC (.str t.x)) env st (some t) := rfl
inductive At where
  | s (x : Txt) | i (n : Int) | non
  deriving DecidableEq
instance : En At := ⟨fun a => match a with | .s x => .str x.x | .i n => .int n | .non => .non⟩
structure Rw where
  l : List At
  deriving DecidableEq
instance : En Rw := ⟨fun r => .tup (r.l.map en)⟩
instance : EnH At := ⟨fun a => match a with | .s _ => rfl | .i _ => rfl | .non => rfl⟩
class ToAt (α : Type) [En α] where
  f : α → At
  h : ∀ x, en (f x) = en x
instance : ToAt Int := ⟨.i, fun _ => rfl⟩
instance : ToAt Txt := ⟨.s, fun _ => rfl⟩
instance : ToAt (Option Int) := ⟨fun o => match o with | some n => .i n | none => .non, fun o => by cases o <;> rfl⟩
class ToRw (α : Type) [En α] where
  f : α → Rw
  h : ∀ x, en (f x) = en x
section
variable {α β γ δ : Type} [En α] [En β] [En γ] [En δ] [ToAt α] [ToAt β] [ToAt γ] [ToAt δ]
instance : ToRw (Tp2 α β) := ⟨fun p => ⟨[ToAt.f p.x0, ToAt.f p.x1]⟩, fun p => by
  show D.tup [en (ToAt.f p.x0), en (ToAt.f p.x1)] = .tup [en p.x0, en p.x1]
  rw [ToAt.h, ToAt.h]⟩
instance : ToRw (Tp3 α β γ) := ⟨fun p => ⟨[ToAt.f p.x0, ToAt.f p.x1, ToAt.f p.x2]⟩, fun p => by
  show D.tup [en (ToAt.f p.x0), en (ToAt.f p.x1), en (ToAt.f p.x2)] = .tup [en p.x0, en p.x1, en p.x2]
  rw [ToAt.h, ToAt.h, ToAt.h]⟩
instance : ToRw (Tp4 α β γ δ) := ⟨fun p => ⟨[ToAt.f p.x0, ToAt.f p.x1, ToAt.f p.x2, ToAt.f p.x3]⟩, fun p => by
  show D.tup [en (ToAt.f p.x0), en (ToAt.f p.x1), en (ToAt.f p.x2), en (ToAt.f p.x3)] = .tup [en p.x0, en p.x1, en p.x2, en p.x3]
  rw [ToAt.h, ToAt.h, ToAt.h, ToAt.h]⟩
end
instance : En D := ⟨fun d => d⟩
instance {α β : Type} : EnS (Hl2 (Hd α) (Hd β)) (Hd (List D)) := ⟨fun p => [⟨p.x0.g⟩, ⟨p.x1.g⟩], fun _ => rfl⟩
instance {α β γ : Type} : EnS (Hl3 (Hd α) (Hd β) (Hd γ)) (Hd (List D)) := ⟨fun p => [⟨p.x0.g⟩, ⟨p.x1.g⟩, ⟨p.x2.g⟩], fun _ => rfl⟩
end Kn
namespace Kn
open PySem L2
/-! zip of two things that many hold -/
section
variable {X : Cx} {ct : CT} {x y : Expr} {a b : Sem} {pos : Pos} {δ δ2 : Dr}
end
end Kn
namespace Kn
open PySem L2
/-! append to one's own list what is made in the store -/
open En
section
variable {α τ : Type} [En α]
variable {k : Kx} {env : List Kn.Slot} {st : Sto} {a : Sem} {i : Nat} {fn : Bool} {enc : τ → Outs} {g : SemS}
end
end Kn
namespace Kn
open PySem L2
/-! ### x.pop(..) as a value, x a list behind a handle -/
section
variable {X : Cx} {ct : CT} {pos p apos cpos : Pos} {x y z : Expr} {es : List Expr} {a b h e : Sem} {as : SemA} {δ : Dr}
end
/-! ### a method whose last parameter may be left out -/
section
variable {P : Program} {w : World} {K : PySem.W.Frag} {mg : Str → Option Value} {base : Heap} {ct : CT}
/-- a method whose last parameter has the value d where it is left out -/
structure McD (P : Program) (w : World) (K : PySem.W.Frag) (mg : Str → Option Value) (base : Heap) (ct : CT) (C : Addr) (nm : Str) (k : Nat) (ps : List Str) (m : Fn) (d : D) : Prop where
  ex : ∃ f fd u v, FnOk P w K mg base CX0 k f fd ps (spD K ct ps.length m) ∧ Meth K C nm f ∧ Binds K fd ps [] ∧ Binds K fd ps [u] ∧ RelV v u ∧ ∀ W, Rep K ct W v d
theorem McD.all {C : Addr} {nm : Str} {k : Nat} {ps : List Str} {m : Fn} {d : D} (M : McD P w K mg base ct C nm k ps m d) : Mcl P w K mg base ct C nm k ps m := by
  obtain ⟨f, fd, u, v, h1, h2, h3, _⟩ := M.ex
  exact ⟨f, fd, h1, h2, h3⟩
end
section
variable {X : Cx} {ct : CT} {pos p apos : Pos} {x y : Expr} {a b : Sem} {δ : Dr}
end
/-! typed -/
open En
section
variable {α σ : Type} [En α] {k : Kx} {env : List Kn.Slot} {st : Sto} {h ix : Sem} {c : Sem} {f : SemS}
end
end Kn
namespace Kn
open PySem L2
/-! ### a reading that holds of some values only -/
section
variable {X : Cx} {ct : CT} {x : Expr} {a : Sem}
end
open En
class AsG (α : Type) (β : Type) [En α] [En β] where
  g : α → Option β
  f : D → Bool
  h : ∀ x, match g x with
    | some y => f (en x) = true ∧ (en y : D) = en x
    | none => f (en x) = false
section
variable {α β : Type} [En α] [En β] {k : Kx} {env : List Kn.Slot} {st : Sto} {a : Sem}
end
def isIntD : D → Bool
  | .int _ => true
  | _ => false
def isStrD : D → Bool
  | .str _ => true
  | _ => false
/-- an item of a row as a whole number -/
def At.int? : At → Option Int
  | .i n => some n
  | _ => none
def At.str? : At → Option Txt
  | .s n => some n
  | _ => none
instance asAtInt : AsG At Int := ⟨At.int?, isIntD, fun x => by cases x <;> first | exact ⟨rfl, rfl⟩ | rfl⟩
instance asAtStr : AsG At Txt := ⟨At.str?, isStrD, fun x => by cases x <;> first | exact ⟨rfl, rfl⟩ | rfl⟩
instance asOptInt : AsG (Option Int) Int := ⟨id, isIntD, fun x => by cases x <;> first | exact ⟨rfl, rfl⟩ | rfl⟩
def Rw.t2? : Rw → Option (Tp2 Int Int)
  | ⟨[.i a, .i b]⟩ => some ⟨a, b⟩
  | _ => none
def Rw.t4? : Rw → Option (Tp4 Txt Int Int Int)
  | ⟨[.s a, .i b, .i c, .i d]⟩ => some ⟨a, b, c, d⟩
  | _ => none
def isT2D : D → Bool
  | .tup [.int _, .int _] => true
  | _ => false
def isT4D : D → Bool
  | .tup [.str _, .int _, .int _, .int _] => true
  | _ => false
instance asRw2 : AsG Rw (Tp2 Int Int) := ⟨Rw.t2?, isT2D, fun x => by
  match x with
  | ⟨[]⟩ => rfl
  | ⟨[.i a, .i b]⟩ => exact ⟨rfl, rfl⟩
  | ⟨[.s _]⟩ | ⟨[.i _]⟩ | ⟨[.non]⟩ => rfl
  | ⟨[.s _, _]⟩ | ⟨[.non, _]⟩ => rfl
  | ⟨[.i _, .s _]⟩ | ⟨[.i _, .non]⟩ => rfl
  | ⟨.s _ :: _ :: _ :: _⟩ | ⟨.non :: _ :: _ :: _⟩ => rfl
  | ⟨.i _ :: .s _ :: _ :: _⟩ | ⟨.i _ :: .non :: _ :: _⟩ | ⟨.i _ :: .i _ :: _ :: _⟩ => rfl⟩
theorem t4_none {r : Rw} (h : r.t4? = none) : isT4D (en r) = false := by
  obtain ⟨l⟩ := r
  match l with
  | [.s a, .i b, .i c, .i d] => cases h
  | [] | [_] | [_, _] | [_, _, _] => show isT4D (.tup _) = false; simp only [List.map_cons, List.map_nil]; unfold isT4D; split <;> first | rfl | (rename_i q; simp at q)
  | _ :: _ :: _ :: _ :: _ :: _ => show isT4D (.tup _) = false; simp only [List.map_cons]; unfold isT4D; split <;> first | rfl | (rename_i q; simp at q)
  | [x, y, z, w] =>
    cases x <;> cases y <;> cases z <;> cases w <;> first | rfl | cases h
instance asRw4 : AsG Rw (Tp4 Txt Int Int Int) := ⟨Rw.t4?, isT4D, fun x => by
  cases e : x.t4? with
  | none => exact t4_none e
  | some y =>
    obtain ⟨l⟩ := x
    unfold Rw.t4? at e
    split at e
    · rename_i q; cases e; cases q; exact ⟨rfl, rfl⟩
    · cases e⟩
/-- each thing of a list -/
def asLG {α β : Type} (g : α → Option β) : List α → Option (List β)
  | [] => some []
  | x :: xs => (g x).bind fun y => (asLG g xs).bind fun ys => some (y :: ys)
def asLF (f : D → Bool) : D → Bool
  | .lst ds => ds.all f
  | _ => false
instance asList {α β : Type} [En α] [En β] [G : AsG α β] : AsG (List α) (List β) := ⟨asLG G.g, asLF G.f, fun l => by
  have key : ∀ l : List α, match asLG G.g l with
    | some m => (l.map (en : α → D)).all G.f = true ∧ m.map (en : β → D) = l.map en
    | none => (l.map (en : α → D)).all G.f = false := fun l => by
    induction l with
    | nil => exact ⟨rfl, rfl⟩
    | cons x xs ih =>
      have q := G.h x
      unfold asLG
      cases e : G.g x with
      | none => rw [e] at q; have q : G.f (en x) = false := q; show ((x :: xs).map (en : α → D)).all G.f = false; simp [q]
      | some y =>
        rw [e] at q
        have q : G.f (en x) = true ∧ (en y : D) = en x := q
        cases e2 : asLG G.g xs with
        | none => rw [e2] at ih; have ih : (xs.map (en : α → D)).all G.f = false := ih; show ((x :: xs).map (en : α → D)).all G.f = false; rw [List.map_cons, List.all_cons, ih, Bool.and_false]
        | some ys =>
          rw [e2] at ih
          have ih : (xs.map (en : α → D)).all G.f = true ∧ ys.map (en : β → D) = xs.map en := ih
          show ((x :: xs).map (en : α → D)).all G.f = true ∧ (y :: ys).map (en : β → D) = (x :: xs).map en
          rw [List.map_cons, List.all_cons, ih.1, q.1, List.map_cons, ih.2, q.2]
          exact ⟨rfl, rfl⟩
  have := key l
  cases e : asLG G.g l with
  | none => rw [e] at this; exact this
  | some m => rw [e] at this; exact ⟨this.1, congrArg D.lst this.2⟩⟩
/-! ### rows -/
section
variable {k : Kx} {env : List Kn.Slot} {st : Sto} {a b : Sem}
end
section
variable {k : Kx} {env : List Kn.Slot} {st : Sto} {a b : Sem}
end
instance : EnS Rw At := ⟨fun r => r.l, fun _ => rfl⟩
instance : EnE At := ⟨0, fun a => by
  cases a with
  | s x => exact Pn_str x.ok
  | i n => exact Pn_int n
  | non => exact Pn_non, fun a b h => by
  cases a <;> cases b <;> first | rfl | (cases h; done) | skip
  · rename_i x y
    obtain ⟨x, _⟩ := x; obtain ⟨y, _⟩ := y
    cases D.str.inj h; rfl
  · rename_i x y
    cases D.int.inj h; rfl⟩
instance : EnE Rw := ⟨1, fun r => Pn_tup fun d hd => by obtain ⟨a, _, rfl⟩ := List.mem_map.mp hd; exact EnE.pn a, fun a b h => by
  obtain ⟨a⟩ := a; obtain ⟨b⟩ := b
  have : a = b := map_en_inj (D.tup.inj h)
  rw [this]⟩
instance : EnN Rw := ⟨fun _ h => nomatch h⟩
end Kn
namespace Kn
open PySem L2
/-! ### len(set(xs)), unlike tuples of whole numbers -/
section
open PySem.Spec PyProof.Rows
variable {X : Cx}
end
section
variable {X : Cx} {ct : CT} {x : Expr} {a : Sem} {pos p p2 pos2 : Pos}
end
section
open En
variable {α : Type} [En α] [EnT α]
end
end Kn
namespace Kn
open PySem L2
/-! ### lists of unlike things that grow -/
structure Hl4 (α β γ δ : Type) where
  x0 : α
  x1 : β
  x2 : γ
  x3 : δ
  deriving DecidableEq
structure Hl5 (α β γ δ ε : Type) where
  x0 : α
  x1 : β
  x2 : γ
  x3 : δ
  x4 : ε
  deriving DecidableEq
structure Hl6 (α β γ δ ε ζ : Type) where
  x0 : α
  x1 : β
  x2 : γ
  x3 : δ
  x4 : ε
  x5 : ζ
  deriving DecidableEq
open En
section
variable {α β γ δ ε ζ : Type} [En α] [En β] [En γ] [En δ] [En ε] [En ζ]
instance : En (Hl4 α β γ δ) := ⟨fun p => .lst [en p.x0, en p.x1, en p.x2, en p.x3]⟩
instance : En (Hl5 α β γ δ ε) := ⟨fun p => .lst [en p.x0, en p.x1, en p.x2, en p.x3, en p.x4]⟩
instance : En (Hl6 α β γ δ ε ζ) := ⟨fun p => .lst [en p.x0, en p.x1, en p.x2, en p.x3, en p.x4, en p.x5]⟩
class AppHl (α : Type) (β : Type) (γ : outParam Type) [En α] [En β] [En γ] where
  f : α → β → γ
  h : ∀ (a : α) (b : β), ∃ ds es, (en a : D) = .lst ds ∧ fApp [en b] ds = some es ∧ (en (f a b) : D) = .lst es
instance : AppHl (Hl4 α β γ δ) ε (Hl5 α β γ δ ε) := ⟨fun a b => ⟨a.x0, a.x1, a.x2, a.x3, b⟩, fun a b => ⟨[en a.x0, en a.x1, en a.x2, en a.x3], [en a.x0, en a.x1, en a.x2, en a.x3, en b], rfl, by
  rw [x_app, if_pos (x_sz2 (by show 4 ≤ 1000; omega))]; rfl, rfl⟩⟩
instance : AppHl (Hl5 α β γ δ ε) ζ (Hl6 α β γ δ ε ζ) := ⟨fun a b => ⟨a.x0, a.x1, a.x2, a.x3, a.x4, b⟩, fun a b => ⟨[en a.x0, en a.x1, en a.x2, en a.x3, en a.x4], [en a.x0, en a.x1, en a.x2, en a.x3, en a.x4, en b], rfl, by
  rw [x_app, if_pos (x_sz2 (by show 5 ≤ 1000; omega))]; rfl, rfl⟩⟩
end
section
variable {τ : Type} {fn : Bool} {enc : τ → Outs} {env : List Kn.Slot} {st : Sto} {as : SemA} {g : SemS} {i : Nat}
end
section
variable {α β γ : Type} [En α] [En β] [En γ] [AppHl α β γ] {τ : Type} {k : Kx} {fn : Bool} {enc : τ → Outs} {env : List Kn.Slot} {st : Sto} {a : Sem} {g : SemS} {i : Nat}
end
section
variable {α β γ δ ε ζ : Type} [En α] [En β] [En γ] [En δ] [En ε] [En ζ] [EnE α] [EnE β] [EnE γ] [EnE δ] [EnE ε] [EnE ζ]
instance : EnE (Hl6 α β γ δ ε ζ) := ⟨EnE.dep α + EnE.dep β + EnE.dep γ + EnE.dep δ + EnE.dep ε + EnE.dep ζ + 1, fun p => Pn_lst fun d hd => by
    simp only [List.mem_cons, List.not_mem_nil, or_false] at hd
    rcases hd with rfl | rfl | rfl | rfl | rfl | rfl
    · exact Pn_mono (EnE.pn _) (by omega)
    · exact Pn_mono (EnE.pn _) (by omega)
    · exact Pn_mono (EnE.pn _) (by omega)
    · exact Pn_mono (EnE.pn _) (by omega)
    · exact Pn_mono (EnE.pn _) (by omega)
    · exact Pn_mono (EnE.pn _) (by omega),
  fun a b h => by
    have h := D.lst.inj h
    simp only [List.cons.injEq, and_true] at h
    cases a; cases b
    have e0 := EnE.inj _ _ h.1
    have e1 := EnE.inj _ _ h.2.1
    have e2 := EnE.inj _ _ h.2.2.1
    have e3 := EnE.inj _ _ h.2.2.2.1
    have e4 := EnE.inj _ _ h.2.2.2.2.1
    have e5 := EnE.inj _ _ h.2.2.2.2.2
    dsimp only at e0 e1 e2 e3 e4 e5
    subst e0 e1 e2 e3 e4 e5
    rfl⟩
end
end Kn
namespace Kn
open PySem L2
/-! ### f().append(x): what was just made takes one more, and is let go -/
section
open En
variable {X : Cx} {ct : CT} {x y : Expr} {a b : Sem} {as : SemA} {pos cpos apos : Pos}
theorem Rel.less {K : PySem.W.Frag} {F F' H : Hp} {W : Wd} {L : Addr → Option Lab} {env : List Kn.Slot} {st : Sto} {σ : St} (I : Rel K ct F' W L env st σ H) (h : ∀ b o, F b = some o → F' b = some o) : Rel K ct F W L env st σ H :=
  ⟨fun b o e => I.fr b o (h b o e), I.hs, I.tp, I.ob, I.rh, I.len, I.sl⟩
end
section
open En
variable {α τ : Type} [En α] {fn : Bool} {enc : τ → Outs} {g : SemS} {env : List Kn.Slot} {st : Sto} {a b : Sem} {k : Kx} {th : Option (List α)} {tx : Option α} {T : List α → Option τ}
end
open En in
instance : EnH Rw := ⟨fun r => by
  show D.nhL (r.l.map en) = true
  exact nhL_all fun d hd => by obtain ⟨a, _, rfl⟩ := List.mem_map.mp hd; exact EnH.nh a⟩
end Kn
namespace Kn
open PySem L2
/-! ### list(d), d a dict by pairs -/
section
open En
variable {X : Cx} {ct : CT} {x : Expr} {a : Sem} {pos : Pos} {n : Str}
end
section
open En
variable {β : Type} [En β] {env : List Kn.Slot} {st : Sto} {a : Sem} {th : Option (Hd (Dt β))}
end
end Kn
namespace Kn
open PySem L2
/-! ### xs.remove(y), of data -/
section
open PySem.SeqAt PySem.Spec PyProof.Rows
section
variable {X : Cx}
end
end
section
section
variable {X : Cx} {ct : CT} {pos : Pos} {x y : Expr} {a b c : Sem} {es : List Expr} {as : SemA}
end
end
section
open En
variable {α σ ρ τ β : Type} [En α] [EnE α] [DecidableEq α]
variable {k k1 : Kx} {env : List Kn.Slot} {st : Sto} {a b : Sem} {i : Nat} {x : α} {tx : Option α} {fn : Bool} {enc : τ → Outs} {g : SemS}
end
end Kn
namespace Kn
open PySem L2
/-! ### sorted(d) of a dict by whole numbers; a dict of one whose key is read -/
section
open PySem.Spec PyProof.Rows
section
variable {X : Cx} {ct : CT} {x : Expr} {a : Sem} {pos p : Pos}
end
end
section
open En
variable {α β : Type} [En α] [En β] {k k1 k2 : Kx} {env : List Kn.Slot} {st : Sto} {a b : Sem} {x : α}
end
/-! ### len(set(xs)), any whole numbers -/
section
open PySem.Spec PyProof.Rows
variable {X : Cx}
end
section
variable {X : Cx} {ct : CT} {x : Expr} {a : Sem} {pos p p2 pos2 : Pos}
end
section
open En
end
end Kn
namespace Kn
open PySem L2
/-! ### min(xs), xs of tuples -/
section
open PySem.SeqAt PySem.Spec PyProof.Rows
section
variable {prog : Program} {w : World} {A : Around} {R : Result → Shared → Prop} {I S : Addr} {fp wr : List Addr} {St : Nat → Heap → Prop} {its : Array Value} {h0 : Heap}
end
end
section
open PySem.Spec PyProof.Rows
end
section
variable {X : Cx} {ct : CT} {x : Expr} {a : Sem} {pos p : Pos}
end
section
open En
end
end Kn
namespace Kn
open PySem L2
/-! ### d.clear(), d a dict by pairs that many hold -/
section
open PySem.Spec PyProof.Rows
variable {X : Cx}
end
section
variable {X : Cx} {ct : CT} {pos cpos apos : Pos} {z : Expr} {h : Sem}
end
section
open En
variable {β τ : Type} [En β] {k : Kx} {env : List Kn.Slot} {st : Sto} {h : Sem} {fn : Bool} {enc : τ → Outs} {g : SemS}
end
end Kn
namespace Kn
open PySem L2
/-! ### errors: the ways on which a def raises -/
abbrev XT := Str → Option Addr
/-- the class that a def raises is told as if it were handed back, as a text -/
def XQ (xt : XT) (Wx : WX) (σ : St) : VK := fun v H' => ∃ c, v = .str c ∧ ∀ C, xt c = some C → Wx (.ref C) none σ H'
def XE (xt : XT) (E : XK) : VK := fun v H' => ∃ c, v = .str c ∧ ∀ C, xt c = some C → E (.ref C) none H'
def spX (K : PySem.W.Frag) (ct : CT) (xt : XT) (n : Nat) (m : Fn) : Sp := fun vs H _ E => spD K ct n m vs H (XE xt E) E
structure CalX (P : Program) (w : World) (K : PySem.W.Frag) (mg : Str → Option Value) (base : Heap) (ct : CT) (xt : XT) (nm : Str) (k : Nat) (ps : List Str) (m : Fn) : Prop where
  ex : ∃ f fd, FnOk P w K mg base (L2.CX P w) k f fd ps (spX K ct xt ps.length m) ∧ mg nm = some (.ref f) ∧ PySem.W.keepIn K (.ref f) = true ∧ Binds K fd ps []
structure MclX (P : Program) (w : World) (K : PySem.W.Frag) (mg : Str → Option Value) (base : Heap) (ct : CT) (xt : XT) (C : Addr) (nm : Str) (k : Nat) (ps : List Str) (m : Fn) : Prop where
  ex : ∃ f fd, FnOk P w K mg base (L2.CX P w) k f fd ps (spX K ct xt ps.length m) ∧ Meth K C nm f ∧ Binds K fd ps []
/-- only what raises -/
structure SXe (X : Cx) (ct : CT) (xt : XT) (Wx : WX) (x : Expr) (e : Sem) : Prop where
  pe : PE X x (fun σ H _ => tE X.K ct e σ H (XQ xt Wx σ))
structure SXs (X : Cx) (ct : CT) (xt : XT) (E : XK) (x : Stmt) (e : Sem) : Prop where
  ps : PS X x (fun _ σ H => tE X.K ct e σ H (XE xt E))
structure SSX (X : Cx) (ct : CT) (xt : XT) (E : XK) (x : Stmt) (s : SemS) : Prop where
  ps : PS X x (fun D σ H => tSm X.K ct s { D with rt := XE xt E } σ H)
structure SBX (X : Cx) (ct : CT) (xt : XT) (E : XK) (x : List Stmt) (s : SemS) : Prop where
  pss : PSs X x (fun D σ H => tSm X.K ct s { D with rt := XE xt E } σ H)
section
variable {K : PySem.W.Frag} {ct : CT} {F H : Hp} {W : Wd} {L : Addr → Option Lab} {env : List Kn.Slot} {st : Sto} {σ : St}
theorem Rel.setExc (I : Rel K ct F W L env st σ H) (i : Nat) (a : Addr) : Rel K ct F W L (env.set i (.exc a)) st (σ.set i (some (.ref a))) H := by
  refine ⟨I.fr, I.hs, I.tp, I.ob, I.rh, by rw [List.length_set, List.length_set]; exact I.len, fun j s e => ?_⟩
  rcases getset e with ⟨rfl, rfl, hi⟩ | ⟨hj, e⟩
  · show (σ.set j _)[j]? = _
    rw [List.getElem?_set_self (by rw [I.len]; exact hi)]
  · exact (I.sl j s e).at' (List.getElem?_set_ne (Ne.symm hj))
theorem Rel.setNo (I : Rel K ct F W L env st σ H) (i : Nat) (v : Option V) : Rel K ct F W L (env.set i .no) st (σ.set i v) H := by
  refine ⟨I.fr, I.hs, I.tp, I.ob, I.rh, by rw [List.length_set, List.length_set]; exact I.len, fun j s e => ?_⟩
  rcases getset e with ⟨rfl, rfl, hi⟩ | ⟨hj, e⟩
  · trivial
  · exact (I.sl j s e).at' (List.getElem?_set_ne (Ne.symm hj))
end
/-- an own class that may be raised -/
structure ExK (K : PySem.W.Frag) (mg : Str → Option Value) (xt : XT) (nm : Str) (C : Addr) : Prop where
  q : PySem.W.excIn K C [.type "ValueError", .type "Exception", .type "BaseException", .type "object"] "ValueError.__new__" = true
  gC : mg nm = some (.ref C)
  kC : PySem.W.keepIn K (.ref C) = true
  r1 : PySem.W.subIn K (.ref C) (.type "BaseException") = some true
  r2 : PySem.W.typeIn K (.ref C) = some (.type "type")
  hx : xt nm = some C
abbrev EW (E : XK) : WX := fun cls d _ H => E cls d H
section
variable {X : Cx} {ct : CT} {xt : XT} {Wx : WX} {E : XK} {pos p apos pos' : Pos} {x y : Expr} {es : List Expr} {a b : Sem} {as : SemA} {k n i : Nat} {ps : List Str} {m : Fn} {nm mn : Str} {c : Str} {C : Addr} {ns : List Str}
/-! calls of defs that raise -/
theorem sxe_call (n : Nat) (c : CalX X.prog X.w X.K X.mg X.base ct xt nm k ps m) (tk : Takes X Wx) (hr : Room k X.A) (ha : SA X ct (x :: es) as) (hn : ps.length = n := by rfl) (hg : Gl X nm := by rfl)
    (hdb : (nm == ("__debug__" : Str)) = false := by decide) (he : starEach (x :: es) X.env = (false, eval x X.env) :: starEach es X.env := by rfl) (hpl : (backTo pos (starEach es X.env)).any (·.1) = false := by rfl) :
    SXe X ct xt Wx (.Call (.Name nm p) (x :: es) [] pos) (eCall n m as) := by
  subst hn
  obtain ⟨f, fd, G, h1, h2, h3⟩ := c.ex
  refine ⟨pe_mono (pe_callS G hr hg h1 h2 h3 (fun σ => passAt tk σ) ha.pa hdb he hpl) fun σ H Q h => ?_⟩
  have h := tE_call (E := WE Wx σ) h
  unfold tCall at h
  unfold tCallS
  simp only [List.append_nil] at h
  exact h
/-! statements -/
/-! blocks of a def that raises -/
def NoRt (s : SemS) : Prop := ∀ env st o env' st', s env st = some (o, env', st') → ∀ r, o ≠ .rt r
variable {sx : Stmt} {sxs rest s1 s2 : List Stmt} {f g h : SemS} {c : Sem}
theorem ssx_of (hs : SS X ct sx f) (hn : NoRt f) : SSX X ct xt E sx f := ⟨ps_mono hs.ps fun D σ H ⟨F, W, L, env, st, o, env', st', I, e, k⟩ => ⟨F, W, L, env, st, o, env', st', I, e, by
  cases o with
  | nx => exact k
  | bk => exact k
  | ct => exact k
  | rt r => exact absurd rfl (hn _ _ _ _ _ e r)⟩⟩
theorem sbx_nil : SBX X ct xt E [] sNil := ⟨pss_mono sb_nil.pss fun D σ H ⟨F, W, L, env, st, o, env', st', I, e, k⟩ => ⟨F, W, L, env, st, o, env', st', I, e, by cases e; exact k⟩⟩
theorem sbx_cons (h : SSX X ct xt E sx f) (k : SBX X ct xt E rest g) : SBX X ct xt E (sx :: rest) (sSeq f g) := ⟨pss_mono (pss_cons h.ps k.pss) fun _ _ _ h => tSm_seq h⟩
theorem sbx_kl (js : List Nat) (h : SBX X ct xt E sxs f) : SBX X ct xt E sxs (sKl js f) := by
  refine ⟨pss_mono h.pss fun D σ H ⟨F, W, L, env, st, o, env', st', I, e, k⟩ => ?_⟩
  exact ⟨F, W, L, _, st, o, env', st', I.wipe, e, k⟩
theorem ssx_if (hc : ST X ct x c) (hf : SBX X ct xt E s1 f) (hg : SBX X ct xt E s2 g) : SSX X ct xt E (.If x s1 s2 pos) (sIf c f g) := by
  refine ⟨ps_mono (ps_if hc.pt hf.pss hg.pss) fun D σ H ⟨F, W, L, env, st, o, env', st', I, e, k⟩ => ?_⟩
  obtain ⟨⟨r1, st1⟩, h1, e⟩ := bind2 e
  obtain ⟨b, hb, e⟩ := bind2 e
  have hb := R.tr_eq hb
  rw [show r1 = _ from hb] at h1
  refine ⟨F, W, L, env, st, b, st1, I, h1, fun H1 W1 L1 l1 I1 => ?_⟩
  cases b with
  | true => exact iteT ⟨F, W1, L1, env, st1, o, env', st', I1, e, k.mono l1⟩
  | false => exact iteF ⟨F, W1, L1, env, st1, o, env', st', I1, e, k.mono l1⟩
theorem ssx_for {tg : Expr} {ts : List Nat} {g : SemG} {it : SemI} (hp : PassesOwn (model X.prog X.w) X.A X.env X.xe) (hc : X.calm = true) (hi : SI X ct tg x it) (hg : SG X ct tg ts g) (hf : SBX X ct xt E s1 f) (hs : ∀ z, foldedSetIterable x X.env z = pure z := by intro _; rfl) :
    SSX X ct xt E (.For tg x s1 [] pos) (sFor it g f) := by
  refine ⟨ps_mono (ps_for hp hc hi.pi hg.pg hf.pss hs) fun D σ H ⟨F, W, L, env, st, o, env', st', I, e, k⟩ => ?_⟩
  obtain ⟨⟨ds, st1⟩, h1, e⟩ := bind2 e
  refine ⟨F, W, L, env, st, ds, st1, I, h1, fun J H1 W1 L1 l1 I1 wk => ?_⟩
  refine ⟨fun i m σ H => m = ds.length - i ∧ i ≤ ds.length ∧ ∃ W2 L2 env2 st2, W1.le W2 ∧ Rel X.K ct F W2 L2 env2 st2 σ H ∧ forL g f (ds.drop i) env2 st2 = some (o, env', st'), ⟨_, rfl, Nat.zero_le _, W1, L1, env, st1, .refl W1, I1, e⟩, ?_⟩
  rintro i m σ H ⟨rfl, hi, W2, L2, env2, st2, l2, I2, e2⟩
  have wk2 := wk F W2 L2 env2 st2 σ H i l2 I2
  by_cases hlt : i < ds.length
  · rw [List.drop_eq_getElem_cons hlt] at e2
    obtain ⟨env3, h3, e2⟩ := bind2 e2
    obtain ⟨⟨o4, env4, st4⟩, h4, e2⟩ := bind2 e2
    obtain ⟨go, yl⟩ := wk2.1 ds[i] (List.getElem?_eq_getElem hlt)
    refine .inr ⟨go, fun σ' H' => i + 1 ≤ ds.length ∧ ∃ W2 L2 env2 st2, W1.le W2 ∧ Rel X.K ct F W2 L2 env2 st2 σ' H' ∧ forL g f (ds.drop (i + 1)) env2 st2 = some (o, env', st'), fun σ' H' q => ⟨_, by omega, rfl, q⟩, fun v H' y => ?_⟩
    obtain ⟨W3, L3, l3, I3, r3⟩ := yl v H' y
    refine ⟨F, W3, L3, env2, st2, _, env3, I3, r3, h3, fun σ3 _ _ I3' => ?_⟩
    refine ⟨F, W3, L3, env3, st2, o4, env4, st4, I3', h4, ?_⟩
    have ll := l2.trans l3
    cases o4 with
    | nx => exact fun σ' H' W5 L5 l5 I5 => ⟨hlt, W5, L5, env4, st4, ll.trans l5, I5, e2⟩
    | ct => exact fun σ' H' W5 L5 l5 I5 => ⟨hlt, W5, L5, env4, st4, ll.trans l5, I5, e2⟩
    | bk => cases e2; exact fun σ' H' W5 L5 l5 I5 => k _ _ _ _ (l1.trans (ll.trans l5)) I5
    | rt r => cases e2; exact fun v σ' H' W5 L5 l5 I5 => k v _ _ _ _ (l1.trans (ll.trans l5)) I5
  · have ei : i = ds.length := by omega
    rw [ei, List.drop_length] at e2
    cases e2
    exact .inl ⟨wk2.2 (by omega), k _ _ _ _ (l1.trans l2) I2⟩
/-- raise c('..') -/
theorem ssx_raise {nm mt : Str} {j : Nat} {p1 p2 p3 : Pos} (tk : Takes X (EW E)) (hc : X.calm = true) (x : ExK X.K X.mg xt nm C) (hg : Gl X nm := by rfl)
    (hdb : (nm == ("__debug__" : Str)) = false := by decide) : SSX X ct xt E (.Raise (some (.Call (.Name nm p1) [.Constant (.str mt) j p2] [] p3)) none pos) (sRet (eC (.str nm))) := by
  refine ⟨ps_mono (ps_raise hc tk (pmk_own PySem.F.excBase_ValueError x.q x.gC x.kC (raises_own x.r1 x.r2) hg hdb)) fun D σ H ⟨F, W, L, env, st, o, env', st', I, e, k⟩ => ?_⟩
  cases e
  obtain ⟨c, e1, e2⟩ := k (.str nm) σ H W L (.refl W) I (.str nm)
  cases e1
  exact e2 C x.hx
/-- a statement whose first call may raise: xe that it does, f that it does not -/
def sXp (xe : Sem) (f : SemS) : SemS := fun env st => match xe env st with
  | some (.sh (.str c), st') => some (.rt (.sh (.str c)), env, st')
  | _ => f env st
theorem ssx_xp (h1 : SXs X ct xt E sx a) (h2 : SSX X ct xt E sx f) : SSX X ct xt E sx (sXp a f) := by
  refine ⟨ps_mono (ps_or h1.ps h2.ps) fun D σ H ⟨F, W, L, env, st, o, env', st', I, e, k⟩ => ?_⟩
  unfold sXp at e
  split at e
  · rename_i c st1 he
    cases e
    exact .inl ⟨F, W, L, _, st, _, _, I, he, fun v H1 W1 L1 l1 I1 p => k v σ H1 W1 L1 l1 I1 p⟩
  · exact .inr ⟨F, W, L, env, st, o, env', st', I, e, k⟩
theorem sbx_never : SBX X ct xt E sxs sNever := ⟨pss_mono pss_never fun D σ H ⟨F, W, L, env, st, o, env', st', I, e, k⟩ => by cases e⟩
end
/-! what hands nothing back -/
section
variable {a b c : Sem} {f : SemS} {i : Nat}
theorem nort_set : NoRt (sSet i a) := fun env st o env' st' h r q => by
  obtain ⟨p, _, h⟩ := bind2 h
  split at h <;> cases h <;> cases q
end
/-- THE RULE for a def that raises -/
theorem fnX_ok {P : Program} {w : World} {K : PySem.W.Frag} {ct : CT} {xt : XT} {mg : Str → Option Value} {base : Heap} {name qual : Str} {st : Stmt} {f : Addr} {fd : FuncData} {N ps : List Str} {k : Nat} {b : SemS} (F : Fun K name qual st f fd) (S : FnScope N ps (defScope st))
    (hb : ∀ (cdv : Value) (A : Around) (outer : List Env) (s : Shared) (H : Hp) (E : XK), Room k (A.deeper (PyProof.Rows.envOfC qual (defScope st) s.heap.objs.size f cdv)) → Takes (cxOf (L2.CX P w) P w K mg base N qual (defScope st) f cdv A outer s H E) (EW E) → PassesOwn (model P w) (cxOf (L2.CX P w) P w K mg base N qual (defScope st) f cdv A outer s H E).A (cxOf (L2.CX P w) P w K mg base N qual (defScope st) f cdv A outer s H E).env (cxOf (L2.CX P w) P w K mg base N qual (defScope st) f cdv A outer s H E).xe → SBX (cxOf (L2.CX P w) P w K mg base N qual (defScope st) f cdv A outer s H E) ct xt E (defBody st) b) :
    FnOk P w K mg base (L2.CX P w) (k + 1) f fd ps (spX K ct xt ps.length (runB N.length b)) := by
  refine F.okX S (fun vs H Q E h => ?_) (fun cdv A outer s H vs Q E hr h => ?_)
  · obtain ⟨F, W, L, st, ds, r, st', I, q, hl, e, k⟩ := h
    rw [q.length]; exact hl
  · obtain ⟨F, W, L, st, ds, r, st', I, q, hl, e, kk⟩ := h
    refine ⟨_, (hb cdv A outer s H E hr (takes_of rfl rfl rfl rfl) (passes_of rfl)).pss, ?_⟩
    obtain ⟨⟨o, env', st1⟩, h2, e⟩ := bind2 e
    have hpl : ps.length ≤ N.length := by have := congrArg List.length S.pre; rw [List.length_take] at this; omega
    refine ⟨F, W, L, _, st, o, env', st1, rel_start I q (by rw [q.length, hl]; exact hpl), h2, ?_⟩
    cases o with
    | nx =>
      cases e
      intro σ' H' W' L' l I'
      obtain ⟨L2, I2, p2⟩ := rel_end I' (v := .non) (r := .sh .non) .non
      obtain ⟨c, z, _⟩ := kk _ _ _ _ l I2 p2
      cases z
    | bk => cases e
    | ct => cases e
    | rt r1 =>
      cases e
      intro v σ' H' W' L' l I' p
      obtain ⟨L2, I2, p2⟩ := rel_end I' p
      exact kk _ _ _ _ l I2 p2
theorem spX_imp {K : PySem.W.Frag} {ct : CT} {xt : XT} {n : Nat} {m m' : Fn} (h : ∀ ds st r st', ds.length = n → m' ds st = some (r, st') → m ds st = some (r, st')) : ∀ vs H Q E, spX K ct xt n m' vs H Q E → spX K ct xt n m vs H Q E := fun vs H _ E => spD_imp h vs H _ E
end Kn
namespace Kn
open PySem L2
/-! ### try: a call; except X as e: a suite that asks what e is -/
def isX (c C : Str) : Bool := decide (c = C) || decide (C = "KnotError") || decide (C = "ValueError")
/-- isinstance(e, C), slot i holding the exception at a -/
def eIsE (i : Nat) (a : Addr) (b : Bool) : Sem := fun env st => match (env[i]? : Option Kn.Slot) with
  | some (.exc a') => if a' = a then some (.sh (.bl b), st) else none
  | _ => none
section
variable {X : Cx} {ct : CT} {pos p p1 p2 p3 : Pos} {a D C' : Addr} {oe : Obj} {pn : List (Addr × Obj)} {n cn : Str} {b : Bool}
theorem se_isE0 (i : Nat) {c : Expr} {v : V} {cv : Value} (EC : ExcC X.K D) (hz : Zc (.ref D) none oe) (hf : ∃ vs, oe.data = .fields vs) (hc : PE (X.suite a ((a, oe) :: pn)) c (tC v)) (hcv : ∀ u, RelV v u → u = cv) (hk : PySem.W.kitOne X.K (.ref D) cv = some b) (hm : X.mg "isinstance" = none)
    (hN : X.N[i]? = some n) (hg : Gl X "isinstance") (hv : Vis X.env.scope n) (hd : (n == ("__debug__" : Str)) = false) (hcd : (n == ("__classdict__" : Str)) = false) (he : starEach [.Name n p1, c] X.env = (false, eval (.Name n p1) X.env) :: starEach [c] X.env) (he2 : starEach [c] X.env = (false, eval c X.env) :: starEach [] X.env) (hpl : (backTo pos (starEach [c] X.env)).any (·.1) = false) :
    SE (X.suite a ((a, oe) :: pn)) ct (.Call (.Name "isinstance" p) [.Name n p1, c] [] pos) (eIsE i a b) := by
  refine ⟨pe_mono (pe_callB (X := X.suite a ((a, oe) :: pn)) (call_isE EC hz hf) hg hm PyProof.Rows.boot_isinstance (pa_cons (pe_var (i := i) hN hv hd hcd) (pa_cons hc pa_nil he2) he) (by decide) (by decide) he hpl) fun σ H Q ⟨F, W, L, env, st, r, st', I, e, k⟩ => ?_⟩
  unfold eIsE at e
  split at e
  · rename_i a' ha
    split at e
    · rename_i ea
      cases e
      have hs : σ[i]? = some (some (.ref a')) := I.sl i _ ha
      rw [ea] at hs
      exact ⟨_, hs, v, cv, b, rfl, hcv, hk, k (.bl b) H W L (.refl W) I (.bl b)⟩
    · cases e
  · cases e
theorem se_isE (i : Nat) (EC : ExcC X.K D) (hz : Zc (.ref D) none oe) (hf : ∃ vs, oe.data = .fields vs) (hC : X.mg cn = some (.ref C')) (hk : PySem.W.kitOne X.K (.ref D) (.ref C') = some b) (hm : X.mg "isinstance" = none)
    (hN : X.N[i]? = some n := by rfl) (hg : Gl X "isinstance" := by rfl) (hgc : Gl X cn := by rfl) (hv : Vis X.env.scope n := by first | exact Or.inl rfl | exact Or.inr (Or.inl rfl) | exact Or.inr (Or.inr rfl)) (hd : (n == ("__debug__" : Str)) = false := by decide) (hcd : (n == ("__classdict__" : Str)) = false := by decide) (hdc : (cn == ("__debug__" : Str)) = false := by decide)
    (he : starEach [.Name n p1, .Name cn p2] X.env = (false, eval (.Name n p1) X.env) :: starEach [.Name cn p2] X.env := by rfl) (he2 : starEach [.Name cn p2] X.env = (false, eval (.Name cn p2) X.env) :: starEach [] X.env := by rfl) (hpl : (backTo pos (starEach [.Name cn p2] X.env)).any (·.1) = false := by rfl) :
    SE (X.suite a ((a, oe) :: pn)) ct (.Call (.Name "isinstance" p) [.Name n p1, .Name cn p2] [] pos) (eIsE i a b) :=
  se_isE0 i EC hz hf (pe_glob (X := X.suite a ((a, oe) :: pn)) (v := .ref C') hgc hC rfl hdc) (fun u h => h) hk hm hN hg hv hd hcd he he2 hpl
theorem se_isEb (i : Nat) {T : String} (EC : ExcC X.K D) (hz : Zc (.ref D) none oe) (hf : ∃ vs, oe.data = .fields vs) (hC : X.mg cn = none) (hb : bootBuiltins cn = some (.type T)) (hk : PySem.W.kitOne X.K (.ref D) (.type T) = some b) (hm : X.mg "isinstance" = none)
    (hN : X.N[i]? = some n := by rfl) (hg : Gl X "isinstance" := by rfl) (hgc : Gl X cn := by rfl) (hv : Vis X.env.scope n := by first | exact Or.inl rfl | exact Or.inr (Or.inl rfl) | exact Or.inr (Or.inr rfl)) (hd : (n == ("__debug__" : Str)) = false := by decide) (hcd : (n == ("__classdict__" : Str)) = false := by decide) (hdc : (cn == ("__debug__" : Str)) = false := by decide) (hnn : cn ≠ "__name__" := by decide)
    (he : starEach [.Name n p1, .Name cn p2] X.env = (false, eval (.Name n p1) X.env) :: starEach [.Name cn p2] X.env := by rfl) (he2 : starEach [.Name cn p2] X.env = (false, eval (.Name cn p2) X.env) :: starEach [] X.env := by rfl) (hpl : (backTo pos (starEach [.Name cn p2] X.env)).any (·.1) = false := by rfl) :
    SE (X.suite a ((a, oe) :: pn)) ct (.Call (.Name "isinstance" p) [.Name n p1, .Name cn p2] [] pos) (eIsE i a b) :=
  se_isE0 i EC hz hf (pe_bltn (X := X.suite a ((a, oe) :: pn)) (v := .ty T) hgc hC hb rfl hnn hdc) (fun u h => h) hk hm hN hg hv hd hcd he he2 hpl
end
section
open Classical
noncomputable def sTry (i : Nat) (xs : List Str) (xe : Sem) (f : SemS) (su : Addr → Str → SemS) : SemS := fun env st => match xe env st with
  | some (.sh (.str c), st') => if h : c ∈ xs ∧ ∃ q : List Kn.Slot × Sto, ∀ a, ∃ e2, su a c (env.set i (.exc a)) st' = some (.nx, e2, q.2) ∧ e2.set i .no = q.1 then some (.nx, (choose h.2).1, (choose h.2).2) else none
  | _ => f env st
theorem sTry_exc {i : Nat} {xs : List Str} {xe : Sem} {f : SemS} {su : Addr → Str → SemS} {env : List Kn.Slot} {st st' : Sto} {c : Str} (he : xe env st = some (.sh (.str c), st')) : sTry i xs xe f su env st = if h : c ∈ xs ∧ ∃ q : List Kn.Slot × Sto, ∀ a, ∃ e2, su a c (env.set i (.exc a)) st' = some (.nx, e2, q.2) ∧ e2.set i .no = q.1 then some (.nx, (choose h.2).1, (choose h.2).2) else none := by
  unfold sTry
  rw [he]
theorem sTry_no {i : Nat} {xs : List Str} {xe : Sem} {f : SemS} {su : Addr → Str → SemS} {env : List Kn.Slot} {st : Sto} (he : xe env st = none) : sTry i xs xe f su env st = f env st := by
  unfold sTry
  rw [he]
end
section
variable {X : Cx} {ct : CT} {xt : XT} {pos pos' np p : Pos} {n xk : Str} {cv : Value} {x : Expr} {b₀ : Stmt} {suite : List Stmt} {a b : Sem} {su : Addr → Str → SemS} {xs : List Str}
theorem pss_ex {ι : Type} {sxs : List Stmt} {q : ι → Prop} {t : ι → TS} (h : ∀ i, q i → PSs X sxs (t i)) : PSs X sxs (fun D σ H => ∃ i, q i ∧ t i D σ H) := ⟨fun pins s σ H D I ⟨i, hq, z⟩ => (h i hq).run pins s σ H D I z⟩
end
/-! typed -/
open En
section
variable {α β σ τ : Type} [En α] [En β]
variable {k : Kx} {env : List Kn.Slot} {st : Sto} {a b c : Sem} {i : Nat} {fn : Bool} {enc : τ → Outs} {f g : SemS}
theorem ev_isE {ad : Addr} {v : Bool} (he : env[i]? = some (.exc ad)) : Ev .sh (eIsE i ad v) env st (some v) := by
  unfold Ev eIsE
  rw [he]
  show (if ad = ad then _ else _) = _
  rw [if_pos rfl]; rfl
theorem ru_xp {t1 : Option Txt} {T : Option τ} {F : Txt → τ} (h1 : Ev .sh a env st t1) (he : ∀ x, enc (F x) = (.rt (.sh (en x)), [], st)) (h2 : Ru fn enc (sSeq f g) env st T) : Ru fn enc (sSeq (sXp a f) g) env st (t1.elim T fun x => some (F x)) := by
  unfold Ev at h1
  cases t1 with
  | none =>
    have : sSeq (sXp a f) g env st = sSeq f g env st := by rw [x_seq, x_seq]; unfold sXp; rw [h1]; rfl
    unfold Ru at h2 ⊢
    rw [this]; exact h2
  | some x =>
    unfold Ru
    have : sSeq (sXp a f) g env st = some (.rt (.sh (en x)), env, st) := by rw [x_seq]; unfold sXp; rw [h1]; rfl
    rw [this]
    show some (nrm fn (.rt (.sh (en x)), env, st)) = some (enc (F x))
    rw [he]; rfl
theorem rnx_try {E : σ → List Kn.Slot} {xs : List Str} {su : Addr → Str → SemS} {t1 : Option Txt} {t2 : Option (σ × Sto)} {T3 : Txt → Option (σ × Sto)} (h1 : Ev .sh a env st t1) (h2 : RnX E f env st t2) (h3 : ∀ ad x, RnX (fun s => (E s).set i (.exc ad)) (su ad x.x) (env.set i (.exc ad)) st (T3 x)) (hE : ∀ s, (E s).set i .no = E s) :
    RnX E (sTry i xs a f su) env st (t1.elim t2 fun x => if x.x ∈ xs then T3 x else none) := by
  unfold Ev at h1
  unfold RnX at h2 h3 ⊢
  cases t1 with
  | none => rw [sTry_no h1]; exact h2
  | some x =>
    rw [sTry_exc (c := x.x) (st' := st) h1]
    by_cases hc : x.x ∈ xs
    · have h3 := fun ad => h3 ad x
      cases hT : T3 x with
      | none =>
        rw [dif_neg]
        · show none = Option.map _ (if x.x ∈ xs then T3 x else none)
          rw [if_pos hc, hT]; rfl
        · rintro ⟨_, q, hq⟩
          obtain ⟨e2, g1, _⟩ := hq 0
          rw [h3 0, hT] at g1; cases g1
      | some p =>
        have w : x.x ∈ xs ∧ ∃ q : List Kn.Slot × Sto, ∀ ad, ∃ e2, su ad x.x (env.set i (.exc ad)) st = some (.nx, e2, q.2) ∧ e2.set i .no = q.1 := ⟨hc, (E p.1, p.2), fun ad => ⟨(E p.1).set i (.exc ad), by rw [h3 ad, hT]; rfl, by rw [List.set_set, hE]⟩⟩
        rw [dif_pos w]
        have hq := Classical.choose_spec w.2
        obtain ⟨e2, g1, g2⟩ := hq 0
        rw [h3 0, hT] at g1
        have g1 := Option.some.inj g1
        have e1 : (E p.1).set i (.exc 0) = e2 := congrArg (fun q : Outs => q.2.1) g1
        have e3 : p.2 = (Classical.choose w.2).2 := congrArg (fun q : Outs => q.2.2) g1
        rw [← e1, List.set_set, hE] at g2
        show _ = Option.map _ (if x.x ∈ xs then T3 x else none)
        rw [if_pos hc, hT, ← g2, ← e3]; rfl
    · rw [dif_neg fun q => hc q.1]
      show none = Option.map _ (if x.x ∈ xs then T3 x else none)
      rw [if_neg hc]; rfl
end
/-! things of any kind -/
section
variable {X : Cx} {ct : CT} {pos p : Pos} {x : Expr} {a : Sem}
end
theorem ru_nv {fn : Bool} {enc : τ → Outs} {env : List Kn.Slot} {st : Sto} : Ru fn enc sNever env st none := rfl
section
variable {X : Cx} {ct : CT} {xt : XT} {Wx : WX} {pos p pos2 tpos : Pos} {x y : Expr} {a : Sem} {v : V} {k kk : Nat} {elts ifs : List Expr} {scope : Scope} {own : List (Str × Nat)}
theorem boot_ValueError : bootBuiltins "ValueError" = some (.type "ValueError") := PyProof.Rows.Boot.«ValueError»
end
end Kn
namespace Kn
open PySem L2
/-! ### tuple(a list) of a known length -/
def fTofN (n : Nat) : D → Option R
  | .lst ds => if ds.length = n then some (.sh (.tup ds)) else none
  | _ => none
section
variable {X : Cx} {ct : CT} {pos p : Pos} {x : Expr} {a : Sem}
theorem se_tupN (n : Nat) (hg : Gl X "tuple") (hm : X.mg "tuple" = none) (ha : SE X ct x a) (he : starEach [x] X.env = (false, eval x X.env) :: starEach [] X.env := by rfl) (hpl : (backTo pos (starEach [] X.env)).any (·.1) = false := by rfl) :
    SE X ct (.Call (.Name "tuple" p) [x] [] pos) (e1 (fTofN n) a) := by
  refine ⟨pe_mono (se_tuple hg hm ha he hpl).pe fun σ H Q ⟨F, W, L, env, st, r, st', I, e, k⟩ => ⟨F, W, L, env, st, r, st', I, ?_, k⟩⟩
  obtain ⟨⟨r1, st1⟩, h1, e⟩ := bind2 e
  show ((a env st).bind fun p => (fTofs p.1.d).map fun r => (r, p.2)) = _
  rw [h1]
  show ((fTofs r1.d).map fun r => (r, st1)) = _
  obtain ⟨r2, h2, h3⟩ := map2 e
  have h2 : fTofN n r1.d = some r2 := h2
  have : fTofs r1.d = some r2 := by
    unfold fTofN at h2
    split at h2
    · rename_i ds hd
      split at h2
      · cases h2; rw [hd]; rfl
      · cases h2
    · cases h2
  rw [this]; exact congrArg some h3
end
open En
section
variable {α : Type} [En α]
def tup2? : List α → Option (Tp2 α α)
  | [a, b] => some ⟨a, b⟩
  | _ => none
def tup5? : List α → Option (Tp5 α α α α α)
  | [a, b, c, d, e] => some ⟨a, b, c, d, e⟩
  | _ => none
theorem fTofN_ne {n : Nat} {l : List α} (h : l.length ≠ n) : fTofN n (en l) = none := by
  show (if (l.map en).length = n then some (Kn.R.sh (.tup (l.map en))) else none) = _
  rw [List.length_map, if_neg h]
theorem o1_tup2 : Op1 (α := List α) .sh (fTofN 2) tup2? := fun l => by
  match l with
  | [] => rfl
  | [_] => rfl
  | [a, b] => rfl
  | _ :: _ :: _ :: l => exact (fTofN_ne (by simp only [List.length_cons]; omega)).trans rfl
theorem o1_tup5 : Op1 (α := List α) .sh (fTofN 5) tup5? := fun l => by
  match l with
  | [] => rfl
  | [_] => rfl
  | [_, _] => rfl
  | [_, _, _] => rfl
  | [_, _, _, _] => rfl
  | [a, b, c, d, e] => rfl
  | _ :: _ :: _ :: _ :: _ :: _ :: l => exact (fTofN_ne (by simp only [List.length_cons]; omega)).trans rfl
end
section
variable {α β γ δ σ ρ τ : Type} [En α] [En β] [En γ]
variable {k k1 k2 k3 : Kx} {env env' : List Kn.Slot} {st : Sto} {e a b c : Sem} {i j n : Nat} {x x' : α} {y : β} {tx : Option α} {ty : Option β} {as : SemA} {ds : List D}
variable {fn : Bool} {enc : τ → Outs} {f g h s1 : SemS} {t t1 t2 : Option τ} {z : τ}
end
section
variable {α β σ τ : Type} [En α] [En β]
variable {k : Kx} {env : List Kn.Slot} {st : Sto} {a b c : Sem} {i : Nat} {fn : Bool} {enc : τ → Outs} {f g : SemS}
end
instance asDInt : AsG D Int := ⟨D.int?, isIntD, fun x => by cases x <;> first | exact ⟨rfl, rfl⟩ | rfl⟩
def D.pair? : D → Option (Tp2 Int Int)
  | .tup [.int i, .int j] => some ⟨i, j⟩
  | _ => none
def D.pairs? : List D → Option (List (Tp2 Int Int))
  | [] => some []
  | d :: ds => d.pair?.bind fun x => (D.pairs? ds).map fun xs => x :: xs
def isPairsD : D → Bool
  | .lst ds => (D.pairs? ds).isSome
  | _ => false
theorem pairs_en : ∀ {ds : List D} {l : List (Tp2 Int Int)}, D.pairs? ds = some l → l.map en = ds
  | [], _, h => by cases h; rfl
  | d :: ds, _, h => by
    obtain ⟨x, h1, h⟩ := bind2 h
    obtain ⟨xs, h2, h3⟩ := map2 h
    subst h3
    rw [List.map_cons, pairs_en h2]
    unfold D.pair? at h1
    split at h1
    · cases h1; rfl
    · cases h1
def D.pairsL? : D → Option (List (Tp2 Int Int))
  | .lst ds => D.pairs? ds
  | _ => none
theorem isPairs_none : ∀ {x : D}, D.pairsL? x = none → isPairsD x = false
  | .lst ds, h => by
    show (D.pairs? ds).isSome = false
    rw [show D.pairs? ds = none from h]; rfl
  | .non, _ => rfl
  | .bl _, _ => rfl
  | .int _, _ => rfl
  | .str _, _ => rfl
  | .tup _, _ => rfl
  | .dic _, _ => rfl
  | .obj _ _, _ => rfl
  | .hnd _, _ => rfl
  | .scr _, _ => rfl
theorem isPairs_some : ∀ {x : D} {y : List (Tp2 Int Int)}, D.pairsL? x = some y → isPairsD x = true ∧ (en y : D) = x
  | .lst ds, y, h => by
    have h : D.pairs? ds = some y := h
    exact ⟨by show (D.pairs? ds).isSome = true; rw [h]; rfl, congrArg D.lst (pairs_en h)⟩
instance asDPairs : AsG D (List (Tp2 Int Int)) := ⟨D.pairsL?, isPairsD, fun x => by
  cases h : D.pairsL? x with
  | none => exact isPairs_none h
  | some y => exact isPairs_some h⟩
section
variable {α β γ μ : Type} [En α] [En β] [En γ]
variable {k : Kx} {env : List Kn.Slot} {st : Sto} {a : Sem} {as : SemA} {n : Nat} {m : Fn} {dec : μ → List D}
end
/-! lists of truths -/
theorem eqvAll_bls : ∀ xs ys : List Bool, PyData.eqvAll (D.pyL (xs.map .bl)) (D.pyL (ys.map .bl)) = decide (xs = ys)
  | [], [] => rfl
  | [], _ :: _ => rfl
  | _ :: _, [] => rfl
  | n :: ns, m :: ms => by
    simp only [List.map_cons, D.pyL, PyData.eqvAll, D.py, PyData.eqv]
    rw [eqvAll_bls ns ms]
    by_cases h : n = m
    · subst h; simp
    · simp [h]
theorem eq_bls (ns ms : List Bool) : (D.lst (ns.map .bl)).eq (.lst (ms.map .bl)) = decide (ns = ms) := by
  unfold D.eq
  rw [D.py, D.py, PyData.eqv, eqvAll_bls]
theorem o2_eqLb : Op2 (α := List Bool) (β := List Bool) .sh fEq fun x y => some (decide (x = y)) := fun x y => by
  show fEq (.lst (x.map .bl)) (.lst (y.map .bl)) = _
  unfold fEq; rw [eq_bls, ok_bls, ok_bls]; rfl
structure Tp0 where
  deriving DecidableEq
instance : En Tp0 := ⟨fun _ => .tup []⟩
/-! in a suite: the room without what is handled -/
theorem unH {k : Nat} {A B : Around} (hr : Room k A) (h : B.units = A.units) : B.units + 200 < cLine := by have := hr.un; omega
section
variable {X : Cx} {ct : CT} {pos : Pos} {x y : Expr} {a b : Sem}
theorem op_inU (h : X.A.units + 200 < cLine) : OpR X (compareOp .In) (fun x y H Q => rInD X.K x y H Q ∨ rIn X.K false x y H Q ∨ ∃ a o, y = .ref a ∧ DGet H a x o ∧ Q (.bl o.isSome) H) := OpR.or (op_inD (by omega)) (OpR.or op_in_seq (op_inDict (by omega)))
theorem se_inU (h : X.A.units + 200 < cLine) (ha : SE X ct x a) (hb : SE X ct y b) (hm : behindInMarks .In y = false := by with_unfolding_all rfl) : SE X ct (.Compare x [.In] [y] pos) (e2 fIn a b) := se_cmp (op_inU h) (os_in false) hm ha hb
end
section
variable {a b : Sem} {as : SemA} {i : Nat}
theorem nort_mut {f : List D → List D → Option (List D)} : NoRt (sMut i f as) := fun env st o env' st' h r q => by
  obtain ⟨p, _, h⟩ := bind2 h
  obtain ⟨xs, _, h⟩ := bind2 h
  split at h
  · obtain ⟨_, _, h2⟩ := map2 h
    cases h2; cases q
  · cases h
end
/-! what raises within a call's arguments -/
section
variable {X : Cx} {ct : CT} {xt : XT} {Wx : WX} {E : XK} {pos p apos npos : Pos} {x y : Expr} {es : List Expr} {a b : Sem} {k n i : Nat} {ps : List Str} {m : Fn} {nm f : Str}
end
section
open En
variable {α β : Type} [En α] [En β] {k k2 : Kx} {env : List Kn.Slot} {st : Sto} {a b : Sem} {x : α} {tx : Option α} {t : Option β}
end
structure McXD (P : Program) (w : World) (K : PySem.W.Frag) (mg : Str → Option Value) (base : Heap) (ct : CT) (xt : XT) (C : Addr) (nm : Str) (k : Nat) (ps : List Str) (m : Fn) (d : D) : Prop where
  ex : ∃ f fd u v, FnOk P w K mg base (L2.CX P w) k f fd ps (spX K ct xt ps.length m) ∧ Meth K C nm f ∧ Binds K fd ps [] ∧ Binds K fd ps [u] ∧ RelV v u ∧ ∀ W, Rep K ct W v d
section
variable {P : Program} {w : World} {K : PySem.W.Frag} {mg : Str → Option Value} {base : Heap} {ct : CT} {xt : XT}
theorem McXD.all {C : Addr} {nm : Str} {k : Nat} {ps : List Str} {m : Fn} {d : D} (M : McXD P w K mg base ct xt C nm k ps m d) : MclX P w K mg base ct xt C nm k ps m := by
  obtain ⟨f, fd, u, v, h1, h2, h3, _⟩ := M.ex
  exact ⟨f, fd, h1, h2, h3⟩
end
end Kn
namespace Kn
open PySem L2
/-! ### texts -/
open En
/-- a text, where its signs are such -/
def okT (x : Str) : Option Txt := if h : PyData.strOk x = true then some ⟨x, h⟩ else none
def fOkS (x : Str) : Option R := (okT x).map fun c => Kx.sh.r (en c)
theorem okT_x {x : Str} {t : Txt} (h : okT x = some t) : t.x = x := by
  unfold okT at h
  split at h <;> cases h
  rfl
theorem okT_ok {x : Str} (h : PyData.strOk x = true) : okT x = some ⟨x, h⟩ := by unfold okT; rw [dif_pos h]
theorem fOkS_eq {x : Str} {r : R} (h : fOkS x = some r) : r = .sh (.str x) := by
  obtain ⟨t, h1, h2⟩ := map2 h
  rw [← h2]
  show R.sh (.str t.x) = _
  rw [okT_x h1]
def okTs : List Str → Option (List Txt)
  | [] => some []
  | x :: xs => (okT x).bind fun t => (okTs xs).map fun ts => t :: ts
theorem okTs_en : ∀ {xs : List Str} {ts : List Txt}, okTs xs = some ts → ts.map en = xs.map D.str
  | [], _, h => by cases h; rfl
  | x :: xs, _, h => by
    obtain ⟨t, h1, h⟩ := bind2 h
    obtain ⟨ts, h2, h3⟩ := map2 h
    subst h3
    rw [List.map_cons, List.map_cons, okTs_en h2]
    show D.str t.x :: _ = _
    rw [okT_x h1]
def strsD : List D → Option (List Str)
  | [] => some []
  | .str x :: ds => (strsD ds).map fun xs => x :: xs
  | _ :: _ => none
theorem strsD_en : ∀ ts : List Txt, strsD (ts.map en) = some (ts.map Txt.x)
  | [] => rfl
  | t :: ts => by
    show ((strsD (ts.map en)).map fun xs => t.x :: xs) = _
    rw [strsD_en ts]; rfl
theorem strsD_eq : ∀ {ds : List D} {xs : List Str}, strsD ds = some xs → ds = xs.map D.str
  | [], _, h => by cases h; rfl
  | d :: ds, _, h => by
    cases d with
    | str x =>
      obtain ⟨ys, h1, h2⟩ := map2 h
      subst h2
      rw [strsD_eq h1]; rfl
    | _ => cases h
section
variable {X : Cx} {ct : CT} {pos p apos pos2 cpos : Pos} {x y o : Expr} {a b : Sem}
variable {F H H' : Hp} {W W' : Wd} {L L' : Addr → Option Lab} {env : List Kn.Slot} {st : Sto} {σ : St}
theorem RepL.of_strs {K : PySem.W.Frag} : ∀ xs : List Str, RepL K ct W (xs.map V.str) (xs.map D.str)
  | [] => .nil
  | x :: xs => .cons (.str x) (RepL.of_strs xs)
/-! slices -/
def fSlcS (d : D) (lo hi : Option Int) : Option R := match d with
  | .str z => if z.length ≤ sizeLine then fOkS (cutS z lo hi) else none
  | _ => none
def eSlcT (a : Sem) (lo hi : SemP) : Sem := fun env st => (a env st).bind fun p => (lo env p.2).bind fun l => (hi env l.2).bind fun h => (fSlcS p.1.d l.1 h.1).map fun r => (r, h.2)
theorem se_slcT {lo hi : Option Expr} {l h : SemP} {p2 : Pos} (ha : SE X ct x a) (hl : SP' X ct lo l) (hh : SP' X ct hi h) : SE X ct (.Subscript x (.Slice lo hi none p2) pos) (eSlcT a l h) := by
  refine ⟨pe_mono (pe_slice sl_str ha.pe hl.po hh.po) fun σ H Q ⟨F, W, L, env, st, r, st', I, e, k⟩ => ?_⟩
  obtain ⟨⟨r1, st1⟩, h1, e⟩ := bind2 e
  obtain ⟨⟨o1, st2⟩, h2, e⟩ := bind2 e
  obtain ⟨⟨o2, st3⟩, h3, e⟩ := bind2 e
  obtain ⟨r4, h4, e⟩ := map2 e
  cases e
  have h4 : fSlcS r1.d o1 o2 = some r := h4
  unfold fSlcS at h4
  split at h4
  · rename_i z hz
    obtain ⟨hl4, h4⟩ := ifG h4
    have e4 := fOkS_eq h4
    subst e4
    refine ⟨F, W, L, env, st, r1, st1, I, h1, fun v H1 W1 L1 l1 I1 p1 => ?_⟩
    obtain ⟨W1', m1, J1, q1⟩ := I1.pin p1
    have hv := J1.look q1
    rw [R.pin_d, hz] at hv
    have hv := hv.str
    subst hv
    refine ⟨F, W1', L1, env, st1, o1, st2, J1, h2, fun H2 W2 L2 l2 I2 => ?_⟩
    refine ⟨F, W2, L2, env, st2, o2, st3, I2, h3, fun H3 W3 L3 l3 I3 => ?_⟩
    exact ⟨z, rfl, hl4, k _ _ _ _ (l1.trans (m1.trans (l2.trans l3))) I3 (.str _)⟩
  · cases h4
/-! the signs of a text, one by one -/
def sgD (z : Str) : List D := z.cps.toList.map fun c => D.str ⟨#[c]⟩
theorem wk_str {K : PySem.W.Frag} {W0 : Wd} (z : Str) : Wk K ct (Its z) W0 (sgD z) := by
  intro F W L env st σ H i le I
  refine ⟨fun d hd => ?_, fun hi => ?_⟩
  · unfold sgD at hd
    rw [List.getElem?_map] at hd
    obtain ⟨c, hc, rfl⟩ := map2 hd
    have hc : z.cps[i]? = some c := by rw [← Array.getElem?_toList]; exact hc
    refine ⟨(Array.getElem?_eq_some_iff.mp hc).1, fun x H' ⟨e1, c', e2, e3⟩ => ?_⟩
    rw [hc] at e2; cases e2
    subst e1; subst e3
    exact ⟨W, L, .refl W, I, .str _⟩
  · unfold sgD at hi
    rw [List.length_map, Array.length_toList] at hi
    exact hi
def iSig (a : Sem) : SemI := fun env st => (a env st).bind fun p => match p.1.d with
  | .str z => some (sgD z, p.2)
  | _ => none
theorem si_sig {tg : Expr} (ha : SE X ct x a) : SI X ct tg x (iSig a) := by
  refine ⟨pi_mono (pi_str ha.pe) fun σ H RR ⟨F, W, L, env, st, ds, st', I, e, k⟩ => ?_⟩
  obtain ⟨⟨r1, st1⟩, h1, e⟩ := bind2 e
  refine ⟨F, W, L, env, st, r1, st1, I, h1, fun v H1 W1 L1 l1 I1 p1 => ?_⟩
  obtain ⟨W1', m1, J1, q1⟩ := I1.pin p1
  have hv := J1.look q1
  rw [R.pin_d] at hv
  split at e
  · rename_i z hz
    cases e
    have hz : r1.d = .str z := hz
    rw [hz] at hv
    have hv := hv.str
    subst hv
    exact ⟨z, rfl, k _ H1 W1' L1 (l1.trans m1) J1 (wk_str z)⟩
  · cases e
/-! a method of a text with one thing -/
theorem se_m1S {id : String} {name : Str} {r : V → List V → Hp → VK → Prop} {f : D → D → Option R} (slot : PySem.Slot "str" name id) (ty : typeOf (.builtin id) = pure (.type "method_descriptor")) (rule : MtR X id r)
    (os : OpS X.K ct (fun x y H Q => r x [y] H Q) f) (hs0 : ∀ d1 d2 q, f d1 d2 = some q → ∃ z, d1 = .str z) (ha : SE X ct o a) (hb : SE X ct x b)
    (hs : starEach [x] X.env = [(false, eval x X.env)] := by rfl) (hbase : attributeBase o name X.env (eval o X.env) = eval o X.env := by rfl) (hline : (apos.endLine == pos.line) = true := by rfl) :
    SE X ct (.Call (.Attribute o name apos) [x] [] pos) (e2 f a b) := by
  refine ⟨pe_mono (pe_m1 slot ty rule ha.pe hb.pe hs hbase hline) fun σ H Q ⟨F, W, L, env, st, r, st', I, e, k⟩ => ?_⟩
  obtain ⟨⟨r1, st1⟩, h1, e⟩ := bind2 e
  obtain ⟨⟨r2, st2⟩, h2, e⟩ := bind2 e
  obtain ⟨r3, h3, e⟩ := map2 e
  cases e
  refine ⟨F, W, L, env, st, r1, st1, I, h1, fun x H1 W1 L1 l1 I1 p1 => ?_⟩
  obtain ⟨W1', m1, J1, q1⟩ := I1.pin p1
  refine ⟨?_, F, W1', L1, env, st1, r2, st2, J1, h2, fun y H2 W2 L2 l2 I2 p2 => ?_⟩
  · have hv := J1.look q1
    obtain ⟨z, hz⟩ := hs0 _ _ _ h3
    rw [R.pin_d, hz] at hv
    exact ⟨z, hv.str⟩
  obtain ⟨W2', m2, J2, q2⟩ := I2.pin p2
  have q1' := J2.look (q1.mono (l2.trans m2))
  have q2' := J2.look q2
  rw [R.pin_d] at q1' q2'
  exact os F W2' L2 env st2 σ H2 x y _ _ _ Q J2 q1' q2' h3 fun v H' W' L' l' I' p' => k v H' W' L' (l1.trans (m1.trans (l2.trans (m2.trans l')))) I' p'
/-- a.split(b) -/
def fSplit : D → D → Option R
  | .str u, .str v => if (v.length == 0) = false ∧ u.length + 2 ≤ sizeLine then (okTs (PySem.Txt.split u v)).map fun ts => Kx.ow.r (en ts) else none
  | _, _ => none
theorem se_split (ha : SE X ct o a) (hb : SE X ct x b) (hs : starEach [x] X.env = [(false, eval x X.env)] := by rfl) (hbase : attributeBase o "split" X.env (eval o X.env) = eval o X.env := by rfl) (hline : (apos.endLine == pos.line) = true := by rfl) :
    SE X ct (.Call (.Attribute o "split" apos) [x] [] pos) (e2 fSplit a b) := by
  refine se_m1S F.slot_str_split F.type_str_split mt_split ?_ ?_ ha hb hs hbase hline
  · intro F W L env st σ H x y d1 d2 r Q I h1 h2 e k
    unfold fSplit at e
    split at e
    · rename_i u v
      obtain ⟨c, e⟩ := ifG e
      obtain ⟨ts, e1, e2⟩ := map2 e
      refine ⟨u, v, h1.str, by rw [h2.str], c.1, c.2, fun p hp => ?_⟩
      rw [← e2] at k
      refine fresh_out I hp (.lst upd_same ?_) k
      show RepL X.K ct W _ (ts.map en)
      rw [okTs_en e1]
      exact RepL.of_strs _
    · cases e
  · intro d1 d2 q e
    unfold fSplit at e
    split at e
    · exact ⟨_, rfl⟩
    · cases e
/-- a.join(a list of texts) -/
def fJoin : D → D → Option R
  | .str u, .lst ds => (strsD ds).bind fun ys => if (ys.map (·.length)).sum + ys.length * u.length ≤ 16777216 then fOkS (PySem.Txt.join u ys) else none
  | _, _ => none
theorem se_join (ha : SE X ct o a) (hb : SE X ct x b) (hs : starEach [x] X.env = [(false, eval x X.env)] := by rfl) (hbase : attributeBase o "join" X.env (eval o X.env) = eval o X.env := by rfl) (hline : (apos.endLine == pos.line) = true := by rfl) :
    SE X ct (.Call (.Attribute o "join" apos) [x] [] pos) (e2 fJoin a b) := by
  refine se_m1S F.slot_str_join F.type_str_join mt_join ?_ ?_ ha hb hs hbase hline
  · intro F W L env st σ H x y d1 d2 r Q I h1 h2 e k
    unfold fJoin at e
    split at e
    · rename_i u ds
      obtain ⟨ys, e1, e⟩ := bind2 e
      obtain ⟨c, e⟩ := ifG e
      have e4 := fOkS_eq e
      subst e4
      have e5 := strsD_eq e1
      subst e5
      obtain ⟨a, vs, rfl, g, q⟩ := h2.list I
      have e6 := q.strs
      subst e6
      exact ⟨u, a, ys, h1.str, rfl, .inl (SqL.of g), c, k _ H W L (.refl W) I (.str _)⟩
    · cases e
  · intro d1 d2 q e
    unfold fJoin at e
    split at e
    · exact ⟨_, rfl⟩
    · cases e
/-- int(a text) -/
def fIntS : D → Option R
  | .str u => if u.length ≤ 640 then (PySem.intText? u).map fun n => Kx.sh.r (en n) else none
  | _ => none
theorem se_intS (hg : Gl X "int") (hm : X.mg "int" = none) (ha : SE X ct x a) (he : starEach [x] X.env = (false, eval x X.env) :: starEach [] X.env := by rfl) (hpl : (backTo pos (starEach [] X.env)).any (·.1) = false := by rfl) :
    SE X ct (.Call (.Name "int" p) [x] [] pos) (e1 fIntS a) := by
  refine se_t1 call_int_str ?_ hg hm PyProof.Rows.boot_int ha (by decide) (by decide) he hpl
  intro F W L env st σ H x d r Q I h e k
  unfold fIntS at e
  split at e
  · rename_i u
    obtain ⟨c, e⟩ := ifG e
    obtain ⟨n, e1, e2⟩ := map2 e
    subst e2
    exact ⟨u, n, by rw [h.str], e1, c, k _ H W L (.refl W) I (.int _)⟩
  · cases e
/-- str(an int) -/
def fStrI : D → Option R
  | .int i => if i.natAbs.log2 < 1920 then fOkS (toString i : String) else none
  | _ => none
theorem se_strI (hg : Gl X "str") (hm : X.mg "str" = none) (ha : SE X ct x a) (he : starEach [x] X.env = (false, eval x X.env) :: starEach [] X.env := by rfl) (hpl : (backTo pos (starEach [] X.env)).any (·.1) = false := by rfl) :
    SE X ct (.Call (.Name "str" p) [x] [] pos) (e1 fStrI a) := by
  refine se_t1 call_str_int ?_ hg hm PyProof.Rows.boot_str ha (by decide) (by decide) he hpl
  intro F W L env st σ H x d r Q I h e k
  unfold fStrI at e
  split at e
  · rename_i i
    obtain ⟨c, e⟩ := ifG e
    have e4 := fOkS_eq e
    subst e4
    exact ⟨i, by rw [h.int], c, k _ H W L (.refl W) I (.str _)⟩
  · cases e
def fNinS : D → D → Option R
  | .str u, .str v => match u.cps.toList with
    | [c] => some (.sh (.bl (!decide (c ∈ v.cps.toList))))
    | _ => none
  | _, _ => none
theorem one_sign {u : Str} {c : Nat} (h : u.cps.toList = [c]) : u = ⟨#[c]⟩ := by
  obtain ⟨l⟩ := u
  have : l = #[c] := Array.toList_inj.mp h
  rw [this]
theorem os_ninS {K : PySem.W.Frag} : OpS K ct (fun x y H Q => ∃ (c : Nat) (z : Str), x = .str ⟨#[c]⟩ ∧ y = .str z ∧ Q (.bl (!decide (c ∈ z.cps.toList))) H) fNinS := by
  intro F W L env st σ H x y d1 d2 r Q I h1 h2 e k
  unfold fNinS at e
  split at e
  · split at e
    · rename_i u v _ c hc
      cases e
      have := one_sign hc
      subst this
      exact ⟨c, v, h1.str, h2.str, k _ H W L (.refl W) I (.bl _)⟩
    · cases e
  · cases e
theorem st_ninS (ha : SE X ct x a) (hb : SE X ct y b) (hm : behindInMarks .NotIn y = false := by rfl) : ST X ct (.Compare x [.NotIn] [y] pos) (e2 fNinS a b) := st_cmp op_notIn_sign os_ninS hm ha hb
end
/-! typed -/
section
variable {α β : Type} [En α] [En β]
variable {k k1 k2 : Kx} {env : List Kn.Slot} {st : Sto} {a b : Sem}
def splT (u v : Txt) : Option (List Txt) := if (v.x.length == 0) = false ∧ u.x.length + 2 ≤ sizeLine then okTs (PySem.Txt.split u.x v.x) else none
theorem o2_split : Op2 (α := Txt) (β := Txt) .ow fSplit splT := fun u v => by
  show (if _ then _ else none) = Option.map _ (if _ then _ else none)
  split <;> rfl
def jnT (u : Txt) (ys : List Txt) : Option Txt := if ((ys.map Txt.x).map (·.length)).sum + (ys.map Txt.x).length * u.x.length ≤ 16777216 then okT (PySem.Txt.join u.x (ys.map Txt.x)) else none
theorem o2_join : Op2 (α := Txt) (β := List Txt) .sh fJoin jnT := fun u ys => by
  show ((strsD (ys.map en)).bind fun ys => if (ys.map (·.length)).sum + ys.length * u.x.length ≤ 16777216 then fOkS (PySem.Txt.join u.x ys) else none) = Option.map _ (if _ then _ else none)
  rw [strsD_en]
  show (if _ then _ else none) = Option.map _ (if _ then _ else none)
  split <;> rfl
def intT (u : Txt) : Option Int := if u.x.length ≤ 640 then PySem.intText? u.x else none
theorem o1_intS : Op1 (α := Txt) .sh fIntS intT := fun u => by
  show (if _ then _ else none) = Option.map _ (if _ then _ else none)
  split <;> rfl
def strT (i : Int) : Option Txt := if i.natAbs.log2 < 1920 then okT (toString i : String) else none
theorem o1_strI : Op1 (α := Int) .sh fStrI strT := fun i => by
  show (if _ then _ else none) = Option.map _ (if _ then _ else none)
  split <;> rfl
def ninT (u v : Txt) : Option Bool := match u.x.cps.toList with
  | [c] => some (!decide (c ∈ v.x.cps.toList))
  | _ => none
theorem o2_ninS : Op2 (α := Txt) (β := Txt) .sh fNinS ninT := fun u v => by
  show (match u.x.cps.toList with | [c] => _ | _ => none) = Option.map _ (match u.x.cps.toList with | [c] => _ | _ => none)
  split <;> rfl
def lnT (u : Txt) : Option Int := if u.x.length ≤ sizeLine then some (u.x.length : Int) else none
theorem o1_lenS : Op1 (α := Txt) .sh fLen lnT := fun u => by
  show (if _ then _ else none) = Option.map _ (if _ then _ else none)
  split <;> rfl
theorem strOk_l {u : Str} : PyData.strOk u = true ↔ ∀ c ∈ u.cps.toList, c < 0x110000 := by
  unfold PyData.strOk
  rw [← Array.all_toList, List.all_eq_true]
  exact ⟨fun h c hc => of_decide_eq_true (h c hc), fun h c hc => decide_eq_true (h c hc)⟩
theorem cp_ok {u : Txt} {c : Nat} (h : c ∈ u.x.cps.toList) : PyData.strOk ⟨#[c]⟩ = true := by
  refine strOk_l.mpr fun d hd => ?_
  have e : d = c := by simpa using hd
  rw [e]; exact strOk_l.mp u.ok c h
/-- a sign of a text -/
def sgT (u : Txt) (i : Int) : Option Txt := if u.x.length ≤ sizeLine then (atI u.x.cps.toList i).bind fun c => okT ⟨#[c]⟩ else none
theorem atI_mem {α : Type} {l : List α} {i : Int} {c : α} (h : atI l i = some c) : c ∈ l := by
  unfold atI at h
  obtain ⟨j, _, h2⟩ := bind2 h
  exact List.mem_of_getElem? h2
theorem o2_sg : Op2 (α := Txt) (β := Int) .sh fIdx sgT := fun u i => by
  show (if u.x.length ≤ sizeLine then (atI u.x.cps.toList i).map fun c => R.sh (.str ⟨#[c]⟩) else none) = Option.map _ (if u.x.length ≤ sizeLine then (atI u.x.cps.toList i).bind fun c => okT ⟨#[c]⟩ else none)
  split
  · cases h : atI u.x.cps.toList i with
    | none => rfl
    | some c =>
      show _ = Option.map _ (okT ⟨#[c]⟩)
      rw [okT_ok (cp_ok (atI_mem h))]; rfl
  · rfl
def sigT (u : Txt) : List Txt := (u.x.cps.toList.attach.map fun c => ⟨⟨#[c.1]⟩, cp_ok c.2⟩)
theorem sigT_x (u : Txt) : (sigT u).map Txt.x = u.x.cps.toList.map fun c => ⟨#[c]⟩ := by
  unfold sigT
  rw [List.map_map]
  exact (List.attach_map_val (l := u.x.cps.toList) (f := fun c => (⟨#[c]⟩ : Str)))
theorem sigT_en (u : Txt) : (sigT u).map en = sgD u.x := by
  have : (sigT u).map en = ((sigT u).map Txt.x).map D.str := by rw [List.map_map]; rfl
  rw [this, sigT_x, List.map_map]; rfl
theorem ei_sigx {t : Option Txt} (ha : Ev k a env st t) : EvI (iSig a) env st (t.bind fun u => some (sigT u)) := by
  unfold Ev at ha; unfold EvI iSig
  rw [ha]
  cases t with
  | none => rfl
  | some u =>
    show (match (k.r (en u)).d with | .str z => some (sgD z, st) | _ => none) = _
    rw [Kx.rd]
    show some (sgD u.x, st) = _
    rw [← sigT_en]; rfl
def catT (u v : Txt) : Option Txt := if u.x.length + v.x.length ≤ sizeLine then okT (u.x ++ v.x) else none
theorem strOk_app {u v : Str} (h1 : PyData.strOk u = true) (h2 : PyData.strOk v = true) : PyData.strOk (u ++ v) = true := by
  refine strOk_l.mpr fun d hd => ?_
  rw [PySem.Str.cps_append, Array.toList_append] at hd
  rcases List.mem_append.mp hd with hd | hd
  · exact strOk_l.mp h1 d hd
  · exact strOk_l.mp h2 d hd
theorem o2_catS : Op2 (α := Txt) (β := Txt) .sh fAdd catT := fun u v => by
  show (if u.x.length + v.x.length ≤ sizeLine then some (R.sh (.str (u.x ++ v.x))) else none) = Option.map _ (if u.x.length + v.x.length ≤ sizeLine then okT (u.x ++ v.x) else none)
  rw [okT_ok (strOk_app u.ok v.ok)]
  split <;> rfl
def slcT (u : Txt) (lo hi : Option Int) : Option Txt := if u.x.length ≤ sizeLine then okT (cutS u.x lo hi) else none
theorem ev_slcT {t : Option Txt} {lo hi : SemP} {tl th : Option (Option Int)} (ha : Ev k a env st t) (hl : EvP lo env st tl) (hh : EvP hi env st th) : Ev .sh (eSlcT a lo hi) env st (t.bind fun l => tl.bind fun u => th.bind fun v => slcT l u v) := by
  unfold Ev at ha; unfold EvP at hl hh; unfold Ev eSlcT
  rw [ha]
  cases t with
  | none => rfl
  | some l =>
    show ((lo env st).bind _) = _
    rw [hl]
    cases tl with
    | none => rfl
    | some u =>
      show ((hi env st).bind _) = _
      rw [hh]
      cases th with
      | none => rfl
      | some v =>
        show ((fSlcS (k.r (en l)).d u v).map fun r => (r, st)) = _
        rw [Kx.rd]
        show ((if l.x.length ≤ sizeLine then fOkS (cutS l.x u v) else none).map fun r => (r, st)) = Option.map _ (if l.x.length ≤ sizeLine then okT (cutS l.x u v) else none)
        split
        · unfold fOkS; rw [Option.map_map]; rfl
        · rfl
end
/-! tuples of numbers, of any length -/
structure Tpl where
  l : List Int
  deriving DecidableEq
instance : En Tpl := ⟨fun t => .tup (t.l.map en)⟩
instance : EnH Tpl := ⟨fun t => by
  show D.nhL (t.l.map en) = true
  exact nhL_all fun d hd => by obtain ⟨a, _, rfl⟩ := List.mem_map.mp hd; exact EnH.nh a⟩
instance : EnE Tpl := ⟨1, fun r => Pn_tup fun d hd => by obtain ⟨a, _, rfl⟩ := List.mem_map.mp hd; exact EnE.pn a, fun a b h => by
  obtain ⟨a⟩ := a; obtain ⟨b⟩ := b
  have : a = b := map_en_inj (D.tup.inj h)
  rw [this]⟩
instance : EnN Tpl := ⟨fun _ h => nomatch h⟩
instance : EnS Tpl Int := ⟨Tpl.l, fun _ => rfl⟩
/-! zip of two tuples -/
section
variable {X : Cx} {ct : CT} {pos p : Pos} {x y : Expr} {a b : Sem}
variable {k k1 k2 : Kx} {env : List Kn.Slot} {st : Sto}
end
end Kn
namespace Kn
open PySem L2
/-! ### a table of the module: texts to numbers -/
section
variable {X : Cx} {ct : CT} {pos p : Pos} {x y : Expr} {a b : Sem} {nm : Str} {d : Addr} {tb : List (Str × Int)}
/-! f-strings -/
def fFmt : D → Option R
  | .str z => if z.length ≤ sizeLine then some (.sh (.str z)) else none
  | .int i => if i.natAbs.log2 < 1920 then fOkS (toString i : String) else none
  | _ => none
theorem se_fmt (ha : SE X ct x a) : SE X ct (.FormattedValue x (-1) none pos) (e1 fFmt a) := by
  refine ⟨pe_mono (pe_fmt ha.pe) fun σ H Q h => ?_⟩
  refine tE_e1 (rr := fun x H1 Q => (∃ y : Str, x = .str y ∧ y.length ≤ sizeLine ∧ Q (.str y) H1) ∨ ∃ i : Int, x = .int i ∧ i.natAbs.log2 < 1920 ∧ Q (.str (toString i : String)) H1) ?_ h
  intro F W L env st σ H x d r Q I h e k
  unfold fFmt at e
  split at e
  · obtain ⟨c, e⟩ := ifs e
    subst e
    exact .inl ⟨_, h.str, c, k _ H W L (.refl W) I (.str _)⟩
  · obtain ⟨c, e⟩ := ifG e
    have e4 := fOkS_eq e
    subst e4
    exact .inr ⟨_, h.int, c, k _ H W L (.refl W) I (.str _)⟩
  · cases e
/-- parts laid behind acc -/
def eJs : Sem → List Sem → Sem
  | acc, [] => acc
  | acc, q :: qs => eJs (e2 fAdd acc q) qs
theorem eJs_bind : ∀ (qs : List Sem) (acc : Sem) (env : List Kn.Slot) (st : Sto), eJs acc qs env st = (acc env st).bind fun r => eJs (fun _ s => some (r.1, s)) qs env r.2
  | [], acc, env, st => by
    show acc env st = (acc env st).bind fun r => some (r.1, r.2)
    cases acc env st <;> rfl
  | q :: qs, acc, env, st => by
    show eJs (e2 fAdd acc q) qs env st = _
    rw [eJs_bind qs (e2 fAdd acc q)]
    show ((acc env st).bind fun p => (q env p.2).bind fun q => (fAdd p.1.d q.1.d).map fun r => (r, q.2)).bind _ = _
    cases h : acc env st with
    | none => rfl
    | some p =>
      show _ = eJs (e2 fAdd (fun _ s => some (p.1, s)) q) qs env p.2
      rw [eJs_bind qs (e2 fAdd (fun _ s => some (p.1, s)) q)]
      rfl
theorem tJs_of {K : PySem.W.Frag} : ∀ (qs : List Sem) (z : Str) (σ : St) (H : Hp) (F : Hp) (W W0 : Wd) (L : Addr → Option Lab) (env : List Kn.Slot) (st st' : Sto) (r : R) (Q : VK), W0.le W → Rel K ct F W L env st σ H → eJs (eC (.str z)) qs env st = some (r, st') →
    (∀ v H' W' L', W0.le W' → Rel K ct F W' L' env st' σ H' → RepR K ct F W' L' H' env σ v r → Q v H') → tJs (qs.map (tE K ct)) z σ H (fun out H1 => Q (.str out) H1)
  | [], z, σ, H, F, W, W0, L, env, st, st', r, Q, le, I, e, k => by
    cases e
    exact k _ H W L le I (.str _)
  | q :: qs, z, σ, H, F, W, W0, L, env, st, st', r, Q, le, I, e, k => by
    have e : eJs (e2 fAdd (eC (.str z)) q) qs env st = some (r, st') := e
    rw [eJs_bind] at e
    obtain ⟨⟨r1, st1⟩, h1, e⟩ := bind2 e
    obtain ⟨⟨r2, st2⟩, h2, h1⟩ := bind2 (show ((q env st).bind fun p => (fAdd (.str z) p.1.d).map fun r => (r, p.2)) = some (r1, st1) from h1)
    obtain ⟨r3, h3, h1⟩ := map2 h1
    cases h1
    refine ⟨F, W, L, env, st, r2, _, I, h2, fun v H1 W1 L1 l1 I1 p1 => ?_⟩
    obtain ⟨W1', m1, J1, q1⟩ := I1.pin p1
    have hv := J1.look q1
    rw [R.pin_d] at hv
    cases hd : r2.d with
    | str y =>
      have h3 : fAdd (.str z) r2.d = some r1 := h3
      rw [hd] at h3 hv
      obtain ⟨c, h3⟩ := ifs (show (if z.length + y.length ≤ sizeLine then some (R.sh (.str (z ++ y))) else none) = some r1 from h3)
      subst h3
      refine ⟨y, hv.str, by rw [Str.length_append]; exact c, ?_⟩
      exact tJs_of qs (z ++ y) σ H1 F W1' W0 L1 env _ st' r Q (le.trans (l1.trans m1)) J1 e k
    | _ =>
      have h3 : fAdd (.str z) r2.d = some r1 := h3
      rw [hd] at h3; cases h3
inductive SJ (X : Cx) (ct : CT) : List Expr → List Sem → Prop where
  | nil : SJ X ct [] []
  | cons {e : Expr} {q : Sem} {es : List Expr} {qs : List Sem} (h : SE X ct e q) (r : SJ X ct es qs) : SJ X ct (e :: es) (q :: qs)
theorem SJ.pj {es : List Expr} {qs : List Sem} (h : SJ X ct es qs) : PJ X es (qs.map (tE X.K ct)) := by
  induction h with
  | nil => exact .nil
  | cons h _ ih => exact .cons h.pe ih
theorem se_joined {v1 v2 : Expr} {rest : List Expr} {qs : List Sem} (h : SJ X ct (v1 :: v2 :: rest) qs) : SE X ct (.JoinedStr (v1 :: v2 :: rest) pos) (eJs (eC (.str Str.empty)) qs) :=
  ⟨pe_mono (pe_joined h.pj) fun σ H Q ⟨F, W, L, env, st, r, st', I, e, k⟩ => tJs_of qs _ σ H F W W L env st st' r Q (.refl W) I e k⟩
/-! a.startswith(b), a.isdigit() -/
/-! str(an int or a text) -/
end
/-! typed -/
section
variable {k k1 k2 : Kx} {env : List Kn.Slot} {st : Sto} {a b : Sem} {tb : List (Str × Int)}
theorem o1_fmtI : Op1 (α := Int) .sh fFmt strT := fun i => by
  show (if _ then _ else none) = Option.map _ (if _ then _ else none)
  split <;> rfl
end
open En
section
variable {τ : Type} {k : Kx} {env : List Kn.Slot} {st : Sto} {a : Sem} {g : SemS} {i : Nat} {fn : Bool} {enc : τ → Outs}
end
/-! lists of lists of truths -/
theorem bls_inj : ∀ {l m : List Bool}, l.map (D.bl) = m.map D.bl → l = m
  | [], [], _ => rfl
  | [], _ :: _, h => by cases h
  | _ :: _, [], h => by cases h
  | x :: xs, y :: ys, h => by
    rw [List.map_cons, List.map_cons] at h
    obtain ⟨h1, h2⟩ := List.cons.inj h
    cases h1
    rw [bls_inj h2]
noncomputable instance dprHBl : Dpr (Hd (List Bool)) (List Bool) := ⟨fun st h => getS st h.g, Hd.en_inj, fun I h e c => by
  obtain ⟨a, rfl, _, cl⟩ := I.cell (not_hnd_cell h) (getS_look e)
  exact RdH.dp0 (.inr ⟨a, rfl, cl⟩) I c⟩
instance dprLLb : Dpr (List Bool) (List Bool) := ⟨fun _ x => some x, fun a b h => bls_inj (D.lst.inj h), fun I h e c => by cases e; exact h.dp0 I c⟩
instance {α : Type} [En α] : EnS (Tp5 α α α α α) α := ⟨fun p => [p.x0, p.x1, p.x2, p.x3, p.x4], fun _ => rfl⟩
instance {α : Type} [En α] : EnS (Tp4 α α α α) α := ⟨fun p => [p.x0, p.x1, p.x2, p.x3], fun _ => rfl⟩
end Kn
namespace Kn
open PySem L2
/-! ### xs.count(y), of data; min(xs), xs of lists of ints; what may be a word or a number -/
section
open PySem.SeqAt PySem.Spec PyProof.Rows
section
variable {X : Cx}
end
section
variable {X : Cx} {ct : CT} {o x : Expr} {a b : Sem} {apos pos : Pos}
end
section
open En
variable {α : Type} [En α] [EnE α]
end
end
/-! min of lists of ints -/
section
open PySem.SeqAt PySem.Spec PyProof.Rows
end
section
open PySem.Spec PyProof.Rows
variable {X : Cx} {ct : CT} {x : Expr} {a : Sem} {pos p : Pos}
end
section
open En
end
end Kn
namespace Kn
open PySem L2
/-! ### a comprehension whose element may raise -/
section
open PySem.SeqAt PySem.Spec PyProof.Rows PySem.W
theorem funs_base {h B B2 : Heap} (hb : ∀ L, B.get? L = none → B2.get? L = none) : ∀ {l : List Env}, h.FunFrames B l → h.FunFrames B2 l
  | [], _ => trivial
  | env :: l, f => by
    unfold Heap.FunFrames at f ⊢
    obtain ⟨f1, ⟨L, o, f2, f3, f4, f5⟩, f6⟩ := f
    exact ⟨f1, ⟨L, o, f2, hb L f3, f4, f5⟩, funs_base hb f6⟩
theorem note_env {x : Value} {cenv env : Env} (h : cenv.frame = env.frame) : noteFrame x cenv = noteFrame x env := by
  unfold noteFrame PySem.frameOf
  rw [h]
theorem steady_zc (cls : Value) (d : Option Addr) : HandSPX.Steady (Zc cls d) := fun o f h => by
  obtain ⟨c, dd, dt, sl⟩ := o
  cases dt <;> exact h
section
variable {X : Cx} {Wx : WX} {E : XK} {pins : List (Addr × Obj)} {σ : L2.St} {H5 : Hp} {s5 s' : Shared} {C : Addr} {u : Value} {cenv : Env} {m : Str → Option Value}
/-- an error that leaves a call within a comprehension leaves the comprehension -/
theorem fly_out (hs : X.stack = X.env :: X.outer) (hf : X.env.frame = some X.env.locals) (tk : Takes X Wx) (I7 : Inv X pins σ H5 s5) (fp : FpOk X pins H5 C) (hn : s5.heap.Ns C m) (hcl : cenv.locals = C) (hcf : cenv.frame = X.env.frame)
    (hW : ∀ cls d H', E cls d H' → Wx cls d σ H') (c : CX X.prog X.w X.stack H5 s5 E u s') : notedBy (model X.prog X.w) X.A cenv (CompFails (model X.prog X.w) X.A X.xe cenv) u s' := by
  obtain ⟨a, B, H2, cls, d, rfl, fl, hok, ub, na, os, ag, hE⟩ := c
  obtain ⟨hC1, hC2, hC3, hC4, hC5, hC6⟩ := fp
  obtain ⟨oC, es, ep, gC, dC, kC, fC⟩ := hn
  have hCf : C ∉ frs X.stack := by
    rw [hs]
    intro q
    have q : C ∈ List.filterMap (fun x : Env => x.frame) (X.env :: X.outer) := q
    rw [List.filterMap_cons, hf] at q
    rcases List.mem_cons.mp q with q | q
    · exact hC2 q
    · exact hC3 q
  have bC : B.get? C = some oC := ub.keep C oC gC hC1 hCf
  obtain ⟨G, g1, g2⟩ := restrict s'.heap fun b => (B.get? b).isSome || decide (b ∈ frs X.stack)
  have gB : ∀ b o, B.get? b = some o → G.get? b = some o := fun b o e => (g1 b (by rw [e]; rfl)).trans (fl.1 b o e)
  have gF : ∀ b, b ∈ frs X.stack → G.get? b = s'.heap.get? b := fun b hb => g1 b (by rw [decide_eq_true hb, Bool.or_true])
  have og : ∀ b o, G.get? b = some o → s'.heap.get? b = some o ∧ ((B.get? b).isSome = true ∨ b ∈ frs X.stack) := fun b o e => by
    cases q : ((B.get? b).isSome || decide (b ∈ frs X.stack)) with
    | false => rw [g2 b q] at e; cases e
    | true => exact ⟨by rw [← g1 b q]; exact e, by simpa using q⟩
  have IG : Inv X pins σ H2 { heap := G, gens := s'.gens, drawn := s'.drawn, toks := s'.toks, os := s5.os } :=
    Inv.call (ch := []) I7 ⟨fun b o e n hb _ => gB b o (ub.keep b o e n hb), fun b o e n hb _ => by
        obtain ⟨sl, q⟩ := ub.slot b o e hb
        exact ⟨sl, by rw [gF b hb]; exact q⟩, fun b o e n _ => ub.free b o e n, fun b o e _ => by
        by_cases hb : b ∈ frs X.stack
        · obtain ⟨sl, q⟩ := ub.slot b o e hb
          exact ⟨_, by rw [gF b hb]; exact q⟩
        · obtain ⟨o', q⟩ := ub.there b o e hb
          exact ⟨o', gB b o' q⟩, ub.tups, ub.frzs, ub.tbls⟩ (HOk.kept hok gB) ag (fun x z => nomatch z)
  have fr : X.A.frames = some (X.env :: X.outer) := by rw [← hs]; exact I7.ok.frames
  show wpAny (model X.prog X.w) X.A (noteFrame (Value.ref a) cenv) (fun _ s'' => CompFails (model X.prog X.w) X.A X.xe cenv (Value.ref a) s'') (CompFails (model X.prog X.w) X.A X.xe cenv) s'
  rw [note_env hcf]
  refine HandSPX.looks_onZ (steady_zc cls d) fr hf (by rw [← hs]; exact fl) fun h1 held u1 => ?_
  obtain ⟨st1, a1, ff1, oe, vs, T, oT, ts, e1, z1, d1, v1, t1, t2, t3, t4, t5⟩ := held
  have h1C : h1.get? C = some oC := st1 C oC bC
  have aC : a ≠ C := fun q => by rw [q, bC] at a1; cases a1
  have tC : T ≠ C := fun q => by rw [q, bC] at t1; cases t1
  refine ⟨m, ⟨oC, es, ep, by rw [hcl]; exact h1C, dC, kC, fC⟩, fun h2 m2 hn2 sb => ?_⟩
  rw [hcl] at hn2 sb
  have ff2 := Heap.FunFrames.sameBut sb hn2 ff1
  obtain ⟨o2, es2, ep2, g2C, d2C, k2C, f2C⟩ := hn2
  have o2f : o2.isFreed = false := by
    obtain ⟨c, dd, dt, sl⟩ := o2
    cases d2C
    rfl
  have B2C : (B.update C fun _ => o2).get? C = some o2 := Heap.get?_update_self (fun _ => o2) bC o2f
  have B2n : ∀ b, b ≠ C → (B.update C fun _ => o2).get? b = B.get? b := fun b hb => Heap.get?_update_other B (fun _ => o2) hb.symm
  have held2 : HandSPX.HeldZ (B.update C fun _ => o2) (X.env :: X.outer) a (Zc cls d) X.env.locals h2 := by
    refine ⟨fun b o e => ?_, by rw [B2n a aC]; exact a1, funs_base (fun L hL => ?_) ff2, oe, vs, T, oT, ts, (sb.2 a aC).trans e1, z1, d1, v1, by rw [B2n T tC]; exact t1, t2, (sb.2 T tC).trans t3, t4, t5⟩
    · by_cases q : b = C
      · subst q
        rw [B2C] at e; cases e; exact g2C
      · rw [B2n b q] at e
        exact (sb.2 b q).trans (st1 b o e)
    · have : L ≠ C := fun q => by rw [q, bC] at hL; cases hL
      rw [B2n L this]; exact hL
  have he2 : h2.get? a = some oe := (sb.2 a aC).trans e1
  unfold PySem.passOn
  refine wpAny_bind (wpAny_field he2 d1 v1 ?_)
  rw [if_neg (by simp), hcf, hf]
  refine wpAny_bind (HandSPX.setFlight_onZ held2 fun h3 held3 u3 => wpAny_throw (tk _ _ ?_))
  have GC : G.get? C = some oC := gB C oC bC
  have G2C : (G.update C fun _ => o2).get? C = some o2 := Heap.get?_update_self (fun _ => o2) GC o2f
  have G2n : ∀ b, b ≠ C → (G.update C fun _ => o2).get? b = G.get? b := fun b hb => Heap.get?_update_other G (fun _ => o2) hb.symm
  have I2 : Inv X pins σ H2 { heap := G.update C fun _ => o2, gens := s'.gens, drawn := s'.drawn, toks := s'.toks, os := s5.os } :=
    Inv.turned IG (fun b o hb e => by rw [G2n b hb]; exact e) (ub.free C oC gC hC1) hC2 hC4 hC5 hC6
  refine ⟨a, B.update C fun _ => o2, _, pins, σ, H2, cls, d, rfl, I2, fun b o e hb => ?_, Heap.UpToSlots.trans (fun b o e nf => ?_) u3, .inr (.inr (by rw [hs]; exact held3)), na, os, ag, hW _ _ _ hE⟩
  · have e : (G.update C fun _ => o2).get? b = some o := e
    by_cases q : b = C
    · subst q
      rw [G2C] at e; cases e; exact B2C
    · rw [G2n b q] at e
      rw [B2n b q]
      obtain ⟨e', h | h⟩ := og b o e
      · obtain ⟨o', q'⟩ := Option.isSome_iff_exists.mp h
        have z := fl.1 b o' q'
        rw [e'] at z; cases z; exact q'
      · exact absurd h hb
  · have e : (G.update C fun _ => o2).get? b = some o := e
    by_cases q : b = C
    · subst q
      rw [G2C] at e; cases e
      exact ⟨o2.slots, g2C⟩
    · rw [G2n b q] at e
      obtain ⟨sl, z⟩ := u1 b o (og b o e).1 nf
      exact ⟨sl, (sb.2 b q).trans z⟩
end
abbrev blkx (X : Cx) (s : Shared) (H : Hp) (scope : Scope) (cenv : Env) (fp : List Addr) (E : XK) : Cx := { X.blk s H scope cenv fp with xe := fun u s' => ∃ pins σ H' s1, Inv (X.blk s H scope cenv fp) pins σ H' s1 ∧ CX X.prog X.w X.stack H' s1 E u s' }
theorem Inv.toX {X : Cx} {s : Shared} {H : Hp} {scope : Scope} {cenv : Env} {fp : List Addr} {E : XK} {pins : List (Addr × Obj)} {σ : L2.St} {H' : Hp} {s' : Shared} (I : Inv (X.blk s H scope cenv fp) pins σ H' s') : Inv (blkx X s H scope cenv fp E) pins σ H' s' :=
  ⟨⟨I.ok.mod, I.ok.kind, I.ok.glob, I.ok.blt, I.ok.above, I.ok.inj, I.ok.has, I.ok.cab, I.ok.hd, I.ok.frames, I.ok.stk, I.ok.exf, I.ok.bs, I.ok.bsz, I.ok.noex, I.ok.exfs, I.ok.funs, I.ok.frf⟩, I.os, I.bare, I.base, I.loc, I.cell, I.free, I.freeC, I.pin, I.hok, I.len⟩
theorem Inv.ofX {X : Cx} {s : Shared} {H : Hp} {scope : Scope} {cenv : Env} {fp : List Addr} {E : XK} {pins : List (Addr × Obj)} {σ : L2.St} {H' : Hp} {s' : Shared} (I : Inv (blkx X s H scope cenv fp E) pins σ H' s') : Inv (X.blk s H scope cenv fp) pins σ H' s' :=
  ⟨⟨I.ok.mod, I.ok.kind, I.ok.glob, I.ok.blt, I.ok.above, I.ok.inj, I.ok.has, I.ok.cab, I.ok.hd, I.ok.frames, I.ok.stk, I.ok.exf, I.ok.bs, I.ok.bsz, I.ok.noex, I.ok.exfs, I.ok.funs, I.ok.frf⟩, I.os, I.bare, I.base, I.loc, I.cell, I.free, I.freeC, I.pin, I.hok, I.len⟩
section
variable {X : Cx} {Wx : WX} {pins : List (Addr × Obj)} {σ : L2.St} {H : Hp} {s : Shared} {Q : VK} {elt tg iter : Expr} {ifs : List Expr} {scope : Scope} {own : List (Str × Nat)} {pos : Pos} {wi : TI} {g : TG} {tt : TT} {te : TE}
theorem lc_coreX (hc : X.calm = true) (hN : X.N.Nodup) (I : Inv X pins σ H s) (hi : PI X tg iter wi) (ok : BlkOk X.N X.env.scope scope own)
    (hst : X.stack = X.env :: X.outer) (hf : X.env.frame = some X.env.locals) (tk : Takes X Wx)
    (hg : ∀ s H C cl fp, PG (blkx X s H scope (compEnvC scope cl C X.env) fp (WE Wx σ)) tg g)
    (ht : ∀ s H C cl fp, PTs (blkx X s H scope (compEnvC scope cl C X.env) fp (WE Wx σ)) ifs tt)
    (he : ∀ s H C cl fp, PE (blkx X s H scope (compEnvC scope cl C X.env) fp (WE Wx σ)) elt te)
    (hs : ∀ x, foldedSetIterable iter X.env x = pure x) (hQ : ∀ v H', Q v H' → False) (h : tLc wi g tt te (own.map (·.2)) σ H Q) {use : Option (Value → PySem.Sem Unit)} {Qf : Value → Shared → Prop} {pos' : Pos} :
    wpAny (model X.prog X.w) X.A (comprehension (elt.ListComp [{ target := tg, iter := iter, ifs := ifs, is_async := 0 }] scope pos) scope X.env pos' (newList []) false (eval iter X.env) use) Qf X.xe s := by
  have hfree := fun y hy e => (ok.free y hy e).elim (fun k => I.ok.has y.1 (.inl k)) (fun k => I.ok.has y.1 (.inr k))
  refine comprehension_at rfl hs (closure_ok hfree) ok.kind (fun y hy e => by rw [ok.uniq y hy, e]) (thn (hi.run pins s σ H _ I h) fun xv s1 hx => thn hx fun itv s2 h2 => ?_)
  obtain ⟨it, fp, tn, J, H2, rfl, I2, T, st2, f2, q⟩ := h2
  refine wpAny_newObj_type (newEnv_comp ?_)
  have hDn := HOk.fresh I2.hok (Nat.le_refl s2.heap.objs.size)
  obtain ⟨W, ⟨m0, w0⟩, turn⟩ := q _ hDn
  have I3 := Inv.laid (t' := s2.toks) I2 (fun b o e => Heap.get?_push_of_some { cls := Value.type "list", data := Data.seq #[] } e) (Nat.le_refl _) (o := HO.lst [])
    ⟨Nat.zero_le sizeLine, [], 0, Paired.nil, Heap.get?_push_size s2.heap rfl⟩
  generalize hS : ({ heap := s2.heap.push { cls := Value.type "list", data := Data.seq #[] }, gens := s2.gens, drawn := s2.drawn, toks := s2.toks, os := s2.os } : Shared) = S3 at I3
  have h3 : S3.heap = s2.heap.push { cls := Value.type "list", data := Data.seq #[] } := by rw [← hS]
  have sz : ∀ b, b ∈ fp → b < s2.heap.objs.size := fun b hb => by
    obtain ⟨o, e, _⟩ := T.obj 0 s2.heap st2 b hb
    exact Heap.lt_size e
  have f3 : ∀ b, b ∈ fp → FpOk X pins (upd H2 s2.heap.objs.size (HO.lst [])) b ∧ b < S3.heap.objs.size := fun b hb => by
    have hlt := sz b hb
    refine ⟨⟨(upd_ne (Nat.ne_of_lt hlt)).trans (f2 b hb).1, (f2 b hb).2⟩, ?_⟩
    rw [h3, Heap.size_push]
    exact Nat.lt_succ_of_lt hlt
  have st3 : tn 0 S3.heap := T.keep 0 s2.heap S3.heap st2 fun b x o e => by rw [h3]; exact Heap.get?_push_of_some _ e
  generalize hHH : upd H2 s2.heap.objs.size (HO.lst []) = HH at I3 f3 w0
  generalize hcl : cellsFrom (S3.heap.objs.size + 1) scope.names (cloFrom X.env.cells scope.names []) = cl
  have I4 := block_start I3 ok hN f3
  rw [hcl] at I4
  have pg := hg S3 HH S3.heap.objs.size cl fp
  have pt := ht S3 HH S3.heap.objs.size cl fp
  have pe := he S3 HH S3.heap.objs.size cl fp
  have nfp : ∀ b, b ∈ fp → HH b = none := fun b hb => (f3 b hb).1.1
  suffices key : codeAny (model X.prog X.w) X.A (Code.compStart (elt.ListComp [{ target := tg, iter := iter, ifs := ifs, is_async := 0 }] scope pos) 0 (Value.ref it) (Value.ref s2.heap.objs.size) (compEnvC scope cl S3.heap.objs.size X.env)) (compEnds (model X.prog X.w) X.A X.xe use Qf (Value.ref s2.heap.objs.size) (compEnvC scope cl S3.heap.objs.size X.env)) { heap := pushCells (S3.heap.push { cls := Value.type "dict", data := Data.dict #[] }) scope.names, gens := S3.gens, drawn := S3.drawn, toks := S3.toks, os := S3.os } by
    subst hcl; subst hS; exact key
  have st4 : tn 0 (pushCells (S3.heap.push { cls := Value.type "dict", data := Data.dict #[] }) scope.names) := T.keep 0 S3.heap _ st3 fun b x o e => pushCells_keeps scope.names _ b o (Heap.get?_push_of_some _ e)
  have stat : ∀ {σ' H' s'}, Inv (blkx X S3 HH scope (compEnvC scope cl S3.heap.objs.size X.env) fp (WE Wx σ)) [] σ' H' s' → (∀ b, b ∈ fp → H' b = none) → ∀ b, b ∈ fp → FpOk (blkx X S3 HH scope (compEnvC scope cl S3.heap.objs.size X.env) fp (WE Wx σ)) [] H' b := fun {σ' H' s'} I' hn b hb =>
    ⟨hn b hb, (I'.ok.exf b hb).1, I'.ok.exfs b hb, .inl hb, fun x c e => (I'.ok.exf b hb).2 x c e, fun p hp => nomatch hp⟩
  have fly : ∀ u s', (blkx X S3 HH scope (compEnvC scope cl S3.heap.objs.size X.env) fp (WE Wx σ)).xe u s' → notedBy (model X.prog X.w) X.A (compEnvC scope cl S3.heap.objs.size X.env) (CompFails (model X.prog X.w) X.A X.xe (compEnvC scope cl S3.heap.objs.size X.env)) u s' := by
    rintro u s' ⟨pins', σ', H', s5, I6, c⟩
    have I7 := Inv.call' (ch := fp) I3 I6.os I6.base I6.hok I6.bare fun b hb => ⟨(f3 b hb).1.2.2.2.1, (f3 b hb).1.2.1, (f3 b hb).1.2.2.2.2.1, (f3 b hb).1.2.2.2.2.2⟩
    obtain ⟨m, hn, _⟩ := I6.loc
    exact fly_out (C := S3.heap.objs.size) hst hf tk I7 (Inv.fpOk I3 (Nat.le_refl _) I6.free) hn rfl rfl (fun _ _ _ z => z) c
  have loop := compLoop_any (prog := X.prog) (w := X.w) (A := X.A) (R := compEnds (model X.prog X.w) X.A X.xe use Qf (Value.ref s2.heap.objs.size) (compEnvC scope cl S3.heap.objs.size X.env)) (elt := elt) (target := tg) (iter := iter) (ifs := ifs) (scope := scope) (pos := pos) (it := Value.ref it) (acc := Value.ref s2.heap.objs.size) (env := compEnvC scope cl S3.heap.objs.size X.env)
    (fun n s' => ∃ i H', Inv (blkx X S3 HH scope (compEnvC scope cl S3.heap.objs.size X.env) fp (WE Wx σ)) [] (wipe σ (own.map (·.2))) H' s' ∧ tn i s'.heap ∧ (∀ b, b ∈ fp → H' b = none) ∧ W i n H')
    (fun n s5 a => by
      obtain ⟨i, H5, I5, st5, n5, w5⟩ := a
      rcases turn i n H5 w5 with ⟨stop, qq⟩ | ⟨go, Nx, hNx, step⟩
      · refine thn (T.done (blkx X S3 HH scope (compEnvC scope cl S3.heap.objs.size X.env) fp (WE Wx σ)) rfl rfl rfl hc i [] s5 _ H5 _ I5 (stat I5 n5) st5 stop) ?_
        rintro r s6 ⟨rfl, I6⟩
        exact (hQ _ _ qq).elim
      · refine thn (T.item (blkx X S3 HH scope (compEnvC scope cl S3.heap.objs.size X.env) fp (WE Wx σ)) rfl rfl rfl hc i [] s5 _ H5 _ I5 (stat I5 n5) st5 go) ?_
        rintro r s6 ⟨u, rfl, h6⟩
        refine thn h6 ?_
        rintro _ s7 ⟨x, H7, I7, r7, y7, st7, n7⟩
        have I7' := Inv.pinned I7 (stat I7 n7) (T.obj (i + 1) s7.heap st7)
        refine wpAny_mono (pg.run ([] ++ pinsAt fp s7.heap) s7 _ H7 x u _ I7' r7 (step x H7 y7)) ?_ fly
        rintro _ s8 ⟨σ8, H8, I8, hw8, q8⟩
        refine wpAny_mono (pt.run ([] ++ pinsAt fp s7.heap) s8 σ8 H8 _ I8 q8) ?_ fly
        rintro b s9 ⟨H9, I9, q9⟩
        have fin : ∀ {s' H'}, Inv (blkx X S3 HH scope (compEnvC scope cl S3.heap.objs.size X.env) fp (WE Wx σ)) ([] ++ pinsAt fp s7.heap) σ8 H' s' → Nx H' → ∃ m, m < n ∧ ∃ i H', Inv (blkx X S3 HH scope (compEnvC scope cl S3.heap.objs.size X.env) fp (WE Wx σ)) [] (wipe σ (own.map (·.2))) H' s' ∧ tn i s'.heap ∧ (∀ b, b ∈ fp → H' b = none) ∧ W i m H' := fun {s' H'} I' nx => by
          obtain ⟨m', hm, w'⟩ := hNx H' nx
          have pin' : ∀ b, b ∈ fp → ∀ o, s7.heap.get? b = some o → s'.heap.get? b = some o ∧ H' b = none := fun b hb o e => by
            have z := I'.pin (b, o) (List.mem_append_right _ (List.mem_append_right [] (mem_pinsAt hb e)))
            exact ⟨z.1, z.2.1⟩
          have hl : (wipe σ (own.map (·.2))).length = σ8.length := by rw [← hw8, wipe_length]
          refine ⟨m', hm, i + 1, H', Inv.weak (Inv.unpinned I') hl (fun j v e => (wipe_some (by rw [hw8]; exact e)).1), T.keep (i + 1) s7.heap s'.heap st7 fun b hb o e => (pin' b hb o e).1, fun b hb => ?_, w'⟩
          obtain ⟨o, e, _⟩ := T.obj (i + 1) s7.heap st7 b hb
          exact (pin' b hb o e).2
        cases b with
        | false => exact fin I9 q9
        | true =>
          refine wpAny_mono (pe.run ([] ++ pinsAt fp s7.heap) s9 σ8 H9 _ I9 q9) ?_ fly
          rintro z s10 ⟨yv, H10, I10, r10, acc, hD10, hz10, nx⟩
          exact app_ok (X := blkx X S3 HH scope (compEnvC scope cl S3.heap.objs.size X.env) fp (WE Wx σ)) I10 hD10 hz10 r10 fun s11 I11 => fin I11 nx)
    m0 ⟨0, HH, Inv.toX I4, st4, nfp, w0⟩
  exact codeAny_compStart_list loop (T.self X.A 0 _ _ _ st4 loop)
end
end
/-! .. as a law of one's own -/
/-- the first thing whose way raises -/
def lcLX (g : SemG) (b a : Sem) (vs : List Nat) (env : List Kn.Slot) : List D → Sto → Option (R × Sto)
  | [], _ => none
  | d :: ds, st => (g d (wipeE env vs)).bind fun env1 => match b env1 st with
    | some p => p.1.sh?.map fun c => (.sh c, p.2)
    | none => (a env1 st).bind fun q => q.1.sh?.bind fun _ => lcLX g b a vs env ds q.2
def eLcX (it : SemI) (vs : List Nat) (g : SemG) (b a : Sem) : Sem := fun env st => (it env st).bind fun p => if vs.all (fun j => (env[j]?.map Slot.okW).getD true) = true ∧ p.1.length ≤ sizeLine then lcLX g b a vs env p.1 p.2 else none
section
variable {X : Cx} {ct : CT} {xt : XT} {Wx : WX} {pos p : Pos} {x y : Expr} {es : List Expr} {a b : Sem} {as : SemA} {k : Nat} {ps : List Str} {m : Fn} {nm : Str}
theorem tE_lcX {K : PySem.W.Frag} {it : SemI} {vs ts : List Nat} {g : SemG} (hts : ∀ j ∈ ts, j ∈ vs) {σ : St} {H : Hp} {Q Qn : VK} (h : tE K ct (eLcX it vs g b a) σ H Q) : tLc (tI K ct it) (tG K ct ts g) (tT K ct eYes) (fun σ' H' Q' => tE K ct b σ' H' Q ∨ tE K ct a σ' H' Q') vs σ H Qn := by
  obtain ⟨F, W, L, env, st, r, st', I, e, k⟩ := h
  obtain ⟨⟨ds, st1⟩, h1, e⟩ := bind2 e
  obtain ⟨⟨okv, hz⟩, e⟩ := ifG e
  have hz : ds.length ≤ sizeLine := hz
  have e : lcLX g b a vs env ds st1 = some (r, st') := e
  have ok : ∀ j : Nat, j ∈ vs → ∀ s, env[j]? = some s → s.okW = true := fun j hj s e => by
    have := List.all_eq_true.mp okv j hj
    rw [e] at this
    exact this
  refine ⟨F, W, L, env, st, ds, st1, I, h1, fun J H1 W1 L1 l1 I1 wk p hp => ?_⟩
  obtain ⟨I2, n1, n2, n3⟩ := I1.laid (o := HO.lst []) hp
  have I3 := frame_add I2 (p := p) (o := HO.lst []) upd_same n1 n2
  refine ⟨fun i m H => m = ds.length - i ∧ i ≤ ds.length ∧ ∃ W2 L2 st5 acc accd, W1.le W2 ∧ Rel K ct (upd F p (.lst acc)) W2 L2 env st5 σ H ∧ RepL K ct W2 acc accd ∧ acc.length = i ∧ lcLX g b a vs env (ds.drop i) st5 = some (r, st'),
    ⟨_, rfl, Nat.zero_le _, W1, _, st1, [], [], .refl W1, I3, .nil, rfl, e⟩, ?_⟩
  rintro i m H ⟨rfl, hi, W2, L2, st3, acc, accd, l2, I4, ra, eo, e2⟩
  have wk3 := wk _ W2 L2 (wipeE env vs) st3 (wipe σ vs) H i l2 (I4.wiped vs)
  by_cases hlt : i < ds.length
  · rw [List.drop_eq_getElem_cons hlt] at e2
    obtain ⟨env3, h3, e2⟩ := bind2 e2
    obtain ⟨go, yl⟩ := wk3.1 ds[i] (List.getElem?_eq_getElem hlt)
    refine .inr ⟨go, fun H' => i + 1 ≤ ds.length ∧ ∃ W2 L2 st5 acc accd, W1.le W2 ∧ Rel K ct (upd F p (.lst acc)) W2 L2 env st5 σ H' ∧ RepL K ct W2 acc accd ∧ acc.length = i + 1 ∧ lcLX g b a vs env (ds.drop (i + 1)) st5 = some (r, st'), fun H' q => ⟨_, by omega, rfl, q⟩, fun v H' y => ?_⟩
    obtain ⟨W3, L3, l3, I5, r5⟩ := yl v H' y
    refine ⟨_, W3, L3, wipeE env vs, st3, _, env3, I5, r5, h3, fun σ3 o1 o2 I6 => ?_⟩
    have hs : ∀ j : Nat, j ∉ vs → σ3[j]? = (wipe σ vs)[j]? := fun j hj => o1.2 j fun z => hj (hts j z)
    have hs' : ∀ j : Nat, j ∉ vs → σ3[j]? = σ[j]? := fun j hj => (hs j hj).trans (wipe_out hj)
    have he : ∀ j : Nat, j ∉ vs → env3[j]? = env[j]? := fun j hj => (o2.2 j fun z => hj (hts j z)).trans (wipeE_out hj)
    refine ⟨wipe_again (by rw [o1.1, wipe_length]) hs, ?_⟩
    refine ⟨_, W3, L3, env3, st3, true, st3, I6, rfl, fun H6 W6 L6 l6 I7 => ?_⟩
    have ll := l2.trans (l3.trans l6)
    refine iteT ?_
    split at e2
    · rename_i pb hb
      obtain ⟨c7, h8, e2⟩ := map2 e2
      cases e2
      refine .inl ⟨_, W6, L6, env3, st3, pb.1, pb.2, I7, hb, fun v7 H7 W7 L7 l7 I8 p8 => ?_⟩
      obtain ⟨W8, m8, J8, q8⟩ := I8.pin p8
      rw [R.sh_pin h8] at q8
      have le := l3.trans (l6.trans (l7.trans m8))
      have I9 := Rel.back (vs := vs) I4 le J8 hs' he ok
      exact k _ _ _ _ (l1.trans (l2.trans le)) (frame_sub I9 n3) q8
    · obtain ⟨⟨r7, st7⟩, h7, e2⟩ := bind2 e2
      obtain ⟨d7, h8, e2⟩ := bind2 e2
      refine .inr ⟨_, W6, L6, env3, st3, r7, st7, I7, h7, fun v7 H7 W7 L7 l7 I8 p8 => ?_⟩
      obtain ⟨W8, m8, J8, q8⟩ := I8.pin p8
      rw [R.sh_pin h8] at q8
      have le := l3.trans (l6.trans (l7.trans m8))
      have hacc : H7 p = some (.lst acc) := (J8.fr p _ upd_same).1
      have I9 := Rel.back (vs := vs) I4 le J8 hs' he ok
      exact ⟨acc, hacc, by omega, hlt, W8, L7, st7, acc ++ [v7], accd ++ [d7], l2.trans le, frame_upd (o := HO.lst acc) (fun xs z => nomatch z) I9, (ra.mono le).append (.cons q8 .nil), by rw [List.length_append, eo]; rfl, e2⟩
  · have ei : i = ds.length := by omega
    rw [ei, List.drop_length] at e2
    cases e2
theorem sxe_callP (n : Nat) (c : CalX X.prog X.w X.K X.mg X.base ct xt nm k ps m) (hp : ∀ σ, PassesAt (L2.CX X.prog X.w) X σ (WE Wx σ)) (hr : Room k X.A) (ha : SA X ct (x :: es) as) (hn : ps.length = n := by rfl) (hg : Gl X nm := by rfl)
    (hdb : (nm == ("__debug__" : Str)) = false := by decide) (he : starEach (x :: es) X.env = (false, eval x X.env) :: starEach es X.env := by rfl) (hpl : (backTo pos (starEach es X.env)).any (·.1) = false := by rfl) :
    SXe X ct xt Wx (.Call (.Name nm p) (x :: es) [] pos) (eCall n m as) := by
  subst hn
  obtain ⟨f, fd, G, h1, h2, h3⟩ := c.ex
  refine ⟨pe_mono (pe_callS G hr hg h1 h2 h3 hp ha.pa hdb he hpl) fun σ H Q h => ?_⟩
  have h := tE_call (E := WE Wx σ) h
  unfold tCall at h
  unfold tCallS
  simp only [List.append_nil] at h
  exact h
theorem sxs_setLcX {E : XK} {n : Str} {py spos : Pos} {tg : Expr} {scope : Scope} {own : List (Str × Nat)} {it : SemI} {ts : List Nat} {g : SemG} (hc : X.calm = true) (hN : X.N.Nodup) (hst : X.stack = X.env :: X.outer) (hf : X.env.frame = some X.env.locals) (tk : Takes X (EW E)) (hi : SI X ct tg x it) (ok : BlkOk X.N X.env.scope scope own)
    (hg : ∀ (s : Shared) (H : Hp) (C : Addr) (cl : List (Str × Addr)) (fp : List Addr) (E : XK), SG (blkx X s H scope (compEnvC scope cl C X.env) fp E) ct tg ts g)
    (hb : ∀ (s : Shared) (H : Hp) (C : Addr) (cl : List (Str × Addr)) (fp : List Addr) (E : XK), (∀ σ, PassesAt (L2.CX X.prog X.w) (blkx X s H scope (compEnvC scope cl C X.env) fp E) σ E) → SXe (blkx X s H scope (compEnvC scope cl C X.env) fp E) ct xt (EW E) y b)
    (he : ∀ (s : Shared) (H : Hp) (C : Addr) (cl : List (Str × Addr)) (fp : List Addr) (E : XK), SE (blkx X s H scope (compEnvC scope cl C X.env) fp E) ct y a)
    (hsw : swapsWith (.ListComp y [⟨tg, x, [], 0⟩] scope pos) (some (.Name n py)) spos.line X.env = pure true := by exact sw_true rfl rfl rfl (by decide +kernel)) (hts : ∀ j ∈ ts, j ∈ own.map (·.2) := by decide) (hs : ∀ z, foldedSetIterable x X.env z = pure z := by intro _; rfl) :
    SXs X ct xt E (.Assign [.Name n py] (.ListComp y [⟨tg, x, [], 0⟩] scope pos) spos) (eLcX it (own.map (·.2)) g b a) := by
  refine ⟨⟨fun pins s σ H D I h => ?_⟩⟩
  rw [exec_Assign_Name_used n py _ spos hsw]
  exact wpAny_bind (wpAny_standAt (wpAny_bind (wpAny_bind (thn (lc_coreX (Q := fun _ _ => False) (Qf := fun _ _ => False) hc hN I hi.pi ok hst hf tk (fun s H C cl fp => (hg s H C cl fp _).pg) (fun _ _ _ _ _ => sts_nil.pts) (fun s H C cl fp => pe_or (hb s H C cl fp (WE (EW E) σ) fun σ2 pins2 H2 s2 e s2' I2 c2 => ⟨pins2, σ2, H2, s2, Inv.ofX I2, c2⟩).pe (he s H C cl fp _).pe) hs (fun _ _ q => q) (tE_lcX hts h)) fun _ _ q => q.elim))))
end
/-! typed -/
section
open En
variable {α β : Type} [En α] [En β]
variable {k : Kx} {env : List Kn.Slot} {st : Sto} {a b : Sem}
def lcTX (tb : α → Option Txt) (ta : α → Option β) : List α → Option Txt
  | [] => none
  | x :: xs => match tb x with
    | some c => some c
    | none => (ta x).bind fun _ => lcTX tb ta xs
theorem lcTX_ev {g : SemG} {vs : List Nat} {tb : α → Option Txt} {ta : α → Option β} {en1 : α → List Kn.Slot} (hk : k.ok = true) (hg : ∀ x : α, g (en x) (wipeE env vs) = some (en1 x)) (hb : ∀ x, Ev .sh b (en1 x) st (tb x)) (ha : ∀ x, Ev k a (en1 x) st (ta x)) : ∀ l : List α,
    lcLX g b a vs env (l.map en) st = (lcTX tb ta l).map fun c => (.sh (en c), st)
  | [] => rfl
  | x :: xs => by
    have ih := lcTX_ev hk hg hb ha xs
    have h1 := hb x
    have h2 := ha x
    unfold Ev at h1 h2
    rw [List.map_cons, lcLX, hg x, lcTX]
    show (match b (en1 x) st with | some p => _ | none => _) = _
    rw [h1]
    cases tb x with
    | some c => rfl
    | none =>
      show ((a (en1 x) st).bind _) = _
      rw [h2]
      cases ta x with
      | none => rfl
      | some z =>
        show ((k.r (en z)).sh?.bind _) = _
        rw [Kx.sh? hk]
        exact ih
theorem ev_lcX {it : SemI} {g : SemG} {vs : List Nat} {t : Option (List α)} {tb : α → Option Txt} {ta : α → Option β} {en1 : α → List Kn.Slot} (hi : EvI it env st t) (hv : vs.all (fun j => (env[j]?.map Slot.okW).getD true) = true) (hg : ∀ x : α, g (en x) (wipeE env vs) = some (en1 x)) (hb : ∀ x, Ev .sh b (en1 x) st (tb x)) (ha : ∀ x, Ev k a (en1 x) st (ta x)) (hk : k.ok = true) :
    Ev .sh (eLcX it vs g b a) env st (t.bind fun l => (szG l).bind fun l => lcTX tb ta l) := by
  unfold EvI at hi; unfold Ev
  show ((it env st).bind fun p => if vs.all (fun j => (env[j]?.map Slot.okW).getD true) = true ∧ p.1.length ≤ sizeLine then lcLX g b a vs env p.1 p.2 else none) = _
  rw [hi]
  cases t with
  | none => rfl
  | some l =>
    show (if vs.all (fun j => (env[j]?.map Slot.okW).getD true) = true ∧ (l.map en).length ≤ sizeLine then lcLX g b a vs env (l.map en) st else none) = ((szG l).bind fun l => lcTX tb ta l).map _
    unfold szG
    rw [List.length_map]
    by_cases h : l.length ≤ sizeLine
    · rw [if_pos ⟨hv, h⟩, if_pos h, lcTX_ev hk hg hb ha l]; rfl
    · rw [if_neg fun q => h q.2, if_neg h]; rfl
end
end Kn
namespace Kn
open PySem L2
/-! ### try: one statement -/
structure SXT (X : Cx) (ct : CT) (xt : XT) (Wx : WX) (x : Stmt) (e : Sem) : Prop where
  ps : PS X x (fun _ σ H => tE X.K ct e σ H (XQ xt Wx σ))
def eIfX (c a b : Sem) : Sem := fun env st => (c env st).bind fun p => p.1.tr.bind fun k => if k = true then a env p.2 else b env p.2
section
variable {X : Cx} {ct : CT} {xt : XT} {Wx : WX} {pos pos' np p : Pos} {n xk : Str} {cv : Value} {x : Expr} {sx s1 s2 b₀ : Stmt} {suite : List Stmt} {a b c : Sem} {f : SemS} {su : Addr → Str → SemS} {xs : List Str}
theorem sxt_ex (h : SXe X ct xt Wx x a) (hs : swapsWith x none pos.line X.env = pure false := by rfl) : SXT X ct xt Wx (.Expr x pos) a := ⟨ps_mono (ps_expr h.pe hs) fun _ _ _ h => h⟩
theorem sxt_if (hc : ST X ct x c) (h1 : SXT X ct xt Wx s1 a) (h2 : SXT X ct xt Wx s2 b) : SXT X ct xt Wx (.If x [s1] [s2] pos) (eIfX c a b) := by
  refine ⟨ps_mono (ps_if hc.pt (pss_one h1.ps) (pss_one h2.ps)) fun D σ H ⟨F, W, L, env, st, r, st', I, e, k⟩ => ?_⟩
  obtain ⟨⟨r1, st1⟩, hh, e⟩ := bind2 e
  obtain ⟨t, hb, e⟩ := bind2 e
  have hb := R.tr_eq hb
  rw [show r1 = _ from hb] at hh
  refine ⟨F, W, L, env, st, t, st1, I, hh, fun H1 W1 L1 l1 I1 => ?_⟩
  cases t with
  | true => exact iteT ⟨F, W1, L1, env, st1, r, st', I1, e, fun v H2 W2 L2 l2 I2 q => k v H2 W2 L2 (l1.trans l2) I2 q⟩
  | false => exact iteF ⟨F, W1, L1, env, st1, r, st', I1, e, fun v H2 W2 L2 l2 I2 q => k v H2 W2 L2 (l1.trans l2) I2 q⟩
theorem ss_tryS (i : Nat) (hs : X.stack = X.env :: X.outer) (hf : X.env.frame = some X.env.locals) (hN : X.N.Nodup) (hc : Names X xk cv) (hx : ∀ c ∈ xs, ∀ C, xt c = some C → PySem.W.exmOne X.K (.ref C) cv = some true)
    (hb : ∀ (Wx : WX) (pn : List (Addr × Obj)) (xe : Value → Shared → Prop), Takes (X.tr pn xe) Wx → SXT (X.tr pn xe) ct xt Wx sx a) (hb2 : ∀ (pn : List (Addr × Obj)) (xe : Value → Shared → Prop), SS (X.tr pn xe) ct sx f)
    (hsu : ∀ (c : Str) (C ad : Addr) (oe : Obj) (pn : List (Addr × Obj)), c ∈ xs → xt c = some C → Zc (.ref C) none oe → (∃ vs, oe.data = .fields vs) → SB (X.suite ad ((ad, oe) :: pn)) ct (b₀ :: suite) (su ad c))
    (hi : X.N[i]? = some n := by rfl) (hln : X.env.kindOf n = some .local := by rfl) :
    SS X ct (.Try [sx] [.ExceptHandler (some (.Name xk np)) (some n) (b₀ :: suite) pos'] [] [] pos) (sTry i xs a f su) := by
  refine ⟨ps_mono (ps_try_as (i := i) (tb := fun Wx D σ H => tE X.K ct a σ H (XQ xt Wx σ) ∨ tSm X.K ct f D σ H) (ts := fun ad cls d D σ H => ∃ z : Str × Addr, (z.1 ∈ xs ∧ xt z.1 = some z.2 ∧ cls = .ref z.2 ∧ d = none) ∧ tSm X.K ct (su ad z.1) D σ H) hs hf hN hi hln hc takes0
    (fun Wx pn xe tk _ => pss_one (ps_or (hb Wx pn xe tk).ps (hb2 pn xe).ps))
    (fun ad oe cls d pn hz hf => pss_ex fun z ⟨h1, h2, h3, h4⟩ => (hsu z.1 z.2 ad oe pn h1 h2 (by rw [← h3, ← h4]; exact hz) hf).pss)) fun D σ H ⟨F, W, L, env, st, o, env', st', I, e, k⟩ => ?_⟩
  unfold sTry at e
  split at e
  · rename_i c st1 he
    split at e
    · rename_i h
      cases e
      have hq := Classical.choose_spec h.2
      refine .inl ⟨F, W, L, env, st, _, st1, I, he, fun v H1 W1 L1 l1 I1 q => ⟨c, ?_, fun C hC => ⟨true, hx c h.1 C hC, fun _ ad hna => ⟨(c, C), ⟨h.1, hC, rfl, rfl⟩, ?_⟩, fun q => nomatch q⟩⟩⟩
      · cases (show Rep X.K ct W1 v (.str c) from q); rfl
      · obtain ⟨e2, g1, g2⟩ := hq ad
        refine ⟨F, W1, L1, _, st1, .nx, e2, _, I1.setExc i ad, g1, fun σ2 H2 W2 L2 l2 I2 => ?_⟩
        have J := I2.setNo i none
        rw [g2] at J
        exact k _ H2 W2 L2 (l1.trans l2) J
    · cases e
  · exact .inr ⟨F, W, L, env, st, o, env', st', I, e, k⟩
/-! a text so many times -/
def repS (c : Str) (n : Int) : Str := ⟨(List.replicate n.toNat c.cps).foldl (· ++ ·) #[]⟩
def fMulS : D → D → Option R
  | .str c, .int n => if 2 ≤ n ∧ n ≤ 1000 ∧ 1 ≤ c.length ∧ c.length ≤ 1000 ∧ (repS c n).length ≤ sizeLine ∧ PyData.strOk (repS c n) = true then some (.sh (.str (repS c n))) else none
  | _, _ => none
theorem op_mulS : OpR X (binaryOp .Mult) (fun x y H Q => ∃ c n, x = .str c ∧ y = .int n ∧ (2 ≤ n ∧ n ≤ 1000 ∧ 1 ≤ c.length ∧ c.length ≤ 1000 ∧ (repS c n).length ≤ sizeLine) ∧ Q (.str (repS c n)) H) := by
  intro pins s σ H x y v u Q I rx ry h
  obtain ⟨c, n, rfl, rfl, ⟨h1, h2, h3, h4, h5⟩, q⟩ := h
  obtain ⟨t, rfl⟩ := rx
  obtain ⟨t', rfl⟩ := ry
  have e1 : (n == 1 || c.length == 0) = false := by
    rw [Bool.or_eq_false_iff]
    refine ⟨?_, ?_⟩
    · rw [beq_eq_false_iff_ne]; omega
    · rw [beq_eq_false_iff_ne]; omega
  have hm : c.length * n.toNat ≤ 1000 * 1000 := Nat.mul_le_mul h4 (by omega)
  refine PySem.P.mul_str (by
      rw [decide_eq_false (by omega), decide_eq_false (by omega)]; rfl) (fun _ _ => ?_) (fun _ _ => ?_) ?_
  · have : (1000 : Int) ≤ (2 ^ 63 - 1) / n := by
      rw [Int.le_ediv_iff_mul_le (by omega)]; omega
    omega
  · unfold PySem.Builtin.Str.tooLong
    exact decide_eq_false (by have : (1000000 : Nat) ≤ sizeLine := by decide
                              omega)
  · rw [if_neg (by omega), e1]
    exact ⟨h5, .str (repS c n), H, I.tok _, ⟨_, rfl⟩, q⟩
theorem os_mulS {K : PySem.W.Frag} : OpS K ct (fun x y H Q => ∃ c n, x = .str c ∧ y = .int n ∧ (2 ≤ n ∧ n ≤ 1000 ∧ 1 ≤ c.length ∧ c.length ≤ 1000 ∧ (repS c n).length ≤ sizeLine) ∧ Q (.str (repS c n)) H) fMulS := by
  intro F W L env st σ H x y d1 d2 r Q I h1 h2 e k
  unfold fMulS at e
  split at e
  · obtain ⟨⟨g1, g2, g3, g4, g5, g6⟩, rfl⟩ := ifs e
    exact ⟨_, _, h1.str, h2.int, ⟨g1, g2, g3, g4, g5⟩, k _ H W L (.refl W) I (.str _)⟩
  · cases e
end
theorem se_mulS {X : Cx} {ct : CT} {pos : Pos} {x y : Expr} {a b : Sem} (ha : SE X ct x a) (hb : SE X ct y b) : SE X ct (.BinOp x .Mult y pos) (e2 fMulS a b) := se_op op_mulS os_mulS ha hb
def mulT (u : Txt) (n : Int) : Option Txt := if 2 ≤ n ∧ n ≤ 1000 ∧ 1 ≤ u.x.length ∧ u.x.length ≤ 1000 ∧ (repS u.x n).length ≤ sizeLine ∧ PyData.strOk (repS u.x n) = true then okT (repS u.x n) else none
theorem o2_mulS : Op2 (α := Txt) (β := Int) .sh fMulS mulT := fun u n => by
  show (if 2 ≤ n ∧ n ≤ 1000 ∧ 1 ≤ u.x.length ∧ u.x.length ≤ 1000 ∧ (repS u.x n).length ≤ sizeLine ∧ PyData.strOk (repS u.x n) = true then some (R.sh (.str (repS u.x n))) else none) = Option.map _ (mulT u n)
  unfold mulT
  split
  · rename_i h
    rw [okT_ok h.2.2.2.2.2]; rfl
  · rfl
section
open En
variable {k : Kx} {env : List Kn.Slot} {st : Sto} {a b c : Sem}
theorem ev_ifX {tc : Option Bool} {t1 t2 : Option Txt} (hc : Ev .sh c env st tc) (h1 : Ev .sh a env st t1) (h2 : Ev .sh b env st t2) : Ev .sh (eIfX c a b) env st (tc.bind fun x => if x = true then t1 else t2) := by
  unfold Ev at hc h1 h2 ⊢
  unfold eIfX
  rw [hc]
  cases tc with
  | none => rfl
  | some x =>
    cases x
    · exact h2
    · exact h1
end
end Kn
namespace Law
open PySem L2 Kn Kn.En
/-! the defs as functions -/
noncomputable def b_law_cell_at : SemS :=
  sSeq (sIf (e2 fLt (eVar 1) (e1 fLen (eVar 0))) (sSeq (sRet (e2 fIdx (eVar 0) (eVar 1))) (sNil)) (sNil)) (sSeq (sRet (eC (.int 0))) (sNil))
noncomputable def m_law_cell_at : Fn := fun ds st => if ds.length = 2 then runB 2 b_law_cell_at ds st else none
noncomputable def ce_law_good_1 : Sem :=
  eJs (eC (.str Str.empty)) [eC (.str "rope 0 1 "), e1 fFmt (eVar 5), eC (.str " 2 7")]
noncomputable def ce_law_good_2 : Sem :=
  eJs (eC (.str Str.empty)) [eC (.str "caller "), e1 fFmt (eVar 5), eC (.str " 0")]
noncomputable def b_law_good : SemS :=
  sSeq (sSet 1 (eCall 2 m_law_cell_at (aCons (eVar 0) (aCons (eC (.int 0)) (aNil))))) (sSeq (sSet 2 (eCall 2 m_law_cell_at (aCons (eVar 0) (aCons (eC (.int 1)) (aNil))))) (sSeq (sSet 3 (eLc (iRng2' (eC (.int 1)) (e2 fAdd (eC (.int 1)) (e2 (fI gMod) (eVar 1) (eC (.int 7))))) [5] (gNm 5) eYes ce_law_good_1)) (sSeq (sSet 4 (eLc (iRng1' (e2 (fI gMod) (eVar 2) (eC (.int 7)))) [5] (gNm 5) eYes ce_law_good_2)) (sSeq (sRet (e2 fAdd (e2 fAdd (eLst (aCons (eC (.str "names 5 0 7")) (aNil))) (eVar 3)) (eVar 4))) (sNil)))))
noncomputable def m_law_good : Fn := fun ds st => if ds.length = 1 then runB 6 b_law_good ds st else none
noncomputable def lb_read_number_1 : SemS :=
  sSeq (sIf (e2 fNinS (eVar 1) ((eC (.str "0123456789")))) (sSeq (sNever) (sNil)) (sNil)) (sKl [1] (sNil))
noncomputable def b_read_number : SemS :=
  sSeq (sIf (eNot (eChain fLe fLe (eC (.int 1)) (e1 fLen (eVar 0)) (eC (.int 60)))) (sSeq (sNever) (sNil)) (sNil)) (sSeq (sFor (iSig (eVar 0)) (gNm 1) lb_read_number_1) (sSeq (sIf (eAnd (e2 fEq (e2 fIdx (eVar 0) (eC (.int 0))) (eC (.str "0"))) (e2 fNe (eVar 0) (eC (.str "0")))) (sSeq (sNever) (sNil)) (sNil)) (sSeq (sRet (e1 fIntS (eVar 0))) (sNil))))
noncomputable def m_read_number : Fn := fun ds st => if ds.length = 1 then runB 2 b_read_number ds st else none
noncomputable def ce_read_town_1 : Sem :=
  eCall 1 m_read_number (aCons (eVar 8) (aNil))
noncomputable def ce_read_town_2 : Sem :=
  eCall 1 m_read_number (aCons (eVar 8) (aNil))
noncomputable def lb_read_town_3 : SemS :=
  sSeq (sSet 2 (e2 fSplit (eVar 6) (eC (.str " ")))) (sSeq (sSet 7 (eLc (iSeq (eSlc (eVar 2) (pSome (eC (.int 1))) (pNo))) [8] (gNm 8) eYes ce_read_town_2)) (sSeq (sIf (eAnd (e2 fEq (e2 fIdx (eVar 2) (eC (.int 0))) (eC (.str "rope"))) (eAnd (e2 fEq (e1 fLen (eVar 7)) (eC (.int 5))) (e2 fEq (eVar 5) (eLst (aNil))))) (sSeq (sMut 4 fApp (aCons (e1 (fTofN 5) (eVar 7)) (aNil))) (sNil)) (sSeq (sIf (eAnd (e2 fEq (e2 fIdx (eVar 2) (eC (.int 0))) (eC (.str "caller"))) (e2 fEq (e1 fLen (eVar 7)) (eC (.int 2)))) (sSeq (sMut 5 fApp (aCons (e1 (fTofN 2) (eVar 7)) (aNil))) (sNil)) (sSeq (sNever) (sNil))) (sNil))) (sKl [2, 6, 7] (sNil))))
noncomputable def b_read_town : SemS :=
  sSeq (sSet 1 (e2 fSplit (eVar 0) (eC (.str "; ")))) (sSeq (sSet 2 (e2 fSplit (e2 fIdx (eVar 1) (eC (.int 0))) (eC (.str " ")))) (sSeq (sIf (eOr (e2 fNe (e2 fIdx (eVar 2) (eC (.int 0))) (eC (.str "names"))) (e2 fEq (e1 fLen (eVar 2)) (eC (.int 1)))) (sSeq (sNever) (sNil)) (sNil)) (sSeq (sSet 3 (eLc (iSeq (eSlc (eVar 2) (pSome (eC (.int 1))) (pNo))) [8] (gNm 8) eYes ce_read_town_1)) (sSeq (sSet 4 (eLst (aNil))) (sSeq (sSet 5 (eLst (aNil))) (sKl [2] (sSeq (sFor (iSeq (eSlc (eVar 1) (pSome (eC (.int 1))) (pNo))) (gNm 6) lb_read_town_3) (sFrz 3 (sFrz 4 (sFrz 5 (sSeq (sRet (eTup (aCons (eVar 3) (aCons (eVar 4) (aCons (eVar 5) (aNil)))))) (sNil))))))))))))
noncomputable def m_read_town : Fn := fun ds st => if ds.length = 1 then runB 9 b_read_town ds st else none
noncomputable def lb_Xq_read_number_1 : SemS :=
  sSeq (sIf (e2 fNinS (eVar 1) ((eC (.str "0123456789")))) (sSeq (sRet (eC (.str "NoText"))) (sNil)) (sNil)) (sKl [1] (sNil))
noncomputable def b_Xq_read_number : SemS :=
  sSeq (sIf (eNot (eChain fLe fLe (eC (.int 1)) (e1 fLen (eVar 0)) (eC (.int 60)))) (sSeq (sRet (eC (.str "NoText"))) (sNil)) (sNil)) (sSeq (sFor (iSig (eVar 0)) (gNm 1) lb_Xq_read_number_1) (sSeq (sIf (eAnd (e2 fEq (e2 fIdx (eVar 0) (eC (.int 0))) (eC (.str "0"))) (e2 fNe (eVar 0) (eC (.str "0")))) (sSeq (sRet (eC (.str "NoText"))) (sNil)) (sNil)) (sNever)))
noncomputable def m_Xq_read_number : Fn := fun ds st => if ds.length = 1 then runB 2 b_Xq_read_number ds st else none
noncomputable def ce_Xq_read_town_1 : Sem :=
  eCall 1 m_read_number (aCons (eVar 8) (aNil))
noncomputable def ce_Xq_read_town_2 : Sem :=
  eCall 1 m_read_number (aCons (eVar 8) (aNil))
noncomputable def lb_Xq_read_town_3 : SemS :=
  sSeq (sSet 2 (e2 fSplit (eVar 6) (eC (.str " ")))) (sSeq (sXp (eLcX (iSeq (eSlc (eVar 2) (pSome (eC (.int 1))) (pNo))) [8] (gNm 8) (eCall 1 m_Xq_read_number (aCons (eVar 8) (aNil))) (eCall 1 m_read_number (aCons (eVar 8) (aNil)))) (sSet 7 (eLc (iSeq (eSlc (eVar 2) (pSome (eC (.int 1))) (pNo))) [8] (gNm 8) eYes ce_Xq_read_town_2))) (sSeq (sIf (eAnd (e2 fEq (e2 fIdx (eVar 2) (eC (.int 0))) (eC (.str "rope"))) (eAnd (e2 fEq (e1 fLen (eVar 7)) (eC (.int 5))) (e2 fEq (eVar 5) (eLst (aNil))))) (sSeq (sMut 4 fApp (aCons (e1 (fTofN 5) (eVar 7)) (aNil))) (sNil)) (sSeq (sIf (eAnd (e2 fEq (e2 fIdx (eVar 2) (eC (.int 0))) (eC (.str "caller"))) (e2 fEq (e1 fLen (eVar 7)) (eC (.int 2)))) (sSeq (sMut 5 fApp (aCons (e1 (fTofN 2) (eVar 7)) (aNil))) (sNil)) (sSeq (sRet (eC (.str "NoText"))) (sNil))) (sNil))) (sKl [2, 6, 7] (sNil))))
noncomputable def b_Xq_read_town : SemS :=
  sSeq (sSet 1 (e2 fSplit (eVar 0) (eC (.str "; ")))) (sSeq (sSet 2 (e2 fSplit (e2 fIdx (eVar 1) (eC (.int 0))) (eC (.str " ")))) (sSeq (sIf (eOr (e2 fNe (e2 fIdx (eVar 2) (eC (.int 0))) (eC (.str "names"))) (e2 fEq (e1 fLen (eVar 2)) (eC (.int 1)))) (sSeq (sRet (eC (.str "NoText"))) (sNil)) (sNil)) (sSeq (sXp (eLcX (iSeq (eSlc (eVar 2) (pSome (eC (.int 1))) (pNo))) [8] (gNm 8) (eCall 1 m_Xq_read_number (aCons (eVar 8) (aNil))) (eCall 1 m_read_number (aCons (eVar 8) (aNil)))) (sSet 3 (eLc (iSeq (eSlc (eVar 2) (pSome (eC (.int 1))) (pNo))) [8] (gNm 8) eYes ce_Xq_read_town_1))) (sSeq (sSet 4 (eLst (aNil))) (sSeq (sSet 5 (eLst (aNil))) (sKl [2] (sSeq (sFor (iSeq (eSlc (eVar 1) (pSome (eC (.int 1))) (pNo))) (gNm 6) lb_Xq_read_town_3) (sNever))))))))
noncomputable def m_Xq_read_town : Fn := fun ds st => if ds.length = 1 then runB 9 b_Xq_read_town ds st else none
noncomputable def b_law_refused : SemS :=
  sSeq (sSet 2 (eLst (aNil))) (sSeq (sTry 3 ["NoText"] (eIfX (eVar 1) (eCall 1 m_Xq_read_town (aCons (eVar 0) (aNil))) (eCall 1 m_Xq_read_number (aCons (eVar 0) (aNil)))) (sIf (eVar 1) (sSeq (sEx (eCall 1 m_read_town (aCons (eVar 0) (aNil)))) (sNil)) (sSeq (sEx (eCall 1 m_read_number (aCons (eVar 0) (aNil)))) (sNil))) (fun (ad : Addr) (cx : Str) => sSeq (sSet 4 (eLst (aCons (eIsE 3 ad (isX cx "NoHouse")) (aCons (eIsE 3 ad (isX cx "NoGroup")) (aCons (eIsE 3 ad (isX cx "NoWire")) (aCons (eIsE 3 ad (isX cx "NoCaller")) (aNil))))))) (sSeq (sSet 4 (e2 fAdd (eVar 4) (eLst (aCons (eIsE 3 ad (isX cx "Apart")) (aCons (eIsE 3 ad (isX cx "NoCopy")) (aCons (eIsE 3 ad (isX cx "NoLetter")) (aNil))))))) (sSeq (sSet 4 (e2 fAdd (eVar 4) (eLst (aCons (eIsE 3 ad (isX cx "BadTown")) (aNil))))) (sSeq (sSet 2 (eLst (aCons (eIsE 3 ad (isX cx "NoText")) (aCons (eIsE 3 ad (isX cx "ValueError")) (aCons (e2 fIn (eC (.bl true)) (eVar 4)) (aNil)))))) (sKl [4] (sNil))))))) (sSeq (sRet (e2 fEq (eVar 2) (eLst (aCons (eC (.bl true)) (aCons (eC (.bl true)) (aCons (eC (.bl false)) (aNil))))))) (sNil)))
noncomputable def m_law_refused : Fn := fun ds st => if ds.length = 2 then runB 5 b_law_refused ds st else none
noncomputable def b_law_odd_head : SemS :=
  sSeq (sSet 1 (eLst (aCons (eC (.str "names")) (aCons (eC (.str "names ")) (aCons (eC (.str "name 5 0 12")) (aCons (eC (.str "Names 5 0 12")) (aCons (eC (.str "names 5 -1")) (aNil)))))))) (sSeq (sSet 1 (e2 fAdd (eVar 1) (eLst (aCons (eC (.str "names 5  0")) (aCons (eC (.str "names 05")) (aCons (eC (.str "names x")) (aCons (eC (.str "")) (aNil)))))))) (sSeq (sRet (e2 fIdx (e2 fAdd (eVar 1) (eLst (aCons (eC (.str " names 5")) (aCons (eC (.str "names 5;")) (aCons (eC (.str "5 0 12")) (aCons (e2 fAdd (eC (.str "names ")) (e2 fMulS (eC (.str "1")) (eC (.int 61)))) (aNil))))))) (e2 (fI gMod) (eVar 0) (eC (.int 13))))) (sNil)))
noncomputable def m_law_odd_head : Fn := fun ds st => if ds.length = 1 then runB 2 b_law_odd_head ds st else none
noncomputable def b_law_odd_part : SemS :=
  sSeq (sSet 1 (eLst (aCons (eC (.str "")) (aCons (eC (.str "rope")) (aCons (eC (.str "caller")) (aCons (eC (.str "rope 0 1 2 3")) (aCons (eC (.str "rope 0 1 2 3 4 5")) (aCons (eC (.str "caller 1")) (aCons (eC (.str "caller 1 2 3")) (aCons (eC (.str "names 8")) (aNil))))))))))) (sSeq (sSet 1 (e2 fAdd (eVar 1) (eLst (aCons (eC (.str "Rope 0 1 1 1 1")) (aCons (eC (.str "rope 0 1 1 1 01")) (aCons (eC (.str "rope 0 1 -1 1 1")) (aNil))))))) (sSeq (sSet 1 (e2 fAdd (eVar 1) (eLst (aCons (eC (.str "rope 0 1 1 1 +1")) (aCons (eC (.str "caller 0 x")) (aCons (eC (.str "caller 0 1_0")) (aNil))))))) (sSeq (sSet 1 (e2 fAdd (eVar 1) (eLst (aCons (eC (.str "caller 0 1.0")) (aCons (eC (.str "rope  0 1 1 1 1")) (aCons (eC (.str " rope 0 1 1 1 1")) (aCons (eC (.str "rope 0 1 1 1 1 ")) (aNil)))))))) (sSeq (sSet 1 (e2 fAdd (eVar 1) (eLst (aCons (eC (.str "caller 00 1")) (aCons (eC (.str "callers 0 0")) (aCons (eC (.str "ropes 0 1 1 1 1")) (aNil))))))) (sSeq (sSet 1 (e2 fAdd (eVar 1) (eLst (aCons (eC (.str "caller 0, 0")) (aCons (eC (.str "rope 0 1 1 1 1;")) (aCons (eC (.str "house 0")) (aCons (e2 fAdd (eC (.str "caller 0 ")) (e2 fMulS (eC (.str "9")) (eC (.int 61)))) (aCons (eC (.str "0 1 1 1 1")) (aNil))))))))) (sSeq (sRet (e2 fIdx (eVar 1) (e2 (fI gMod) (eVar 0) (eC (.int 26))))) (sNil)))))))
noncomputable def m_law_odd_part : Fn := fun ds st => if ds.length = 1 then runB 2 b_law_odd_part ds st else none
noncomputable def b_law_bad : SemS :=
  sSeq (sSet 2 (e2 (fI gMod) (eVar 1) (eC (.int 6)))) (sSeq (sSet 3 (e2 (fI gDiv) (eVar 1) (eC (.int 6)))) (sSeq (sSet 4 (e2 fJoin (eC (.str "; ")) (eVar 0))) (sSeq (sIf (eOr (e2 fEq (eVar 2) (eC (.int 0))) (e2 fEq (eVar 2) (eC (.int 5)))) (sSeq (sSet 5 (e2 fAdd (eC (.int 1)) (e2 (fI gMod) (e2 (fI gDiv) (eVar 3) (eC (.int 26))) (e1 fLen (eVar 0))))) (sSeq (sRet (e2 fJoin (eC (.str "; ")) (e2 fAdd (e2 fAdd (eSlc (eVar 0) (pNo) (pSome (eVar 5))) (eLst (aCons (eCall 1 m_law_odd_part (aCons (eVar 3) (aNil))) (aNil)))) (eSlc (eVar 0) (pSome (eVar 5)) (pNo))))) (sNil))) (sNil)) (sSeq (sIf (e2 fEq (eVar 2) (eC (.int 1))) (sSeq (sRet (e2 fJoin (eC (.str "; ")) (e2 fAdd (eVar 0) (eLst (aCons (eC (.str "caller 0 0")) (aCons (eC (.str "rope 0 1 1 1 1")) (aNil))))))) (sNil)) (sNil)) (sSeq (sIf (e2 fEq (eVar 2) (eC (.int 2))) (sSeq (sRet (e2 fJoin (eC (.str "; ")) (e2 fAdd (eLst (aCons (eCall 1 m_law_odd_head (aCons (eVar 3) (aNil))) (aNil))) (eSlc (eVar 0) (pSome (eC (.int 1))) (pNo))))) (sNil)) (sNil)) (sSeq (sIf (e2 fEq (eVar 2) (eC (.int 3))) (sSeq (sSet 5 (e2 (fI gMod) (e2 (fI gDiv) (eVar 3) (eC (.int 16))) (e1 fLen (eVar 4)))) (sSeq (sRet (e2 fAdd (e2 fAdd (eSlcT (eVar 4) (pNo) (pSome (eVar 5))) (e2 fIdx (eC (.str "!?:,.+-_xZQ/=*()")) (e2 (fI gMod) (eVar 3) (eC (.int 16))))) (eSlcT (eVar 4) (pSome (e2 fAdd (eVar 5) (eC (.int 1)))) (pNo)))) (sNil))) (sNil)) (sSeq (sSet 5 (e2 (fI gMod) (eVar 3) (e2 fAdd (e1 fLen (eVar 4)) (eC (.int 1))))) (sSeq (sRet (e2 fAdd (e2 fAdd (eSlcT (eVar 4) (pNo) (pSome (eVar 5))) (eC (.str " "))) (eSlcT (eVar 4) (pSome (eVar 5)) (pNo)))) (sNil)))))))))
noncomputable def m_law_bad : Fn := fun ds st => if ds.length = 2 then runB 6 b_law_bad ds st else none
noncomputable def b_law_odd_word : SemS :=
  sSeq (sSet 1 (e1 fStrI (e2 (fI gMod) (e2 (fI gDiv) (eVar 0) (eC (.int 12))) (e2 (fI gPow) (eC (.int 10)) (eC (.int 50)))))) (sSeq (sSet 2 (eLst (aCons (eC (.str "")) (aCons (e2 fAdd (eC (.str "-")) (eVar 1)) (aCons (e2 fAdd (eC (.str "+")) (eVar 1)) (aCons (e2 fAdd (eC (.str "0")) (eVar 1)) (aCons (e2 fAdd (eVar 1) (eC (.str " "))) (aNil)))))))) (sSeq (sSet 2 (e2 fAdd (eVar 2) (eLst (aCons (e2 fAdd (eC (.str " ")) (eVar 1)) (aCons (e2 fAdd (eVar 1) (eC (.str "x"))) (aCons (e2 fAdd (eVar 1) (eC (.str ".0"))) (aCons (eC (.str "-0")) (aCons (e2 fAdd (eC (.str "1_")) (eVar 1)) (aNil))))))))) (sSeq (sRet (e2 fIdx (e2 fAdd (eVar 2) (eLst (aCons (e2 fMulS (eC (.str "2")) (eC (.int 61))) (aCons (eC (.str "x")) (aNil))))) (e2 (fI gMod) (eVar 0) (eC (.int 12))))) (sNil))))
noncomputable def m_law_odd_word : Fn := fun ds st => if ds.length = 1 then runB 3 b_law_odd_word ds st else none
noncomputable def lb_law_1 : SemS :=
  sSeq (sIf (eNot (eCall 2 m_law_refused (aCons (eCall 2 m_law_bad (aCons (eVar 1) (aCons (eVar 3) (aNil)))) (aCons (eC (.bl true)) (aNil))))) (sSeq (sRet (eC (.bl false))) (sNil)) (sNil)) (sSeq (sIf (eNot (eCall 2 m_law_refused (aCons (eCall 1 m_law_odd_word (aCons (e2 (fI gDiv) (eVar 3) (eC (.int 7))) (aNil))) (aCons (eC (.bl false)) (aNil))))) (sSeq (sRet (eC (.bl false))) (sNil)) (sNil)) (sKl [3] (sNil)))
noncomputable def b_law : SemS :=
  sSeq (sSet 1 (eCall 1 m_law_good (aCons (eVar 0) (aNil)))) (sFrz 1 (sSeq (sSet 2 (e2 fJoin (eC (.str "; ")) (eVar 1))) (sSeq (sIf (e2 fNe (e2 fIdx (eCall 1 m_read_town (aCons (eVar 2) (aNil))) (eC (.int 0))) (eLst (aCons (eC (.int 5)) (aCons (eC (.int 0)) (aCons (eC (.int 7)) (aNil)))))) (sSeq (sRet (eC (.bl false))) (sNil)) (sNil)) (sSeq (sFor (iSeq (e2 fAdd (eLst (aCons (eC (.int 0)) (aCons (eC (.int 1)) (aCons (eC (.int 2)) (aCons (eC (.int 3)) (aNil)))))) (eSlc (eVar 0) (pSome (eC (.int 2))) (pSome (eC (.int 22)))))) (gNm 3) lb_law_1) (sSeq (sRet (e2 fEq (e2 fIdx (eCall 1 m_read_town (aCons (eVar 2) (aNil))) (eC (.int 0))) (eLst (aCons (eC (.int 5)) (aCons (eC (.int 0)) (aCons (eC (.int 7)) (aNil))))))) (sNil))))))
noncomputable def m_law : Fn := fun ds st => if ds.length = 1 then runB 4 b_law ds st else none
def top (i : Nat) : Stmt := PySem.Challenge.pw_knotless_k38_town_text_refused.main.body.getD i (.Pass ⟨0, 0, 0, 0⟩)
abbrev s_law_cell_at : Stmt := top 16
abbrev s_law_good : Stmt := top 17
abbrev s_read_number : Stmt := top 13
abbrev s_read_town : Stmt := top 14
abbrev s_law_refused : Stmt := top 22
abbrev s_law_odd_head : Stmt := top 19
abbrev s_law_odd_part : Stmt := top 18
abbrev s_law_bad : Stmt := top 20
abbrev s_law_odd_word : Stmt := top 21
abbrev s_law : Stmt := top 23
structure Zs (mg : Str → Option Value) : Prop where
  z_ValueError : mg "ValueError" = none
  z_int : mg "int" = none
  z_isinstance : mg "isinstance" = none
  z_len : mg "len" = none
  z_range : mg "range" = none
  z_str : mg "str" = none
  z_tuple : mg "tuple" = none
section
variable {P : Program} {w : World} {K : PySem.W.Frag} {mg : Str → Option Value} {base : Heap} {ct : CT} {C_Apart : Addr} {C_BadTown : Addr} {C_KnotError : Addr} {C_NoCaller : Addr} {C_NoCopy : Addr} {C_NoGroup : Addr} {C_NoHouse : Addr} {C_NoLetter : Addr} {C_NoText : Addr} {C_NoWire : Addr} {xt : XT} {t_FIGURES : Tok}
abbrev nm_law_cell_at : List Str := ["_law_script", "_law_k"]
theorem sc_law_cell_at : FnScope nm_law_cell_at ["_law_script", "_law_k"] (defScope s_law_cell_at) := ⟨rfl, rfl, rfl, by decide +kernel, rfl, by decide +kernel, by decide +kernel⟩
theorem ok_law_cell_at {f : Addr} {fd : FuncData} (F : Fun K "_law_cell_at" "_law_cell_at" s_law_cell_at f fd) (Z : Zs mg)  : FnOk P w K mg base CX0 1 f fd ["_law_script", "_law_k"] (spD K ct 2 m_law_cell_at) := by
  refine (fn_ok (b := b_law_cell_at) F sc_law_cell_at fun cdv A outer s H E hr => ?_).imp (spD_imp fun ds st r st' hl e => ?_)
  · have S := sc_law_cell_at
    exact sb_cons (ss_if (st_lt (se_var 1) (se_len rfl Z.z_len (se_var 0))) (sb_cons (ss_ret (se_idx hr (se_var 0) (se_var 1))) (sb_nil)) (sb_nil)) (sb_cons (ss_ret (se_int)) (sb_nil))
  · unfold m_law_cell_at at e
    rw [if_pos hl] at e
    exact e
abbrev nm_law_good : List Str := ["_law_script", "_law_first", "_law_second", "_law_ropes", "_law_callers", "_law_number"]
theorem sc_law_good : FnScope nm_law_good ["_law_script"] (defScope s_law_good) := ⟨rfl, rfl, rfl, by decide +kernel, rfl, by decide +kernel, by decide +kernel⟩
theorem ok_law_good {f : Addr} {fd : FuncData} (F : Fun K "_law_good" "_law_good" s_law_good f fd) (Z : Zs mg) (c_law_cell_at : Cal P w K mg base ct "_law_cell_at" 1 ["_law_script", "_law_k"] m_law_cell_at) : FnOk P w K mg base CX0 2 f fd ["_law_script"] (spD K ct 1 m_law_good) := by
  refine (fn_ok (b := b_law_good) F sc_law_good fun cdv A outer s H E hr => ?_).imp (spD_imp fun ds st r st' hl e => ?_)
  · have S := sc_law_good
    exact sb_cons (ss_set 1 S.nd (sc_call 2 c_law_cell_at (hr.mono (by decide)) (sa_cons (se_var 0) (sa_cons (se_int) (sa_nil))))) (sb_cons (ss_set 2 S.nd (sc_call 2 c_law_cell_at (hr.mono (by decide)) (sa_cons (se_var 0) (sa_cons (se_int) (sa_nil))))) (sb_cons (ss_setLc 3 (own := [("_law_number", 5)]) rfl S.nd (si_rng2 rfl Z.z_range (se_int) (se_add (se_int) (se_mod (se_var 1) (se_int)))) (blkOk_by (N := nm_law_good) (sc := defScope s_law_good) (by decide +kernel)) (fun _ _ _ _ _ => sg_nm 5 S.nd) (fun _ _ _ _ _ => sts_nil) (fun _ _ _ _ _ => se_joined (.cons (se_str) (.cons (se_fmt (se_var 5)) (.cons (se_str) (.nil)))))) (sb_cons (ss_setLc 4 (own := [("_law_number", 5)]) rfl S.nd (si_rng1 rfl Z.z_range (se_mod (se_var 2) (se_int))) (blkOk_by (N := nm_law_good) (sc := defScope s_law_good) (by decide +kernel)) (fun _ _ _ _ _ => sg_nm 5 S.nd) (fun _ _ _ _ _ => sts_nil) (fun _ _ _ _ _ => se_joined (.cons (se_str) (.cons (se_fmt (se_var 5)) (.cons (se_str) (.nil)))))) (sb_cons (ss_ret (se_add (se_add (se_lst (sa_cons (se_str) (sa_nil))) (se_var 3)) (se_var 4))) (sb_nil)))))
  · unfold m_law_good at e
    rw [if_pos hl] at e
    exact e
abbrev nm_read_number : List Str := ["word", "sign"]
theorem sc_read_number : FnScope nm_read_number ["word"] (defScope s_read_number) := ⟨rfl, rfl, rfl, by decide +kernel, rfl, by decide +kernel, by decide +kernel⟩
theorem ok_read_number {f : Addr} {fd : FuncData} (F : Fun K "read_number" "read_number" s_read_number f fd) (Z : Zs mg) (g_FIGURES : mg "FIGURES" = some (.str "0123456789" t_FIGURES)) : FnOk P w K mg base CX0 1 f fd ["word"] (spD K ct 1 m_read_number) := by
  refine (fn_ok (b := b_read_number) F sc_read_number fun cdv A outer s H E hr => ?_).imp (spD_imp fun ds st r st' hl e => ?_)
  · have S := sc_read_number
    exact sb_cons (ss_if (st_not (st_chLL (se_int) (se_len rfl Z.z_len (se_var 0)) (se_int))) (sb_cons (ss_never) (sb_nil)) (sb_nil)) (sb_cons (ss_for PassesOwn.never rfl (si_sig (se_var 0)) (sg_nm 1 S.nd) (sb_cons (ss_if (st_ninS (se_var 1) ((se_const (pe_glob (v := .str "0123456789") rfl g_FIGURES ⟨_, rfl⟩) fun _ => .str _))) (sb_cons (ss_never) (sb_nil)) (sb_nil)) (sb_kl [1] (sb_nil)))) (sb_cons (ss_if (SW.st (sw_and (st_eq hr (se_idx hr (se_var 0) (se_int)) (se_str)) (sw_and1 (st_ne hr (se_var 0) (se_str))))) (sb_cons (ss_never) (sb_nil)) (sb_nil)) (sb_cons (ss_ret (se_intS rfl Z.z_int (se_var 0))) (sb_nil))))
  · unfold m_read_number at e
    rw [if_pos hl] at e
    exact e
abbrev nm_read_town : List Str := ["text", "told", "words", "names", "ropes", "callers", "part", "numbers", "word"]
theorem sc_read_town : FnScope nm_read_town ["text"] (defScope s_read_town) := ⟨rfl, rfl, rfl, by decide +kernel, rfl, by decide +kernel, by decide +kernel⟩
theorem ok_read_town {f : Addr} {fd : FuncData} (F : Fun K "read_town" "read_town" s_read_town f fd) (Z : Zs mg) (c_read_number : Cal P w K mg base ct "read_number" 1 ["word"] m_read_number) : FnOk P w K mg base CX0 2 f fd ["text"] (spD K ct 1 m_read_town) := by
  refine (fn_ok (b := b_read_town) F sc_read_town fun cdv A outer s H E hr => ?_).imp (spD_imp fun ds st r st' hl e => ?_)
  · have S := sc_read_town
    exact sb_cons (ss_set 1 S.nd (se_split (se_var 0) (se_str))) (sb_cons (ss_set 2 S.nd (se_split (se_idx hr (se_var 1) (se_int)) (se_str))) (sb_cons (ss_if (SW.st (sw_or (st_ne hr (se_idx hr (se_var 2) (se_int)) (se_str)) (sw_or1 (st_eq hr (se_len rfl Z.z_len (se_var 2)) (se_int))))) (sb_cons (ss_never) (sb_nil)) (sb_nil)) (sb_cons (ss_setLc 3 (own := [("word", 8)]) rfl S.nd (si_seq (se_slc (se_var 2) (sp_some (se_int)) (sp_no))) (blkOk_by (N := nm_read_town) (sc := defScope s_read_town) (by decide +kernel)) (fun _ _ _ _ _ => sg_nm 8 S.nd) (fun _ _ _ _ _ => sts_nil) (fun _ _ _ _ _ => sc_call 1 c_read_number (hr.mono (by decide)) (sa_cons (se_var 8) (sa_nil)))) (sb_cons (ss_set 4 S.nd (se_lst (sa_nil))) (sb_cons (ss_set 5 S.nd (se_lst (sa_nil))) (sb_kl [2] (sb_cons (ss_for PassesOwn.never rfl (si_seq (se_slc (se_var 1) (sp_some (se_int)) (sp_no))) (sg_nm 6 S.nd) (sb_cons (ss_set 2 S.nd (se_split (se_var 6) (se_str))) (sb_cons (ss_setLc 7 (own := [("word", 8)]) rfl S.nd (si_seq (se_slc (se_var 2) (sp_some (se_int)) (sp_no))) (blkOk_by (N := nm_read_town) (sc := defScope s_read_town) (by decide +kernel)) (fun _ _ _ _ _ => sg_nm 8 S.nd) (fun _ _ _ _ _ => sts_nil) (fun _ _ _ _ _ => sc_call 1 c_read_number (hr.mono (by decide)) (sa_cons (se_var 8) (sa_nil)))) (sb_cons (ss_if (SW.st (sw_and (st_eq hr (se_idx hr (se_var 2) (se_int)) (se_str)) (sw_and (st_eq hr (se_len rfl Z.z_len (se_var 7)) (se_int)) (sw_and1 (st_eq hr (se_var 5) (se_lst (sa_nil))))))) (sb_cons (ss_mut1 4 PySem.F.slot_list_append PySem.F.type_list_append mt_append ms_app (sa_cons (se_tupN 5 rfl Z.z_tuple (se_var 7)) (sa_nil))) (sb_nil)) (sb_cons (ss_if (SW.st (sw_and (st_eq hr (se_idx hr (se_var 2) (se_int)) (se_str)) (sw_and1 (st_eq hr (se_len rfl Z.z_len (se_var 7)) (se_int))))) (sb_cons (ss_mut1 5 PySem.F.slot_list_append PySem.F.type_list_append mt_append ms_app (sa_cons (se_tupN 2 rfl Z.z_tuple (se_var 7)) (sa_nil))) (sb_nil)) (sb_cons (ss_never) (sb_nil))) (sb_nil))) (sb_kl [2, 6, 7] (sb_nil)))))) (sb_frz 3 (sb_frz 4 (sb_frz 5 (sb_cons (ss_ret (se_tup (sa_cons (se_var 3) (sa_cons (se_var 4) (sa_cons (se_var 5) (sa_nil)))))) (sb_nil))))))))))))
  · unfold m_read_town at e
    rw [if_pos hl] at e
    exact e
theorem ok_Xq_read_number {f : Addr} {fd : FuncData} (F : Fun K "read_number" "read_number" s_read_number f fd) (Z : Zs mg) (g_FIGURES : mg "FIGURES" = some (.str "0123456789" t_FIGURES)) (x_NoText : ExK K mg xt "NoText" C_NoText) : FnOk P w K mg base (L2.CX P w) 1 f fd ["word"] (spX K ct xt 1 m_Xq_read_number) := by
  refine (fnX_ok (b := b_Xq_read_number) F sc_read_number fun cdv A outer s H E hr tk hpo => ?_).imp (spX_imp fun ds st r st' hl e => ?_)
  · have S := sc_read_number
    exact sbx_cons (ssx_if (st_not (st_chLL (se_int) (se_len rfl Z.z_len (se_var 0)) (se_int))) (sbx_cons (ssx_raise tk rfl x_NoText) (sbx_nil)) (sbx_nil)) (sbx_cons (ssx_for hpo rfl (si_sig (se_var 0)) (sg_nm 1 S.nd) (sbx_cons (ssx_if (st_ninS (se_var 1) ((se_const (pe_glob (v := .str "0123456789") rfl g_FIGURES ⟨_, rfl⟩) fun _ => .str _))) (sbx_cons (ssx_raise tk rfl x_NoText) (sbx_nil)) (sbx_nil)) (sbx_kl [1] (sbx_nil)))) (sbx_cons (ssx_if (SW.st (sw_and (st_eq hr (se_idx hr (se_var 0) (se_int)) (se_str)) (sw_and1 (st_ne hr (se_var 0) (se_str))))) (sbx_cons (ssx_raise tk rfl x_NoText) (sbx_nil)) (sbx_nil)) (sbx_never)))
  · unfold m_Xq_read_number at e
    rw [if_pos (by first | exact hl | omega)] at e
    exact e
theorem ok_Xq_read_town {f : Addr} {fd : FuncData} (F : Fun K "read_town" "read_town" s_read_town f fd) (Z : Zs mg) (x_NoText : ExK K mg xt "NoText" C_NoText) (c_Xq_read_number : CalX P w K mg base ct xt "read_number" 1 ["word"] m_Xq_read_number) (c_read_number : Cal P w K mg base ct "read_number" 1 ["word"] m_read_number) : FnOk P w K mg base (L2.CX P w) 2 f fd ["text"] (spX K ct xt 1 m_Xq_read_town) := by
  refine (fnX_ok (b := b_Xq_read_town) F sc_read_town fun cdv A outer s H E hr tk hpo => ?_).imp (spX_imp fun ds st r st' hl e => ?_)
  · have S := sc_read_town
    exact sbx_cons (ssx_of (ss_set 1 S.nd (se_split (se_var 0) (se_str))) nort_set) (sbx_cons (ssx_of (ss_set 2 S.nd (se_split (se_idx hr (se_var 1) (se_int)) (se_str))) nort_set) (sbx_cons (ssx_if (SW.st (sw_or (st_ne hr (se_idx hr (se_var 2) (se_int)) (se_str)) (sw_or1 (st_eq hr (se_len rfl Z.z_len (se_var 2)) (se_int))))) (sbx_cons (ssx_raise tk rfl x_NoText) (sbx_nil)) (sbx_nil)) (sbx_cons (ssx_xp (sxs_setLcX (own := [("word", 8)]) rfl S.nd rfl rfl tk (si_seq (se_slc (se_var 2) (sp_some (se_int)) (sp_no))) (blkOk_by (N := nm_read_town) (sc := defScope s_read_town) (by decide +kernel)) (fun _ _ _ _ _ _ => sg_nm 8 S.nd) (fun _ _ _ _ _ _ hpp => sxe_callP 1 c_Xq_read_number hpp (hr.mono (by decide)) (sa_cons (se_var 8) (sa_nil))) (fun _ _ _ _ _ _ => sc_call 1 c_read_number (hr.mono (by decide)) (sa_cons (se_var 8) (sa_nil)))) (ssx_of (ss_setLc 3 (own := [("word", 8)]) rfl S.nd (si_seq (se_slc (se_var 2) (sp_some (se_int)) (sp_no))) (blkOk_by (N := nm_read_town) (sc := defScope s_read_town) (by decide +kernel)) (fun _ _ _ _ _ => sg_nm 8 S.nd) (fun _ _ _ _ _ => sts_nil) (fun _ _ _ _ _ => sc_call 1 c_read_number (hr.mono (by decide)) (sa_cons (se_var 8) (sa_nil)))) nort_set)) (sbx_cons (ssx_of (ss_set 4 S.nd (se_lst (sa_nil))) nort_set) (sbx_cons (ssx_of (ss_set 5 S.nd (se_lst (sa_nil))) nort_set) (sbx_kl [2] (sbx_cons (ssx_for hpo rfl (si_seq (se_slc (se_var 1) (sp_some (se_int)) (sp_no))) (sg_nm 6 S.nd) (sbx_cons (ssx_of (ss_set 2 S.nd (se_split (se_var 6) (se_str))) nort_set) (sbx_cons (ssx_xp (sxs_setLcX (own := [("word", 8)]) rfl S.nd rfl rfl tk (si_seq (se_slc (se_var 2) (sp_some (se_int)) (sp_no))) (blkOk_by (N := nm_read_town) (sc := defScope s_read_town) (by decide +kernel)) (fun _ _ _ _ _ _ => sg_nm 8 S.nd) (fun _ _ _ _ _ _ hpp => sxe_callP 1 c_Xq_read_number hpp (hr.mono (by decide)) (sa_cons (se_var 8) (sa_nil))) (fun _ _ _ _ _ _ => sc_call 1 c_read_number (hr.mono (by decide)) (sa_cons (se_var 8) (sa_nil)))) (ssx_of (ss_setLc 7 (own := [("word", 8)]) rfl S.nd (si_seq (se_slc (se_var 2) (sp_some (se_int)) (sp_no))) (blkOk_by (N := nm_read_town) (sc := defScope s_read_town) (by decide +kernel)) (fun _ _ _ _ _ => sg_nm 8 S.nd) (fun _ _ _ _ _ => sts_nil) (fun _ _ _ _ _ => sc_call 1 c_read_number (hr.mono (by decide)) (sa_cons (se_var 8) (sa_nil)))) nort_set)) (sbx_cons (ssx_if (SW.st (sw_and (st_eq hr (se_idx hr (se_var 2) (se_int)) (se_str)) (sw_and (st_eq hr (se_len rfl Z.z_len (se_var 7)) (se_int)) (sw_and1 (st_eq hr (se_var 5) (se_lst (sa_nil))))))) (sbx_cons (ssx_of (ss_mut1 4 PySem.F.slot_list_append PySem.F.type_list_append mt_append ms_app (sa_cons (se_tupN 5 rfl Z.z_tuple (se_var 7)) (sa_nil))) nort_mut) (sbx_nil)) (sbx_cons (ssx_if (SW.st (sw_and (st_eq hr (se_idx hr (se_var 2) (se_int)) (se_str)) (sw_and1 (st_eq hr (se_len rfl Z.z_len (se_var 7)) (se_int))))) (sbx_cons (ssx_of (ss_mut1 5 PySem.F.slot_list_append PySem.F.type_list_append mt_append ms_app (sa_cons (se_tupN 2 rfl Z.z_tuple (se_var 7)) (sa_nil))) nort_mut) (sbx_nil)) (sbx_cons (ssx_raise tk rfl x_NoText) (sbx_nil))) (sbx_nil))) (sbx_kl [2, 6, 7] (sbx_nil)))))) (sbx_never))))))))
  · unfold m_Xq_read_town at e
    rw [if_pos (by first | exact hl | omega)] at e
    exact e
abbrev nm_law_refused : List Str := ["_law_text", "_law_town", "_law_seen", "e", "_law_others"]
theorem sc_law_refused : FnScope nm_law_refused ["_law_text", "_law_town"] (defScope s_law_refused) := ⟨rfl, rfl, rfl, by decide +kernel, rfl, by decide +kernel, by decide +kernel⟩
theorem ok_law_refused {f : Addr} {fd : FuncData} (F : Fun K "_law_refused" "_law_refused" s_law_refused f fd) (Z : Zs mg) (x_NoText : ExK K mg xt "NoText" C_NoText) (ec_NoText : ExcC K C_NoText) (em_NoText : PySem.W.exmOne K (.ref C_NoText) (.ref C_KnotError) = some true) (kt_NoText_Apart : PySem.W.kitOne K (.ref C_NoText) (.ref C_Apart) = some (isX "NoText" "Apart")) (kt_NoText_BadTown : PySem.W.kitOne K (.ref C_NoText) (.ref C_BadTown) = some (isX "NoText" "BadTown")) (kt_NoText_NoCaller : PySem.W.kitOne K (.ref C_NoText) (.ref C_NoCaller) = some (isX "NoText" "NoCaller")) (kt_NoText_NoCopy : PySem.W.kitOne K (.ref C_NoText) (.ref C_NoCopy) = some (isX "NoText" "NoCopy")) (kt_NoText_NoGroup : PySem.W.kitOne K (.ref C_NoText) (.ref C_NoGroup) = some (isX "NoText" "NoGroup")) (kt_NoText_NoHouse : PySem.W.kitOne K (.ref C_NoText) (.ref C_NoHouse) = some (isX "NoText" "NoHouse")) (kt_NoText_NoLetter : PySem.W.kitOne K (.ref C_NoText) (.ref C_NoLetter) = some (isX "NoText" "NoLetter")) (kt_NoText_NoText : PySem.W.kitOne K (.ref C_NoText) (.ref C_NoText) = some (isX "NoText" "NoText")) (kt_NoText_NoWire : PySem.W.kitOne K (.ref C_NoText) (.ref C_NoWire) = some (isX "NoText" "NoWire")) (kt_NoText_ValueError : PySem.W.kitOne K (.ref C_NoText) (.type "ValueError") = some (isX "NoText" "ValueError")) (h_Apart : mg "Apart" = some (.ref C_Apart)) (h_BadTown : mg "BadTown" = some (.ref C_BadTown)) (h_KnotError : mg "KnotError" = some (.ref C_KnotError)) (h_NoCaller : mg "NoCaller" = some (.ref C_NoCaller)) (h_NoCopy : mg "NoCopy" = some (.ref C_NoCopy)) (h_NoGroup : mg "NoGroup" = some (.ref C_NoGroup)) (h_NoHouse : mg "NoHouse" = some (.ref C_NoHouse)) (h_NoLetter : mg "NoLetter" = some (.ref C_NoLetter)) (h_NoText : mg "NoText" = some (.ref C_NoText)) (h_NoWire : mg "NoWire" = some (.ref C_NoWire)) (c_Xq_read_town : CalX P w K mg base ct xt "read_town" 2 ["text"] m_Xq_read_town) (c_Xq_read_number : CalX P w K mg base ct xt "read_number" 1 ["word"] m_Xq_read_number) (c_read_town : Cal P w K mg base ct "read_town" 2 ["text"] m_read_town) (c_read_number : Cal P w K mg base ct "read_number" 1 ["word"] m_read_number) : FnOk P w K mg base CX0 3 f fd ["_law_text", "_law_town"] (spD K ct 2 m_law_refused) := by
  refine (fn_ok (b := b_law_refused) F sc_law_refused fun cdv A outer s H E hr => ?_).imp (spD_imp fun ds st r st' hl e => ?_)
  · have S := sc_law_refused
    exact sb_cons (ss_set 2 S.nd (se_lst (sa_nil))) (sb_cons (ss_tryS (xt := xt) 3 rfl rfl S.nd ⟨rfl, by decide, .inl h_KnotError⟩ (fun c hc C hC => by
      simp only [List.mem_cons, List.not_mem_nil, or_false] at hc
      skip
      · subst hc; cases hC.symm.trans x_NoText.hx; exact em_NoText) (fun _ _ _ tk => sxt_if (st_val (se_var 1)) (sxt_ex (sxe_call 1 c_Xq_read_town tk (hr.mono (by decide)) (sa_cons (se_var 0) (sa_nil)))) (sxt_ex (sxe_call 1 c_Xq_read_number tk (hr.mono (by decide)) (sa_cons (se_var 0) (sa_nil))))) (fun _ _ => ss_if (st_val (se_var 1)) (sb_cons (ss_ex (sc_call 1 c_read_town (hr.mono (by decide)) (sa_cons (se_var 0) (sa_nil)))) (sb_nil)) (sb_cons (ss_ex (sc_call 1 c_read_number (hr.mono (by decide)) (sa_cons (se_var 0) (sa_nil)))) (sb_nil))) (fun c C ad oe pn hc hC hz hf => by
      simp only [List.mem_cons, List.not_mem_nil, or_false] at hc
      skip
      · subst hc; cases hC.symm.trans x_NoText.hx; exact sb_cons (ss_set 4 S.nd (se_lst (sa_cons (se_isE 3 ec_NoText hz hf h_NoHouse kt_NoText_NoHouse Z.z_isinstance) (sa_cons (se_isE 3 ec_NoText hz hf h_NoGroup kt_NoText_NoGroup Z.z_isinstance) (sa_cons (se_isE 3 ec_NoText hz hf h_NoWire kt_NoText_NoWire Z.z_isinstance) (sa_cons (se_isE 3 ec_NoText hz hf h_NoCaller kt_NoText_NoCaller Z.z_isinstance) (sa_nil))))))) (sb_cons (ss_set 4 S.nd (se_add (se_var 4) (se_lst (sa_cons (se_isE 3 ec_NoText hz hf h_Apart kt_NoText_Apart Z.z_isinstance) (sa_cons (se_isE 3 ec_NoText hz hf h_NoCopy kt_NoText_NoCopy Z.z_isinstance) (sa_cons (se_isE 3 ec_NoText hz hf h_NoLetter kt_NoText_NoLetter Z.z_isinstance) (sa_nil))))))) (sb_cons (ss_set 4 S.nd (se_add (se_var 4) (se_lst (sa_cons (se_isE 3 ec_NoText hz hf h_BadTown kt_NoText_BadTown Z.z_isinstance) (sa_nil))))) (sb_cons (ss_set 2 S.nd (se_lst (sa_cons (se_isE 3 ec_NoText hz hf h_NoText kt_NoText_NoText Z.z_isinstance) (sa_cons (se_isEb 3 ec_NoText hz hf Z.z_ValueError boot_ValueError kt_NoText_ValueError Z.z_isinstance) (sa_cons (se_inU (unH hr rfl) (se_bl) (se_var 4)) (sa_nil)))))) (sb_kl [4] (sb_nil))))))) (sb_cons (ss_ret (se_eq hr (se_var 2) (se_lst (sa_cons (se_bl) (sa_cons (se_bl) (sa_cons (se_bl) (sa_nil))))))) (sb_nil)))
  · unfold m_law_refused at e
    rw [if_pos hl] at e
    exact e
abbrev nm_law_odd_head : List Str := ["_law_cell", "_law_some"]
theorem sc_law_odd_head : FnScope nm_law_odd_head ["_law_cell"] (defScope s_law_odd_head) := ⟨rfl, rfl, rfl, by decide +kernel, rfl, by decide +kernel, by decide +kernel⟩
theorem ok_law_odd_head {f : Addr} {fd : FuncData} (F : Fun K "_law_odd_head" "_law_odd_head" s_law_odd_head f fd) (Z : Zs mg)  : FnOk P w K mg base CX0 1 f fd ["_law_cell"] (spD K ct 1 m_law_odd_head) := by
  refine (fn_ok (b := b_law_odd_head) F sc_law_odd_head fun cdv A outer s H E hr => ?_).imp (spD_imp fun ds st r st' hl e => ?_)
  · have S := sc_law_odd_head
    exact sb_cons (ss_set 1 S.nd (se_lst (sa_cons (se_str) (sa_cons (se_str) (sa_cons (se_str) (sa_cons (se_str) (sa_cons (se_str) (sa_nil)))))))) (sb_cons (ss_set 1 S.nd (se_add (se_var 1) (se_lst (sa_cons (se_str) (sa_cons (se_str) (sa_cons (se_str) (sa_cons (se_str) (sa_nil)))))))) (sb_cons (ss_ret (se_idx hr (se_add (se_var 1) (se_lst (sa_cons (se_str) (sa_cons (se_str) (sa_cons (se_str) (sa_cons (se_add (se_str) (se_mulS (se_str) (se_int))) (sa_nil))))))) (se_mod (se_var 0) (se_int)))) (sb_nil)))
  · unfold m_law_odd_head at e
    rw [if_pos hl] at e
    exact e
abbrev nm_law_odd_part : List Str := ["_law_cell", "_law_some"]
theorem sc_law_odd_part : FnScope nm_law_odd_part ["_law_cell"] (defScope s_law_odd_part) := ⟨rfl, rfl, rfl, by decide +kernel, rfl, by decide +kernel, by decide +kernel⟩
theorem ok_law_odd_part {f : Addr} {fd : FuncData} (F : Fun K "_law_odd_part" "_law_odd_part" s_law_odd_part f fd) (Z : Zs mg)  : FnOk P w K mg base CX0 1 f fd ["_law_cell"] (spD K ct 1 m_law_odd_part) := by
  refine (fn_ok (b := b_law_odd_part) F sc_law_odd_part fun cdv A outer s H E hr => ?_).imp (spD_imp fun ds st r st' hl e => ?_)
  · have S := sc_law_odd_part
    exact sb_cons (ss_set 1 S.nd (se_lst (sa_cons (se_str) (sa_cons (se_str) (sa_cons (se_str) (sa_cons (se_str) (sa_cons (se_str) (sa_cons (se_str) (sa_cons (se_str) (sa_cons (se_str) (sa_nil))))))))))) (sb_cons (ss_set 1 S.nd (se_add (se_var 1) (se_lst (sa_cons (se_str) (sa_cons (se_str) (sa_cons (se_str) (sa_nil))))))) (sb_cons (ss_set 1 S.nd (se_add (se_var 1) (se_lst (sa_cons (se_str) (sa_cons (se_str) (sa_cons (se_str) (sa_nil))))))) (sb_cons (ss_set 1 S.nd (se_add (se_var 1) (se_lst (sa_cons (se_str) (sa_cons (se_str) (sa_cons (se_str) (sa_cons (se_str) (sa_nil)))))))) (sb_cons (ss_set 1 S.nd (se_add (se_var 1) (se_lst (sa_cons (se_str) (sa_cons (se_str) (sa_cons (se_str) (sa_nil))))))) (sb_cons (ss_set 1 S.nd (se_add (se_var 1) (se_lst (sa_cons (se_str) (sa_cons (se_str) (sa_cons (se_str) (sa_cons (se_add (se_str) (se_mulS (se_str) (se_int))) (sa_cons (se_str) (sa_nil))))))))) (sb_cons (ss_ret (se_idx hr (se_var 1) (se_mod (se_var 0) (se_int)))) (sb_nil)))))))
  · unfold m_law_odd_part at e
    rw [if_pos hl] at e
    exact e
abbrev nm_law_bad : List Str := ["_law_pieces", "_law_cell", "_law_kind", "_law_more", "_law_text", "_law_at"]
theorem sc_law_bad : FnScope nm_law_bad ["_law_pieces", "_law_cell"] (defScope s_law_bad) := ⟨rfl, rfl, rfl, by decide +kernel, rfl, by decide +kernel, by decide +kernel⟩
theorem ok_law_bad {f : Addr} {fd : FuncData} (F : Fun K "_law_bad" "_law_bad" s_law_bad f fd) (Z : Zs mg) (c_law_odd_part : Cal P w K mg base ct "_law_odd_part" 1 ["_law_cell"] m_law_odd_part) (c_law_odd_head : Cal P w K mg base ct "_law_odd_head" 1 ["_law_cell"] m_law_odd_head) : FnOk P w K mg base CX0 2 f fd ["_law_pieces", "_law_cell"] (spD K ct 2 m_law_bad) := by
  refine (fn_ok (b := b_law_bad) F sc_law_bad fun cdv A outer s H E hr => ?_).imp (spD_imp fun ds st r st' hl e => ?_)
  · have S := sc_law_bad
    exact sb_cons (ss_set 2 S.nd (se_mod (se_var 1) (se_int))) (sb_cons (ss_set 3 S.nd (se_div (se_var 1) (se_int))) (sb_cons (ss_set 4 S.nd (se_join (se_str) (se_var 0))) (sb_cons (ss_if (SW.st (sw_or (st_eq hr (se_var 2) (se_int)) (sw_or1 (st_eq hr (se_var 2) (se_int))))) (sb_cons (ss_set 5 S.nd (se_add (se_int) (se_mod (se_div (se_var 3) (se_int)) (se_len rfl Z.z_len (se_var 0))))) (sb_cons (ss_ret (se_join (se_str) (se_add (se_add (se_slc (se_var 0) (sp_no) (sp_some (se_var 5))) (se_lst (sa_cons (sc_call 1 c_law_odd_part (hr.mono (by decide)) (sa_cons (se_var 3) (sa_nil))) (sa_nil)))) (se_slc (se_var 0) (sp_some (se_var 5)) (sp_no))))) (sb_nil))) (sb_nil)) (sb_cons (ss_if (st_eq hr (se_var 2) (se_int)) (sb_cons (ss_ret (se_join (se_str) (se_add (se_var 0) (se_lst (sa_cons (se_str) (sa_cons (se_str) (sa_nil))))))) (sb_nil)) (sb_nil)) (sb_cons (ss_if (st_eq hr (se_var 2) (se_int)) (sb_cons (ss_ret (se_join (se_str) (se_add (se_lst (sa_cons (sc_call 1 c_law_odd_head (hr.mono (by decide)) (sa_cons (se_var 3) (sa_nil))) (sa_nil))) (se_slc (se_var 0) (sp_some (se_int)) (sp_no))))) (sb_nil)) (sb_nil)) (sb_cons (ss_if (st_eq hr (se_var 2) (se_int)) (sb_cons (ss_set 5 S.nd (se_mod (se_div (se_var 3) (se_int)) (se_len rfl Z.z_len (se_var 4)))) (sb_cons (ss_ret (se_add (se_add (se_slcT (se_var 4) (sp_no) (sp_some (se_var 5))) (se_idx hr (se_str) (se_mod (se_var 3) (se_int)))) (se_slcT (se_var 4) (sp_some (se_add (se_var 5) (se_int))) (sp_no)))) (sb_nil))) (sb_nil)) (sb_cons (ss_set 5 S.nd (se_mod (se_var 3) (se_add (se_len rfl Z.z_len (se_var 4)) (se_int)))) (sb_cons (ss_ret (se_add (se_add (se_slcT (se_var 4) (sp_no) (sp_some (se_var 5))) (se_str)) (se_slcT (se_var 4) (sp_some (se_var 5)) (sp_no)))) (sb_nil)))))))))
  · unfold m_law_bad at e
    rw [if_pos hl] at e
    exact e
abbrev nm_law_odd_word : List Str := ["_law_cell", "_law_word", "_law_some"]
theorem sc_law_odd_word : FnScope nm_law_odd_word ["_law_cell"] (defScope s_law_odd_word) := ⟨rfl, rfl, rfl, by decide +kernel, rfl, by decide +kernel, by decide +kernel⟩
theorem ok_law_odd_word {f : Addr} {fd : FuncData} (F : Fun K "_law_odd_word" "_law_odd_word" s_law_odd_word f fd) (Z : Zs mg)  : FnOk P w K mg base CX0 1 f fd ["_law_cell"] (spD K ct 1 m_law_odd_word) := by
  refine (fn_ok (b := b_law_odd_word) F sc_law_odd_word fun cdv A outer s H E hr => ?_).imp (spD_imp fun ds st r st' hl e => ?_)
  · have S := sc_law_odd_word
    exact sb_cons (ss_set 1 S.nd (se_strI rfl Z.z_str (se_mod (se_div (se_var 0) (se_int)) (se_pow (se_int) (se_int))))) (sb_cons (ss_set 2 S.nd (se_lst (sa_cons (se_str) (sa_cons (se_add (se_str) (se_var 1)) (sa_cons (se_add (se_str) (se_var 1)) (sa_cons (se_add (se_str) (se_var 1)) (sa_cons (se_add (se_var 1) (se_str)) (sa_nil)))))))) (sb_cons (ss_set 2 S.nd (se_add (se_var 2) (se_lst (sa_cons (se_add (se_str) (se_var 1)) (sa_cons (se_add (se_var 1) (se_str)) (sa_cons (se_add (se_var 1) (se_str)) (sa_cons (se_str) (sa_cons (se_add (se_str) (se_var 1)) (sa_nil))))))))) (sb_cons (ss_ret (se_idx hr (se_add (se_var 2) (se_lst (sa_cons (se_mulS (se_str) (se_int)) (sa_cons (se_str) (sa_nil))))) (se_mod (se_var 0) (se_int)))) (sb_nil))))
  · unfold m_law_odd_word at e
    rw [if_pos hl] at e
    exact e
abbrev nm_law : List Str := ["_law_script", "_law_pieces", "_law_good_here", "_law_cell"]
theorem sc_law : FnScope nm_law ["_law_script"] (defScope s_law) := ⟨rfl, rfl, rfl, by decide +kernel, rfl, by decide +kernel, by decide +kernel⟩
theorem ok_law {f : Addr} {fd : FuncData} (F : Fun K "law" "law" s_law f fd) (Z : Zs mg) (c_law_good : Cal P w K mg base ct "_law_good" 2 ["_law_script"] m_law_good) (c_read_town : Cal P w K mg base ct "read_town" 2 ["text"] m_read_town) (c_law_refused : Cal P w K mg base ct "_law_refused" 3 ["_law_text", "_law_town"] m_law_refused) (c_law_bad : Cal P w K mg base ct "_law_bad" 2 ["_law_pieces", "_law_cell"] m_law_bad) (c_law_odd_word : Cal P w K mg base ct "_law_odd_word" 1 ["_law_cell"] m_law_odd_word) : FnOk P w K mg base CX0 4 f fd ["_law_script"] (spD K ct 1 m_law) := by
  refine (fn_ok (b := b_law) F sc_law fun cdv A outer s H E hr => ?_).imp (spD_imp fun ds st r st' hl e => ?_)
  · have S := sc_law
    exact sb_cons (ss_set 1 S.nd (sc_call 1 c_law_good (hr.mono (by decide)) (sa_cons (se_var 0) (sa_nil)))) (sb_frz 1 (sb_cons (ss_set 2 S.nd (se_join (se_str) (se_var 1))) (sb_cons (ss_if (st_ne hr (se_idx hr (sc_call 1 c_read_town (hr.mono (by decide)) (sa_cons (se_var 2) (sa_nil))) (se_int)) (se_lst (sa_cons (se_int) (sa_cons (se_int) (sa_cons (se_int) (sa_nil)))))) (sb_cons (ss_ret (se_bl)) (sb_nil)) (sb_nil)) (sb_cons (ss_for PassesOwn.never rfl (si_seq (se_add (se_lst (sa_cons (se_int) (sa_cons (se_int) (sa_cons (se_int) (sa_cons (se_int) (sa_nil)))))) (se_slc (se_var 0) (sp_some (se_int)) (sp_some (se_int))))) (sg_nm 3 S.nd) (sb_cons (ss_if (st_not (st_val (sc_call 2 c_law_refused (hr.mono (by decide)) (sa_cons (sc_call 2 c_law_bad (hr.mono (by decide)) (sa_cons (se_var 1) (sa_cons (se_var 3) (sa_nil)))) (sa_cons (se_bl) (sa_nil)))))) (sb_cons (ss_ret (se_bl)) (sb_nil)) (sb_nil)) (sb_cons (ss_if (st_not (st_val (sc_call 2 c_law_refused (hr.mono (by decide)) (sa_cons (sc_call 1 c_law_odd_word (hr.mono (by decide)) (sa_cons (se_div (se_var 3) (se_int)) (sa_nil))) (sa_cons (se_bl) (sa_nil)))))) (sb_cons (ss_ret (se_bl)) (sb_nil)) (sb_nil)) (sb_kl [3] (sb_nil))))) (sb_cons (ss_ret (se_eq hr (se_idx hr (sc_call 1 c_read_town (hr.mono (by decide)) (sa_cons (se_var 2) (sa_nil))) (se_int)) (se_lst (sa_cons (se_int) (sa_cons (se_int) (sa_cons (se_int) (sa_nil))))))) (sb_nil))))))
  · unfold m_law at e
    rw [if_pos hl] at e
    exact e
end
/-! law_cell_at -/
noncomputable def f_law_cell_at (script : Scr) (k : Int) : Option Int :=
  if (decide (k < (script.l.length : Int))) = true then (atI script.l k).bind fun r1 => some r1 else some (0 : Int)
theorem ev_law_cell_at (script : Scr) (k : Int) (st : Sto) : m_law_cell_at [en script, en k] st = (f_law_cell_at script k).map fun r => (Kx.sh.r (en r), st) := by
  refine Eq.trans (if_pos rfl) ?_
  exact ev_fn (ru_of (ru_ifp (ev_2tpp o2_lt (ev_var rfl) (ev_1tp o1_lens (ev_var rfl))) (ru_as (ru_retx (ev_2pp o2_idxs (ev_var rfl) (ev_var rfl)) (fun _ => rfl))) (ru_id (ru_retp (ev_int _) rfl))) (by rfl))
/-! law_good -/
noncomputable def f_law_good (script : Scr) : Option (List Txt) :=
  (f_law_cell_at script (0 : Int)).bind fun first2 => (f_law_cell_at script (1 : Int)).bind fun second4 => ((rngG (1 : Int) ((1 : Int) + (first2 % (7 : Int)))).bind fun l13 => (lcT (fun (x5 : Int) => some true) (fun (x5 : Int) => ((catT (txM Str.empty) (txM "rope 0 1 ")).bind fun x10 => (strT x5).bind fun y11 => catT x10 y11).bind fun x12 => catT x12 (txM " 2 7")) l13).bind szG).bind fun ropes14 => ((rngG 0 (second4 % (7 : Int))).bind fun l23 => (lcT (fun (x15 : Int) => some true) (fun (x15 : Int) => ((catT (txM Str.empty) (txM "caller ")).bind fun x20 => (strT x15).bind fun y21 => catT x20 y21).bind fun x22 => catT x22 (txM " 0")) l23).bind szG).bind fun callers24 => ((catG ([txM "names 5 0 7"] : (List Txt)) ropes14).bind fun x25 => catG x25 callers24).bind fun r26 => some r26
theorem ev_law_good (script : Scr) (st : Sto) : m_law_good [en script] st = (f_law_good script).map fun r => (Kx.ow.r (en r), st) := by
  refine Eq.trans (if_pos rfl) ?_
  exact ev_fn (ru_of (ru_setx (ev_callp (ea_p (ev_var rfl) rfl (ea_p (ev_int _) rfl (ea_nil))) (ev_law_cell_at script (0 : Int) st) rfl) rfl (fun first2 => ru_setx (ev_callp (ea_p (ev_var rfl) rfl (ea_p (ev_int _) rfl (ea_nil))) (ev_law_cell_at script (1 : Int) st) rfl) rfl (fun second4 => ru_setx (ev_lcx (ei_rng2p (ev_int _) (ev_2tpp o2_add (ev_int _) (ev_modc (c := 7) (by decide) (ev_var rfl)))) rfl (fun _ => rfl) (fun x5 => ev_yes) (fun x5 => ev_2xp o2_catS (ev_2xx o2_catS (ev_2pp o2_catS (ev_txt (txM Str.empty)) (ev_txt (txM "rope 0 1 "))) (ev_1p o1_fmtI (ev_var rfl))) (ev_txt (txM " 2 7"))) rfl) rfl (fun ropes14 => ru_setx (ev_lcx (ei_rng1p (ev_modc (c := 7) (by decide) (ev_var rfl))) rfl (fun _ => rfl) (fun x15 => ev_yes) (fun x15 => ev_2xp o2_catS (ev_2xx o2_catS (ev_2pp o2_catS (ev_txt (txM Str.empty)) (ev_txt (txM "caller "))) (ev_1p o1_fmtI (ev_var rfl))) (ev_txt (txM " 0"))) rfl) rfl (fun callers24 => ru_env [.sh (en (script : Scr)), .sh (en (first2 : Int)), .sh (en (second4 : Int)), .ow (en (ropes14 : (List Txt))), .ow (en (callers24 : (List Txt))), .no] rfl (ru_retx (ev_2xp o2_cat (ev_2pp o2_cat (ev_lstp (p := ([txM "names 5 0 7"] : (List Txt))) (ea_p (ev_txt (txM "names 5 0 7")) rfl (ea_nil)) rfl (Nat.le_of_ble_eq_true rfl)) (ev_varo rfl)) (ev_varo rfl)) (fun _ => rfl))))))) (by rfl))
/-! read_number -/
noncomputable def f_read_number (word : Txt) : Option Int :=
  (((lnT word).bind fun y1 => if decide ((1 : Int) ≤ y1) = true then (some (60 : Int)).bind fun z2 => some (decide (y1 ≤ z2)) else some false).bind fun p3 => some (!p3)).bind fun p14 => if p14 = true then none else (((some word).bind fun x4 => some (sigT x4)).bind fun l8 => foldT (fun (sign6 : Txt) (s5 : Unit) => (ninT sign6 (txM "0123456789")).bind fun p7 => if p7 = true then none else some ()) l8 ()).bind fun (s9 : Unit) => (((sgT word (0 : Int)).bind fun x10 => some (decide (x10 = (txM "0")))).bind fun p11 => some (p11 && (!decide (word = (txM "0"))))).bind fun p13 => if p13 = true then none else (intT word).bind fun r12 => some r12
theorem ev_read_number (word : Txt) (st : Sto) : m_read_number [en word] st = (f_read_number word).map fun r => (Kx.sh.r (en r), st) := by
  refine Eq.trans (if_pos rfl) ?_
  exact ev_fn (ru_of (ru_ifx (ev_notx (ev_chainy o2_le o2_le (ev_int _) (ev_1p o1_lenS (ev_var rfl)) (ev_int _))) (ru_as (ru_never)) (ru_id (ru_join (E := (fun (s5 : Unit) => [.sh (en (word : Txt)), .no])) (rn_for (s0 := ()) (ei_sigx (ev_var rfl)) rfl (fun _ _ => rfl) (fun sign6 s5 => ru_ifx (ev_2pp o2_ninS (ev_var rfl) (ev_txt (txM "0123456789"))) (ru_as (ru_never)) (ru_id (ru_kl rfl (ru_nil rfl))))) (fun s9 => ru_ifx (ev_andxp (ev_2txp (o2_eq (by decide)) (ev_2pp o2_sg (ev_var rfl) (ev_int _)) (ev_txt (txM "0"))) (ev_2tpp (o2_ne (by decide)) (ev_var rfl) (ev_txt (txM "0")))) (ru_as (ru_never)) (ru_id (ru_env [.sh (en (word : Txt)), .no] rfl (ru_retx (ev_1p o1_intS (ev_var rfl)) (fun _ => rfl)))))))) (by rfl))
/-! read_town -/
noncomputable def f_read_town (text : Txt) : Option (Tp3 (List Int) (List (Tp5 Int Int Int Int Int)) (List (Tp2 Int Int))) :=
  (splT text (txM "; ")).bind fun told1 => ((atI told1 (0 : Int)).bind fun x2 => splT x2 (txM " ")).bind fun words3 => (((atI words3 (0 : Int)).bind fun x4 => some (!decide (x4 = (txM "names")))).bind fun p5 => some (p5 || (decide ((words3.length : Int) = (1 : Int))))).bind fun p31 => if p31 = true then none else ((lcT (fun (x6 : Txt) => some true) (fun (x6 : Txt) => f_read_number x6) (cutG words3 (some (1 : Int)) none)).bind szG).bind fun names10 => (foldT (fun (part12 : Txt) (s11 : (List (Tp5 Int Int Int Int Int)) × (List (Tp2 Int Int))) => (splT part12 (txM " ")).bind fun words13 => ((lcT (fun (x14 : Txt) => some true) (fun (x14 : Txt) => f_read_number x14) (cutG words13 (some (1 : Int)) none)).bind szG).bind fun numbers18 => ((((atI words13 (0 : Int)).bind fun x20 => some (decide (x20 = (txM "rope")))).bind fun p21 => some (p21 && ((decide ((numbers18.length : Int) = (5 : Int))) && (decide (s11.2 = ([] : (List (Tp2 Int Int)))))))).bind fun p29 => if p29 = true then (tup5? numbers18).bind fun y23 => (appG s11.1 y23).bind fun ropes22 => some (ropes22, s11.2) else (((atI words13 (0 : Int)).bind fun x24 => some (decide (x24 = (txM "caller")))).bind fun p25 => some (p25 && (decide ((numbers18.length : Int) = (2 : Int))))).bind fun p28 => if p28 = true then (tup2? numbers18).bind fun y27 => (appG s11.2 y27).bind fun callers26 => some (s11.1, callers26) else none).bind fun (s19 : (List (Tp5 Int Int Int Int Int)) × (List (Tp2 Int Int))) => some (s19.1, s19.2)) (cutG told1 (some (1 : Int)) none) (([] : (List (Tp5 Int Int Int Int Int))), ([] : (List (Tp2 Int Int))))).bind fun (s30 : (List (Tp5 Int Int Int Int Int)) × (List (Tp2 Int Int))) => some (⟨names10, s30.1, s30.2⟩ : (Tp3 (List Int) (List (Tp5 Int Int Int Int Int)) (List (Tp2 Int Int))))
theorem ev_read_town (text : Txt) (st : Sto) : m_read_town [en text] st = (f_read_town text).map fun r => (Kx.sh.r (en r), st) := by
  refine Eq.trans (if_pos rfl) ?_
  exact ev_fn (ru_of (ru_setx (ev_2pp o2_split (ev_var rfl) (ev_txt (txM "; "))) rfl (fun told1 => ru_setx (ev_2xp o2_split (ev_2pp o2_idx (ev_varo rfl) (ev_int _)) (ev_txt (txM " "))) rfl (fun words3 => ru_ifx (ev_orxp (ev_2txp (o2_ne (by decide)) (ev_2pp o2_idx (ev_varo rfl) (ev_int _)) (ev_txt (txM "names"))) (ev_2tpp (o2_eq (by decide)) (ev_1tp o1_len (ev_varo rfl)) (ev_int _))) (ru_as (ru_never)) (ru_id (ru_env [.sh (en (text : Txt)), .ow (en (told1 : (List Txt))), .ow (en (words3 : (List Txt))), .no, .no, .no, .no, .no, .no] rfl (ru_setx (ev_lcx (ei_lstp (ev_slcp (ev_varo rfl) (ep_p (ev_int _)) (ep_no)) rfl) rfl (fun _ => rfl) (fun x6 => ev_yes) (fun x6 => ev_callp (ea_p (ev_var rfl) rfl (ea_nil)) (ev_read_number x6 st) rfl) rfl) rfl (fun names10 => ru_setp (ev_lstp (p := ([] : (List (Tp5 Int Int Int Int Int)))) (ea_nil) rfl (Nat.le_of_ble_eq_true rfl)) rfl (ru_setp (ev_lstp (p := ([] : (List (Tp2 Int Int)))) (ea_nil) rfl (Nat.le_of_ble_eq_true rfl)) rfl (ru_kl rfl (ru_join (E := (fun (s11 : (List (Tp5 Int Int Int Int Int)) × (List (Tp2 Int Int))) => [.sh (en (text : Txt)), .ow (en (told1 : (List Txt))), .no, .ow (en (names10 : (List Int))), .ow (en (s11.1 : (List (Tp5 Int Int Int Int Int)))), .ow (en (s11.2 : (List (Tp2 Int Int)))), .no, .no, .no])) (rn_forp (s0 := (([] : (List (Tp5 Int Int Int Int Int))), ([] : (List (Tp2 Int Int))))) (ei_lstp (ev_slcp (ev_varo rfl) (ep_p (ev_int _)) (ep_no)) rfl) rfl (fun _ _ => rfl) (fun part12 s11 => ru_setx (ev_2pp o2_split (ev_var rfl) (ev_txt (txM " "))) rfl (fun words13 => ru_setx (ev_lcx (ei_lstp (ev_slcp (ev_varo rfl) (ep_p (ev_int _)) (ep_no)) rfl) rfl (fun _ => rfl) (fun x14 => ev_yes) (fun x14 => ev_callp (ea_p (ev_var rfl) rfl (ea_nil)) (ev_read_number x14 st) rfl) rfl) rfl (fun numbers18 => ru_join (E := (fun (s19 : (List (Tp5 Int Int Int Int Int)) × (List (Tp2 Int Int))) => [.sh (en (text : Txt)), .ow (en (told1 : (List Txt))), .ow (en (words13 : (List Txt))), .ow (en (names10 : (List Int))), .ow (en (s19.1 : (List (Tp5 Int Int Int Int Int)))), .ow (en (s19.2 : (List (Tp2 Int Int)))), .sh (en (part12 : Txt)), .ow (en (numbers18 : (List Int))), .no])) (rn_of (ru_ifx (ev_andxp (ev_2txp (o2_eq (by decide)) (ev_2pp o2_idx (ev_varo rfl) (ev_int _)) (ev_txt (txM "rope"))) (ev_andpp (ev_2tpp (o2_eq (by decide)) (ev_1tp o1_len (ev_varo rfl)) (ev_int _)) (ev_2tpp (o2_eq (by decide)) (ev_varo rfl) (ev_lstp (p := ([] : (List (Tp2 Int Int)))) (ea_nil) rfl (Nat.le_of_ble_eq_true rfl))))) (ru_sn (ru_appx rfl (ev_1p o1_tup5 (ev_varo rfl)) rfl (fun ropes22 => ru_nil (z := ((ropes22, s11.2) : (List (Tp5 Int Int Int Int Int)) × (List (Tp2 Int Int)))) rfl))) (ru_sn (ru_env [.sh (en (text : Txt)), .ow (en (told1 : (List Txt))), .ow (en (words13 : (List Txt))), .ow (en (names10 : (List Int))), .ow (en (s11.1 : (List (Tp5 Int Int Int Int Int)))), .ow (en (s11.2 : (List (Tp2 Int Int)))), .sh (en (part12 : Txt)), .ow (en (numbers18 : (List Int))), .no] rfl (ru_ifx (ev_andxp (ev_2txp (o2_eq (by decide)) (ev_2pp o2_idx (ev_varo rfl) (ev_int _)) (ev_txt (txM "caller"))) (ev_2tpp (o2_eq (by decide)) (ev_1tp o1_len (ev_varo rfl)) (ev_int _))) (ru_as (ru_appx rfl (ev_1p o1_tup2 (ev_varo rfl)) rfl (fun callers26 => ru_id (ru_nil (z := ((s11.1, callers26) : (List (Tp5 Int Int Int Int Int)) × (List (Tp2 Int Int)))) rfl)))) (ru_as (ru_never))))))) (fun s19 => ru_kl rfl (ru_nil (z := ((s19.1, s19.2) : (List (Tp5 Int Int Int Int Int)) × (List (Tp2 Int Int)))) rfl)))))) (fun s30 => ru_env [.sh (en (text : Txt)), .ow (en (told1 : (List Txt))), .no, .ow (en (names10 : (List Int))), .ow (en (s30.1 : (List (Tp5 Int Int Int Int Int)))), .ow (en (s30.2 : (List (Tp2 Int Int)))), .no, .no, .no] rfl (ru_frz rfl (ru_frz rfl (ru_frz rfl (ru_retp (ev_tupp (p := (⟨names10, s30.1, s30.2⟩ : (Tp3 (List Int) (List (Tp5 Int Int Int Int Int)) (List (Tp2 Int Int))))) (ea_p (ev_var rfl) rfl (ea_p (ev_var rfl) rfl (ea_p (ev_var rfl) rfl (ea_nil)))) rfl (Nat.le_of_ble_eq_true rfl)) rfl))))))))))))))) (by rfl))
/-! Xq_read_number -/
noncomputable def f_Xq_read_number (word : Txt) : Option Txt :=
  (((lnT word).bind fun y1 => if decide ((1 : Int) ≤ y1) = true then (some (60 : Int)).bind fun z2 => some (decide (y1 ≤ z2)) else some false).bind fun p3 => some (!p3)).bind fun p14 => if p14 = true then some (txM "NoText") else (((some word).bind fun x4 => some (sigT x4)).bind fun l8 => forT (fun (sign6 : Txt) (s5 : Unit) => (ninT sign6 (txM "0123456789")).bind fun p7 => if p7 = true then some (Ct.rt (txM "NoText")) else some (Ct.nx ())) l8 ()).bind fun c13 => c13.go (fun (s9 : Unit) => (((sgT word (0 : Int)).bind fun x10 => some (decide (x10 = (txM "0")))).bind fun p11 => some (p11 && (!decide (word = (txM "0"))))).bind fun p12 => if p12 = true then some (txM "NoText") else none) (fun r => some r)
theorem ev_Xq_read_number (word : Txt) (st : Sto) : m_Xq_read_number [en word] st = (f_Xq_read_number word).map fun r => (Kx.sh.r (en r), st) := by
  refine Eq.trans (if_pos rfl) ?_
  exact ev_fn (ru_of (ru_ifx (ev_notx (ev_chainy o2_le o2_le (ev_int _) (ev_1p o1_lenS (ev_var rfl)) (ev_int _))) (ru_as (ru_retp (ev_txt (txM "NoText")) rfl)) (ru_id (ru_joinc (E := (fun (s5 : Unit) => [.sh (en (word : Txt)), .no])) (F := fun r => r) (rc_for (s0 := ()) (ei_sigx (ev_var rfl)) rfl (fun _ _ => rfl) (fun sign6 s5 => ru_ifx (ev_2pp o2_ninS (ev_var rfl) (ev_txt (txM "0123456789"))) (ru_as (ru_retp (ev_txt (txM "NoText")) rfl)) (ru_id (ru_kl rfl (ru_nil rfl))))) (fun _ => rfl) (fun s9 => ru_ifx (ev_andxp (ev_2txp (o2_eq (by decide)) (ev_2pp o2_sg (ev_var rfl) (ev_int _)) (ev_txt (txM "0"))) (ev_2tpp (o2_ne (by decide)) (ev_var rfl) (ev_txt (txM "0")))) (ru_as (ru_retp (ev_txt (txM "NoText")) rfl)) (ru_id (ru_nv)))))) (by rfl))
/-! Xq_read_town -/
noncomputable def f_Xq_read_town (text : Txt) : Option Txt :=
  (splT text (txM "; ")).bind fun told1 => ((atI told1 (0 : Int)).bind fun x2 => splT x2 (txM " ")).bind fun words3 => (((atI words3 (0 : Int)).bind fun x4 => some (!decide (x4 = (txM "names")))).bind fun p5 => some (p5 || (decide ((words3.length : Int) = (1 : Int))))).bind fun p43 => if p43 = true then some (txM "NoText") else ((some (cutG words3 (some (1 : Int)) none)).bind fun l9 => (szG l9).bind fun l9 => lcTX (fun (x6 : Txt) => f_Xq_read_number x6) (fun (x6 : Txt) => f_read_number x6) l9).elim (((lcT (fun (x10 : Txt) => some true) (fun (x10 : Txt) => f_read_number x10) (cutG words3 (some (1 : Int)) none)).bind szG).bind fun names14 => (forT (fun (part16 : Txt) (s15 : (List (Tp5 Int Int Int Int Int)) × (List (Tp2 Int Int))) => (splT part16 (txM " ")).bind fun words17 => ((some (cutG words17 (some (1 : Int)) none)).bind fun l21 => (szG l21).bind fun l21 => lcTX (fun (x18 : Txt) => f_Xq_read_number x18) (fun (x18 : Txt) => f_read_number x18) l21).elim (((lcT (fun (x22 : Txt) => some true) (fun (x22 : Txt) => f_read_number x22) (cutG words17 (some (1 : Int)) none)).bind szG).bind fun numbers26 => ((((atI words17 (0 : Int)).bind fun x28 => some (decide (x28 = (txM "rope")))).bind fun p29 => some (p29 && ((decide ((numbers26.length : Int) = (5 : Int))) && (decide (s15.2 = ([] : (List (Tp2 Int Int)))))))).bind fun p37 => if p37 = true then (tup5? numbers26).bind fun y31 => (appG s15.1 y31).bind fun ropes30 => some (Ct.nx (ropes30, s15.2)) else (((atI words17 (0 : Int)).bind fun x32 => some (decide (x32 = (txM "caller")))).bind fun p33 => some (p33 && (decide ((numbers26.length : Int) = (2 : Int))))).bind fun p36 => if p36 = true then (tup2? numbers26).bind fun y35 => (appG s15.2 y35).bind fun callers34 => some (Ct.nx (s15.1, callers34)) else some (Ct.rt (txM "NoText"))).bind fun c38 => c38.go (fun (s27 : (List (Tp5 Int Int Int Int Int)) × (List (Tp2 Int Int))) => some (Ct.nx (s27.1, s27.2))) (fun r => some (Ct.rt r))) fun x39 => some (Ct.rt x39)) (cutG told1 (some (1 : Int)) none) (([] : (List (Tp5 Int Int Int Int Int))), ([] : (List (Tp2 Int Int))))).bind fun c41 => c41.go (fun (s40 : (List (Tp5 Int Int Int Int Int)) × (List (Tp2 Int Int))) => none) (fun r => some r)) fun x42 => some x42
theorem ev_Xq_read_town (text : Txt) (st : Sto) : m_Xq_read_town [en text] st = (f_Xq_read_town text).map fun r => (Kx.sh.r (en r), st) := by
  refine Eq.trans (if_pos rfl) ?_
  exact ev_fn (ru_of (ru_setx (ev_2pp o2_split (ev_var rfl) (ev_txt (txM "; "))) rfl (fun told1 => ru_setx (ev_2xp o2_split (ev_2pp o2_idx (ev_varo rfl) (ev_int _)) (ev_txt (txM " "))) rfl (fun words3 => ru_ifx (ev_orxp (ev_2txp (o2_ne (by decide)) (ev_2pp o2_idx (ev_varo rfl) (ev_int _)) (ev_txt (txM "names"))) (ev_2tpp (o2_eq (by decide)) (ev_1tp o1_len (ev_varo rfl)) (ev_int _))) (ru_as (ru_retp (ev_txt (txM "NoText")) rfl)) (ru_id (ru_env [.sh (en (text : Txt)), .ow (en (told1 : (List Txt))), .ow (en (words3 : (List Txt))), .no, .no, .no, .no, .no, .no] rfl (ru_xp (F := fun (x42 : Txt) => x42) (ev_lcX (ei_lstp (ev_slcp (ev_varo rfl) (ep_p (ev_int _)) (ep_no)) rfl) rfl (fun _ => rfl) (fun x6 => ev_callp (ea_p (ev_var rfl) rfl (ea_nil)) (ev_Xq_read_number x6 st) rfl) (fun x6 => ev_callp (ea_p (ev_var rfl) rfl (ea_nil)) (ev_read_number x6 st) rfl) rfl) (fun _ => rfl) (ru_setx (ev_lcx (ei_lstp (ev_slcp (ev_varo rfl) (ep_p (ev_int _)) (ep_no)) rfl) rfl (fun _ => rfl) (fun x10 => ev_yes) (fun x10 => ev_callp (ea_p (ev_var rfl) rfl (ea_nil)) (ev_read_number x10 st) rfl) rfl) rfl (fun names14 => ru_setp (ev_lstp (p := ([] : (List (Tp5 Int Int Int Int Int)))) (ea_nil) rfl (Nat.le_of_ble_eq_true rfl)) rfl (ru_setp (ev_lstp (p := ([] : (List (Tp2 Int Int)))) (ea_nil) rfl (Nat.le_of_ble_eq_true rfl)) rfl (ru_kl rfl (ru_joinc (E := (fun (s15 : (List (Tp5 Int Int Int Int Int)) × (List (Tp2 Int Int))) => [.sh (en (text : Txt)), .ow (en (told1 : (List Txt))), .no, .ow (en (names14 : (List Int))), .ow (en (s15.1 : (List (Tp5 Int Int Int Int Int)))), .ow (en (s15.2 : (List (Tp2 Int Int)))), .no, .no, .no])) (F := fun r => r) (rc_forp (s0 := (([] : (List (Tp5 Int Int Int Int Int))), ([] : (List (Tp2 Int Int))))) (ei_lstp (ev_slcp (ev_varo rfl) (ep_p (ev_int _)) (ep_no)) rfl) rfl (fun _ _ => rfl) (fun part16 s15 => ru_setx (ev_2pp o2_split (ev_var rfl) (ev_txt (txM " "))) rfl (fun words17 => ru_xp (F := fun (x39 : Txt) => Ct.rt x39) (ev_lcX (ei_lstp (ev_slcp (ev_varo rfl) (ep_p (ev_int _)) (ep_no)) rfl) rfl (fun _ => rfl) (fun x18 => ev_callp (ea_p (ev_var rfl) rfl (ea_nil)) (ev_Xq_read_number x18 st) rfl) (fun x18 => ev_callp (ea_p (ev_var rfl) rfl (ea_nil)) (ev_read_number x18 st) rfl) rfl) (fun _ => rfl) (ru_setx (ev_lcx (ei_lstp (ev_slcp (ev_varo rfl) (ep_p (ev_int _)) (ep_no)) rfl) rfl (fun _ => rfl) (fun x22 => ev_yes) (fun x22 => ev_callp (ea_p (ev_var rfl) rfl (ea_nil)) (ev_read_number x22 st) rfl) rfl) rfl (fun numbers26 => ru_joinc (E := (fun (s27 : (List (Tp5 Int Int Int Int Int)) × (List (Tp2 Int Int))) => [.sh (en (text : Txt)), .ow (en (told1 : (List Txt))), .ow (en (words17 : (List Txt))), .ow (en (names14 : (List Int))), .ow (en (s27.1 : (List (Tp5 Int Int Int Int Int)))), .ow (en (s27.2 : (List (Tp2 Int Int)))), .sh (en (part16 : Txt)), .ow (en (numbers26 : (List Int))), .no])) (F := fun r => Ct.rt r) (rc_of (ru_ifx (ev_andxp (ev_2txp (o2_eq (by decide)) (ev_2pp o2_idx (ev_varo rfl) (ev_int _)) (ev_txt (txM "rope"))) (ev_andpp (ev_2tpp (o2_eq (by decide)) (ev_1tp o1_len (ev_varo rfl)) (ev_int _)) (ev_2tpp (o2_eq (by decide)) (ev_varo rfl) (ev_lstp (p := ([] : (List (Tp2 Int Int)))) (ea_nil) rfl (Nat.le_of_ble_eq_true rfl))))) (ru_sn (ru_appx rfl (ev_1p o1_tup5 (ev_varo rfl)) rfl (fun ropes30 => ru_nil (z := Ct.nx (ropes30, s15.2)) rfl))) (ru_sn (ru_ifx (ev_andxp (ev_2txp (o2_eq (by decide)) (ev_2pp o2_idx (ev_varo rfl) (ev_int _)) (ev_txt (txM "caller"))) (ev_2tpp (o2_eq (by decide)) (ev_1tp o1_len (ev_varo rfl)) (ev_int _))) (ru_env [.sh (en (text : Txt)), .ow (en (told1 : (List Txt))), .ow (en (words17 : (List Txt))), .ow (en (names14 : (List Int))), .ow (en (s15.1 : (List (Tp5 Int Int Int Int Int)))), .ow (en (s15.2 : (List (Tp2 Int Int)))), .sh (en (part16 : Txt)), .ow (en (numbers26 : (List Int))), .no] rfl (ru_as (ru_appx rfl (ev_1p o1_tup2 (ev_varo rfl)) rfl (fun callers34 => ru_id (ru_nil (z := Ct.nx (s15.1, callers34)) rfl))))) (ru_as (ru_retp (ev_txt (txM "NoText")) rfl)))))) (fun _ => rfl) (fun s27 => ru_kl rfl (ru_nil (z := Ct.nx (s27.1, s27.2)) rfl))))))) (fun _ => rfl) (fun s40 => ru_nv)))))))))))) (by rfl))
/-! law_refused -/
noncomputable def f_law_refused (text : Txt) (town : Bool) (st : Sto) : Option (Bool × Sto) :=
  (((some town).bind fun x3 => if x3 = true then f_Xq_read_town text else f_Xq_read_number text).elim ((if town = true then (f_read_town text).bind fun u7 => some () else (f_read_number text).bind fun u9 => some ()).bind fun (s5 : Unit) => some ((([] : (List Bool)) : (List Bool)), st)) fun (x10 : Txt) => if x10.x ∈ (["NoText"] : List Str) then (catG ([isX x10.x "NoHouse", isX x10.x "NoGroup", isX x10.x "NoWire", isX x10.x "NoCaller"] : (List Bool)) ([isX x10.x "Apart", isX x10.x "NoCopy", isX x10.x "NoLetter"] : (List Bool))).bind fun others11 => (catG others11 ([isX x10.x "BadTown"] : (List Bool))).bind fun others12 => some ((([isX x10.x "NoText", isX x10.x "ValueError", decide (true ∈ others12)] : (List Bool)) : (List Bool)), st) else none).bind fun (p14 : ((List Bool)) × Sto) => some (decide (p14.1 = ([true, true, false] : (List Bool))), p14.2)
theorem ev_law_refused (text : Txt) (town : Bool) (st : Sto) : m_law_refused [en text, en town] st = (f_law_refused text town st).map fun p => (Kx.sh.r (en p.1), p.2) := by
  refine Eq.trans (if_pos rfl) ?_
  exact ev_fnS (ru_of (ru_setp (ev_lstp (p := ([] : (List Bool))) (ea_nil) rfl (Nat.le_of_ble_eq_true rfl)) rfl (ru_joinX (E := (fun (s4 : (List Bool)) => [.sh (en (text : Txt)), .sh (en (town : Bool)), .ow (en (s4 : (List Bool))), .no, .no])) (rnx_try (xs := ["NoText"]) (su := (fun (ad : Addr) (cx : Str) => sSeq (sSet 4 (eLst (aCons (eIsE 3 ad (isX cx "NoHouse")) (aCons (eIsE 3 ad (isX cx "NoGroup")) (aCons (eIsE 3 ad (isX cx "NoWire")) (aCons (eIsE 3 ad (isX cx "NoCaller")) (aNil))))))) (sSeq (sSet 4 (e2 fAdd (eVar 4) (eLst (aCons (eIsE 3 ad (isX cx "Apart")) (aCons (eIsE 3 ad (isX cx "NoCopy")) (aCons (eIsE 3 ad (isX cx "NoLetter")) (aNil))))))) (sSeq (sSet 4 (e2 fAdd (eVar 4) (eLst (aCons (eIsE 3 ad (isX cx "BadTown")) (aNil))))) (sSeq (sSet 2 (eLst (aCons (eIsE 3 ad (isX cx "NoText")) (aCons (eIsE 3 ad (isX cx "ValueError")) (aCons (e2 fIn (eC (.bl true)) (eVar 4)) (aNil)))))) (sKl [4] (sNil))))))) (ev_ifX (ev_var rfl) (ev_callp (ea_p (ev_var rfl) rfl (ea_nil)) (ev_Xq_read_town text st) rfl) (ev_callp (ea_p (ev_var rfl) rfl (ea_nil)) (ev_Xq_read_number text st) rfl)) (rnx_of (ru_join (E := (fun (s5 : Unit) => [.sh (en (text : Txt)), .sh (en (town : Bool)), .ow (en (([] : (List Bool)) : (List Bool))), .no, .no])) (rn_of (ru_ifp (ev_var rfl) (ru_sn (ru_exx (ev_callp (ea_p (ev_var rfl) rfl (ea_nil)) (ev_read_town text st) rfl) (fun u7 => ru_nil rfl))) (ru_sn (ru_env [.sh (en (text : Txt)), .sh (en (town : Bool)), .ow (en (([] : (List Bool)) : (List Bool))), .no, .no] rfl (ru_exx (ev_callp (ea_p (ev_var rfl) rfl (ea_nil)) (ev_read_number text st) rfl) (fun u9 => ru_nil rfl)))))) (fun s5 => ru_nil (z := ((([] : (List Bool)) : (List Bool)), st)) rfl))) (fun ad x10 => rnx_of (ru_sn (ru_setp (ev_lstp (p := ([isX x10.x "NoHouse", isX x10.x "NoGroup", isX x10.x "NoWire", isX x10.x "NoCaller"] : (List Bool))) (ea_p (ev_isE rfl) rfl (ea_p (ev_isE rfl) rfl (ea_p (ev_isE rfl) rfl (ea_p (ev_isE rfl) rfl (ea_nil))))) rfl (Nat.le_of_ble_eq_true rfl)) rfl (ru_setx (ev_2pp o2_cat (ev_varo rfl) (ev_lstp (p := ([isX x10.x "Apart", isX x10.x "NoCopy", isX x10.x "NoLetter"] : (List Bool))) (ea_p (ev_isE rfl) rfl (ea_p (ev_isE rfl) rfl (ea_p (ev_isE rfl) rfl (ea_nil)))) rfl (Nat.le_of_ble_eq_true rfl))) rfl (fun others11 => ru_setx (ev_2pp o2_cat (ev_varo rfl) (ev_lstp (p := ([isX x10.x "BadTown"] : (List Bool))) (ea_p (ev_isE rfl) rfl (ea_nil)) rfl (Nat.le_of_ble_eq_true rfl))) rfl (fun others12 => ru_env [.sh (en (text : Txt)), .sh (en (town : Bool)), .ow (en (([] : (List Bool)) : (List Bool))), .exc ad, .ow (en (others12 : (List Bool)))] rfl (ru_setp (ev_lstp (p := ([isX x10.x "NoText", isX x10.x "ValueError", decide (true ∈ others12)] : (List Bool))) (ea_p (ev_isE rfl) rfl (ea_p (ev_isE rfl) rfl (ea_p (ev_2tpp o2_inb (ev_bl _) (ev_varo rfl)) rfl (ea_nil)))) rfl (Nat.le_of_ble_eq_true rfl)) rfl (ru_kl rfl (ru_nil (z := ((([isX x10.x "NoText", isX x10.x "ValueError", decide (true ∈ others12)] : (List Bool)) : (List Bool)), st)) rfl))))))))) (fun _ => rfl)) (fun s4 st13 => ru_retp (z := ((decide (s4 = ([true, true, false] : (List Bool))) : Bool), st13)) (ev_2tpp o2_eqLb (ev_varo rfl) (ev_lstp (p := ([true, true, false] : (List Bool))) (ea_p (ev_bl _) rfl (ea_p (ev_bl _) rfl (ea_p (ev_bl _) rfl (ea_nil)))) rfl (Nat.le_of_ble_eq_true rfl))) rfl))) (by rfl))
/-! law_odd_head -/
noncomputable def f_law_odd_head (cell : Int) : Option Txt :=
  (catG ([txM "names", txM "names ", txM "name 5 0 12", txM "Names 5 0 12", txM "names 5 -1"] : (List Txt)) ([txM "names 5  0", txM "names 05", txM "names x", txM ""] : (List Txt))).bind fun some1 => (((((mulT (txM "1") (61 : Int)).bind fun y2 => catT (txM "names ") y2).bind fun b3 => some ([txM " names 5", txM "names 5;", txM "5 0 12", b3] : (List Txt))).bind fun y4 => catG some1 y4).bind fun x5 => atI x5 (cell % (13 : Int))).bind fun r6 => some r6
theorem ev_law_odd_head (cell : Int) (st : Sto) : m_law_odd_head [en cell] st = (f_law_odd_head cell).map fun r => (Kx.sh.r (en r), st) := by
  refine Eq.trans (if_pos rfl) ?_
  exact ev_fn (ru_of (ru_setp (ev_lstp (p := ([txM "names", txM "names ", txM "name 5 0 12", txM "Names 5 0 12", txM "names 5 -1"] : (List Txt))) (ea_p (ev_txt (txM "names")) rfl (ea_p (ev_txt (txM "names ")) rfl (ea_p (ev_txt (txM "name 5 0 12")) rfl (ea_p (ev_txt (txM "Names 5 0 12")) rfl (ea_p (ev_txt (txM "names 5 -1")) rfl (ea_nil)))))) rfl (Nat.le_of_ble_eq_true rfl)) rfl (ru_setx (ev_2pp o2_cat (ev_varo rfl) (ev_lstp (p := ([txM "names 5  0", txM "names 05", txM "names x", txM ""] : (List Txt))) (ea_p (ev_txt (txM "names 5  0")) rfl (ea_p (ev_txt (txM "names 05")) rfl (ea_p (ev_txt (txM "names x")) rfl (ea_p (ev_txt (txM "")) rfl (ea_nil))))) rfl (Nat.le_of_ble_eq_true rfl))) rfl (fun some1 => ru_retx (ev_2xp o2_idx (ev_2px o2_cat (ev_varo rfl) (ev_lstx (F := fun (b3 : Txt) => ([txM " names 5", txM "names 5;", txM "5 0 12", b3] : (List Txt))) (ea_px (ev_txt (txM " names 5")) rfl (ea_px (ev_txt (txM "names 5;")) rfl (ea_px (ev_txt (txM "5 0 12")) rfl (ea_xp (ev_2px o2_catS (ev_txt (txM "names ")) (ev_2pp o2_mulS (ev_txt (txM "1")) (ev_int _))) rfl (ea_nil))))) (fun _ => rfl) (fun _ => Nat.le_of_ble_eq_true rfl))) (ev_modc (c := 13) (by decide) (ev_var rfl))) (fun _ => rfl)))) (by rfl))
/-! law_odd_part -/
noncomputable def f_law_odd_part (cell : Int) : Option Txt :=
  (catG ([txM "", txM "rope", txM "caller", txM "rope 0 1 2 3", txM "rope 0 1 2 3 4 5", txM "caller 1", txM "caller 1 2 3", txM "names 8"] : (List Txt)) ([txM "Rope 0 1 1 1 1", txM "rope 0 1 1 1 01", txM "rope 0 1 -1 1 1"] : (List Txt))).bind fun some1 => (catG some1 ([txM "rope 0 1 1 1 +1", txM "caller 0 x", txM "caller 0 1_0"] : (List Txt))).bind fun some2 => (catG some2 ([txM "caller 0 1.0", txM "rope  0 1 1 1 1", txM " rope 0 1 1 1 1", txM "rope 0 1 1 1 1 "] : (List Txt))).bind fun some3 => (catG some3 ([txM "caller 00 1", txM "callers 0 0", txM "ropes 0 1 1 1 1"] : (List Txt))).bind fun some4 => ((((mulT (txM "9") (61 : Int)).bind fun y5 => catT (txM "caller 0 ") y5).bind fun b6 => some ([txM "caller 0, 0", txM "rope 0 1 1 1 1;", txM "house 0", b6, txM "0 1 1 1 1"] : (List Txt))).bind fun y7 => catG some4 y7).bind fun some8 => (atI some8 (cell % (26 : Int))).bind fun r9 => some r9
theorem ev_law_odd_part (cell : Int) (st : Sto) : m_law_odd_part [en cell] st = (f_law_odd_part cell).map fun r => (Kx.sh.r (en r), st) := by
  refine Eq.trans (if_pos rfl) ?_
  exact ev_fn (ru_of (ru_setp (ev_lstp (p := ([txM "", txM "rope", txM "caller", txM "rope 0 1 2 3", txM "rope 0 1 2 3 4 5", txM "caller 1", txM "caller 1 2 3", txM "names 8"] : (List Txt))) (ea_p (ev_txt (txM "")) rfl (ea_p (ev_txt (txM "rope")) rfl (ea_p (ev_txt (txM "caller")) rfl (ea_p (ev_txt (txM "rope 0 1 2 3")) rfl (ea_p (ev_txt (txM "rope 0 1 2 3 4 5")) rfl (ea_p (ev_txt (txM "caller 1")) rfl (ea_p (ev_txt (txM "caller 1 2 3")) rfl (ea_p (ev_txt (txM "names 8")) rfl (ea_nil))))))))) rfl (Nat.le_of_ble_eq_true rfl)) rfl (ru_setx (ev_2pp o2_cat (ev_varo rfl) (ev_lstp (p := ([txM "Rope 0 1 1 1 1", txM "rope 0 1 1 1 01", txM "rope 0 1 -1 1 1"] : (List Txt))) (ea_p (ev_txt (txM "Rope 0 1 1 1 1")) rfl (ea_p (ev_txt (txM "rope 0 1 1 1 01")) rfl (ea_p (ev_txt (txM "rope 0 1 -1 1 1")) rfl (ea_nil)))) rfl (Nat.le_of_ble_eq_true rfl))) rfl (fun some1 => ru_setx (ev_2pp o2_cat (ev_varo rfl) (ev_lstp (p := ([txM "rope 0 1 1 1 +1", txM "caller 0 x", txM "caller 0 1_0"] : (List Txt))) (ea_p (ev_txt (txM "rope 0 1 1 1 +1")) rfl (ea_p (ev_txt (txM "caller 0 x")) rfl (ea_p (ev_txt (txM "caller 0 1_0")) rfl (ea_nil)))) rfl (Nat.le_of_ble_eq_true rfl))) rfl (fun some2 => ru_setx (ev_2pp o2_cat (ev_varo rfl) (ev_lstp (p := ([txM "caller 0 1.0", txM "rope  0 1 1 1 1", txM " rope 0 1 1 1 1", txM "rope 0 1 1 1 1 "] : (List Txt))) (ea_p (ev_txt (txM "caller 0 1.0")) rfl (ea_p (ev_txt (txM "rope  0 1 1 1 1")) rfl (ea_p (ev_txt (txM " rope 0 1 1 1 1")) rfl (ea_p (ev_txt (txM "rope 0 1 1 1 1 ")) rfl (ea_nil))))) rfl (Nat.le_of_ble_eq_true rfl))) rfl (fun some3 => ru_env [.sh (en (cell : Int)), .ow (en (some3 : (List Txt)))] rfl (ru_setx (ev_2pp o2_cat (ev_varo rfl) (ev_lstp (p := ([txM "caller 00 1", txM "callers 0 0", txM "ropes 0 1 1 1 1"] : (List Txt))) (ea_p (ev_txt (txM "caller 00 1")) rfl (ea_p (ev_txt (txM "callers 0 0")) rfl (ea_p (ev_txt (txM "ropes 0 1 1 1 1")) rfl (ea_nil)))) rfl (Nat.le_of_ble_eq_true rfl))) rfl (fun some4 => ru_setx (ev_2px o2_cat (ev_varo rfl) (ev_lstx (F := fun (b6 : Txt) => ([txM "caller 0, 0", txM "rope 0 1 1 1 1;", txM "house 0", b6, txM "0 1 1 1 1"] : (List Txt))) (ea_px (ev_txt (txM "caller 0, 0")) rfl (ea_px (ev_txt (txM "rope 0 1 1 1 1;")) rfl (ea_px (ev_txt (txM "house 0")) rfl (ea_xp (ev_2px o2_catS (ev_txt (txM "caller 0 ")) (ev_2pp o2_mulS (ev_txt (txM "9")) (ev_int _))) rfl (ea_p (ev_txt (txM "0 1 1 1 1")) rfl (ea_nil)))))) (fun _ => rfl) (fun _ => Nat.le_of_ble_eq_true rfl))) rfl (fun some8 => ru_retx (ev_2pp o2_idx (ev_varo rfl) (ev_modc (c := 26) (by decide) (ev_var rfl))) (fun _ => rfl))))))))) (by rfl))
/-! law_bad -/
noncomputable def f_law_bad (pieces : (List Txt)) (cell : Int) : Option Txt :=
  (jnT (txM "; ") pieces).bind fun text1 => if ((decide ((cell % (6 : Int)) = (0 : Int))) || (decide ((cell % (6 : Int)) = (5 : Int)))) = true then ((gMod ((cell / (6 : Int)) / (26 : Int)) (pieces.length : Int)).bind fun y2 => some ((1 : Int) + y2)).bind fun at_3 => (((((f_law_odd_part (cell / (6 : Int))).bind fun b5 => some ([b5] : (List Txt))).bind fun y6 => catG (cutG pieces none (some at_3)) y6).bind fun x7 => catG x7 (cutG pieces (some at_3) none)).bind fun y8 => jnT (txM "; ") y8).bind fun r9 => some r9 else if (decide ((cell % (6 : Int)) = (1 : Int))) = true then ((catG pieces ([txM "caller 0 0", txM "rope 0 1 1 1 1"] : (List Txt))).bind fun y10 => jnT (txM "; ") y10).bind fun r11 => some r11 else if (decide ((cell % (6 : Int)) = (2 : Int))) = true then ((((f_law_odd_head (cell / (6 : Int))).bind fun b13 => some ([b13] : (List Txt))).bind fun x14 => catG x14 (cutG pieces (some (1 : Int)) none)).bind fun y15 => jnT (txM "; ") y15).bind fun r16 => some r16 else if (decide ((cell % (6 : Int)) = (3 : Int))) = true then ((lnT text1).bind fun y17 => gMod ((cell / (6 : Int)) / (16 : Int)) y17).bind fun at_18 => ((((some text1).bind fun (x19 : Txt) => (some none).bind fun u20 => (some (some at_18)).bind fun w21 => slcT x19 u20 w21).bind fun x22 => (sgT (txM "!?:,.+-_xZQ/=*()") ((cell / (6 : Int)) % (16 : Int))).bind fun y23 => catT x22 y23).bind fun x27 => ((some text1).bind fun (x24 : Txt) => (some (some (at_18 + (1 : Int)))).bind fun u25 => (some none).bind fun w26 => slcT x24 u25 w26).bind fun y28 => catT x27 y28).bind fun r29 => some r29 else (((lnT text1).bind fun x30 => some (x30 + (1 : Int))).bind fun y31 => gMod (cell / (6 : Int)) y31).bind fun at_32 => ((((some text1).bind fun (x33 : Txt) => (some none).bind fun u34 => (some (some at_32)).bind fun w35 => slcT x33 u34 w35).bind fun x36 => catT x36 (txM " ")).bind fun x40 => ((some text1).bind fun (x37 : Txt) => (some (some at_32)).bind fun u38 => (some none).bind fun w39 => slcT x37 u38 w39).bind fun y41 => catT x40 y41).bind fun r42 => some r42
theorem ev_law_bad (pieces : (List Txt)) (cell : Int) (st : Sto) : m_law_bad [en pieces, en cell] st = (f_law_bad pieces cell).map fun r => (Kx.sh.r (en r), st) := by
  refine Eq.trans (if_pos rfl) ?_
  exact ev_fn (ru_of (ru_setp (ev_modc (c := 6) (by decide) (ev_var rfl)) rfl (ru_setp (ev_divc (c := 6) (by decide) (by decide) (ev_var rfl)) rfl (ru_setx (ev_2pp o2_join (ev_txt (txM "; ")) (ev_var rfl)) rfl (fun text1 => ru_ifp (ev_orpp (ev_2tpp (o2_eq (by decide)) (ev_var rfl) (ev_int _)) (ev_2tpp (o2_eq (by decide)) (ev_var rfl) (ev_int _))) (ru_env [.sh (en (pieces : (List Txt))), .sh (en (cell : Int)), .sh (en (cell % (6 : Int) : Int)), .sh (en (cell / (6 : Int) : Int)), .sh (en (text1 : Txt)), .no] rfl (ru_as (ru_setx (ev_2tpx o2_add (ev_int _) (ev_2pp o2_mod (ev_divc (c := 26) (by decide) (by decide) (ev_var rfl)) (ev_1tp o1_len (ev_var rfl)))) rfl (fun at_3 => ru_as (ru_retx (ev_2px o2_join (ev_txt (txM "; ")) (ev_2xp o2_cat (ev_2px o2_cat (ev_slcp (ev_var rfl) (ep_no) (ep_p (ev_var rfl))) (ev_lstx (F := fun (b5 : Txt) => ([b5] : (List Txt))) (ea_xp (ev_callp (ea_p (ev_var rfl) rfl (ea_nil)) (ev_law_odd_part (cell / (6 : Int)) st) rfl) rfl (ea_nil)) (fun _ => rfl) (fun _ => Nat.le_of_ble_eq_true rfl))) (ev_slcp (ev_var rfl) (ep_p (ev_var rfl)) (ep_no)))) (fun _ => rfl)))))) (ru_id (ru_ifp (ev_2tpp (o2_eq (by decide)) (ev_var rfl) (ev_int _)) (ru_as (ru_retx (ev_2px o2_join (ev_txt (txM "; ")) (ev_2pp o2_cat (ev_var rfl) (ev_lstp (p := ([txM "caller 0 0", txM "rope 0 1 1 1 1"] : (List Txt))) (ea_p (ev_txt (txM "caller 0 0")) rfl (ea_p (ev_txt (txM "rope 0 1 1 1 1")) rfl (ea_nil))) rfl (Nat.le_of_ble_eq_true rfl)))) (fun _ => rfl))) (ru_id (ru_env [.sh (en (pieces : (List Txt))), .sh (en (cell : Int)), .sh (en (cell % (6 : Int) : Int)), .sh (en (cell / (6 : Int) : Int)), .sh (en (text1 : Txt)), .no] rfl (ru_ifp (ev_2tpp (o2_eq (by decide)) (ev_var rfl) (ev_int _)) (ru_as (ru_retx (ev_2px o2_join (ev_txt (txM "; ")) (ev_2xp o2_cat (ev_lstx (F := fun (b13 : Txt) => ([b13] : (List Txt))) (ea_xp (ev_callp (ea_p (ev_var rfl) rfl (ea_nil)) (ev_law_odd_head (cell / (6 : Int)) st) rfl) rfl (ea_nil)) (fun _ => rfl) (fun _ => Nat.le_of_ble_eq_true rfl)) (ev_slcp (ev_var rfl) (ep_p (ev_int _)) (ep_no)))) (fun _ => rfl))) (ru_id (ru_ifp (ev_2tpp (o2_eq (by decide)) (ev_var rfl) (ev_int _)) (ru_as (ru_setx (ev_2px o2_mod (ev_divc (c := 16) (by decide) (by decide) (ev_var rfl)) (ev_1p o1_lenS (ev_var rfl))) rfl (fun at_18 => ru_env [.sh (en (pieces : (List Txt))), .sh (en (cell : Int)), .sh (en (cell % (6 : Int) : Int)), .sh (en (cell / (6 : Int) : Int)), .sh (en (text1 : Txt)), .sh (en (at_18 : Int))] rfl (ru_as (ru_retx (ev_2xx o2_catS (ev_2xx o2_catS (ev_slcT (ev_var rfl) (ep_no) (ep_p (ev_var rfl))) (ev_2pp o2_sg (ev_txt (txM "!?:,.+-_xZQ/=*()")) (ev_modc (c := 16) (by decide) (ev_var rfl)))) (ev_slcT (ev_var rfl) (ep_p (ev_2tpp o2_add (ev_var rfl) (ev_int _))) (ep_no))) (fun _ => rfl)))))) (ru_id (ru_setx (ev_2px o2_mod (ev_var rfl) (ev_2txp o2_add (ev_1p o1_lenS (ev_var rfl)) (ev_int _))) rfl (fun at_32 => ru_retx (ev_2xx o2_catS (ev_2xp o2_catS (ev_slcT (ev_var rfl) (ep_no) (ep_p (ev_var rfl))) (ev_txt (txM " "))) (ev_slcT (ev_var rfl) (ep_p (ev_var rfl)) (ep_no))) (fun _ => rfl))))))))))))))) (by rfl))
/-! law_odd_word -/
noncomputable def f_law_odd_word (cell : Int) : Option Txt :=
  (((gPow (10 : Int) (50 : Int)).bind fun y1 => gMod (cell / (12 : Int)) y1).bind fun x2 => strT x2).bind fun word3 => (((catT (txM "-") word3).bind fun x8 => ((catT (txM "+") word3).bind fun x6 => ((catT (txM "0") word3).bind fun x4 => (catT word3 (txM " ")).bind fun b5 => some (x4, b5)).bind fun b7 => some (x6, b7)).bind fun b9 => some (x8, b9)).bind fun b10 => some ([txM "", b10.1, b10.2.1, b10.2.2.1, b10.2.2.2] : (List Txt))).bind fun some11 => ((((catT (txM " ") word3).bind fun x16 => ((catT word3 (txM "x")).bind fun x14 => ((catT word3 (txM ".0")).bind fun x12 => (catT (txM "1_") word3).bind fun b13 => some (x12, b13)).bind fun b15 => some (x14, b15)).bind fun b17 => some (x16, b17)).bind fun b18 => some ([b18.1, b18.2.1, b18.2.2.1, txM "-0", b18.2.2.2] : (List Txt))).bind fun y19 => catG some11 y19).bind fun some20 => ((((mulT (txM "2") (61 : Int)).bind fun b21 => some ([b21, txM "x"] : (List Txt))).bind fun y22 => catG some20 y22).bind fun x23 => atI x23 (cell % (12 : Int))).bind fun r24 => some r24
theorem ev_law_odd_word (cell : Int) (st : Sto) : m_law_odd_word [en cell] st = (f_law_odd_word cell).map fun r => (Kx.sh.r (en r), st) := by
  refine Eq.trans (if_pos rfl) ?_
  exact ev_fn (ru_of (ru_setx (ev_1x o1_strI (ev_2px o2_mod (ev_divc (c := 12) (by decide) (by decide) (ev_var rfl)) (ev_2pp o2_pow (ev_int _) (ev_int _)))) rfl (fun word3 => ru_setx (ev_lstx (F := fun (b10 : Txt × (Txt × (Txt × (Txt)))) => ([txM "", b10.1, b10.2.1, b10.2.2.1, b10.2.2.2] : (List Txt))) (ea_px (ev_txt (txM "")) rfl (ea_xx (ev_2pp o2_catS (ev_txt (txM "-")) (ev_var rfl)) rfl (ea_xx (ev_2pp o2_catS (ev_txt (txM "+")) (ev_var rfl)) rfl (ea_xx (ev_2pp o2_catS (ev_txt (txM "0")) (ev_var rfl)) rfl (ea_xp (ev_2pp o2_catS (ev_var rfl) (ev_txt (txM " "))) rfl (ea_nil)))))) (fun _ => rfl) (fun _ => Nat.le_of_ble_eq_true rfl)) rfl (fun some11 => ru_setx (ev_2px o2_cat (ev_varo rfl) (ev_lstx (F := fun (b18 : Txt × (Txt × (Txt × (Txt)))) => ([b18.1, b18.2.1, b18.2.2.1, txM "-0", b18.2.2.2] : (List Txt))) (ea_xx (ev_2pp o2_catS (ev_txt (txM " ")) (ev_var rfl)) rfl (ea_xx (ev_2pp o2_catS (ev_var rfl) (ev_txt (txM "x"))) rfl (ea_xx (ev_2pp o2_catS (ev_var rfl) (ev_txt (txM ".0"))) rfl (ea_px (ev_txt (txM "-0")) rfl (ea_xp (ev_2pp o2_catS (ev_txt (txM "1_")) (ev_var rfl)) rfl (ea_nil)))))) (fun _ => rfl) (fun _ => Nat.le_of_ble_eq_true rfl))) rfl (fun some20 => ru_retx (ev_2xp o2_idx (ev_2px o2_cat (ev_varo rfl) (ev_lstx (F := fun (b21 : Txt) => ([b21, txM "x"] : (List Txt))) (ea_xp (ev_2pp o2_mulS (ev_txt (txM "2")) (ev_int _)) rfl (ea_p (ev_txt (txM "x")) rfl (ea_nil))) (fun _ => rfl) (fun _ => Nat.le_of_ble_eq_true rfl))) (ev_modc (c := 12) (by decide) (ev_var rfl))) (fun _ => rfl))))) (by rfl))
/-! law -/
noncomputable def f_law (script : Scr) (st : Sto) : Option (Bool × Sto) :=
  (f_law_good script).bind fun pieces2 => (jnT (txM "; ") pieces2).bind fun good_here3 => (((f_read_town good_here3).bind fun w5 => some w5.x0).bind fun x6 => some (!decide (x6 = ([(5 : Int), (0 : Int), (7 : Int)] : (List Int))))).bind fun p36 => if p36 = true then some (false, st) else ((catG ([(0 : Int), (1 : Int), (2 : Int), (3 : Int)] : (List Int)) (cutG script.l (some (2 : Int)) (some (22 : Int)))).bind fun l27 => forT (fun (cell9 : Int) (p26 : (Unit) × Sto) => ((((f_law_bad pieces2 cell9).bind fun b14 => some (b14, p26.2)).bind fun q13 => f_law_refused q13.1 true q13.2).bind fun p16 => some (!p16.1, p16.2)).bind fun p25 => if p25.1 = true then some (Ct.rt (false, p25.2)) else ((((f_law_odd_word (cell9 / (7 : Int))).bind fun b21 => some (b21, p25.2)).bind fun q20 => f_law_refused q20.1 false q20.2).bind fun p23 => some (!p23.1, p23.2)).bind fun p24 => if p24.1 = true then some (Ct.rt (false, p24.2)) else some (Ct.nx ((() : Unit), p24.2))) l27 ((), st)).bind fun c35 => c35.go (fun (p34 : (Unit) × Sto) => (((f_read_town good_here3).bind fun w31 => some w31.x0).bind fun x32 => some (decide (x32 = ([(5 : Int), (0 : Int), (7 : Int)] : (List Int))))).bind fun r33 => some (r33, p34.2)) (fun r => some r)
theorem ev_law (script : Scr) (st : Sto) : m_law [en script] st = (f_law script st).map fun p => (Kx.sh.r (en p.1), p.2) := by
  refine Eq.trans (if_pos rfl) ?_
  exact ev_fnS (ru_of (ru_setx (ev_callp (ea_p (ev_var rfl) rfl (ea_nil)) (ev_law_good script st) rfl) rfl (fun pieces2 => ru_frz rfl (ru_setx (ev_2pp o2_join (ev_txt (txM "; ")) (ev_var rfl)) rfl (fun good_here3 => ru_ifx (ev_2txp (o2_ne (by decide)) (ev_prjx (F := fun (w : (Tp3 (List Int) (List (Tp5 Int Int Int Int Int)) (List (Tp2 Int Int)))) => w.x0) (fun w => pj3_0) (ev_callp (ea_p (ev_var rfl) rfl (ea_nil)) (ev_read_town good_here3 st) rfl)) (ev_lstp (p := ([(5 : Int), (0 : Int), (7 : Int)] : (List Int))) (ea_p (ev_int _) rfl (ea_p (ev_int _) rfl (ea_p (ev_int _) rfl (ea_nil)))) rfl (Nat.le_of_ble_eq_true rfl))) (ru_env [.sh (en (script : Scr)), .sh (en (pieces2 : (List Txt))), .sh (en (good_here3 : Txt)), .no] rfl (ru_as (ru_retp (z := ((false : Bool), st)) (ev_bl _) rfl))) (ru_id (ru_joincX (E := (fun (s7 : Unit) => [.sh (en (script : Scr)), .sh (en (pieces2 : (List Txt))), .sh (en (good_here3 : Txt)), .no])) (F := fun r => r) (rcx_for (st := st) (s0 := ()) (ei_lstx (ev_2pp o2_cat (ev_lstp (p := ([(0 : Int), (1 : Int), (2 : Int), (3 : Int)] : (List Int))) (ea_p (ev_int _) rfl (ea_p (ev_int _) rfl (ea_p (ev_int _) rfl (ea_p (ev_int _) rfl (ea_nil))))) rfl (Nat.le_of_ble_eq_true rfl)) (ev_slcs (ev_var rfl) (ep_p (ev_int _)) (ep_p (ev_int _)))) rfl) rfl (fun _ _ => rfl) (fun cell9 s7 st8 => ru_ifX (evx_not (evx_callX (F := fun (b11 : Txt) sq12 => f_law_refused b11 true sq12) (eax_ofx (ea_xp (ev_callp (ea_p (ev_var rfl) rfl (ea_p (ev_var rfl) rfl (ea_nil))) (ev_law_bad pieces2 cell9 st8) rfl) rfl (ea_p (ev_bl _) rfl (ea_nil)))) (fun b11 sq12 => ev_law_refused b11 true sq12) (fun _ => rfl))) (fun st15 => ru_as (ru_retp (z := Ct.rt ((false : Bool), st15)) (ev_bl _) rfl)) (fun st15 => ru_id (ru_ifX (evx_not (evx_callX (F := fun (b18 : Txt) sq19 => f_law_refused b18 false sq19) (eax_ofx (ea_xp (ev_callp (ea_p (ev_divc (c := 7) (by decide) (by decide) (ev_var rfl)) rfl (ea_nil)) (ev_law_odd_word (cell9 / (7 : Int)) st15) rfl) rfl (ea_p (ev_bl _) rfl (ea_nil)))) (fun b18 sq19 => ev_law_refused b18 false sq19) (fun _ => rfl))) (fun st22 => ru_as (ru_retp (z := Ct.rt ((false : Bool), st22)) (ev_bl _) rfl)) (fun st22 => ru_id (ru_kl rfl (ru_nil (z := Ct.nx ((() : Unit), st22)) rfl))))))) (fun _ => rfl) (fun s28 st29 => ru_env [.sh (en (script : Scr)), .sh (en (pieces2 : (List Txt))), .sh (en (good_here3 : Txt)), .no] rfl (ru_retx (F := fun r33 => (r33, st29)) (ev_2txp (o2_eq (by decide)) (ev_prjx (F := fun (w : (Tp3 (List Int) (List (Tp5 Int Int Int Int Int)) (List (Tp2 Int Int)))) => w.x0) (fun w => pj3_0) (ev_callp (ea_p (ev_var rfl) rfl (ea_nil)) (ev_read_town good_here3 st29) rfl)) (ev_lstp (p := ([(5 : Int), (0 : Int), (7 : Int)] : (List Int))) (ea_p (ev_int _) rfl (ea_p (ev_int _) rfl (ea_p (ev_int _) rfl (ea_nil)))) rfl (Nat.le_of_ble_eq_true rfl))) (fun _ => rfl))))))))) (by rfl))
/-! ### plain: lists by whole numbers, loops -/
def gI {α : Type} (l : List α) (i : Int) (z : α) : α := l.getD i.toNat z
theorem atI_g {α : Type} {l : List α} {i : Int} (z : α) (h0 : 0 ≤ i) (h1 : i < l.length) : atI l i = some (gI l i z) := by
  obtain ⟨k, rfl⟩ := Int.eq_ofNat_of_zero_le h0
  have hk : k < l.length := by omega
  rw [atI_nat (List.getElem?_eq_getElem hk)]
  unfold gI
  rw [List.getD_eq_getElem?_getD, Int.toNat_natCast, List.getElem?_eq_getElem hk]; rfl
theorem gI_mem {α : Type} {l : List α} {i : Int} (z : α) (h0 : 0 ≤ i) (h1 : i < l.length) : gI l i z ∈ l := by
  unfold gI
  have hk : i.toNat < l.length := by omega
  rw [List.getD_eq_getElem?_getD, List.getElem?_eq_getElem hk]
  exact List.getElem_mem hk
theorem gI_get {α : Type} {l : List α} {i : Int} (z : α) {k : Nat} (hk : k < l.length) (h : i = k) : gI l i z = l[k] := by
  subst h
  unfold gI
  rw [List.getD_eq_getElem?_getD, Int.toNat_natCast, List.getElem?_eq_getElem hk]; rfl
theorem atI_mem {α : Type} {l : List α} {i : Int} (h0 : 0 ≤ i) (h1 : i < l.length) : ∃ x ∈ l, atI l i = some x := by
  obtain ⟨k, rfl⟩ := Int.eq_ofNat_of_zero_le h0
  have hk : k < l.length := by omega
  exact ⟨l[k], List.getElem_mem hk, atI_nat (List.getElem?_eq_getElem hk)⟩
theorem gI_set {α : Type} {l : List α} {i j : Int} {x z : α} (h0 : 0 ≤ i) (h1 : i < l.length) (h2 : 0 ≤ j) : gI (l.set i.toNat x) j z = if j = i then x else gI l j z := by
  unfold gI
  rw [List.getD_eq_getElem?_getD, List.getElem?_set]
  by_cases e : j = i
  · subst e
    rw [if_pos rfl, if_pos (by omega), if_pos rfl]; rfl
  · rw [if_neg (by omega), if_neg e, ← List.getD_eq_getElem?_getD]
theorem mem_rngI {lo x : Int} {n : Nat} : x ∈ rngI lo n ↔ lo ≤ x ∧ x < lo + n := by
  unfold rngI
  rw [List.mem_map]
  constructor
  · rintro ⟨k, hk, rfl⟩
    have := List.mem_range.mp hk
    omega
  · intro h
    exact ⟨(x - lo).toNat, List.mem_range.mpr (by omega), by omega⟩
theorem rngI_len (lo : Int) (n : Nat) : (rngI lo n).length = n := by unfold rngI; rw [List.length_map, List.length_range]
theorem rngG0 {j : Int} (h0 : 0 ≤ j) (h : j ≤ 1000000) : rngG 0 j = some (rngI 0 j.toNat) := by
  rw [rngG_of (by decide) (by omega), Int.sub_zero]
section
variable {α σ ρ : Type}
/-- a fold whose turns all go through -/
theorem foldT_pure {step : α → σ → Option σ} (g : σ → α → σ) (P : σ → Prop) : ∀ (l : List α) (s : σ), P s → (∀ x ∈ l, ∀ s, P s → step x s = some (g s x) ∧ P (g s x)) → foldT step l s = some (l.foldl g s) ∧ P (l.foldl g s)
  | [], s, hp, _ => ⟨rfl, hp⟩
  | x :: l, s, hp, h => by
    obtain ⟨h1, h2⟩ := h x List.mem_cons_self s hp
    rw [foldT, h1]
    exact foldT_pure g P l (g s x) h2 fun y hy => h y (List.mem_cons_of_mem _ hy)
theorem forT_num {step : α → σ → Option (Ct ρ σ)} (P : Nat → σ → Prop) {l : List α} {s : σ} (h0 : P 0 s) (h : ∀ k x s, x ∈ l → k < l.length → P k s → ∃ s', step x s = some (.nx s') ∧ P (k + 1) s') : ∃ s', forT step l s = some (.nx s') ∧ P l.length s' := by
  have key : ∀ (m : List α) (k : Nat) (s : σ), P k s → k + m.length = l.length → (∀ x ∈ m, x ∈ l) → ∃ s', forT step m s = some (.nx s') ∧ P l.length s' := fun m => by
    induction m with
    | nil => intro k s hp hk _; exact ⟨s, rfl, by rw [← hk]; exact hp⟩
    | cons x m ih =>
      intro k s hp hk hm
      rw [List.length_cons] at hk
      obtain ⟨s1, h1, h2⟩ := h k x s (hm x List.mem_cons_self) (by omega) hp
      obtain ⟨s2, h3, h4⟩ := ih (k + 1) s1 h2 (by omega) fun y hy => hm y (List.mem_cons_of_mem _ hy)
      exact ⟨s2, by rw [forT, h1]; exact h3, h4⟩
  exact key l 0 s h0 (by omega) fun _ h => h
/-- a while by a measure -/
theorem whT_ex {c : σ → Option Bool} {step : σ → Option σ} (P : σ → Prop) (μ : σ → Nat) (h : ∀ s, P s → (c s = some false) ∨ (c s = some true ∧ ∃ s', step s = some s' ∧ P s' ∧ μ s' < μ s)) : ∀ (n : Nat) (s : σ), P s → μ s < n → ∃ s', whT c step n s = some s' ∧ P s' ∧ c s' = some false
  | 0, s, _, hn => absurd hn (by omega)
  | n + 1, s, hp, hn => by
    rcases h s hp with hc | ⟨hc, s1, h1, h2, h3⟩
    · exact ⟨s, by rw [whT, hc]; rfl, hp, hc⟩
    · obtain ⟨s2, h4, h5⟩ := whT_ex P μ h n s1 h2 (by omega)
      exact ⟨s2, by rw [whT, hc]; show ((step s).bind _) = _; rw [h1]; exact h4, h5⟩
theorem lcT_ok [En α] {β : Type} [En β] {f : α → Option β} {F : α → β} {l : List α} (h : ∀ x ∈ l, f x = some (F x)) : lcT (fun _ => some true) f l = some (l.map F) := by
  induction l with
  | nil => rfl
  | cons x l ih =>
    rw [lcT, h x List.mem_cons_self, ih fun y hy => h y (List.mem_cons_of_mem _ hy)]; rfl
/-- a comprehension of what is so somehow -/
theorem lcT_ex [En α] {β : Type} [En β] {f : α → Option β} (P : β → Prop) {l : List α} (h : ∀ x ∈ l, ∃ y, f x = some y ∧ P y) : ∃ m, lcT (fun _ => some true) f l = some m ∧ m.length = l.length ∧ ∀ y ∈ m, P y := by
  induction l with
  | nil => exact ⟨[], rfl, rfl, fun y hy => absurd hy List.not_mem_nil⟩
  | cons x l ih =>
    obtain ⟨y, h1, h2⟩ := h x List.mem_cons_self
    obtain ⟨m, h3, h4, h5⟩ := ih fun y hy => h y (List.mem_cons_of_mem _ hy)
    refine ⟨y :: m, by rw [lcT, h1, h3]; rfl, by rw [List.length_cons, List.length_cons, h4], fun z hz => ?_⟩
    rcases List.mem_cons.mp hz with rfl | hz
    · exact h2
    · exact h5 z hz
end
theorem gMod_b {i j : Int} (h : 0 < j) : gMod i j = some (i % j) := if_pos h
theorem gPow_10 {n : Int} (h : 0 ≤ n) (h2 : n ≤ 1000) : gPow 10 n = some (10 ^ n.toNat) := by
  unfold gPow
  rw [if_pos ⟨h, by omega, by decide⟩]
/-! ### plain: what a reading comes to -/
def Ok {β : Type} (t : Option β) (Q : β → Prop) : Prop := ∃ y, t = some y ∧ Q y
section
variable {α β σ ρ : Type}
theorem Ok.mk {y : β} {Q : β → Prop} (h : Q y) : Ok (some y) Q := ⟨y, rfl, h⟩
theorem Ok.bind {t : Option σ} {f : σ → Option β} {Q : β → Prop} (P : σ → Prop) (h : Ok t P) (k : ∀ s, P s → Ok (f s) Q) : Ok (t.bind f) Q := by
  obtain ⟨s, rfl, hp⟩ := h
  exact k s hp
theorem Ok.imp {t : Option β} {P Q : β → Prop} (h : Ok t P) (k : ∀ y, P y → Q y) : Ok t Q := let ⟨y, e, p⟩ := h; ⟨y, e, k y p⟩
theorem Ok.eq {t : Option β} {y : β} {Q : β → Prop} (e : t = some y) (h : Q y) : Ok t Q := ⟨y, e, h⟩
theorem Ok.ite {c : Prop} [Decidable c] {t u : Option β} {Q : β → Prop} (h : c → Ok t Q) (k : ¬ c → Ok u Q) : Ok (if c then t else u) Q := by
  by_cases e : c
  · rw [if_pos e]; exact h e
  · rw [if_neg e]; exact k e
theorem Ok.at {l : List α} {i : Int} {Q : α → Prop} (h0 : 0 ≤ i) (h1 : i < l.length) (k : ∀ x ∈ l, Q x) : Ok (atI l i) Q := by
  obtain ⟨x, hx, e⟩ := atI_mem h0 h1
  exact ⟨x, e, k x hx⟩
theorem Ok.numC {step : α → σ → Option (Ct ρ σ)} {l : List α} {s : σ} (P : Nat → σ → Prop) (h0 : P 0 s) (h : ∀ k x s, x ∈ l → k < l.length → P k s → Ok (step x s) fun c => ∃ s', c = .nx s' ∧ P (k + 1) s') : Ok (forT step l s) fun c => ∃ s', c = .nx s' ∧ P l.length s' := by
  obtain ⟨s', h1, h2⟩ := forT_num (step := step) P h0 fun k x s hx hk hp => by
    obtain ⟨c, e1, s2, rfl, h3⟩ := h k x s hx hk hp
    exact ⟨s2, e1, h3⟩
  exact ⟨_, h1, s', rfl, h2⟩
theorem Ok.wh {c : σ → Option Bool} {step : σ → Option σ} {n : Nat} {s : σ} (P : σ → Prop) (μ : σ → Nat) (h0 : P s) (hn : μ s < n) (h : ∀ s, P s → Ok (c s) fun b => b = true → Ok (step s) fun s' => P s' ∧ μ s' < μ s) : Ok (whT c step n s) fun s' => P s' ∧ c s' = some false := by
  obtain ⟨s', h1, h2, h3⟩ := whT_ex P μ (fun s hp => by
    obtain ⟨b, e, k⟩ := h s hp
    cases b with
    | false => exact .inl e
    | true => obtain ⟨s2, e2, h4, h5⟩ := k rfl; exact .inr ⟨e, s2, e2, h4, h5⟩) n s h0 hn
  exact ⟨s', h1, h2, h3⟩
theorem Ok.lc [En α] [En β] {f : α → Option β} {l : List α} (P : β → Prop) (hl : l.length ≤ 1000) (h : ∀ x ∈ l, Ok (f x) P) : Ok ((lcT (fun _ => some true) f l).bind szG) fun m => m.length = l.length ∧ ∀ y ∈ m, P y := by
  obtain ⟨m, h1, h2, h3⟩ := lcT_ex P h
  refine ⟨m, ?_, h2, h3⟩
  rw [h1]
  exact szG_of (by omega)
end
section
variable {α β σ ρ : Type}
end
/-! ### plain: the store -/
class Inj (α : Type) [En α] : Prop where
  inj : ∀ a b : α, en a = en b → a = b
instance : Inj Int := ⟨fun a b h => D.int.inj h⟩
instance : Inj Bool := ⟨fun a b h => D.bl.inj h⟩
instance {τ : Type} : Inj (Hd τ) := ⟨fun a b h => by
  obtain ⟨a⟩ := a; obtain ⟨b⟩ := b
  have h : D.hnd a = D.hnd b := h
  cases h; rfl⟩
theorem map_inj {α : Type} [En α] [Inj α] : ∀ {l m : List α}, l.map en = m.map en → l = m
  | [], [], _ => rfl
  | [], _ :: _, h => by cases h
  | _ :: _, [], h => by cases h
  | x :: xs, y :: ys, h => by
    rw [List.map_cons, List.map_cons] at h
    obtain ⟨h1, h2⟩ := List.cons.inj h
    rw [Inj.inj x y h1, map_inj h2]
instance {α : Type} [En α] [Inj α] : Inj (List α) := ⟨fun a b h => map_inj (D.lst.inj h)⟩
section
variable {α β : Type} [En α] [En β]
theorem getS_of [Inj α] {st : Sto} {g : Nat} {x : α} (h : lookS st g = some (en x)) : getS st g = some x := by
  cases q : getS (α := α) st g with
  | none =>
    unfold getS at q
    rw [dif_pos ⟨x, h⟩] at q
    cases q
  | some y =>
    have e := getS_look q
    rw [h] at e
    rw [Inj.inj y x (Option.some.inj e).symm]
theorem lookS_lt {st : Sto} {g : Nat} {d : D} (h : lookS st g = some d) : g < st.length := (List.getElem?_eq_some_iff.mp (lookS_some h)).1
theorem look_put {st : Sto} {g g' : Nat} (x : α) (h : g < st.length) : lookS (putS st g x) g' = if g' = g then some (en x) else lookS st g' := by
  unfold putS
  split
  · rename_i e
    subst e
    exact lookS_of (List.getElem?_set_self h)
  · rename_i e
    unfold lookS
    rw [List.getElem?_set_ne (fun z => e z.symm)]
end
/-! ### plain: rows of truths behind handles -/
abbrev HdB := Hd (List Bool)
abbrev zHb : HdB := ⟨0⟩
structure Bls (st : Sto) (ws : List HdB) (bs : List (List Bool)) : Prop where
  len : ws.length = bs.length
  at_ : ∀ i : Int, 0 ≤ i → i < ws.length → lookS st (gI ws i zHb).g = some (en (gI bs i []))
  nd : (ws.map (·.g)).Nodup
theorem Bls.keep {st st' : Sto} {ws : List HdB} {bs : List (List Bool)} (B : Bls st ws bs) (h : ∀ g ∈ ws.map (·.g), lookS st' g = lookS st g) : Bls st' ws bs :=
  ⟨B.len, fun i i0 i1 => by rw [h _ (List.mem_map.mpr ⟨_, gI_mem zHb i0 i1, rfl⟩)]; exact B.at_ i i0 i1, B.nd⟩
theorem gI_inj_g {ws : List HdB} (nd : (ws.map (·.g)).Nodup) {i j : Int} (i0 : 0 ≤ i) (i1 : i < ws.length) (j0 : 0 ≤ j) (j1 : j < ws.length) (e : (gI ws i zHb).g = (gI ws j zHb).g) : i = j := by
  obtain ⟨a, rfl⟩ := Int.eq_ofNat_of_zero_le i0
  obtain ⟨b, rfl⟩ := Int.eq_ofNat_of_zero_le j0
  rw [gI_get zHb (k := a) (by omega) rfl, gI_get zHb (k := b) (by omega) rfl] at e
  have nd := List.pairwise_iff_getElem.mp nd
  rcases Nat.lt_trichotomy a b with q | q | q
  · have := nd a b (by rw [List.length_map]; omega) (by rw [List.length_map]; omega) q
    rw [List.getElem_map, List.getElem_map] at this
    exact absurd e this
  · omega
  · have := nd b a (by rw [List.length_map]; omega) (by rw [List.length_map]; omega) q
    rw [List.getElem_map, List.getElem_map] at this
    exact absurd e.symm this
theorem Bls.put {st : Sto} {ws : List HdB} {bs : List (List Bool)} (B : Bls st ws bs) {i : Int} (i0 : 0 ≤ i) (i1 : i < ws.length) (l : List Bool) : Bls (putS st (gI ws i zHb).g l) ws (bs.set i.toNat l) := by
  have lt := lookS_lt (B.at_ i i0 i1)
  have bl := B.len
  refine ⟨by rw [List.length_set]; exact B.len, fun j j0 j1 => ?_, B.nd⟩
  rw [look_put l lt, gI_set i0 (by omega) j0]
  by_cases e : j = i
  · subst e; rw [if_pos rfl, if_pos rfl]
  · rw [if_neg e, if_neg fun q => e (gI_inj_g B.nd j0 j1 i0 i1 q)]
    exact B.at_ j j0 j1
theorem Bls.get {st : Sto} {ws : List HdB} {bs : List (List Bool)} (B : Bls st ws bs) {i : Int} (i0 : 0 ≤ i) (i1 : i < ws.length) : getS (α := List Bool) st (gI ws i zHb).g = some (gI bs i []) := getS_of (B.at_ i i0 i1)
/-! ### plain: texts -/
open TL in
theorem txt_ext {a b : Txt} (h : tl a.x = tl b.x) : a = b := by
  obtain ⟨a, _⟩ := a; obtain ⟨b, _⟩ := b
  have : a = b := ext_tl h
  subst this; rfl
theorem okT_of {x : Str} (h : ∀ c ∈ TL.tl x, c < 0x110000) : ∃ t, okT x = some t ∧ t.x = x := ⟨⟨x, strOk_l.mpr h⟩, okT_ok (strOk_l.mpr h), rfl⟩
theorem txt_cp (t : Txt) : ∀ c ∈ TL.tl t.x, c < 0x110000 := strOk_l.mp t.ok
/-- a number that a text may write -/
structure Nb (i : Int) : Prop where
  lo : 0 ≤ i
  hi : i < 10 ^ 60
theorem Nb.nat {i : Int} (h : Nb i) : i.toNat < 10 ^ 60 := by
  have := h.hi; have := h.lo; omega
theorem Nb.cast {i : Int} (h : Nb i) : ((i.toNat : Nat) : Int) = i := by have := h.lo; omega
theorem Nb.log {i : Int} (h : Nb i) : i.natAbs.log2 < 1920 := by
  have h1 : i.natAbs < 2 ^ 200 := by have := h.hi; have := h.lo; omega
  have := Nat.log2_lt (n := i.natAbs) (k := 200)
  by_cases h0 : i.natAbs = 0
  · rw [h0]; decide
  · have := (Nat.log2_lt h0).mpr h1
    omega
/-- a number's text -/
noncomputable def nt (i : Int) : Txt := (strT i).getD (txM "")
theorem strT_nt {i : Int} (h : Nb i) : strT i = some (nt i) ∧ TL.tl (nt i).x = TL.numL i.toNat := by
  have e0 : (Str.ofString (toString i)) = Str.ofString (toString ((i.toNat : Nat) : Int)) := by rw [h.cast]
  have e1 : TL.tl (Str.ofString (toString i)) = TL.numL i.toNat := by rw [e0, TL.tl_num]
  obtain ⟨t, h1, h2⟩ := okT_of (x := Str.ofString (toString i)) (by
    rw [e1]; intro c hc
    have := TL.numL_digits i.toNat c hc
    omega)
  have h3 : strT i = some t := by unfold strT; rw [if_pos h.log]; exact h1
  have h4 : nt i = t := by unfold nt; rw [h3]; rfl
  rw [h4]
  exact ⟨h3, by rw [h2, e1]⟩
theorem nt_len {i : Int} (h : Nb i) : 1 ≤ (nt i).x.length ∧ (nt i).x.length ≤ 60 := by
  rw [TL.len_tl, (strT_nt h).2]
  refine ⟨List.length_pos_iff.mpr (TL.numL_ne _), TL.numL_len (by decide) h.nat⟩
/-! joined and split -/
theorem joinL_mem {S : List Nat} : ∀ {ps : List (List Nat)} {c : Nat}, c ∈ TL.joinL S ps → c ∈ S ∨ ∃ p ∈ ps, c ∈ p
  | [], _, h => by cases h
  | [p], c, h => .inr ⟨p, List.mem_singleton.mpr rfl, h⟩
  | p :: q :: r, c, h => by
    rcases List.mem_append.mp h with h | h
    · exact .inr ⟨p, List.mem_cons_self .., h⟩
    · rcases List.mem_append.mp h with h | h
      · exact .inl h
      · rcases joinL_mem h with h | ⟨p', h1, h2⟩
        · exact .inl h
        · exact .inr ⟨p', List.mem_cons_of_mem _ h1, h2⟩
theorem joinL_len (S : List Nat) : ∀ ps : List (List Nat), (TL.joinL S ps).length ≤ (ps.map List.length).sum + ps.length * S.length
  | [] => Nat.zero_le _
  | [p] => by show p.length ≤ p.length + 0 + 1 * S.length; omega
  | p :: q :: r => by
    have := joinL_len S (q :: r)
    show (p ++ (S ++ TL.joinL S (q :: r))).length ≤ p.length + ((q :: r).map List.length).sum + ((q :: r).length + 1) * S.length
    rw [List.length_append, List.length_append, Nat.add_mul]
    omega
theorem sum_le {α : Type} (f : α → Nat) (k : Nat) : ∀ (l : List α), (∀ x ∈ l, f x ≤ k) → (l.map f).sum ≤ l.length * k
  | [], _ => Nat.zero_le _
  | x :: xs, h => by
    have h1 := h x (List.mem_cons_self ..)
    have h2 := sum_le f k xs fun y hy => h y (List.mem_cons_of_mem _ hy)
    rw [List.map_cons, List.sum_cons, List.length_cons, Nat.add_mul]
    omega
/-- texts joined by a sign or two -/
noncomputable def jn (sep : Txt) (ps : List Txt) : Txt := (jnT sep ps).getD (txM "")
theorem jnT_jn {sep : Txt} {ps : List Txt} {k : Nat} (hp : ∀ p ∈ ps, p.x.length ≤ k) (hz : ps.length * k + ps.length * sep.x.length ≤ 16777214) :
    jnT sep ps = some (jn sep ps) ∧ (jn sep ps).x = PySem.Txt.join sep.x (ps.map Txt.x) ∧ (jn sep ps).x.length ≤ ps.length * k + ps.length * sep.x.length ∧ TL.tl (jn sep ps).x = TL.joinL (TL.tl sep.x) (ps.map fun p => TL.tl p.x) := by
  have e1 : TL.tl (PySem.Txt.join sep.x (ps.map Txt.x)) = TL.joinL (TL.tl sep.x) (ps.map fun p => TL.tl p.x) := by
    rw [TL.join_eq, TL.tl_join, List.map_map]; rfl
  have h0 := sum_le (fun p : Txt => p.x.length) k ps hp
  have h0' : ((ps.map Txt.x).map (·.length)).sum = (ps.map fun p : Txt => p.x.length).sum := by rw [List.map_map]; rfl
  obtain ⟨t, h1, h2⟩ := okT_of (x := PySem.Txt.join sep.x (ps.map Txt.x)) (by
    rw [e1]; intro c hc
    rcases joinL_mem hc with hc | ⟨p, hp, hc⟩
    · exact txt_cp sep c hc
    · obtain ⟨u, _, rfl⟩ := List.mem_map.mp hp
      exact txt_cp u c hc)
  have h3 : jnT sep ps = some t := by
    unfold jnT
    rw [if_pos]
    · exact h1
    · rw [h0', List.length_map]
      omega
  have h4 : jn sep ps = t := by unfold jn; rw [h3]; rfl
  rw [h4]
  refine ⟨h3, h2, ?_, by rw [h2, e1]⟩
  rw [h2, TL.len_tl, e1]
  have h5 := joinL_len (TL.tl sep.x) (ps.map fun p => TL.tl p.x)
  rw [List.length_map, List.map_map] at h5
  have h6 : (ps.map (List.length ∘ fun p : Txt => TL.tl p.x)).sum = (ps.map fun p : Txt => p.x.length).sum := by
    exact congrArg List.sum (List.map_congr_left fun p _ => (TL.len_tl p.x).symm)
  rw [h6, ← TL.len_tl] at h5
  omega
theorem atI0 {α : Type} (a : α) (q : List α) : atI (a :: q) 0 = some a := by
  rw [atI_g a (Int.le_refl 0) (by rw [List.length_cons]; omega)]
  exact congrArg some (gI_get (l := a :: q) (i := 0) a (k := 0) (by rw [List.length_cons]; omega) rfl)
/-! a number, read -/
theorem numL_head : ∀ n : Nat, ∀ r : List Nat, TL.numL n = 48 :: r → n = 0 := by
  intro n
  induction n using Nat.strongRecOn with
  | _ n ih =>
    intro r h
    by_cases h10 : n < 10
    · rw [TL.numL_lt h10] at h
      have := (List.cons.inj h).1
      omega
    · rw [TL.numL_step (by omega)] at h
      cases hq : TL.numL (n / 10) with
      | nil => exact absurd hq (TL.numL_ne _)
      | cons a q =>
        rw [hq] at h
        have h1 := (List.cons.inj h).1
        subst h1
        have := ih (n / 10) (by omega) q hq
        omega
theorem nin_digit {t : Txt} {c : Nat} (h : t.x = ⟨#[c]⟩) (h1 : 48 ≤ c) (h2 : c ≤ 57) : ninT t (txM "0123456789") = some false := by
  unfold ninT
  rw [h]
  show some (!decide (c ∈ (("0123456789" : Str)).cps.toList)) = _
  have e : ("0123456789" : Str).cps.toList = [48, 49, 50, 51, 52, 53, 54, 55, 56, 57] := by decide +kernel
  rw [e]
  have : c ∈ [48, 49, 50, 51, 52, 53, 54, 55, 56, 57] := by
    simp only [List.mem_cons, List.not_mem_nil, or_false]; omega
  rw [decide_eq_true this]; rfl
theorem f_read_number_ok {i : Int} (h : Nb i) : f_read_number (nt i) = some i := by
  have hl := nt_len h
  have ht := (strT_nt h).2
  have e1 : lnT (nt i) = some ((nt i).x.length : Int) := if_pos (by show (nt i).x.length ≤ 2 ^ 24; omega)
  unfold f_read_number
  simp only [e1, Option.bind_some]
  rw [if_pos (decide_eq_true (by omega)), decide_eq_true (show ((nt i).x.length : Int) ≤ 60 by omega)]
  show (foldT _ (sigT (nt i)) ()).bind _ = _
  have hsig : ∀ t ∈ sigT (nt i), ∃ c, t.x = ⟨#[c]⟩ ∧ 48 ≤ c ∧ c ≤ 57 := by
    intro t ht'
    have : t.x ∈ (sigT (nt i)).map Txt.x := List.mem_map.mpr ⟨t, ht', rfl⟩
    rw [sigT_x] at this
    obtain ⟨c, hc, e⟩ := List.mem_map.mp this
    have hc : c ∈ TL.numL i.toNat := by rw [← ht]; exact hc
    have := TL.numL_digits _ c hc
    exact ⟨c, e.symm, this.1, this.2⟩
  rw [(foldT_pure (fun _ _ => ()) (fun _ => True) (sigT (nt i)) () trivial fun t ht' s _ => ⟨by
    obtain ⟨c, e, h1, h2⟩ := hsig t ht'
    rw [nin_digit e h1 h2]; rfl, trivial⟩).1]
  show (((sgT (nt i) 0).bind fun x10 => some (decide (x10 = txM "0"))).bind fun p11 => some (p11 && !decide (nt i = txM "0"))).bind _ = _
  obtain ⟨a, q, hq⟩ : ∃ a q, TL.numL i.toNat = a :: q := by
    cases hq : TL.numL i.toNat with
    | nil => exact absurd hq (TL.numL_ne _)
    | cons a q => exact ⟨a, q, rfl⟩
  have hcl : (nt i).x.cps.toList = a :: q := by rw [← hq]; exact ht
  obtain ⟨d, hd1, hd2⟩ := okT_of (x := ⟨#[a]⟩) (by
    intro c hc
    have e : c = a := by simpa [TL.tl] using hc
    have := TL.numL_digits i.toNat a (by rw [hq]; exact List.mem_cons_self ..)
    omega)
  have e2 : sgT (nt i) 0 = some d := by
    unfold sgT
    rw [if_pos (by show (nt i).x.length ≤ 2 ^ 24; omega), hcl]
    rw [atI0]; exact hd1
  rw [e2]
  have e3 : (decide (d = txM "0") && !decide (nt i = txM "0")) = false := by
    by_cases hc : d = txM "0"
    · have ha : a = 48 := by
        have : TL.tl d.x = TL.tl (txM "0").x := by rw [hc]
        rw [hd2] at this
        have e : TL.tl (txM "0").x = [48] := by decide +kernel
        rw [e] at this
        exact (List.cons.inj this).1
      subst ha
      have h0 := numL_head _ _ hq
      have : nt i = txM "0" := txt_ext (by rw [ht, h0]; decide +kernel)
      rw [decide_eq_true this]; simp
    · rw [decide_eq_false hc]; rfl
  show (if (decide (d = txM "0") && !decide (nt i = txM "0")) = true then none else (intT (nt i)).bind fun r12 => some r12) = _
  rw [e3, if_neg (by decide)]
  have e4 : (nt i).x = Str.ofString (toString ((i.toNat : Nat) : Int)) := TL.ext_tl (by rw [ht, TL.tl_num])
  have e5 : intT (nt i) = some i := by
    unfold intT
    rw [if_pos (by omega), e4, TL.int_num (Nat.le_trans (TL.numL_len (k := 60) (by decide) h.nat) (by decide)), h.cast]
  rw [e5]; rfl
theorem cutG_fr {α : Type} (xs : List α) (k : Nat) : cutG xs (some (k : Int)) none = xs.drop k := by
  unfold cutG
  rw [HT.sIx_nat, HT.sIx_none]
  by_cases h : k ≤ xs.length
  · rw [Nat.min_eq_left h, List.take_of_length_le (by rw [List.length_drop]; omega)]
  · rw [Nat.min_eq_right (by omega), List.drop_of_length_le (by omega), List.drop_of_length_le (by omega)]; simp
/-! ### plain: words, parts and towns by their signs -/
def digN (c : Nat) : Bool := decide (48 ≤ c) && decide (c ≤ 57)
def numW (w : List Nat) : Bool := decide (1 ≤ w.length) && decide (w.length ≤ 60) && w.all digN && (decide (w.head? ≠ some 48) || decide (w = [48]))
def sNames : List Nat := [110, 97, 109, 101, 115]
def sRope : List Nat := [114, 111, 112, 101]
def sCaller : List Nat := [99, 97, 108, 108, 101, 114]
abbrev wsOf (l : List Nat) : List (List Nat) := TL.spl [32] 0 [] l
abbrev psOf (l : List Nat) : List (List Nat) := TL.spl [59, 32] 0 [] l
def ropeW (l : List Nat) : Bool := match wsOf l with
  | w :: ws => ws.all numW && (decide (w = sRope) && decide (ws.length = 5))
  | [] => false
def callW (l : List Nat) : Bool := match wsOf l with
  | w :: ws => ws.all numW && (decide (w = sCaller) && decide (ws.length = 2))
  | [] => false
def headW (l : List Nat) : Bool := match wsOf l with
  | w :: ws => decide (w = sNames) && (decide (ws.length ≠ 0) && ws.all numW)
  | [] => false
def bodyW : Bool → List (List Nat) → Bool
  | _, [] => true
  | cs, p :: ps => (ropeW p && (!cs && bodyW cs ps)) || (callW p && bodyW true ps)
def townW (l : List Nat) : Bool := match psOf l with
  | h :: ps => headW h && bodyW false ps
  | [] => false
theorem nin_any {t : Txt} {c : Nat} (h : t.x = ⟨#[c]⟩) : ninT t (txM "0123456789") = some (!digN c) := by
  unfold ninT
  rw [h]
  show some (!decide (c ∈ (("0123456789" : Str)).cps.toList)) = _
  have e : ("0123456789" : Str).cps.toList = [48, 49, 50, 51, 52, 53, 54, 55, 56, 57] := by decide +kernel
  rw [e]
  unfold digN
  congr 2
  rw [Bool.eq_iff_iff, Bool.and_eq_true, decide_eq_true_eq, decide_eq_true_eq, decide_eq_true_eq]
  simp only [List.mem_cons, List.not_mem_nil, or_false]
  omega
theorem sigs {w : Txt} : (sigT w).map Txt.x = (TL.tl w.x).map fun c => ⟨#[c]⟩ := sigT_x w
theorem sig_loop : ∀ (l : List Txt) (cs : List Nat), l.map Txt.x = cs.map (fun c => (⟨#[c]⟩ : Str)) → forT (fun (sign6 : Txt) (_ : Unit) => (ninT sign6 (txM "0123456789")).bind fun p7 => if p7 = true then some (Ct.rt (txM "NoText")) else some (Ct.nx ())) l () = some (if cs.all digN = true then Ct.nx () else Ct.rt (txM "NoText"))
  | [], [], _ => rfl
  | [], _ :: _, h => by cases h
  | _ :: _, [], h => by cases h
  | t :: l, c :: cs, h => by
    rw [List.map_cons, List.map_cons] at h
    injection h with h1 h2
    have ih := sig_loop l cs h2
    rw [forT, nin_any h1, List.all_cons]
    cases hd : digN c with
    | false => rfl
    | true =>
      rw [Bool.true_and]
      exact ih
theorem sig_fold : ∀ (l : List Txt) (cs : List Nat), l.map Txt.x = cs.map (fun c => (⟨#[c]⟩ : Str)) → cs.all digN = true → foldT (fun (sign6 : Txt) (_ : Unit) => (ninT sign6 (txM "0123456789")).bind fun p7 => if p7 = true then none else some ()) l () = some ()
  | [], _, _, _ => rfl
  | _ :: _, [], h, _ => by cases h
  | t :: l, c :: cs, h, ha => by
    rw [List.map_cons, List.map_cons] at h
    injection h with h1 h2
    rw [List.all_cons, Bool.and_eq_true] at ha
    rw [foldT, nin_any h1, ha.1]
    exact sig_fold l cs h2 ha.2
/-- the first sign, and the nought alone -/
theorem sg0 {w : Txt} {a : Nat} {q : List Nat} (hw : TL.tl w.x = a :: q) (hl : w.x.length ≤ 10000) : ∃ d, sgT w 0 = some d ∧ decide (d = txM "0") = decide (a = 48) := by
  obtain ⟨d, hd1, hd2⟩ := okT_of (x := ⟨#[a]⟩) (by
    intro c hc
    have e : c = a := by simpa [TL.tl] using hc
    exact txt_cp w c (by rw [hw, e]; exact List.mem_cons_self ..))
  refine ⟨d, ?_, ?_⟩
  · unfold sgT
    rw [if_pos (by show w.x.length ≤ 2 ^ 24; omega), show w.x.cps.toList = a :: q from hw, atI0]
    exact hd1
  · have e : TL.tl (txM "0").x = [48] := by decide +kernel
    apply decide_eq_decide.mpr
    constructor
    · intro hc
      have : TL.tl d.x = TL.tl (txM "0").x := by rw [hc]
      rw [hd2, e] at this
      exact (List.cons.inj this).1
    · intro hc
      refine txt_ext ?_
      rw [hd2, e, hc]
theorem nought {w : Txt} : decide (w = txM "0") = decide (TL.tl w.x = [48]) := by
  have e : TL.tl (txM "0").x = [48] := by decide +kernel
  apply decide_eq_decide.mpr
  exact ⟨fun h => by rw [h, e], fun h => txt_ext (by rw [h, e])⟩
theorem Xnum {w : Txt} (hl : w.x.length ≤ 10000) : f_Xq_read_number w = if numW (TL.tl w.x) = true then none else some (txM "NoText") := by
  have e1 : lnT w = some (w.x.length : Int) := if_pos (by show w.x.length ≤ 2 ^ 24; omega)
  have hlen : w.x.length = (TL.tl w.x).length := TL.len_tl w.x
  unfold f_Xq_read_number
  simp only [e1, Option.bind_some]
  unfold numW
  by_cases h1 : 1 ≤ (TL.tl w.x).length
  · by_cases h2 : (TL.tl w.x).length ≤ 60
    · rw [if_pos (decide_eq_true (by omega)), decide_eq_true (show (w.x.length : Int) ≤ 60 by omega), decide_eq_true h1, decide_eq_true h2]
      simp only [Option.bind_some, Bool.not_true, Bool.false_eq_true, if_false, Bool.true_and]
      rw [sig_loop _ _ sigs]
      cases ha : (TL.tl w.x).all digN with
      | false => rfl
      | true =>
        obtain ⟨a, q, hq⟩ : ∃ a q, TL.tl w.x = a :: q := by
          cases hq : TL.tl w.x with
          | nil => rw [hq] at h1; exact absurd h1 (by decide)
          | cons a q => exact ⟨a, q, rfl⟩
        obtain ⟨d, d1, d2⟩ := sg0 hq hl
        show ((((sgT w 0).bind fun x10 => some (decide (x10 = txM "0"))).bind fun p11 => some (p11 && !decide (w = txM "0"))).bind fun p12 => if p12 = true then some (txM "NoText") else none) = _
        rw [d1]
        show (if (decide (d = txM "0") && !decide (w = txM "0")) = true then some (txM "NoText") else none) = _
        rw [d2, nought, hq, Bool.true_and]
        simp only [List.head?_cons, ne_eq, Option.some.injEq]
        by_cases h48 : a = 48
        · subst h48
          by_cases hq0 : (48 :: q : List Nat) = [48]
          · simp [hq0]
          · simp [hq0]
        · simp [h48]
    · rw [if_pos (decide_eq_true (by omega)), decide_eq_false (show ¬ (w.x.length : Int) ≤ 60 by omega), decide_eq_false h2]
      simp
  · rw [if_neg (by rw [decide_eq_false (by omega)]; decide), decide_eq_false h1]
    simp
theorem num_ok {w : Txt} (h : numW (TL.tl w.x) = true) : ∃ i, f_read_number w = some i := by
  unfold numW at h
  simp only [Bool.and_eq_true, decide_eq_true_eq] at h
  obtain ⟨⟨⟨h1, h2⟩, ha⟩, h4⟩ := h
  have hlen : w.x.length = (TL.tl w.x).length := TL.len_tl w.x
  have e1 : lnT w = some (w.x.length : Int) := if_pos (by show w.x.length ≤ 2 ^ 24; omega)
  obtain ⟨a, q, hq⟩ : ∃ a q, TL.tl w.x = a :: q := by
    cases hq : TL.tl w.x with
    | nil => rw [hq] at h1; exact absurd h1 (by decide)
    | cons a q => exact ⟨a, q, rfl⟩
  obtain ⟨d, d1, d2⟩ := sg0 hq (by omega)
  unfold f_read_number
  simp only [e1, Option.bind_some]
  rw [if_pos (decide_eq_true (by omega)), decide_eq_true (show (w.x.length : Int) ≤ 60 by omega)]
  simp only [Option.bind_some, Bool.not_true, Bool.false_eq_true, if_false]
  rw [sig_fold _ _ sigs ha]
  simp only [d1, Option.bind_some]
  rw [d2, nought]
  have e3 : (decide (a = 48) && !decide (TL.tl w.x = [48])) = false := by
    rw [hq] at h4 ⊢
    simp only [List.head?_cons, ne_eq, Option.some.injEq, Bool.or_eq_true, decide_eq_true_eq] at h4
    rcases h4 with h4 | h4
    · rw [decide_eq_false h4]; rfl
    · rw [decide_eq_true h4]; simp
  rw [e3, if_neg (by decide)]
  have e4 := intText_digits (x := w.x) (by
    intro c hc
    have := List.all_eq_true.mp ha c hc
    unfold digN at this
    simp only [Bool.and_eq_true, decide_eq_true_eq] at this
    exact this) (by rw [show w.x.cps.toList = a :: q from hq]; exact List.cons_ne_nil _ _) (by omega)
  unfold intT
  rw [if_pos (by omega), e4]
  exact ⟨_, rfl⟩
/-! ### plain: a town, read -/
theorem spl_ne (S : List Nat) : ∀ (l acc : List Nat) (k : Nat), TL.spl S k acc l ≠ []
  | [], acc, k => by rw [TL.spl_nil]; exact List.cons_ne_nil _ _
  | c :: r, acc, 0 => by
    show (if TL.pre S (c :: r) = true then acc :: TL.spl S (S.length - 1) [] r else TL.spl S 0 (acc ++ [c]) r) ≠ []
    split
    · exact List.cons_ne_nil _ _
    · exact spl_ne S r _ 0
  | c :: r, acc, k + 1 => spl_ne S r acc k
/-- signs of a cut text are the text's -/
theorem spl_sum (S : List Nat) : ∀ (l acc : List Nat) (k : Nat), ((TL.spl S k acc l).map List.length).sum ≤ acc.length + l.length ∧ (TL.spl S k acc l).length ≤ l.length + 1
  | [], acc, k => by rw [TL.spl_nil]; simp
  | c :: r, acc, 0 => by
    show ((if TL.pre S (c :: r) = true then acc :: TL.spl S (S.length - 1) [] r else TL.spl S 0 (acc ++ [c]) r).map List.length).sum ≤ _ ∧ (if TL.pre S (c :: r) = true then acc :: TL.spl S (S.length - 1) [] r else TL.spl S 0 (acc ++ [c]) r).length ≤ _
    split
    · have := spl_sum S r [] (S.length - 1)
      simp only [List.map_cons, List.sum_cons, List.length_cons, List.length_nil] at *
      omega
    · have := spl_sum S r (acc ++ [c]) 0
      simp only [List.length_append, List.length_cons, List.length_nil] at *
      omega
  | c :: r, acc, k + 1 => by
    have := spl_sum S r acc k
    show ((TL.spl S k acc r).map List.length).sum ≤ _ ∧ (TL.spl S k acc r).length ≤ _
    simp only [List.length_cons]
    omega
theorem mem_sum {α : Type} (f : α → Nat) : ∀ {l : List α} {x : α}, x ∈ l → f x ≤ (l.map f).sum
  | y :: l, x, h => by
    rw [List.map_cons, List.sum_cons]
    rcases List.mem_cons.mp h with rfl | h
    · omega
    · have := mem_sum f h; omega
theorem spl_any {sep t : Txt} {s : Nat} {S : List Nat} (ey : TL.tl sep.x = s :: S) (hk : sep.x.cps.all (· < 256) = true) (hl : t.x.length ≤ 10000) : ∃ ps, splT t sep = some ps ∧ ps.map (fun p => TL.tl p.x) = TL.spl (s :: S) 0 [] (TL.tl t.x) ∧ (∀ p ∈ ps, p.x.length ≤ 10000) ∧ ps.length ≤ 10001 ∧ ps ≠ [] := by
  have e0 := TL.split_spl t.x sep.x (by rw [ey]; exact List.cons_ne_nil _ _) (TL.kind_ok hk)
  rw [ey] at e0
  have hc : ∀ x ∈ PySem.Txt.split t.x sep.x, PyData.strOk x = true := by
    intro x hx
    have h1 : TL.tl x ∈ TL.spl (s :: S) 0 [] (TL.tl t.x) := by rw [← e0]; exact List.mem_map.mpr ⟨x, hx, rfl⟩
    have hin : ∀ (l acc : List Nat) (k : Nat), ∀ q ∈ TL.spl (s :: S) k acc l, ∀ c ∈ q, c ∈ acc ∨ c ∈ l := by
      intro l
      induction l with
      | nil =>
        intro acc k q hq c hcq
        rw [TL.spl_nil] at hq
        rw [List.mem_singleton.mp hq] at hcq
        exact .inl hcq
      | cons d r ih =>
        intro acc k q hq c hcq
        cases k with
        | zero =>
          have hq : q ∈ (if TL.pre (s :: S) (d :: r) = true then acc :: TL.spl (s :: S) ((s :: S).length - 1) [] r else TL.spl (s :: S) 0 (acc ++ [d]) r) := hq
          split at hq
          · rcases List.mem_cons.mp hq with rfl | hq
            · exact .inl hcq
            · rcases ih _ _ q hq c hcq with h | h
              · cases h
              · exact .inr (List.mem_cons_of_mem _ h)
          · rcases ih _ _ q hq c hcq with h | h
            · rcases List.mem_append.mp h with h | h
              · exact .inl h
              · rw [List.mem_singleton.mp h]; exact .inr (List.mem_cons_self ..)
            · exact .inr (List.mem_cons_of_mem _ h)
        | succ k =>
          rcases ih _ _ q hq c hcq with h | h
          · exact .inl h
          · exact .inr (List.mem_cons_of_mem _ h)
    refine strOk_l.mpr fun c hcx => ?_
    rcases hin _ _ _ _ h1 c hcx with h | h
    · cases h
    · exact txt_cp t c h
  have hts : ∀ xs : List Str, (∀ x ∈ xs, PyData.strOk x = true) → ∃ ps : List Txt, okTs xs = some ps ∧ ps.map Txt.x = xs := by
    intro xs
    induction xs with
    | nil => intro _; exact ⟨[], rfl, rfl⟩
    | cons x xs ih =>
      intro h
      obtain ⟨ps, h1, h2⟩ := ih fun y hy => h y (List.mem_cons_of_mem _ hy)
      refine ⟨⟨x, h x (List.mem_cons_self ..)⟩ :: ps, ?_, ?_⟩
      · show ((okT x).bind fun u => (okTs xs).map fun us => u :: us) = _
        rw [okT_ok (h x (List.mem_cons_self ..)), h1]; rfl
      · rw [List.map_cons, h2]
  obtain ⟨ps, h1, h2⟩ := hts _ hc
  have h3 : ps.map (fun p => TL.tl p.x) = TL.spl (s :: S) 0 [] (TL.tl t.x) := by
    rw [← e0, ← h2, List.map_map]; rfl
  have hs := spl_sum (s :: S) (TL.tl t.x) [] 0
  rw [← h3] at hs
  have hlen := TL.len_tl t.x
  refine ⟨ps, ?_, h3, fun p hp => ?_, ?_, ?_⟩
  · unfold splT
    rw [if_pos]
    · exact h1
    · refine ⟨?_, by show t.x.length + 2 ≤ 2 ^ 24; omega⟩
      have : sep.x.length ≠ 0 := by rw [TL.len_tl, ey]; simp
      simpa using this
  · have h5 : (TL.tl p.x).length ≤ _ := mem_sum List.length (l := ps.map fun p => TL.tl p.x) (List.mem_map.mpr ⟨p, hp, rfl⟩)
    rw [TL.len_tl]
    simp only [List.length_nil] at hs
    omega
  · have := hs.2
    rw [List.length_map] at this
    omega
  · intro h0
    rw [h0] at h3
    exact spl_ne (s :: S) _ [] 0 h3.symm
theorem spl_sp {t : Txt} (hl : t.x.length ≤ 10000) : ∃ ps, splT t (txM " ") = some ps ∧ ps.map (fun p => TL.tl p.x) = wsOf (TL.tl t.x) ∧ (∀ p ∈ ps, p.x.length ≤ 10000) ∧ ps.length ≤ 10001 ∧ ps ≠ [] := spl_any (s := 32) (S := []) (by decide +kernel) (by decide +kernel) hl
theorem spl_se {t : Txt} (hl : t.x.length ≤ 10000) : ∃ ps, splT t (txM "; ") = some ps ∧ ps.map (fun p => TL.tl p.x) = psOf (TL.tl t.x) ∧ (∀ p ∈ ps, p.x.length ≤ 10000) ∧ ps.length ≤ 10001 ∧ ps ≠ [] := spl_any (s := 59) (S := [32]) (by decide +kernel) (by decide +kernel) hl
/-- the words behind the first, read -/
theorem wordsX : ∀ (ws : List Txt), (∀ p ∈ ws, p.x.length ≤ 10000) → lcTX (fun (x : Txt) => f_Xq_read_number x) (fun (x : Txt) => f_read_number x) ws = if (ws.map fun p => TL.tl p.x).all numW = true then none else some (txM "NoText")
  | [], _ => rfl
  | w :: ws, h => by
    have ih := wordsX ws fun p hp => h p (List.mem_cons_of_mem _ hp)
    rw [lcTX, Xnum (h w (List.mem_cons_self ..)), List.map_cons, List.all_cons]
    cases hn : numW (TL.tl w.x) with
    | false => rfl
    | true =>
      obtain ⟨i, hi⟩ := num_ok hn
      rw [Bool.true_and, ← ih]
      show ((f_read_number w).bind fun _ => lcTX _ _ ws) = _
      rw [hi]; rfl
theorem words_ok : ∀ (ws : List Txt), (ws.map fun p => TL.tl p.x).all numW = true → ∃ m : List Int, lcT (fun (_ : Txt) => some true) (fun (x : Txt) => f_read_number x) ws = some m ∧ m.length = ws.length
  | [], _ => ⟨[], rfl, rfl⟩
  | w :: ws, h => by
    rw [List.map_cons, List.all_cons, Bool.and_eq_true] at h
    obtain ⟨m, h1, h2⟩ := words_ok ws h.2
    obtain ⟨i, hi⟩ := num_ok h.1
    refine ⟨i :: m, ?_, by rw [List.length_cons, List.length_cons, h2]⟩
    rw [lcT]
    show ((f_read_number w).bind fun y => (lcT (fun (_ : Txt) => some true) (fun (x : Txt) => f_read_number x) ws).bind fun l => some (y :: l)) = _
    rw [hi, h1]; rfl
theorem szG_big {α : Type} [En α] {l : List α} (h : l.length ≤ 20000) : szG l = some l := if_pos (by show l.length ≤ 2 ^ 24; omega)
theorem tup5_of {l : List Int} (h : l.length = 5) : ∃ z, tup5? l = some z := by
  match l, h with
  | [a, b, c, d, e], _ => exact ⟨_, rfl⟩
theorem tup2_of {l : List Int} (h : l.length = 2) : ∃ z, tup2? l = some z := by
  match l, h with
  | [a, b], _ => exact ⟨_, rfl⟩
theorem rope_call {p : List Nat} (h : ropeW p = true) : callW p = false := by
  unfold ropeW at h
  unfold callW
  split at h
  · rename_i w ws e
    simp only [Bool.and_eq_true, decide_eq_true_eq] at h
    rw [h.2.1]
    have : decide (sRope = sCaller) = false := by decide
    simp [this]
  · cases h
/-! ### plain: a town's text is refused just where its signs tell so -/
theorem appG_big {α : Type} {l : List α} {x : α} (h : l.length ≤ 20000) : appG l x = some (l ++ [x]) := if_pos (by show l.length < 2 ^ 24; omega)
theorem cut1 {α : Type} (l : List α) : cutG l (some (1 : Int)) none = l.drop 1 := cutG_fr l 1
theorem txt_is {w u : Txt} {L : List Nat} (h : TL.tl u.x = L) : decide (w = u) = decide (TL.tl w.x = L) := by
  apply decide_eq_decide.mpr
  exact ⟨fun e => by rw [e, h], fun e => txt_ext (by rw [e, h])⟩
theorem is_rope (w : Txt) : decide (w = txM "rope") = decide (TL.tl w.x = sRope) := txt_is (by decide +kernel)
theorem is_caller (w : Txt) : decide (w = txM "caller") = decide (TL.tl w.x = sCaller) := txt_is (by decide +kernel)
theorem is_names (w : Txt) : decide (w = txM "names") = decide (TL.tl w.x = sNames) := txt_is (by decide +kernel)
abbrev RC := List (Tp5 Int Int Int Int Int) × List (Tp2 Int Int)
theorem town_loop {step : Txt → RC → Option (Ct Txt RC)} (hs : ∀ (p : Txt) (s : RC), p.x.length ≤ 10000 → s.1.length ≤ 15000 → s.2.length ≤ 15000 →
      (ropeW (TL.tl p.x) = true ∧ s.2 = [] ∧ ∃ R', step p s = some (.nx (R', s.2)) ∧ R'.length = s.1.length + 1) ∨
      (callW (TL.tl p.x) = true ∧ ∃ C', step p s = some (.nx (s.1, C')) ∧ C'.length = s.2.length + 1) ∨
      ((ropeW (TL.tl p.x) = false ∨ s.2 ≠ []) ∧ callW (TL.tl p.x) = false ∧ step p s = some (.rt (txM "NoText")))) :
    ∀ (ps : List Txt) (s : RC), (∀ p ∈ ps, p.x.length ≤ 10000) → s.1.length + ps.length ≤ 15000 → s.2.length + ps.length ≤ 15000 →
      (bodyW (decide (s.2 ≠ [])) (ps.map fun p => TL.tl p.x) = true ∧ ∃ s', forT step ps s = some (.nx s')) ∨
      (bodyW (decide (s.2 ≠ [])) (ps.map fun p => TL.tl p.x) = false ∧ forT step ps s = some (.rt (txM "NoText")))
  | [], s, _, _, _ => .inl ⟨rfl, s, rfl⟩
  | p :: ps, s, hp, h1, h2 => by
    rw [List.length_cons] at h1 h2
    rcases hs p s (hp p (List.mem_cons_self ..)) (by omega) (by omega) with ⟨a1, a2, R', e, a3⟩ | ⟨a1, C', e, a3⟩ | ⟨a1, a2, e⟩
    · have a4 := rope_call a1
      rw [forT, e, List.map_cons, bodyW, a1, a4, a2]
      rcases town_loop hs ps (R', s.2) (fun q hq => hp q (List.mem_cons_of_mem _ hq)) (by show R'.length + ps.length ≤ 15000; omega) (by show s.2.length + ps.length ≤ 15000; omega) with ⟨b1, s', b2⟩ | ⟨b1, b2⟩
      · simp only [a2] at b1 b2
        refine .inl ⟨by simpa using b1, s', b2⟩
      · simp only [a2] at b1 b2
        refine .inr ⟨by simpa using b1, b2⟩
    · have a4 : ropeW (TL.tl p.x) = false := by
        cases h : ropeW (TL.tl p.x) with
        | false => rfl
        | true => rw [rope_call h] at a1; cases a1
      rw [forT, e, List.map_cons, bodyW, a1, a4]
      have hC : decide (C' ≠ []) = true := decide_eq_true (by rintro rfl; cases a3)
      rcases town_loop hs ps (s.1, C') (fun q hq => hp q (List.mem_cons_of_mem _ hq)) (by show s.1.length + ps.length ≤ 15000; omega) (by show C'.length + ps.length ≤ 15000; omega) with ⟨b1, s', b2⟩ | ⟨b1, b2⟩
      · simp only [hC] at b1
        refine .inl ⟨by simpa using b1, s', b2⟩
      · simp only [hC] at b1
        refine .inr ⟨by simpa using b1, b2⟩
    · rw [forT, e, List.map_cons, bodyW, a2]
      refine .inr ⟨?_, rfl⟩
      rcases a1 with a1 | a1
      · rw [a1]; rfl
      · rw [decide_eq_true a1]; simp
theorem town_X {step : Txt → RC → Option (Ct Txt RC)} {ps : List Txt} (hp : ∀ p ∈ ps, p.x.length ≤ 10000) (hl : ps.length ≤ 10001) (hs : ∀ (p : Txt) (s : RC), p.x.length ≤ 10000 → s.1.length ≤ 15000 → s.2.length ≤ 15000 →
      (ropeW (TL.tl p.x) = true ∧ s.2 = [] ∧ ∃ R', step p s = some (.nx (R', s.2)) ∧ R'.length = s.1.length + 1) ∨
      (callW (TL.tl p.x) = true ∧ ∃ C', step p s = some (.nx (s.1, C')) ∧ C'.length = s.2.length + 1) ∨
      ((ropeW (TL.tl p.x) = false ∨ s.2 ≠ []) ∧ callW (TL.tl p.x) = false ∧ step p s = some (.rt (txM "NoText")))) :
    ((forT step ps (([], []) : RC)).bind fun c => c.go (fun _ => none) (fun r => some r)) = if bodyW false (ps.map fun p => TL.tl p.x) = true then none else some (txM "NoText") := by
  rcases town_loop hs ps ([], []) hp (by show 0 + ps.length ≤ 15000; omega) (by show 0 + ps.length ≤ 15000; omega) with ⟨b1, s', b2⟩ | ⟨b1, b2⟩
  · have b1 : bodyW false (ps.map fun p => TL.tl p.x) = true := b1
    rw [b1, b2]; rfl
  · have b1 : bodyW false (ps.map fun p => TL.tl p.x) = false := b1
    rw [b1, b2]; rfl
theorem rope_of {l : List Nat} {w : List Nat} {ws : List (List Nat)} (e : wsOf l = w :: ws) : ropeW l = (ws.all numW && (decide (w = sRope) && decide (ws.length = 5))) := by unfold ropeW; rw [e]
theorem call_of {l : List Nat} {w : List Nat} {ws : List (List Nat)} (e : wsOf l = w :: ws) : callW l = (ws.all numW && (decide (w = sCaller) && decide (ws.length = 2))) := by unfold callW; rw [e]
theorem head_of {l : List Nat} {w : List Nat} {ws : List (List Nat)} (e : wsOf l = w :: ws) : headW l = (decide (w = sNames) && (decide (ws.length ≠ 0) && ws.all numW)) := by unfold headW; rw [e]
theorem int_len {α : Type} (l : List α) (k : Nat) : decide ((l.length : Int) = (k : Int)) = decide (l.length = k) := decide_eq_decide.mpr Int.ofNat_inj
theorem Xtown {t : Txt} (hl : t.x.length ≤ 10000) : f_Xq_read_town t = if townW (TL.tl t.x) = true then none else some (txM "NoText") := by
  obtain ⟨told, t1, t2, t3, t4, t5⟩ := spl_se hl
  obtain ⟨h, ps, rfl⟩ : ∃ h ps, told = h :: ps := by
    cases told with
    | nil => exact absurd rfl t5
    | cons h ps => exact ⟨h, ps, rfl⟩
  obtain ⟨words, w1, w2, w3, w4, w5⟩ := spl_sp (t := h) (t3 h (List.mem_cons_self ..))
  obtain ⟨w, ws, rfl⟩ : ∃ w ws, words = w :: ws := by
    cases words with
    | nil => exact absurd rfl w5
    | cons h ps => exact ⟨h, ps, rfl⟩
  have hT : townW (TL.tl t.x) = (headW (TL.tl h.x) && bodyW false (ps.map fun p => TL.tl p.x)) := by
    unfold townW
    rw [← t2]; rfl
  have hH := head_of w2.symm
  rw [List.length_map] at hH
  rw [List.length_cons] at t4 w4
  unfold f_Xq_read_town
  simp only [t1, Option.bind_some, atI0, w1, is_names, cut1, List.drop_succ_cons, List.drop_zero]
  have e1 : decide ((((w :: ws).length : Nat) : Int) = (1 : Int)) = decide (ws.length = 0) := by
    apply decide_eq_decide.mpr
    rw [List.length_cons]; omega
  rw [e1, hT, hH]
  by_cases hw : TL.tl w.x = sNames
  · by_cases h0 : ws.length = 0
    · rw [decide_eq_true hw, decide_eq_true h0]
      simp [h0]
    · rw [decide_eq_true hw, decide_eq_false h0]
      simp only [Bool.not_true, Bool.or_false, Bool.false_eq_true, if_false, Bool.true_and, decide_eq_true (show ws.length ≠ 0 from h0)]
      rw [szG_big (by omega)]
      simp only [Option.bind_some]
      rw [wordsX ws fun p hp => w3 p (List.mem_cons_of_mem _ hp)]
      cases ha : (ws.map fun p => TL.tl p.x).all numW with
      | false => simp
      | true =>
        obtain ⟨m, m1, m2⟩ := words_ok ws ha
        simp only [if_true, Option.elim_none, Bool.true_and]
        rw [m1]
        simp only [Option.bind_some]
        rw [szG_big (by omega)]
        simp only [Option.bind_some]
        refine town_X (fun p hp => t3 p (List.mem_cons_of_mem _ hp)) (by omega) fun p s hp h1 h2 => ?_
        obtain ⟨words2, v1, v2, v3, v4, v5⟩ := spl_sp hp
        obtain ⟨v, vs, rfl⟩ : ∃ v vs, words2 = v :: vs := by
          cases words2 with
          | nil => exact absurd rfl v5
          | cons h ps => exact ⟨h, ps, rfl⟩
        have hR := rope_of v2.symm
        have hC := call_of v2.symm
        rw [List.length_map] at hR hC
        rw [List.length_cons] at v4
        simp only [v1, Option.bind_some, atI0, cut1, List.drop_succ_cons, List.drop_zero, is_rope, is_caller]
        rw [szG_big (by omega)]
        simp only [Option.bind_some]
        rw [wordsX vs fun p hp => v3 p (List.mem_cons_of_mem _ hp)]
        cases hv : (vs.map fun p => TL.tl p.x).all numW with
        | false =>
          rw [hv, Bool.false_and] at hR hC
          exact .inr (.inr ⟨.inl hR, hC, rfl⟩)
        | true =>
          rw [hv, Bool.true_and] at hR hC
          obtain ⟨n, n1, n2⟩ := words_ok vs hv
          simp only [if_true, Option.elim_none]
          rw [n1]
          simp only [Option.bind_some]
          rw [szG_big (by omega)]
          simp only [Option.bind_some]
          rw [show decide ((n.length : Int) = (5 : Int)) = decide (vs.length = 5) by rw [← n2]; exact int_len n 5, show decide ((n.length : Int) = (2 : Int)) = decide (vs.length = 2) by rw [← n2]; exact int_len n 2]
          by_cases r1 : (decide (TL.tl v.x = sRope) && (decide (vs.length = 5) && decide (s.2 = []))) = true
          · rw [if_pos r1]
            simp only [Bool.and_eq_true, decide_eq_true_eq] at r1
            obtain ⟨z, hz⟩ := tup5_of (l := n) (by rw [n2]; exact r1.2.1)
            rw [hz]
            simp only [Option.bind_some]
            rw [appG_big (by omega)]
            refine .inl ⟨by rw [hR, decide_eq_true r1.1, decide_eq_true r1.2.1]; rfl, r1.2.2, _, rfl, by rw [List.length_append]; rfl⟩
          · rw [if_neg r1]
            by_cases r2 : (decide (TL.tl v.x = sCaller) && decide (vs.length = 2)) = true
            · rw [if_pos r2]
              rw [r2] at hC
              simp only [Bool.and_eq_true, decide_eq_true_eq] at r2
              obtain ⟨z, hz⟩ := tup2_of (l := n) (by rw [n2]; exact r2.2)
              rw [hz]
              simp only [Option.bind_some]
              rw [appG_big (by omega)]
              refine .inr (.inl ⟨hC, _, rfl, by rw [List.length_append]; rfl⟩)
            · rw [if_neg r2]
              rw [Bool.not_eq_true] at r2
              rw [r2] at hC
              refine .inr (.inr ⟨?_, hC, rfl⟩)
              by_cases hC0 : s.2 = []
              · rw [decide_eq_true hC0, Bool.and_true, Bool.not_eq_true] at r1
                rw [r1] at hR
                exact .inl hR
              · exact .inr hC0
  · rw [decide_eq_false hw]
    simp
/-! ### plain: spoiled texts, sign by sign -/
abbrev sepS : List Nat := [59, 32]
abbrev badC (p : List Nat) : Bool := !ropeW p && !callW p
theorem pre2 (a b : Nat) (r : List Nat) : TL.pre sepS (a :: b :: r) = (decide (a = 59) && decide (b = 32)) := by
  show ((a :: b :: r).take 2 == [59, 32]) = _
  rw [List.take_succ_cons, List.take_succ_cons, List.take_zero]
  rw [Bool.eq_iff_iff, beq_iff_eq, Bool.and_eq_true, decide_eq_true_eq, decide_eq_true_eq]
  simp
theorem pre1 (a : Nat) : TL.pre sepS [a] = false := by
  show ([a].take 2 == [59, 32]) = false
  rw [beq_eq_false_iff_ne]
  simp
theorem spl_sep : ∀ (M acc r : List Nat), TL.spl sepS 0 acc (M ++ 59 :: 32 :: r) = TL.spl sepS 0 acc M ++ TL.spl sepS 0 [] r
  | [], acc, r => by
    rw [List.nil_append, TL.spl_hit (by rw [pre2]; rfl), TL.spl_nil]
    rfl
  | [c], acc, r => by
    have h1 : TL.pre sepS (c :: 59 :: 32 :: r) = false := by
      rw [pre2]; simp
    show TL.spl sepS 0 acc (c :: (59 :: 32 :: r)) = _
    rw [TL.spl_miss h1, TL.spl_miss (pre1 c)]
    exact spl_sep [] (acc ++ [c]) r
  | c :: d :: M, acc, r => by
    cases h : TL.pre sepS (c :: d :: M) with
    | true =>
      have h1 : TL.pre sepS (c :: (d :: M ++ 59 :: 32 :: r)) = true := by
        show TL.pre sepS (c :: d :: (M ++ 59 :: 32 :: r)) = true
        rw [pre2] at h ⊢; exact h
      show TL.spl sepS 0 acc (c :: (d :: M ++ 59 :: 32 :: r)) = _
      rw [TL.spl_hit h1, TL.spl_hit h]
      show acc :: TL.spl sepS 0 [] (M ++ 59 :: 32 :: r) = acc :: TL.spl sepS 0 [] M ++ _
      rw [spl_sep M [] r]; rfl
    | false =>
      have h1 : TL.pre sepS (c :: (d :: M ++ 59 :: 32 :: r)) = false := by
        show TL.pre sepS (c :: d :: (M ++ 59 :: 32 :: r)) = false
        rw [pre2] at h ⊢; exact h
      show TL.spl sepS 0 acc (c :: (d :: M ++ 59 :: 32 :: r)) = _
      rw [TL.spl_miss h1, TL.spl_miss h]
      exact spl_sep (d :: M) (acc ++ [c]) r
theorem join_cons (p : List Nat) {ps : List (List Nat)} (h : ps ≠ []) : TL.joinL sepS (p :: ps) = p ++ 59 :: 32 :: TL.joinL sepS ps := by
  cases ps with
  | nil => exact absurd rfl h
  | cons q r => rfl
theorem spl_joined : ∀ (A : List (List Nat)) (M : List Nat) (B : List (List Nat)), (∀ p ∈ A, 59 ∉ p) → (∀ p ∈ B, 59 ∉ p) → psOf (TL.joinL sepS (A ++ M :: B)) = A ++ psOf M ++ B
  | [], M, [], _, _ => by
    show TL.spl sepS 0 [] M = [] ++ _ ++ []
    rw [List.append_nil]; rfl
  | [], M, q :: B, _, hB => by
    rw [List.nil_append, join_cons M (List.cons_ne_nil q B)]
    show TL.spl sepS 0 [] (M ++ 59 :: 32 :: _) = _
    rw [spl_sep, TL.spl_join (List.cons_ne_nil q B) hB]
    rfl
  | p :: A, M, B, hA, hB => by
    have ih := spl_joined A M B (fun q hq => hA q (List.mem_cons_of_mem _ hq)) hB
    rw [List.cons_append, join_cons p (by simp)]
    show TL.spl sepS 0 [] (p ++ 59 :: 32 :: _) = _
    rw [spl_sep, TL.spl_last1 (hA p (List.mem_cons_self ..))]
    show [[] ++ p] ++ psOf _ = _
    rw [ih, List.nil_append]; rfl
theorem body_all : ∀ (cs : Bool) (l : List (List Nat)), bodyW cs l = true → ∀ p ∈ l, badC p = false
  | cs, q :: l, h, p, hp => by
    rw [bodyW, Bool.or_eq_true, Bool.and_eq_true, Bool.and_eq_true, Bool.and_eq_true] at h
    rcases List.mem_cons.mp hp with rfl | hp
    · rcases h with h | h
      · show (!ropeW p && !callW p) = false; rw [h.1]; rfl
      · show (!ropeW p && !callW p) = false; rw [h.1]; simp
    · rcases h with h | h
      · exact body_all _ l h.2.2 p hp
      · exact body_all _ l h.2 p hp
theorem body_end : ∀ (A : List (List Nat)) (cs : Bool) (r : List (List Nat)), bodyW cs (A ++ r) = true → ∃ cs', bodyW cs' r = true
  | [], cs, r, h => ⟨cs, h⟩
  | q :: A, cs, r, h => by
    rw [List.cons_append, bodyW, Bool.or_eq_true, Bool.and_eq_true, Bool.and_eq_true, Bool.and_eq_true] at h
    rcases h with h | h
    · exact body_end A _ r h.2.2
    · exact body_end A _ r h.2
/-- a part that is none, behind the names -/
theorem town_part {h : List Nat} {A B : List (List Nat)} {M : List Nat} (hh : 59 ∉ h) (hA : ∀ p ∈ A, 59 ∉ p) (hB : ∀ p ∈ B, 59 ∉ p) (hM : (psOf M).any badC = true) : townW (TL.joinL sepS (h :: A ++ M :: B)) = false := by
  have e := spl_joined (h :: A) M B (by
    intro p hp
    rcases List.mem_cons.mp hp with rfl | hp
    · exact hh
    · exact hA p hp) hB
  unfold townW
  rw [e]
  show (headW h && bodyW false (A ++ psOf M ++ B)) = false
  cases hb : bodyW false (A ++ psOf M ++ B) with
  | false => rw [Bool.and_false]
  | true =>
    obtain ⟨p, hp, hp2⟩ := List.any_eq_true.mp hM
    have := body_all _ _ hb p (List.mem_append_left _ (List.mem_append_right _ hp))
    rw [hp2] at this; cases this
def badH (M : List Nat) : Bool := match psOf M with
  | h :: r => !headW h || r.any badC
  | [] => true
/-- names told otherwise -/
theorem town_head {B : List (List Nat)} {M : List Nat} (hB : ∀ p ∈ B, 59 ∉ p) (hM : badH M = true) : townW (TL.joinL sepS (M :: B)) = false := by
  have e := spl_joined [] M B (fun _ h => nomatch h) hB
  unfold townW
  rw [show TL.joinL sepS (M :: B) = TL.joinL sepS ([] ++ M :: B) from rfl, e, List.nil_append]
  unfold badH at hM
  cases hp : psOf M with
  | nil => exact absurd hp (spl_ne _ _ _ _)
  | cons h r =>
    rw [hp] at hM
    show (headW h && bodyW false (r ++ B)) = false
    rcases Bool.or_eq_true _ _ ▸ hM with hM | hM
    · rw [Bool.not_eq_true'] at hM; rw [hM]; rfl
    · cases hb : bodyW false (r ++ B) with
      | false => rw [Bool.and_false]
      | true =>
        obtain ⟨p, hp, hp2⟩ := List.any_eq_true.mp hM
        have := body_all _ _ hb p (List.mem_append_left _ hp)
        rw [hp2] at this; cases this
/-- a rope behind a caller -/
theorem town_order {h c r : List Nat} {A : List (List Nat)} (hh : 59 ∉ h) (hA : ∀ p ∈ A, 59 ∉ p) (hc : 59 ∉ c) (hr : 59 ∉ r) (hcr : ∀ cs, bodyW cs [c, r] = false) : townW (TL.joinL sepS (h :: A ++ [c, r])) = false := by
  have e := spl_joined (h :: A) c [r] (by
    intro p hp
    rcases List.mem_cons.mp hp with rfl | hp
    · exact hh
    · exact hA p hp) (by intro p hp; rw [List.mem_singleton.mp hp]; exact hr)
  unfold townW
  rw [e, show psOf c = [c] by show TL.spl sepS 0 [] c = _; rw [TL.spl_last1 hc]; rfl]
  show (headW h && bodyW false (A ++ [c] ++ [r])) = false
  cases hb : bodyW false (A ++ [c] ++ [r]) with
  | false => rw [Bool.and_false]
  | true =>
    rw [List.append_assoc] at hb
    obtain ⟨cs, h2⟩ := body_end _ _ _ hb
    rw [show ([c] ++ [r] : List (List Nat)) = [c, r] from rfl, hcr] at h2; cases h2
/-! a sign that no text has -/
theorem spl_mem (S : List Nat) (hS : S ≠ []) {c : Nat} (hc : c ∉ S) : ∀ (l acc : List Nat) (k : Nat), c ∈ acc ∨ c ∈ l.drop k → ∃ p ∈ TL.spl S k acc l, c ∈ p
  | [], acc, k, h => by
    rw [TL.spl_nil]
    refine ⟨acc, List.mem_singleton.mpr rfl, ?_⟩
    rcases h with h | h
    · exact h
    · rw [List.drop_nil] at h; cases h
  | d :: r, acc, 0, h => by
    rw [List.drop_zero] at h
    cases hp : TL.pre S (d :: r) with
    | true =>
      rw [TL.spl_hit hp]
      rcases h with h | h
      · exact ⟨acc, List.mem_cons_self .., h⟩
      · have e : (d :: r).take S.length = S := eq_of_beq hp
        have h2 : c ∈ (d :: r).drop S.length := by
          have h3 : c ∈ (d :: r).take S.length ++ (d :: r).drop S.length := by rw [List.take_append_drop]; exact h
          rcases List.mem_append.mp h3 with h3 | h3
          · rw [e] at h3; exact absurd h3 hc
          · exact h3
        have h4 : c ∈ r.drop (S.length - 1) := by
          cases S with
          | nil => exact absurd rfl hS
          | cons s S => exact h2
        obtain ⟨p, h5, h6⟩ := spl_mem S hS hc r [] (S.length - 1) (.inr h4)
        exact ⟨p, List.mem_cons_of_mem _ h5, h6⟩
    | false =>
      rw [TL.spl_miss hp]
      refine spl_mem S hS hc r (acc ++ [d]) 0 ?_
      rw [List.drop_zero]
      rcases h with h | h
      · exact .inl (List.mem_append_left _ h)
      · rcases List.mem_cons.mp h with rfl | h
        · exact .inl (List.mem_append_right _ (List.mem_singleton.mpr rfl))
        · exact .inr h
  | d :: r, acc, k + 1, h => spl_mem S hS hc r acc k h
/-! ### plain: signs, blanks, good parts -/
def legal (c : Nat) : Bool := digN c || (decide (c ∈ sNames) || (decide (c ∈ sRope) || decide (c ∈ sCaller)))
theorem numW_dig {w : List Nat} (h : numW w = true) : ∀ c ∈ w, digN c = true := by
  unfold numW at h
  simp only [Bool.and_eq_true] at h
  exact fun c hc => List.all_eq_true.mp h.1.2 c hc
theorem part_legal {p : List Nat} (h : ropeW p = true ∨ callW p = true ∨ headW p = true) : ∀ c ∈ p, c = 32 ∨ legal c = true := by
  intro c hc
  by_cases h32 : c = 32
  · exact .inl h32
  refine .inr ?_
  obtain ⟨w, hw, hcw⟩ := spl_mem [32] (by simp) (c := c) (by simpa using h32) p [] 0 (.inr (by rw [List.drop_zero]; exact hc))
  cases e : wsOf p with
  | nil => exact absurd e (spl_ne _ _ _ _)
  | cons w0 ws =>
    have hw : w ∈ wsOf p := hw
    rw [e] at hw
    have key : ws.all numW = true ∧ (w0 = sRope ∨ w0 = sCaller ∨ w0 = sNames) := by
      rcases h with h | h | h
      · rw [rope_of e] at h
        simp only [Bool.and_eq_true, decide_eq_true_eq] at h
        exact ⟨h.1, .inl h.2.1⟩
      · rw [call_of e] at h
        simp only [Bool.and_eq_true, decide_eq_true_eq] at h
        exact ⟨h.1, .inr (.inl h.2.1)⟩
      · rw [head_of e] at h
        simp only [Bool.and_eq_true, decide_eq_true_eq] at h
        exact ⟨h.2.2, .inr (.inr h.1)⟩
    unfold legal
    simp only [Bool.or_eq_true, decide_eq_true_eq]
    rcases List.mem_cons.mp hw with rfl | hw
    · rcases key.2 with k | k | k
      · rw [k] at hcw; exact .inr (.inr (.inl hcw))
      · rw [k] at hcw; exact .inr (.inr (.inr hcw))
      · rw [k] at hcw; exact .inr (.inl hcw)
    · exact .inl (numW_dig (List.all_eq_true.mp key.1 w hw) c hcw)
theorem town_legal {l : List Nat} (h : townW l = true) : ∀ c ∈ l, c = 59 ∨ c = 32 ∨ legal c = true := by
  intro c hc
  by_cases h59 : c = 59
  · exact .inl h59
  by_cases h32 : c = 32
  · exact .inr (.inl h32)
  obtain ⟨p, hp, hcp⟩ := spl_mem [59, 32] (by simp) (c := c) (by simp [h59, h32]) l [] 0 (.inr (by rw [List.drop_zero]; exact hc))
  have hp : p ∈ psOf l := hp
  unfold townW at h
  cases e : psOf l with
  | nil => exact absurd e (spl_ne _ _ _ _)
  | cons q qs =>
    rw [e] at h hp
    have h : (headW q && bodyW false qs) = true := h
    rw [Bool.and_eq_true] at h
    refine .inr ?_
    rcases List.mem_cons.mp hp with rfl | hp
    · exact part_legal (.inr (.inr h.1)) c hcp
    · have hb : (!ropeW p && !callW p) = false := body_all _ _ h.2 p hp
      refine part_legal ?_ c hcp
      cases hr : ropeW p with
      | true => exact .inl rfl
      | false =>
        rw [hr] at hb
        refine .inr (.inl ?_)
        cases hcl : callW p with
        | true => rfl
        | false => rw [hcl] at hb; cases hb
theorem town_sign {l : List Nat} {c : Nat} (hc : c ∈ l) (h1 : c ≠ 59) (h2 : c ≠ 32) (h3 : legal c = false) : townW l = false := by
  cases h : townW l with
  | false => rfl
  | true =>
    rcases town_legal h c hc with k | k | k
    · exact absurd k h1
    · exact absurd k h2
    · rw [h3] at k; cases k
/-! a blank put in -/
def insB (k : Nat) (l : List Nat) : List Nat := l.take k ++ 32 :: l.drop k
theorem insB_app {k : Nat} {l r : List Nat} (h : k ≤ l.length) : insB k (l ++ r) = insB k l ++ r := by
  unfold insB
  rw [List.take_append_of_le_length h, List.drop_append_of_le_length h, List.append_assoc]; rfl
theorem insB_skip {l r : List Nat} (k : Nat) : insB (l.length + k) (l ++ r) = l ++ insB k r := by
  unfold insB
  rw [List.take_append, List.drop_append]
  have e1 : l.length + k - l.length = k := by omega
  rw [e1, List.take_of_length_le (by omega), List.drop_of_length_le (by omega), List.nil_append, List.append_assoc]
theorem wins : ∀ (ps : List (List Nat)) (k : Nat), ps ≠ [] → k ≤ (TL.joinL sepS ps).length → ∃ A p B j, ps = A ++ p :: B ∧ j ≤ p.length ∧ insB k (TL.joinL sepS ps) = TL.joinL sepS (A ++ insB j p :: B)
  | [], _, h, _ => absurd rfl h
  | [p], k, _, hk => ⟨[], p, [], k, rfl, hk, rfl⟩
  | p :: q :: r, k, _, hk => by
    rw [join_cons p (List.cons_ne_nil q r)] at hk ⊢
    by_cases h1 : k ≤ p.length
    · refine ⟨[], p, q :: r, k, rfl, h1, ?_⟩
      rw [insB_app h1, List.nil_append, join_cons _ (List.cons_ne_nil q r)]
    · by_cases h2 : k = p.length + 1
      · refine ⟨[p], q, r, 0, rfl, Nat.zero_le _, ?_⟩
        rw [h2, insB_skip]
        show p ++ (59 :: 32 :: 32 :: TL.joinL sepS (q :: r)) = TL.joinL sepS (p :: (32 :: q) :: r)
        rw [join_cons p (List.cons_ne_nil _ _)]
        congr 3
        cases r <;> rfl
      · obtain ⟨k', rfl⟩ : ∃ k', k = p.length + (k' + 2) := ⟨k - p.length - 2, by omega⟩
        have hk' : k' ≤ (TL.joinL sepS (q :: r)).length := by
          simp only [List.length_append, List.length_cons] at hk
          omega
        obtain ⟨A, p2, B, j, e1, e2, e3⟩ := wins (q :: r) k' (List.cons_ne_nil _ _) hk'
        refine ⟨p :: A, p2, B, j, by rw [e1]; rfl, e2, ?_⟩
        rw [insB_skip, List.cons_append, join_cons p (by simp), ← e3]
        rfl
theorem town_blank {h : List Nat} {body : List (List Nat)} (hh : 59 ∉ h) (hb : ∀ p ∈ body, 59 ∉ p) (c1 : ∀ j, j ≤ h.length → badH (insB j h) = true) (c2 : ∀ p ∈ body, ∀ j, j ≤ p.length → (psOf (insB j p)).any badC = true) {k : Nat} (hk : k ≤ (TL.joinL sepS (h :: body)).length) : townW (insB k (TL.joinL sepS (h :: body))) = false := by
  obtain ⟨A, p, B, j, e1, e2, e3⟩ := wins (h :: body) k (List.cons_ne_nil _ _) hk
  rw [e3]
  cases A with
  | nil =>
    rw [List.nil_append] at e1 ⊢
    injection e1 with e4 e5
    subst e4; subst e5
    exact town_head hb (c1 j e2)
  | cons a A =>
    rw [List.cons_append] at e1
    injection e1 with e4 e5
    subst e4; subst e5
    exact town_part hh (fun q hq => hb q (List.mem_append_left _ hq)) (fun q hq => hb q (List.mem_append_right _ (List.mem_cons_of_mem _ hq))) (c2 p (List.mem_append_right _ (List.mem_cons_self ..)) j e2)
/-! the good parts -/
def hN : List Nat := [110, 97, 109, 101, 115, 32, 53, 32, 48, 32, 55]
def ropeL (i : Nat) : List Nat := [114, 111, 112, 101, 32, 48, 32, 49, 32, 48 + i, 32, 50, 32, 55]
def callL (j : Nat) : List Nat := [99, 97, 108, 108, 101, 114, 32, 48 + j, 32, 48]
def Gd (q : List Nat) : Prop := (∃ i, i < 7 ∧ q = ropeL i) ∨ (∃ j, j < 7 ∧ q = callL j)
theorem Gd.all {q : List Nat} (h : Gd q) (P : List Nat → Bool) (h1 : ∀ i : Fin 7, P (ropeL i.val) = true) (h2 : ∀ i : Fin 7, P (callL i.val) = true) : P q = true := by
  rcases h with ⟨i, hi, rfl⟩ | ⟨i, hi, rfl⟩
  · exact h1 ⟨i, hi⟩
  · exact h2 ⟨i, hi⟩
theorem Gd.free {q : List Nat} (h : Gd q) : 59 ∉ q := by
  have := h.all (fun q => decide (59 ∉ q)) (by decide +kernel) (by decide +kernel)
  simpa using this
theorem Gd.len {q : List Nat} (h : Gd q) : q.length ≤ 14 := by
  have := h.all (fun q => decide (q.length ≤ 14)) (by decide +kernel) (by decide +kernel)
  simpa using this
theorem Gd.ok {q : List Nat} (h : Gd q) : badC q = false := by
  have := h.all (fun q => !badC q) (by decide +kernel) (by decide +kernel)
  rwa [Bool.not_eq_true'] at this
theorem Gd.blank {q : List Nat} (h : Gd q) {j : Nat} (hj : j ≤ q.length) : (psOf (insB j q)).any badC = true := by
  have := h.all (fun q => (List.range 15).all fun j => (psOf (insB j q)).any badC) (by decide +kernel) (by decide +kernel)
  have h2 := h.len
  exact List.all_eq_true.mp this j (List.mem_range.mpr (by omega))
theorem hN_free : 59 ∉ hN := by decide
theorem hN_blank {j : Nat} (hj : j ≤ hN.length) : badH (insB j hN) = true := by
  have : (List.range 12).all (fun j => badH (insB j hN)) = true := by decide +kernel
  exact List.all_eq_true.mp this j (List.mem_range.mpr (by have : hN.length = 11 := rfl; omega))
/-! ### plain: the law's own texts -/
theorem catT_of {u v : Txt} (h1 : u.x.length ≤ 10000) (h2 : v.x.length ≤ 10000) : Ok (catT u v) fun t => TL.tl t.x = TL.tl u.x ++ TL.tl v.x ∧ t.x.length = u.x.length + v.x.length := by
  have e : TL.tl (u.x ++ v.x) = TL.tl u.x ++ TL.tl v.x := TL.tl_append _ _
  refine ⟨⟨u.x ++ v.x, strOk_app u.ok v.ok⟩, ?_, e, ?_⟩
  · unfold catT
    rw [if_pos (by show _ ≤ 2 ^ 24; omega), okT_ok (strOk_app u.ok v.ok)]
  · show (u.x ++ v.x).length = _
    rw [TL.len_tl, e, List.length_append, TL.len_tl u.x, TL.len_tl v.x]
theorem mulT_of {u : Txt} {n : Int} (h : 2 ≤ n ∧ n ≤ 1000 ∧ 1 ≤ u.x.length ∧ u.x.length ≤ 1000 ∧ (repS u.x n).length ≤ sizeLine ∧ PyData.strOk (repS u.x n) = true) : Ok (mulT u n) fun t => t.x = repS u.x n := by
  unfold mulT
  rw [if_pos h, okT_ok h.2.2.2.2.2]
  exact ⟨_, rfl, rfl⟩
theorem cut_to {u : Txt} {k : Nat} (hl : u.x.length ≤ 10000) : Ok (slcT u none (some (k : Int))) fun t => TL.tl t.x = (TL.tl u.x).take k := by
  have e : TL.tl (cutS u.x none (some (k : Int))) = (TL.tl u.x).take k := by
    rw [C8.cutS_slice]
    have := SX.slice_to (a := TL.tl u.x) (i := (k : Int)) (by omega)
    rw [show SX.S (TL.tl u.x) = u.x from TL.mk_tl u.x] at this
    rw [this]; rfl
  obtain ⟨t, h1, h2⟩ := okT_of (x := cutS u.x none (some (k : Int))) (by
    rw [e]; exact fun c hc => txt_cp u c (List.mem_of_mem_take hc))
  refine ⟨t, ?_, by show TL.tl t.x = _; rw [h2, e]⟩
  unfold slcT
  rw [if_pos (by show _ ≤ 2 ^ 24; omega), h1]
theorem cut_from {u : Txt} {k : Nat} (hl : u.x.length ≤ 10000) : Ok (slcT u (some (k : Int)) none) fun t => TL.tl t.x = (TL.tl u.x).drop k := by
  have e : TL.tl (cutS u.x (some (k : Int)) none) = (TL.tl u.x).drop k := by
    rw [C8.cutS_slice]
    have := SX.slice_from (a := TL.tl u.x) (i := (k : Int)) (by omega)
    rw [show SX.S (TL.tl u.x) = u.x from TL.mk_tl u.x] at this
    rw [this]; rfl
  obtain ⟨t, h1, h2⟩ := okT_of (x := cutS u.x (some (k : Int)) none) (by
    rw [e]; exact fun c hc => txt_cp u c (List.mem_of_mem_drop hc))
  refine ⟨t, ?_, by show TL.tl t.x = _; rw [h2, e]⟩
  unfold slcT
  rw [if_pos (by show _ ≤ 2 ^ 24; omega), h1]
theorem all_q {l : List Txt} {q : Txt → Bool} (h : l.all q = true) : ∀ t ∈ l, q t = true := fun t ht => List.all_eq_true.mp h t ht
def qPart (t : Txt) : Bool := (psOf (TL.tl t.x)).any badC && decide (t.x.length ≤ 100)
def qHead (t : Txt) : Bool := badH (TL.tl t.x) && decide (t.x.length ≤ 100)
def qWord (t : Txt) : Bool := !numW (TL.tl t.x) && decide (t.x.length ≤ 100)
theorem mod_ix {c : Int} {n : Nat} (h : 0 < n) : 0 ≤ c % (n : Int) ∧ c % (n : Int) < (n : Int) := ⟨Int.emod_nonneg _ (by omega), Int.emod_lt_of_pos _ (by omega)⟩
theorem odd_part (c : Int) : Ok (f_law_odd_part c) fun t => qPart t = true := by
  unfold f_law_odd_part
  rw [catG_of (by decide)]
  simp only [Option.bind_some]
  rw [catG_of (by decide)]
  simp only [Option.bind_some]
  rw [catG_of (by decide)]
  simp only [Option.bind_some]
  rw [catG_of (by decide)]
  simp only [Option.bind_some]
  obtain ⟨u, hu, hu2⟩ := mulT_of (u := txM "9") (n := 61) (by decide +kernel)
  have hul : u.x.length = 61 := by rw [hu2]; decide +kernel
  obtain ⟨v, hv, hv2, hv3⟩ := catT_of (u := txM "caller 0 ") (v := u) (by decide +kernel) (by omega)
  have qv : qPart v = true := by
    unfold qPart
    rw [hv2, hv3, hu2]; decide +kernel
  rw [hu]
  simp only [Option.bind_some]
  rw [hv]
  simp only [Option.bind_some]
  rw [catG_of (by simp)]
  simp only [Option.bind_some]
  refine Ok.bind (fun t => qPart t = true) ?_ fun t ht => ⟨_, rfl, ht⟩
  refine Ok.at (mod_ix (n := 26) (by decide)).1 (by have := (mod_ix (c := c) (n := 26) (by decide)).2; simpa using this) fun x hx => ?_
  rcases List.mem_append.mp hx with hx | hx
  · exact all_q (by decide +kernel) x hx
  · simp only [List.mem_cons, List.not_mem_nil, or_false] at hx
    rcases hx with rfl | rfl | rfl | rfl | rfl
    · decide +kernel
    · decide +kernel
    · decide +kernel
    · exact qv
    · decide +kernel
theorem odd_head (c : Int) : Ok (f_law_odd_head c) fun t => qHead t = true := by
  unfold f_law_odd_head
  rw [catG_of (by decide)]
  simp only [Option.bind_some]
  obtain ⟨u, hu, hu2⟩ := mulT_of (u := txM "1") (n := 61) (by decide +kernel)
  have hul : u.x.length = 61 := by rw [hu2]; decide +kernel
  obtain ⟨v, hv, hv2, hv3⟩ := catT_of (u := txM "names ") (v := u) (by decide +kernel) (by omega)
  have qv : qHead v = true := by
    unfold qHead
    rw [hv2, hv3, hu2]; decide +kernel
  rw [hu]
  simp only [Option.bind_some]
  rw [hv]
  simp only [Option.bind_some]
  rw [catG_of (by simp)]
  simp only [Option.bind_some]
  refine Ok.bind (fun t => qHead t = true) ?_ fun t ht => ⟨_, rfl, ht⟩
  refine Ok.at (mod_ix (n := 13) (by decide)).1 (by have := (mod_ix (c := c) (n := 13) (by decide)).2; simpa using this) fun x hx => ?_
  rcases List.mem_append.mp hx with hx | hx
  · exact all_q (by decide +kernel) x hx
  · simp only [List.mem_cons, List.not_mem_nil, or_false] at hx
    rcases hx with rfl | rfl | rfl | rfl
    · decide +kernel
    · decide +kernel
    · decide +kernel
    · exact qv
/-! ### plain: words that write no number; good texts; spoiled texts -/
theorem numW_bad {w : List Nat} {c : Nat} (hc : c ∈ w) (h : digN c = false) : numW w = false := by
  cases hn : numW w with
  | false => rfl
  | true => rw [numW_dig hn c hc] at h; cases h
theorem qWord_of {t : Txt} {l : List Nat} (e : TL.tl t.x = l) (h : numW l = false) (hl : l.length ≤ 100) : qWord t = true := by
  unfold qWord
  rw [e, h, TL.len_tl, e, decide_eq_true hl]; rfl
theorem numL_digN (n : Nat) : ∀ c ∈ TL.numL n, digN c = true := fun c hc => by
  have := TL.numL_digits n c hc
  unfold digN
  rw [decide_eq_true this.1, decide_eq_true this.2]; rfl
theorem odd_word (c : Int) : Ok (f_law_odd_word c) fun t => qWord t = true := by
  unfold f_law_odd_word
  have g1 : gPow (10 : Int) (50 : Int) = some (10 ^ 50) := gPow_10 (by decide) (by decide)
  have g2 : gMod (c / (12 : Int)) (10 ^ 50) = some (c / 12 % 10 ^ 50) := gMod_b (by decide)
  have hN : Nb (c / 12 % 10 ^ 50) := ⟨Int.emod_nonneg _ (by decide), by have := Int.emod_lt_of_pos (c / 12) (b := 10 ^ 50) (by decide); omega⟩
  obtain ⟨g3, hw⟩ := strT_nt hN
  have hwl := nt_len hN
  generalize hgn : nt (c / 12 % 10 ^ 50) = w at *
  generalize hgk : (c / 12 % 10 ^ 50).toNat = k at *
  have hD := numL_digN k
  have hne := TL.numL_ne k
  have hlen : (TL.numL k).length ≤ 60 := by rw [← hw, ← TL.len_tl]; exact hwl.2
  generalize TL.numL k = D at *
  obtain ⟨t1, e1, f1, _⟩ := catT_of (u := txM "-") (v := w) (by decide +kernel) (by omega)
  obtain ⟨t2, e2, f2, _⟩ := catT_of (u := txM "+") (v := w) (by decide +kernel) (by omega)
  obtain ⟨t3, e3, f3, _⟩ := catT_of (u := txM "0") (v := w) (by decide +kernel) (by omega)
  obtain ⟨t4, e4, f4, _⟩ := catT_of (u := w) (v := txM " ") (by omega) (by decide +kernel)
  obtain ⟨t5, e5, f5, _⟩ := catT_of (u := txM " ") (v := w) (by decide +kernel) (by omega)
  obtain ⟨t6, e6, f6, _⟩ := catT_of (u := w) (v := txM "x") (by omega) (by decide +kernel)
  obtain ⟨t7, e7, f7, _⟩ := catT_of (u := w) (v := txM ".0") (by omega) (by decide +kernel)
  obtain ⟨t8, e8, f8, _⟩ := catT_of (u := txM "1_") (v := w) (by decide +kernel) (by omega)
  obtain ⟨t9, e9, f9⟩ := mulT_of (u := txM "2") (n := 61) (by decide +kernel)
  rw [show TL.tl (txM "-").x = [45] by decide +kernel, hw] at f1
  rw [show TL.tl (txM "+").x = [43] by decide +kernel, hw] at f2
  rw [show TL.tl (txM "0").x = [48] by decide +kernel, hw] at f3
  rw [show TL.tl (txM " ").x = [32] by decide +kernel, hw] at f4 f5
  rw [show TL.tl (txM "x").x = [120] by decide +kernel, hw] at f6
  rw [show TL.tl (txM ".0").x = [46, 48] by decide +kernel, hw] at f7
  rw [show TL.tl (txM "1_").x = [49, 95] by decide +kernel, hw] at f8
  have q1 := qWord_of f1 (numW_bad (c := 45) (by simp) (by decide)) (by simp; omega)
  have q2 := qWord_of f2 (numW_bad (c := 43) (by simp) (by decide)) (by simp; omega)
  have q3 := qWord_of f3 (by
    unfold numW
    have : decide (([48] ++ D : List Nat) = [48]) = false := decide_eq_false fun h => hne (by simpa using h)
    rw [this]; simp) (by simp; omega)
  have q4 := qWord_of f4 (numW_bad (c := 32) (by simp) (by decide)) (by simp; omega)
  have q5 := qWord_of f5 (numW_bad (c := 32) (by simp) (by decide)) (by simp; omega)
  have q6 := qWord_of f6 (numW_bad (c := 120) (by simp) (by decide)) (by simp; omega)
  have q7 := qWord_of f7 (numW_bad (c := 46) (by simp) (by decide)) (by simp; omega)
  have q8 := qWord_of f8 (numW_bad (c := 95) (by simp) (by decide)) (by simp; omega)
  have q9 : qWord t9 = true := by
    unfold qWord
    rw [f9]; decide +kernel
  simp only [g1, g2, g3, e1, e2, e3, e4, e5, e6, e7, e8, e9, Option.bind_some]
  rw [catG_of (by simp)]
  simp only [Option.bind_some]
  rw [catG_of (by simp)]
  simp only [Option.bind_some]
  refine Ok.bind (fun t => qWord t = true) ?_ fun t ht => ⟨_, rfl, ht⟩
  refine Ok.at (mod_ix (n := 12) (by decide)).1 (by have := (mod_ix (c := c) (n := 12) (by decide)).2; simpa using this) fun x hx => ?_
  simp only [List.mem_append, List.mem_cons, List.not_mem_nil, or_false] at hx
  rcases hx with ((rfl | rfl | rfl | rfl | rfl) | (rfl | rfl | rfl | rfl | rfl)) | (rfl | rfl)
  · decide +kernel
  · exact q1
  · exact q2
  · exact q3
  · exact q4
  · exact q5
  · exact q6
  · exact q7
  · decide +kernel
  · exact q8
  · exact q9
  · decide +kernel
theorem cell_any (sc : Scr) {k : Int} (h : 0 ≤ k) : Ok (f_law_cell_at sc k) fun _ => True := by
  unfold f_law_cell_at
  split
  · rename_i c
    rw [atI_g 0 h (of_decide_eq_true c)]
    exact ⟨_, rfl, trivial⟩
  · exact ⟨_, rfl, trivial⟩
def isRopeT (t : Txt) : Prop := ∃ i, i < 7 ∧ TL.tl t.x = ropeL i
def isCallT (t : Txt) : Prop := ∃ i, i < 7 ∧ TL.tl t.x = callL i
/-- a good text's parts -/
structure GoodP (ps : List Txt) : Prop where
  ex : ∃ h R C, ps = h :: (R ++ C) ∧ TL.tl h.x = hN ∧ (∀ t ∈ R, isRopeT t) ∧ (∀ t ∈ C, isCallT t) ∧ R.length ≤ 6 ∧ C.length ≤ 6
theorem nb_small {x : Int} (h0 : 0 ≤ x) (h1 : x < 7) : Nb x := ⟨h0, by omega⟩
theorem law_good_ok (sc : Scr) : Ok (f_law_good sc) GoodP := by
  unfold f_law_good
  refine Ok.bind (fun _ => True) (cell_any sc (by decide)) fun a _ => Ok.bind (fun _ => True) (cell_any sc (by decide)) fun b _ => ?_
  have ha := mod_ix (c := a) (n := 7) (by decide)
  have hb := mod_ix (c := b) (n := 7) (by decide)
  rw [show ((7 : Nat) : Int) = 7 from rfl] at ha hb
  refine Ok.bind (fun l : List Txt => l.length ≤ 6 ∧ ∀ t ∈ l, isRopeT t) ?_ fun R hR => Ok.bind (fun l : List Txt => l.length ≤ 6 ∧ ∀ t ∈ l, isCallT t) ?_ fun C hC => ?_
  · rw [rngG_of (by decide) (by omega)]
    refine Ok.imp (Ok.lc isRopeT (by rw [rngI_len]; omega) fun x hx => ?_) fun m hm => ⟨by rw [hm.1, rngI_len]; omega, hm.2⟩
    have hx := mem_rngI.mp hx
    have hx1 : 0 ≤ x ∧ x < 7 := by omega
    obtain ⟨s1, s2⟩ := strT_nt (nb_small hx1.1 hx1.2)
    have s3 := nt_len (nb_small hx1.1 hx1.2)
    obtain ⟨t1, e1, f1, l1⟩ := catT_of (u := txM Str.empty) (v := txM "rope 0 1 ") (by decide +kernel) (by decide +kernel)
    have l1' : t1.x.length ≤ 20 := by rw [l1]; decide +kernel
    obtain ⟨t2, e2, f2, l2⟩ := catT_of (u := t1) (v := nt x) (by omega) (by omega)
    obtain ⟨t3, e3, f3, l3⟩ := catT_of (u := t2) (v := txM " 2 7") (by omega) (by decide +kernel)
    simp only [e1, s1, e2, e3, Option.bind_some]
    refine ⟨t3, rfl, x.toNat, by omega, ?_⟩
    rw [f3, f2, f1, s2, TL.numL_lt (by omega), show TL.tl (txM Str.empty).x = [] by decide +kernel, show TL.tl (txM "rope 0 1 ").x = [114, 111, 112, 101, 32, 48, 32, 49, 32] by decide +kernel, show TL.tl (txM " 2 7").x = [32, 50, 32, 55] by decide +kernel]
    rfl
  · rw [rngG0 (by omega) (by omega)]
    refine Ok.imp (Ok.lc isCallT (by rw [rngI_len]; omega) fun x hx => ?_) fun m hm => ⟨by rw [hm.1, rngI_len]; omega, hm.2⟩
    have hx := mem_rngI.mp hx
    have hx1 : 0 ≤ x ∧ x < 7 := by omega
    obtain ⟨s1, s2⟩ := strT_nt (nb_small hx1.1 hx1.2)
    have s3 := nt_len (nb_small hx1.1 hx1.2)
    obtain ⟨t1, e1, f1, l1⟩ := catT_of (u := txM Str.empty) (v := txM "caller ") (by decide +kernel) (by decide +kernel)
    have l1' : t1.x.length ≤ 20 := by rw [l1]; decide +kernel
    obtain ⟨t2, e2, f2, l2⟩ := catT_of (u := t1) (v := nt x) (by omega) (by omega)
    obtain ⟨t3, e3, f3, l3⟩ := catT_of (u := t2) (v := txM " 0") (by omega) (by decide +kernel)
    simp only [e1, s1, e2, e3, Option.bind_some]
    refine ⟨t3, rfl, x.toNat, by omega, ?_⟩
    rw [f3, f2, f1, s2, TL.numL_lt (by omega), show TL.tl (txM Str.empty).x = [] by decide +kernel, show TL.tl (txM "caller ").x = [99, 97, 108, 108, 101, 114, 32] by decide +kernel, show TL.tl (txM " 0").x = [32, 48] by decide +kernel]
    rfl
  · have h1 := hR.1
    have h2 := hC.1
    rw [catG_of (by rw [List.length_cons, List.length_nil]; omega)]
    simp only [Option.bind_some]
    rw [catG_of (by rw [List.length_append, List.length_cons, List.length_nil]; omega)]
    refine ⟨_, rfl, ⟨txM "names 5 0 7", R, C, rfl, by decide +kernel, hR.2, hC.2, h1, h2⟩⟩
/-! ### plain: spoiled texts are refused -/
theorem GoodP.all {ps : List Txt} (h : GoodP ps) : ∃ t bt, ps = t :: bt ∧ TL.tl t.x = hN ∧ (∀ u ∈ bt, Gd (TL.tl u.x)) ∧ bt.length ≤ 12 ∧ ∀ u ∈ ps, u.x.length ≤ 14 := by
  obtain ⟨t, R, C, rfl, h1, h2, h3, h4, h5⟩ := h.ex
  have hb : ∀ u ∈ R ++ C, Gd (TL.tl u.x) := by
    intro u hu
    rcases List.mem_append.mp hu with hu | hu
    · exact .inl (h2 u hu)
    · exact .inr (h3 u hu)
  refine ⟨t, R ++ C, rfl, h1, hb, by rw [List.length_append]; omega, fun u hu => ?_⟩
  rcases List.mem_cons.mp hu with rfl | hu
  · rw [TL.len_tl, h1]; decide
  · rw [TL.len_tl]; exact (hb u hu).len
theorem jn_of {l : List Txt} (hl : l.length ≤ 20) (h : ∀ p ∈ l, p.x.length ≤ 100) : Ok (jnT (txM "; ") l) fun t => TL.tl t.x = TL.joinL sepS (l.map fun p => TL.tl p.x) ∧ t.x.length ≤ 3000 := by
  have e2 : (txM "; ").x.length = 2 := by decide +kernel
  obtain ⟨h1, _, h3, h4⟩ := jnT_jn (sep := txM "; ") (k := 100) h (by rw [e2]; omega)
  rw [show TL.tl (txM "; ").x = sepS by decide +kernel] at h4
  rw [e2] at h3
  exact ⟨_, h1, h4, by omega⟩
theorem cut_tk {α : Type} (xs : List α) (k : Nat) : cutG xs none (some (k : Int)) = xs.take k := by
  unfold cutG
  rw [HT.sIx_nat, HT.sIx_none, List.drop_zero, Nat.sub_zero]
  by_cases h : k ≤ xs.length
  · rw [Nat.min_eq_left h]
  · rw [Nat.min_eq_right (by omega), List.take_of_length_le (by omega), List.take_of_length_le (by omega)]
theorem sg_of {u : Txt} {i : Int} (hl : u.x.length ≤ 10000) (h0 : 0 ≤ i) (h1 : i < (u.x.length : Int)) : Ok (sgT u i) fun t => (∃ c ∈ TL.tl u.x, TL.tl t.x = [c]) ∧ t.x.length = 1 := by
  have hlen : u.x.length = (TL.tl u.x).length := TL.len_tl u.x
  obtain ⟨c, hc, e⟩ := atI_mem (l := TL.tl u.x) h0 (by omega)
  obtain ⟨t, e1, e2⟩ := okT_of (x := ⟨#[c]⟩) (by
    intro d hd
    have e : d = c := by simpa [TL.tl] using hd
    rw [e]; exact txt_cp u c hc)
  refine ⟨t, ?_, ⟨c, hc, by rw [e2]⟩, by rw [e2]; rfl⟩
  unfold sgT
  rw [if_pos (by show _ ≤ 2 ^ 24; omega), show atI u.x.cps.toList i = some c from e]
  exact e1
def Bad (t : Txt) : Prop := townW (TL.tl t.x) = false ∧ t.x.length ≤ 10000
theorem map_free {l : List Txt} (h : ∀ u ∈ l, Gd (TL.tl u.x)) : ∀ p ∈ l.map (fun u => TL.tl u.x), 59 ∉ p := by
  intro p hp
  obtain ⟨u, hu, rfl⟩ := List.mem_map.mp hp
  exact (h u hu).free
theorem law_bad_ok {ps : List Txt} (G : GoodP ps) (c : Int) : Ok (f_law_bad ps c) Bad := by
  obtain ⟨t, bt, rfl, ht, hb, hl, hlen⟩ := G.all
  have hll : (t :: bt).length ≤ 13 := by rw [List.length_cons]; omega
  unfold f_law_bad
  refine Ok.bind _ (jn_of (l := t :: bt) (by omega) fun p hp => by have := hlen p hp; omega) fun x hx => ?_
  obtain ⟨hx1, hx2⟩ := hx
  rw [List.map_cons, ht] at hx1
  refine Ok.ite (fun _ => ?_) fun _ => Ok.ite (fun _ => ?_) fun _ => Ok.ite (fun _ => ?_) fun _ => Ok.ite (fun _ => ?_) fun _ => ?_
  · -- an odd part
    have hm := mod_ix (c := c / 6 / 26) (n := (t :: bt).length) (by rw [List.length_cons]; omega)
    rw [gMod_b (by rw [List.length_cons]; omega)]
    obtain ⟨a, ha⟩ : ∃ a : Nat, (c / 6 / 26) % ((t :: bt).length : Int) = (a : Int) := ⟨_, (Int.toNat_of_nonneg hm.1).symm⟩
    have ha2 : a < (t :: bt).length := by rw [ha] at hm; omega
    simp only [Option.bind_some, ha]
    rw [show (1 : Int) + (a : Int) = ((a + 1 : Nat) : Int) by omega, cut_tk, cutG_fr, List.take_succ_cons, List.drop_succ_cons]
    obtain ⟨o, o1, o2⟩ := odd_part (c / 6)
    unfold qPart at o2
    rw [Bool.and_eq_true, decide_eq_true_eq] at o2
    rw [o1]
    simp only [Option.bind_some]
    rw [catG_of (by simp only [List.length_cons, List.length_take, List.length_nil] at *; omega)]
    simp only [Option.bind_some]
    rw [catG_of (by simp only [List.length_append, List.length_cons, List.length_take, List.length_drop, List.length_nil] at *; omega)]
    simp only [Option.bind_some]
    refine Ok.bind (fun u => Bad u) (Ok.imp (jn_of ?_ ?_) fun u hu => ?_) fun u hu => ⟨_, rfl, hu⟩
    · simp only [List.length_append, List.length_cons, List.length_take, List.length_drop, List.length_nil] at *; omega
    · intro p hp
      simp only [List.mem_append, List.mem_cons, List.not_mem_nil, or_false] at hp
      rcases hp with ((rfl | hp) | rfl) | hp
      · have := hlen p (List.mem_cons_self ..); omega
      · have := hlen p (List.mem_cons_of_mem _ (List.mem_of_mem_take hp)); omega
      · exact o2.2
      · have := hlen p (List.mem_cons_of_mem _ (List.mem_of_mem_drop hp)); omega
    · refine ⟨?_, by have := hu.2; omega⟩
      rw [hu.1]
      simp only [List.map_append, List.map_cons, List.map_nil, ht, List.append_assoc, List.cons_append, List.nil_append]
      have := town_part (h := hN) (A := (bt.take a).map fun u => TL.tl u.x) (B := (bt.drop a).map fun u => TL.tl u.x) (M := TL.tl o.x) hN_free (map_free fun u hu => hb u (List.mem_of_mem_take hu)) (map_free fun u hu => hb u (List.mem_of_mem_drop hu)) o2.1
      simpa using this
  · -- a rope behind a caller
    rw [catG_of (by simp only [List.length_cons, List.length_nil] at *; omega)]
    simp only [Option.bind_some]
    refine Ok.bind (fun u => Bad u) (Ok.imp (jn_of ?_ ?_) fun u hu => ?_) fun u hu => ⟨_, rfl, hu⟩
    · simp only [List.length_append, List.length_cons, List.length_nil] at *; omega
    · intro p hp
      rcases List.mem_append.mp hp with hp | hp
      · have := hlen p hp; omega
      · simp only [List.mem_cons, List.not_mem_nil, or_false] at hp
        rcases hp with rfl | rfl
        · decide +kernel
        · decide +kernel
    · refine ⟨?_, by have := hu.2; omega⟩
      rw [hu.1]
      simp only [List.map_append, List.map_cons, List.map_nil, ht]
      exact town_order (h := hN) hN_free (map_free hb) (by decide +kernel) (by decide +kernel) (by decide +kernel)
  · -- names told otherwise
    obtain ⟨o, o1, o2⟩ := odd_head (c / 6)
    unfold qHead at o2
    rw [Bool.and_eq_true, decide_eq_true_eq] at o2
    rw [o1]
    simp only [Option.bind_some, cut1, List.drop_succ_cons, List.drop_zero]
    rw [catG_of (by simp only [List.length_cons, List.length_nil] at *; omega)]
    simp only [Option.bind_some]
    refine Ok.bind (fun u => Bad u) (Ok.imp (jn_of ?_ ?_) fun u hu => ?_) fun u hu => ⟨_, rfl, hu⟩
    · simp only [List.length_append, List.length_cons, List.length_nil] at *; omega
    · intro p hp
      rcases List.mem_append.mp hp with hp | hp
      · rw [List.mem_singleton.mp hp]; exact o2.2
      · have := hlen p (List.mem_cons_of_mem _ hp); omega
    · refine ⟨?_, by have := hu.2; omega⟩
      rw [hu.1]
      simp only [List.map_append, List.map_cons, List.map_nil]
      exact town_head (map_free hb) o2.1
  · -- another sign
    have hpos : 0 < x.x.length := by
      rw [TL.len_tl, hx1]
      cases bt with
      | nil => exact (by decide : 0 < (TL.joinL sepS [hN]).length)
      | cons u bt => rw [List.map_cons, join_cons _ (List.cons_ne_nil _ _), List.length_append]; exact Nat.lt_of_lt_of_le (by decide : 0 < hN.length) (Nat.le_add_right _ _)
    have e1 : lnT x = some (x.x.length : Int) := if_pos (by show _ ≤ 2 ^ 24; omega)
    rw [e1]
    simp only [Option.bind_some]
    rw [gMod_b (by omega)]
    have hm := mod_ix (c := c / 6 / 16) (n := x.x.length) hpos
    obtain ⟨a, ha⟩ : ∃ a : Nat, (c / 6 / 16) % (x.x.length : Int) = (a : Int) := ⟨_, (Int.toNat_of_nonneg hm.1).symm⟩
    simp only [Option.bind_some, ha]
    obtain ⟨u1, p1, p2⟩ := cut_to (u := x) (k := a) (by omega)
    have hm2 := mod_ix (c := c / 6) (n := 16) (by decide)
    obtain ⟨u2, p3, ⟨d, hd, p4⟩, p5⟩ := sg_of (u := txM "!?:,.+-_xZQ/=*()") (i := c / 6 % 16) (by decide +kernel) hm2.1 (by have := hm2.2; rw [show (txM "!?:,.+-_xZQ/=*()").x.length = 16 by decide +kernel]; exact this)
    have l1 : u1.x.length ≤ 3000 := by rw [TL.len_tl, p2, List.length_take, ← TL.len_tl]; omega
    obtain ⟨u3, p6, p7, p8⟩ := catT_of (u := u1) (v := u2) (by omega) (by omega)
    obtain ⟨u4, p9, p10⟩ := cut_from (u := x) (k := a + 1) (by omega)
    have l4 : u4.x.length ≤ 3000 := by rw [TL.len_tl, p10, List.length_drop, ← TL.len_tl]; omega
    obtain ⟨u5, p11, p12, p13⟩ := catT_of (u := u3) (v := u4) (by omega) (by omega)
    rw [show (a : Int) + 1 = ((a + 1 : Nat) : Int) by omega]
    simp only [p1, p3, p6, p9, p11, Option.bind_some]
    refine ⟨u5, rfl, ?_, by omega⟩
    have hd2 : d ≠ 59 ∧ d ≠ 32 ∧ legal d = false := by
      have hall : (TL.tl (txM "!?:,.+-_xZQ/=*()").x).all (fun d => decide (d ≠ 59) && (decide (d ≠ 32) && !legal d)) = true := by decide +kernel
      have := List.all_eq_true.mp hall d hd
      simpa using this
    refine town_sign (c := d) ?_ hd2.1 hd2.2.1 hd2.2.2
    rw [p12, p7, p4]
    simp
  · -- a blank put in
    have e1 : lnT x = some (x.x.length : Int) := if_pos (by show _ ≤ 2 ^ 24; omega)
    rw [e1]
    simp only [Option.bind_some]
    rw [gMod_b (by omega)]
    have hm := mod_ix (c := c / 6) (n := x.x.length + 1) (by omega)
    rw [show (((x.x.length + 1 : Nat)) : Int) = (x.x.length : Int) + 1 by omega] at hm
    obtain ⟨a, ha⟩ : ∃ a : Nat, (c / 6) % ((x.x.length : Int) + 1) = (a : Int) := ⟨_, (Int.toNat_of_nonneg hm.1).symm⟩
    have ha2 : a ≤ x.x.length := by rw [ha] at hm; omega
    simp only [Option.bind_some, ha]
    obtain ⟨u1, p1, p2⟩ := cut_to (u := x) (k := a) (by omega)
    have l1 : u1.x.length ≤ 3000 := by rw [TL.len_tl, p2, List.length_take, ← TL.len_tl]; omega
    have ls : (txM " ").x.length = 1 := by decide +kernel
    obtain ⟨u3, p6, p7, p8⟩ := catT_of (u := u1) (v := txM " ") (by omega) (by omega)
    obtain ⟨u4, p9, p10⟩ := cut_from (u := x) (k := a) (by omega)
    have l4 : u4.x.length ≤ 3000 := by rw [TL.len_tl, p10, List.length_drop, ← TL.len_tl]; omega
    obtain ⟨u5, p11, p12, p13⟩ := catT_of (u := u3) (v := u4) (by omega) (by omega)
    simp only [p1, p6, p9, p11, Option.bind_some]
    refine ⟨u5, rfl, ?_, by omega⟩
    have e5 : TL.tl u5.x = insB a (TL.joinL sepS (hN :: bt.map fun u => TL.tl u.x)) := by
      rw [p12, p7, p2, p10, ← hx1, show TL.tl (txM " ").x = [32] by decide +kernel]
      unfold insB
      rw [List.append_assoc]; rfl
    rw [e5]
    refine town_blank hN_free (map_free hb) (fun j hj => hN_blank hj) (fun p hp j hj => ?_) (by rw [← hx1, ← TL.len_tl]; exact ha2)
    obtain ⟨u, hu, rfl⟩ := List.mem_map.mp hp
    exact (hb u hu).blank hj
/-! ### plain: the law -/
theorem seen_ok : ∀ c : Str, c = "NoText" → decide (([isX c "NoText", isX c "ValueError", decide (true ∈ ([isX c "NoHouse", isX c "NoGroup", isX c "NoWire", isX c "NoCaller"] ++ [isX c "Apart", isX c "NoCopy", isX c "NoLetter"] ++ [isX c "BadTown"] : List Bool))] : List Bool) = [true, true, false]) = true := by
  rintro c rfl
  decide +kernel
theorem refused_of {t : Txt} {town : Bool} (h : (if town = true then f_Xq_read_town t else f_Xq_read_number t) = some (txM "NoText")) (st : Sto) : f_law_refused t town st = some (true, st) := by
  unfold f_law_refused
  simp only [Option.bind_some]
  rw [h]
  simp only [Option.elim_some]
  rw [if_pos (by decide +kernel)]
  rw [catG_of (by decide)]
  simp only [Option.bind_some]
  rw [catG_of (by decide)]
  simp only [Option.bind_some]
  have e : ∀ (a b : Bool × Sto), a = b → some a = some b := fun _ _ h => by rw [h]
  refine e _ _ ?_
  refine Prod.ext ?_ rfl
  exact seen_ok _ rfl
theorem fold_loop {step : Txt → RC → Option RC} (hs : ∀ (p : Txt) (s : RC), p.x.length ≤ 10000 → s.1.length ≤ 15000 → s.2.length ≤ 15000 →
      (ropeW (TL.tl p.x) = true → s.2 = [] → ∃ R', step p s = some (R', s.2) ∧ R'.length = s.1.length + 1) ∧
      (callW (TL.tl p.x) = true → ∃ C', step p s = some (s.1, C') ∧ C'.length = s.2.length + 1)) :
    ∀ (ps : List Txt) (s : RC), (∀ p ∈ ps, p.x.length ≤ 10000) → s.1.length + ps.length ≤ 15000 → s.2.length + ps.length ≤ 15000 → bodyW (decide (s.2 ≠ [])) (ps.map fun p => TL.tl p.x) = true → ∃ s', foldT step ps s = some s'
  | [], s, _, _, _, _ => ⟨s, rfl⟩
  | p :: ps, s, hp, h1, h2, hb => by
    rw [List.length_cons] at h1 h2
    rw [List.map_cons, bodyW, Bool.or_eq_true, Bool.and_eq_true, Bool.and_eq_true, Bool.and_eq_true] at hb
    have k := hs p s (hp p (List.mem_cons_self ..)) (by omega) (by omega)
    rcases hb with ⟨b1, b2, b3⟩ | ⟨b1, b3⟩
    · have hC : s.2 = [] := by simpa using b2
      obtain ⟨R', e, a3⟩ := k.1 b1 hC
      obtain ⟨s', e2⟩ := fold_loop hs ps (R', s.2) (fun q hq => hp q (List.mem_cons_of_mem _ hq)) (by show R'.length + ps.length ≤ 15000; omega) (by show s.2.length + ps.length ≤ 15000; omega) b3
      exact ⟨s', by rw [foldT, e]; exact e2⟩
    · obtain ⟨C', e, a3⟩ := k.2 b1
      have hC : decide (C' ≠ []) = true := decide_eq_true (by rintro rfl; cases a3)
      obtain ⟨s', e2⟩ := fold_loop hs ps (s.1, C') (fun q hq => hp q (List.mem_cons_of_mem _ hq)) (by show s.1.length + ps.length ≤ 15000; omega) (by show C'.length + ps.length ≤ 15000; omega) (by show bodyW (decide (C' ≠ [])) _ = true; rw [hC]; exact b3)
      exact ⟨s', by rw [foldT, e]; exact e2⟩
theorem fold_X {step : Txt → RC → Option RC} {ns : List Int} {ps : List Txt} (hp : ∀ p ∈ ps, p.x.length ≤ 10000) (hl : ps.length ≤ 10001) (hb : bodyW false (ps.map fun p => TL.tl p.x) = true) (hs : ∀ (p : Txt) (s : RC), p.x.length ≤ 10000 → s.1.length ≤ 15000 → s.2.length ≤ 15000 →
      (ropeW (TL.tl p.x) = true → s.2 = [] → ∃ R', step p s = some (R', s.2) ∧ R'.length = s.1.length + 1) ∧
      (callW (TL.tl p.x) = true → ∃ C', step p s = some (s.1, C') ∧ C'.length = s.2.length + 1)) :
    Ok ((foldT step ps (([], []) : RC)).bind fun s => some (⟨ns, s.1, s.2⟩ : Tp3 (List Int) (List (Tp5 Int Int Int Int Int)) (List (Tp2 Int Int)))) fun z => z.x0 = ns := by
  obtain ⟨s', e⟩ := fold_loop hs ps ([], []) hp (by show 0 + ps.length ≤ 15000; omega) (by show 0 + ps.length ≤ 15000; omega) hb
  rw [e]
  exact ⟨_, rfl, rfl⟩
theorem num_of {w : Txt} {i : Int} (h0 : 0 ≤ i) (h1 : i < 10) (e : TL.tl w.x = [48 + i.toNat]) : f_read_number w = some i := by
  have hN : Nb i := ⟨h0, by omega⟩
  have : w = nt i := txt_ext (by rw [e, (strT_nt hN).2, TL.numL_lt (by omega)])
  rw [this]
  exact f_read_number_ok hN
theorem read_good {t : Txt} {bs : List (List Nat)} (hl : t.x.length ≤ 10000) (hp : psOf (TL.tl t.x) = hN :: bs) (hb : bodyW false bs = true) : Ok (f_read_town t) fun z => z.x0 = [5, 0, 7] := by
  obtain ⟨told, t1, t2, t3, t4, t5⟩ := spl_se hl
  obtain ⟨h, ps, rfl⟩ : ∃ h ps, told = h :: ps := by
    cases told with
    | nil => exact absurd rfl t5
    | cons h ps => exact ⟨h, ps, rfl⟩
  rw [hp, List.map_cons] at t2
  injection t2 with t6 t7
  obtain ⟨words, w1, w2, w3, w4, w5⟩ := spl_sp (t := h) (t3 h (List.mem_cons_self ..))
  rw [t6, show wsOf hN = [sNames, [53], [48], [55]] by decide +kernel] at w2
  obtain ⟨a, b, c, d, rfl⟩ : ∃ a b c d, words = [a, b, c, d] := by
    have hl4 : words.length = 4 := by rw [← List.length_map (f := fun p : Txt => TL.tl p.x), w2]; rfl
    match words, hl4 with
    | [a, b, c, d], _ => exact ⟨a, b, c, d, rfl⟩
  simp only [List.map_cons, List.map_nil, List.cons.injEq, and_true] at w2
  rw [List.length_cons] at t4
  unfold f_read_town
  simp only [t1, Option.bind_some, atI0, w1, is_names, cut1, List.drop_succ_cons, List.drop_zero]
  rw [decide_eq_true w2.1]
  have e1 : lcT (fun (_ : Txt) => some true) (fun (x6 : Txt) => f_read_number x6) [b, c, d] = some [5, 0, 7] := by
    rw [lcT_ok (F := fun x => (f_read_number x).getD 0) (l := [b, c, d]) (by
      intro x hx
      simp only [List.mem_cons, List.not_mem_nil, or_false] at hx
      rcases hx with rfl | rfl | rfl
      · rw [num_of (i := 5) (by decide) (by decide) w2.2.1]; rfl
      · rw [num_of (i := 0) (by decide) (by decide) w2.2.2.1]; rfl
      · rw [num_of (i := 7) (by decide) (by decide) w2.2.2.2]; rfl)]
    simp only [List.map_cons, List.map_nil]
    rw [num_of (i := 5) (by decide) (by decide) w2.2.1, num_of (i := 0) (by decide) (by decide) w2.2.2.1, num_of (i := 7) (by decide) (by decide) w2.2.2.2]
    rfl
  simp only [List.length_cons, List.length_nil]
  rw [if_neg (by simp), e1]
  simp only [Option.bind_some]
  rw [szG_big (by decide)]
  simp only [Option.bind_some]
  refine fold_X (fun p hp => t3 p (List.mem_cons_of_mem _ hp)) (by omega) (by rw [t7]; exact hb) fun p s hp h1 h2 => ?_
  obtain ⟨words2, v1, v2, v3, v4, v5⟩ := spl_sp hp
  obtain ⟨v, vs, rfl⟩ : ∃ v vs, words2 = v :: vs := by
    cases words2 with
    | nil => exact absurd rfl v5
    | cons h ps => exact ⟨h, ps, rfl⟩
  have hR := rope_of v2.symm
  have hC := call_of v2.symm
  rw [List.length_map] at hR hC
  rw [List.length_cons] at v4
  simp only [v1, Option.bind_some, atI0, cut1, List.drop_succ_cons, List.drop_zero, is_rope, is_caller]
  refine ⟨fun hr hs => ?_, fun hc => ?_⟩
  · rw [hR] at hr
    simp only [Bool.and_eq_true, decide_eq_true_eq] at hr
    obtain ⟨n, n1, n2⟩ := words_ok vs hr.1
    rw [n1]
    simp only [Option.bind_some]
    rw [szG_big (by omega)]
    simp only [Option.bind_some]
    rw [show decide ((n.length : Int) = (5 : Int)) = decide (vs.length = 5) by rw [← n2]; exact int_len n 5, decide_eq_true hr.2.1, decide_eq_true hr.2.2, decide_eq_true hs]
    rw [if_pos (by rfl)]
    obtain ⟨z, hz⟩ := tup5_of (l := n) (by rw [n2]; exact hr.2.2)
    rw [hz]
    simp only [Option.bind_some]
    rw [appG_big (by omega)]
    exact ⟨_, rfl, by rw [List.length_append]; rfl⟩
  · rw [hC] at hc
    simp only [Bool.and_eq_true, decide_eq_true_eq] at hc
    obtain ⟨n, n1, n2⟩ := words_ok vs hc.1
    rw [n1]
    simp only [Option.bind_some]
    rw [szG_big (by omega)]
    simp only [Option.bind_some]
    rw [show decide ((n.length : Int) = (2 : Int)) = decide (vs.length = 2) by rw [← n2]; exact int_len n 2, decide_eq_true hc.2.2, hc.2.1, show decide (sCaller = sRope) = false by decide, decide_eq_true (rfl : sCaller = sCaller)]
    rw [Bool.false_and, if_neg (by decide), if_pos (by rfl)]
    obtain ⟨z, hz⟩ := tup2_of (l := n) (by rw [n2]; exact hc.2.2)
    rw [hz]
    simp only [Option.bind_some]
    rw [appG_big (by omega)]
    exact ⟨_, rfl, by rw [List.length_append]; rfl⟩
theorem isRope_w {t : Txt} (h : isRopeT t) : ropeW (TL.tl t.x) = true := by
  obtain ⟨i, hi, e⟩ := h
  rw [e]
  have : ∀ i : Fin 7, ropeW (ropeL i.val) = true := by decide +kernel
  exact this ⟨i, hi⟩
theorem isCall_w {t : Txt} (h : isCallT t) : callW (TL.tl t.x) = true := by
  obtain ⟨i, hi, e⟩ := h
  rw [e]
  have : ∀ i : Fin 7, callW (callL i.val) = true := by decide +kernel
  exact this ⟨i, hi⟩
theorem body_C : ∀ (cs : Bool) (C : List Txt), (∀ t ∈ C, isCallT t) → bodyW cs (C.map fun u => TL.tl u.x) = true
  | _, [], _ => rfl
  | cs, t :: C, h => by
    rw [List.map_cons, bodyW, isCall_w (h t (List.mem_cons_self ..)), body_C true C fun u hu => h u (List.mem_cons_of_mem _ hu)]
    simp
theorem body_RC : ∀ (R C : List Txt), (∀ t ∈ R, isRopeT t) → (∀ t ∈ C, isCallT t) → bodyW false ((R ++ C).map fun u => TL.tl u.x) = true
  | [], C, _, h => body_C false C h
  | t :: R, C, h, h2 => by
    rw [List.cons_append, List.map_cons, bodyW, isRope_w (h t (List.mem_cons_self ..)), body_RC R C (fun u hu => h u (List.mem_cons_of_mem _ hu)) h2]
    rfl
theorem law_plain (sc : Scr) (_ : sc.l.length ≤ 63) : Ok (f_law sc []) fun p => p.1 = true := by
  unfold f_law
  refine Ok.bind GoodP (law_good_ok sc) fun ps G => ?_
  obtain ⟨t, bt, hps, ht, hb, hl, hlen⟩ := G.all
  obtain ⟨x, hx0, hx1, hx2⟩ := jn_of (l := ps) (by rw [hps, List.length_cons]; omega) fun p hp => by have := hlen p hp; omega
  have hbody : bodyW false (bt.map fun u => TL.tl u.x) = true := by
    obtain ⟨t', R, C, e, _, h2, h3, _⟩ := G.ex
    rw [hps] at e
    injection e with _ e
    rw [e]
    exact body_RC R C h2 h3
  rw [hps, List.map_cons, ht] at hx1
  have hsp : psOf (TL.tl x.x) = hN :: bt.map fun u => TL.tl u.x := by
    rw [hx1]
    refine TL.spl_join (List.cons_ne_nil _ _) fun p hp => ?_
    rcases List.mem_cons.mp hp with rfl | hp
    · exact hN_free
    · exact map_free hb p hp
  obtain ⟨z, z1, z2⟩ := read_good (t := x) (by omega) hsp hbody
  rw [hx0]
  simp only [Option.bind_some, z1]
  rw [z2, decide_eq_true rfl]
  simp only [Bool.not_true, Bool.false_eq_true, if_false]
  have hcl : (cutG sc.l (some 2) (some 22)).length ≤ 20 := by
    unfold cutG
    have e1 : HT.sIx sc.l.length 0 (some (2 : Int)) = min 2 sc.l.length := HT.sIx_nat _ _ 2
    have e2 : HT.sIx sc.l.length sc.l.length (some (22 : Int)) = min 22 sc.l.length := HT.sIx_nat _ _ 22
    rw [List.length_take, List.length_drop, e1, e2]; omega
  rw [catG_of (by simp only [List.length_cons, List.length_nil]; omega)]
  simp only [Option.bind_some]
  refine Ok.bind (fun c => ∃ s', c = .nx s' ∧ s'.2 = ([] : Sto)) (Ok.numC (fun _ (s : Unit × Sto) => s.2 = []) rfl fun k c s hc hk hs => ?_) ?_
  · obtain ⟨b, b1, b2, b3⟩ := law_bad_ok G c
    obtain ⟨w, w1, w2⟩ := odd_word (c / 7)
    have r1 : (if (true : Bool) = true then f_Xq_read_town b else f_Xq_read_number b) = some (txM "NoText") := by
      rw [if_pos rfl, Xtown b3, b2, if_neg (by decide)]
    unfold qWord at w2
    rw [Bool.and_eq_true, Bool.not_eq_true', decide_eq_true_eq] at w2
    have r2 : (if (false : Bool) = true then f_Xq_read_town w else f_Xq_read_number w) = some (txM "NoText") := by
      rw [if_neg (by decide), Xnum (by omega), w2.1, if_neg (by decide)]
    simp only [b1, w1, Option.bind_some, refused_of r1, refused_of r2, Bool.not_true, Bool.false_eq_true, if_false]
    exact ⟨_, rfl, _, rfl, hs⟩
  · rintro c ⟨s', rfl, hs⟩
    exact ⟨_, rfl, rfl⟩
theorem law_true : ∀ ns : List Int, ns.length ≤ 63 → ∃ st', m_law [.scr ns] [] = some (.sh (.bl true), st') := fun ns h => by
  have := ev_law ⟨ns⟩ []
  obtain ⟨p, e, h⟩ := law_plain ⟨ns⟩ h
  rw [e] at this
  refine ⟨p.2, this.trans ?_⟩
  show some (Kx.sh.r (en p.1), p.2) = _
  rw [h]; rfl
theorem all_mk {l : PySem.W.OpenLaw} {w : World} {K : PySem.W.Frag} {h : Heap} {mg : Str → Option Value} {fa : Addr} (X : K.In h) (G : h.Ns mainGlobals mg) (hfa : mg "law" = some (.ref fa)) {od0 an0 : Option Addr} {sl0 : Array (Option Value)} {oc0 kV0 dc0 pm0 cd0 ct0 : Value} {f0 : Addr} {od1 an1 : Option Addr} {sl1 : Array (Option Value)} {oc1 kV1 dc1 pm1 cd1 ct1 : Value} {f1 : Addr} {od2 an2 : Option Addr} {sl2 : Array (Option Value)} {oc2 kV2 dc2 pm2 cd2 ct2 : Value} {f2 : Addr} {od3 an3 : Option Addr} {sl3 : Array (Option Value)} {oc3 kV3 dc3 pm3 cd3 ct3 : Value} {f3 : Addr} {od6 an6 : Option Addr} {sl6 : Array (Option Value)} {oc6 kV6 dc6 pm6 cd6 ct6 : Value} {f6 : Addr} {od7 an7 : Option Addr} {sl7 : Array (Option Value)} {oc7 kV7 dc7 pm7 cd7 ct7 : Value} {f7 : Addr} {od8 an8 : Option Addr} {sl8 : Array (Option Value)} {oc8 kV8 dc8 pm8 cd8 ct8 : Value} {f8 : Addr} {od9 an9 : Option Addr} {sl9 : Array (Option Value)} {oc9 kV9 dc9 pm9 cd9 ct9 : Value} {f9 : Addr} {od10 an10 : Option Addr} {sl10 : Array (Option Value)} {oc10 kV10 dc10 pm10 cd10 ct10 : Value} {f10 : Addr} {od11 an11 : Option Addr} {sl11 : Array (Option Value)} {oc11 kV11 dc11 pm11 cd11 ct11 : Value} {f11 : Addr} {C_Apart : Addr} {C_BadTown : Addr} {C_KnotError : Addr} {C_NoCaller : Addr} {C_NoCopy : Addr} {C_NoGroup : Addr} {C_NoHouse : Addr} {C_NoLetter : Addr} {C_NoText : Addr} {C_NoWire : Addr} {t_FIGURES : Tok}
    (cC_Apart : PySem.W.nsIn K mainGlobals "Apart" = some (some (.ref C_Apart)))
    (cC_BadTown : PySem.W.nsIn K mainGlobals "BadTown" = some (some (.ref C_BadTown)))
    (cC_KnotError : PySem.W.nsIn K mainGlobals "KnotError" = some (some (.ref C_KnotError)))
    (cC_NoCaller : PySem.W.nsIn K mainGlobals "NoCaller" = some (some (.ref C_NoCaller)))
    (cC_NoCopy : PySem.W.nsIn K mainGlobals "NoCopy" = some (some (.ref C_NoCopy)))
    (cC_NoGroup : PySem.W.nsIn K mainGlobals "NoGroup" = some (some (.ref C_NoGroup)))
    (cC_NoHouse : PySem.W.nsIn K mainGlobals "NoHouse" = some (some (.ref C_NoHouse)))
    (cC_NoLetter : PySem.W.nsIn K mainGlobals "NoLetter" = some (some (.ref C_NoLetter)))
    (cC_NoText : PySem.W.nsIn K mainGlobals "NoText" = some (some (.ref C_NoText)))
    (cC_NoWire : PySem.W.nsIn K mainGlobals "NoWire" = some (some (.ref C_NoWire)))
    (xP_NoText : PySem.W.excIn K C_NoText [.type "ValueError", .type "Exception", .type "BaseException", .type "object"] "ValueError.__new__" = true)
    (kc_NoText : PySem.W.keepIn K (.ref C_NoText) = true)
    (bP_NoText : PySem.W.subIn K (.ref C_NoText) (.type "BaseException") = some true)
    (tP_NoText : PySem.W.typeIn K (.ref C_NoText) = some (.type "type"))
    (egn : PySem.W.specialIn K (.builtin "object.__class__") "__get__" = some (some (.builtin "getset_descriptor.__get__")))
    (egt : PySem.W.takesIn K (.builtin "object.__class__") = some true)
    (tb_KnotError : PySem.W.subIn K (.ref C_KnotError) (.type "BaseException") = some true)
    (td_KnotError : PySem.W.hasDictIn K C_KnotError = true)
    (tt_KnotError : PySem.W.typeIn K (.ref C_KnotError) = some (.type "type"))
    (eg_NoText : PySem.W.findIn K (.ref C_NoText) "__getattribute__" = some (some (.builtin "BaseException.__getattribute__")))
    (ek_NoText : PySem.W.findIn K (.ref C_NoText) "__getattr__" = some none)
    (ed_NoText : PySem.W.hasDictIn K C_NoText = true)
    (ea_NoText : PySem.W.findIn K (.ref C_NoText) "__class__" = some (some (.builtin "object.__class__")))
    (eh_NoText : PySem.W.mroIn K C_NoText (.type "object") = some true)
    (es_NoText_KnotError : PySem.W.subIn K (.ref C_NoText) (.ref C_KnotError) = some true)
    (kq_NoText_Apart : PySem.W.kitOne K (.ref C_NoText) (.ref C_Apart) = some false)
    (kq_NoText_BadTown : PySem.W.kitOne K (.ref C_NoText) (.ref C_BadTown) = some false)
    (kq_NoText_NoCaller : PySem.W.kitOne K (.ref C_NoText) (.ref C_NoCaller) = some false)
    (kq_NoText_NoCopy : PySem.W.kitOne K (.ref C_NoText) (.ref C_NoCopy) = some false)
    (kq_NoText_NoGroup : PySem.W.kitOne K (.ref C_NoText) (.ref C_NoGroup) = some false)
    (kq_NoText_NoHouse : PySem.W.kitOne K (.ref C_NoText) (.ref C_NoHouse) = some false)
    (kq_NoText_NoLetter : PySem.W.kitOne K (.ref C_NoText) (.ref C_NoLetter) = some false)
    (kq_NoText_NoText : PySem.W.kitOne K (.ref C_NoText) (.ref C_NoText) = some true)
    (kq_NoText_NoWire : PySem.W.kitOne K (.ref C_NoText) (.ref C_NoWire) = some false)
    (kq_NoText_ValueError : PySem.W.kitOne K (.ref C_NoText) (.type "ValueError") = some true)
    (a0 : PySem.W.nsIn K mainGlobals "_law_cell_at" = some (some (.ref f0)))
    (l0 : K.lookup f0 = some ⟨oc0, od0, .func (PySem.W.fnOf "_law_cell_at" "_law_cell_at" (defArgs s_law_cell_at) (defBody s_law_cell_at) (defScope s_law_cell_at) .none kV0 dc0 pm0 an0 cd0 ct0), sl0⟩)
    (e0 : PySem.W.codeIn K cd0 "_law_cell_at" = true)
    (k0 : PySem.W.keepIn K (.ref f0) = true)
    (a1 : PySem.W.nsIn K mainGlobals "_law_good" = some (some (.ref f1)))
    (l1 : K.lookup f1 = some ⟨oc1, od1, .func (PySem.W.fnOf "_law_good" "_law_good" (defArgs s_law_good) (defBody s_law_good) (defScope s_law_good) .none kV1 dc1 pm1 an1 cd1 ct1), sl1⟩)
    (e1 : PySem.W.codeIn K cd1 "_law_good" = true)
    (k1 : PySem.W.keepIn K (.ref f1) = true)
    (a2 : PySem.W.nsIn K mainGlobals "read_number" = some (some (.ref f2)))
    (l2 : K.lookup f2 = some ⟨oc2, od2, .func (PySem.W.fnOf "read_number" "read_number" (defArgs s_read_number) (defBody s_read_number) (defScope s_read_number) .none kV2 dc2 pm2 an2 cd2 ct2), sl2⟩)
    (e2 : PySem.W.codeIn K cd2 "read_number" = true)
    (k2 : PySem.W.keepIn K (.ref f2) = true)
    (a3 : PySem.W.nsIn K mainGlobals "read_town" = some (some (.ref f3)))
    (l3 : K.lookup f3 = some ⟨oc3, od3, .func (PySem.W.fnOf "read_town" "read_town" (defArgs s_read_town) (defBody s_read_town) (defScope s_read_town) .none kV3 dc3 pm3 an3 cd3 ct3), sl3⟩)
    (e3 : PySem.W.codeIn K cd3 "read_town" = true)
    (k3 : PySem.W.keepIn K (.ref f3) = true)
    (a6 : PySem.W.nsIn K mainGlobals "_law_refused" = some (some (.ref f6)))
    (l6 : K.lookup f6 = some ⟨oc6, od6, .func (PySem.W.fnOf "_law_refused" "_law_refused" (defArgs s_law_refused) (defBody s_law_refused) (defScope s_law_refused) .none kV6 dc6 pm6 an6 cd6 ct6), sl6⟩)
    (e6 : PySem.W.codeIn K cd6 "_law_refused" = true)
    (k6 : PySem.W.keepIn K (.ref f6) = true)
    (a7 : PySem.W.nsIn K mainGlobals "_law_odd_head" = some (some (.ref f7)))
    (l7 : K.lookup f7 = some ⟨oc7, od7, .func (PySem.W.fnOf "_law_odd_head" "_law_odd_head" (defArgs s_law_odd_head) (defBody s_law_odd_head) (defScope s_law_odd_head) .none kV7 dc7 pm7 an7 cd7 ct7), sl7⟩)
    (e7 : PySem.W.codeIn K cd7 "_law_odd_head" = true)
    (k7 : PySem.W.keepIn K (.ref f7) = true)
    (a8 : PySem.W.nsIn K mainGlobals "_law_odd_part" = some (some (.ref f8)))
    (l8 : K.lookup f8 = some ⟨oc8, od8, .func (PySem.W.fnOf "_law_odd_part" "_law_odd_part" (defArgs s_law_odd_part) (defBody s_law_odd_part) (defScope s_law_odd_part) .none kV8 dc8 pm8 an8 cd8 ct8), sl8⟩)
    (e8 : PySem.W.codeIn K cd8 "_law_odd_part" = true)
    (k8 : PySem.W.keepIn K (.ref f8) = true)
    (a9 : PySem.W.nsIn K mainGlobals "_law_bad" = some (some (.ref f9)))
    (l9 : K.lookup f9 = some ⟨oc9, od9, .func (PySem.W.fnOf "_law_bad" "_law_bad" (defArgs s_law_bad) (defBody s_law_bad) (defScope s_law_bad) .none kV9 dc9 pm9 an9 cd9 ct9), sl9⟩)
    (e9 : PySem.W.codeIn K cd9 "_law_bad" = true)
    (k9 : PySem.W.keepIn K (.ref f9) = true)
    (a10 : PySem.W.nsIn K mainGlobals "_law_odd_word" = some (some (.ref f10)))
    (l10 : K.lookup f10 = some ⟨oc10, od10, .func (PySem.W.fnOf "_law_odd_word" "_law_odd_word" (defArgs s_law_odd_word) (defBody s_law_odd_word) (defScope s_law_odd_word) .none kV10 dc10 pm10 an10 cd10 ct10), sl10⟩)
    (e10 : PySem.W.codeIn K cd10 "_law_odd_word" = true)
    (k10 : PySem.W.keepIn K (.ref f10) = true)
    (a11 : PySem.W.nsIn K mainGlobals "law" = some (some (.ref f11)))
    (l11 : K.lookup f11 = some ⟨oc11, od11, .func (PySem.W.fnOf "law" "law" (defArgs s_law) (defBody s_law) (defScope s_law) .none kV11 dc11 pm11 an11 cd11 ct11), sl11⟩)
    (e11 : PySem.W.codeIn K cd11 "law" = true)
    (k11 : PySem.W.keepIn K (.ref f11) = true)
    (g_FIGURES : PySem.W.nsIn K mainGlobals "FIGURES" = some (some (.str "0123456789" t_FIGURES)))
    (z_ValueError : PySem.W.nsIn K mainGlobals "ValueError" = some none)
    (z_int : PySem.W.nsIn K mainGlobals "int" = some none)
    (z_isinstance : PySem.W.nsIn K mainGlobals "isinstance" = some none)
    (z_len : PySem.W.nsIn K mainGlobals "len" = some none)
    (z_range : PySem.W.nsIn K mainGlobals "range" = some none)
    (z_str : PySem.W.nsIn K mainGlobals "str" = some none)
    (z_tuple : PySem.W.nsIn K mainGlobals "tuple" = some none)
    (hl : ∀ ns : List Int, ns.length ≤ 63 → ∃ st', m_law [.scr ns] [] = some (.sh (.bl true), st')) :
    ∃ fd : FuncData, (∀ (s : Shared) (v : Value), BindsTo s fd ⟨[v], []⟩ [("_law_script", v)]) ∧ ∀ base : Heap, K.In base → base.Ns mainGlobals mg → FnOk l.prog w K mg base CX0 4 fa fd ["_law_script"] (spLaw K) := by
  have e := hfa.symm.trans (PySem.W.mg_of X G a11)
  cases e
  have Z : Zs mg := ⟨PySem.W.mg_none_of X G z_ValueError, PySem.W.mg_none_of X G z_int, PySem.W.mg_none_of X G z_isinstance, PySem.W.mg_none_of X G z_len, PySem.W.mg_none_of X G z_range, PySem.W.mg_none_of X G z_str, PySem.W.mg_none_of X G z_tuple⟩
  have G_FIGURES := PySem.W.mg_of X G g_FIGURES
  have X_NoText : ExK K mg (fun c => if c = "NoText" then some C_NoText else none) "NoText" C_NoText := ⟨xP_NoText, PySem.W.mg_of X G cC_NoText, kc_NoText, bP_NoText, tP_NoText, by first | rfl | simp⟩
  have EC_NoText : ExcC K C_NoText := ⟨eg_NoText, ek_NoText, bP_NoText, ed_NoText, ea_NoText, egn, egt, eh_NoText⟩
  have em_NoText := PySem.W.exm_ref tb_KnotError td_KnotError tt_KnotError es_NoText_KnotError
  have kt_NoText_Apart : PySem.W.kitOne K (.ref C_NoText) (.ref C_Apart) = some (isX "NoText" "Apart") := kq_NoText_Apart.trans (congrArg some (by decide +kernel))
  have kt_NoText_BadTown : PySem.W.kitOne K (.ref C_NoText) (.ref C_BadTown) = some (isX "NoText" "BadTown") := kq_NoText_BadTown.trans (congrArg some (by decide +kernel))
  have kt_NoText_NoCaller : PySem.W.kitOne K (.ref C_NoText) (.ref C_NoCaller) = some (isX "NoText" "NoCaller") := kq_NoText_NoCaller.trans (congrArg some (by decide +kernel))
  have kt_NoText_NoCopy : PySem.W.kitOne K (.ref C_NoText) (.ref C_NoCopy) = some (isX "NoText" "NoCopy") := kq_NoText_NoCopy.trans (congrArg some (by decide +kernel))
  have kt_NoText_NoGroup : PySem.W.kitOne K (.ref C_NoText) (.ref C_NoGroup) = some (isX "NoText" "NoGroup") := kq_NoText_NoGroup.trans (congrArg some (by decide +kernel))
  have kt_NoText_NoHouse : PySem.W.kitOne K (.ref C_NoText) (.ref C_NoHouse) = some (isX "NoText" "NoHouse") := kq_NoText_NoHouse.trans (congrArg some (by decide +kernel))
  have kt_NoText_NoLetter : PySem.W.kitOne K (.ref C_NoText) (.ref C_NoLetter) = some (isX "NoText" "NoLetter") := kq_NoText_NoLetter.trans (congrArg some (by decide +kernel))
  have kt_NoText_NoText : PySem.W.kitOne K (.ref C_NoText) (.ref C_NoText) = some (isX "NoText" "NoText") := kq_NoText_NoText.trans (congrArg some (by decide +kernel))
  have kt_NoText_NoWire : PySem.W.kitOne K (.ref C_NoText) (.ref C_NoWire) = some (isX "NoText" "NoWire") := kq_NoText_NoWire.trans (congrArg some (by decide +kernel))
  have kt_NoText_ValueError : PySem.W.kitOne K (.ref C_NoText) (.type "ValueError") = some (isX "NoText" "ValueError") := kq_NoText_ValueError.trans (congrArg some (by decide +kernel))
  refine ⟨PySem.W.fnOf "law" "law" (defArgs s_law) (defBody s_law) (defScope s_law) .none kV11 dc11 pm11 an11 cd11 ct11, fun s v => .of_eq rfl, fun base _ _ => ?_⟩
  have F_law_cell_at := fun_mk (st := s_law_cell_at) l0 e0 k0
  have C_law_cell_at : Cal l.prog w K mg base (fun _ => none) "_law_cell_at" 1 ["_law_script", "_law_k"] m_law_cell_at := ⟨f0, _, ok_law_cell_at F_law_cell_at Z , PySem.W.mg_of X G a0, F_law_cell_at.kp, (F_law_cell_at.binds (ps := ["_law_script", "_law_k"]) fun _ _ _ _ _ _ us hl => match us, hl with | [_, _], _ => rfl)⟩
  have F_law_good := fun_mk (st := s_law_good) l1 e1 k1
  have C_law_good : Cal l.prog w K mg base (fun _ => none) "_law_good" 2 ["_law_script"] m_law_good := ⟨f1, _, ok_law_good F_law_good Z C_law_cell_at, PySem.W.mg_of X G a1, F_law_good.kp, (F_law_good.binds (ps := ["_law_script"]) fun _ _ _ _ _ _ us hl => match us, hl with | [_], _ => rfl)⟩
  have F_read_number := fun_mk (st := s_read_number) l2 e2 k2
  have C_read_number : Cal l.prog w K mg base (fun _ => none) "read_number" 1 ["word"] m_read_number := ⟨f2, _, ok_read_number F_read_number Z G_FIGURES, PySem.W.mg_of X G a2, F_read_number.kp, (F_read_number.binds (ps := ["word"]) fun _ _ _ _ _ _ us hl => match us, hl with | [_], _ => rfl)⟩
  have F_read_town := fun_mk (st := s_read_town) l3 e3 k3
  have C_read_town : Cal l.prog w K mg base (fun _ => none) "read_town" 2 ["text"] m_read_town := ⟨f3, _, ok_read_town F_read_town Z C_read_number, PySem.W.mg_of X G a3, F_read_town.kp, (F_read_town.binds (ps := ["text"]) fun _ _ _ _ _ _ us hl => match us, hl with | [_], _ => rfl)⟩
  have C_Xq_read_number : CalX l.prog w K mg base (fun _ => none) (fun c => if c = "NoText" then some C_NoText else none) "read_number" 1 ["word"] m_Xq_read_number := ⟨f2, _, ok_Xq_read_number (xt := fun c => if c = "NoText" then some C_NoText else none) F_read_number Z G_FIGURES X_NoText, PySem.W.mg_of X G a2, F_read_number.kp, (F_read_number.binds (ps := ["word"]) fun _ _ _ _ _ _ us hl => match us, hl with | [_], _ => rfl)⟩
  have C_Xq_read_town : CalX l.prog w K mg base (fun _ => none) (fun c => if c = "NoText" then some C_NoText else none) "read_town" 2 ["text"] m_Xq_read_town := ⟨f3, _, ok_Xq_read_town (xt := fun c => if c = "NoText" then some C_NoText else none) F_read_town Z X_NoText C_Xq_read_number C_read_number, PySem.W.mg_of X G a3, F_read_town.kp, (F_read_town.binds (ps := ["text"]) fun _ _ _ _ _ _ us hl => match us, hl with | [_], _ => rfl)⟩
  have F_law_refused := fun_mk (st := s_law_refused) l6 e6 k6
  have C_law_refused : Cal l.prog w K mg base (fun _ => none) "_law_refused" 3 ["_law_text", "_law_town"] m_law_refused := ⟨f6, _, ok_law_refused F_law_refused Z X_NoText EC_NoText em_NoText kt_NoText_Apart kt_NoText_BadTown kt_NoText_NoCaller kt_NoText_NoCopy kt_NoText_NoGroup kt_NoText_NoHouse kt_NoText_NoLetter kt_NoText_NoText kt_NoText_NoWire kt_NoText_ValueError (PySem.W.mg_of X G cC_Apart) (PySem.W.mg_of X G cC_BadTown) (PySem.W.mg_of X G cC_KnotError) (PySem.W.mg_of X G cC_NoCaller) (PySem.W.mg_of X G cC_NoCopy) (PySem.W.mg_of X G cC_NoGroup) (PySem.W.mg_of X G cC_NoHouse) (PySem.W.mg_of X G cC_NoLetter) (PySem.W.mg_of X G cC_NoText) (PySem.W.mg_of X G cC_NoWire) C_Xq_read_town C_Xq_read_number C_read_town C_read_number, PySem.W.mg_of X G a6, F_law_refused.kp, (F_law_refused.binds (ps := ["_law_text", "_law_town"]) fun _ _ _ _ _ _ us hl => match us, hl with | [_, _], _ => rfl)⟩
  have F_law_odd_head := fun_mk (st := s_law_odd_head) l7 e7 k7
  have C_law_odd_head : Cal l.prog w K mg base (fun _ => none) "_law_odd_head" 1 ["_law_cell"] m_law_odd_head := ⟨f7, _, ok_law_odd_head F_law_odd_head Z , PySem.W.mg_of X G a7, F_law_odd_head.kp, (F_law_odd_head.binds (ps := ["_law_cell"]) fun _ _ _ _ _ _ us hl => match us, hl with | [_], _ => rfl)⟩
  have F_law_odd_part := fun_mk (st := s_law_odd_part) l8 e8 k8
  have C_law_odd_part : Cal l.prog w K mg base (fun _ => none) "_law_odd_part" 1 ["_law_cell"] m_law_odd_part := ⟨f8, _, ok_law_odd_part F_law_odd_part Z , PySem.W.mg_of X G a8, F_law_odd_part.kp, (F_law_odd_part.binds (ps := ["_law_cell"]) fun _ _ _ _ _ _ us hl => match us, hl with | [_], _ => rfl)⟩
  have F_law_bad := fun_mk (st := s_law_bad) l9 e9 k9
  have C_law_bad : Cal l.prog w K mg base (fun _ => none) "_law_bad" 2 ["_law_pieces", "_law_cell"] m_law_bad := ⟨f9, _, ok_law_bad F_law_bad Z C_law_odd_part C_law_odd_head, PySem.W.mg_of X G a9, F_law_bad.kp, (F_law_bad.binds (ps := ["_law_pieces", "_law_cell"]) fun _ _ _ _ _ _ us hl => match us, hl with | [_, _], _ => rfl)⟩
  have F_law_odd_word := fun_mk (st := s_law_odd_word) l10 e10 k10
  have C_law_odd_word : Cal l.prog w K mg base (fun _ => none) "_law_odd_word" 1 ["_law_cell"] m_law_odd_word := ⟨f10, _, ok_law_odd_word F_law_odd_word Z , PySem.W.mg_of X G a10, F_law_odd_word.kp, (F_law_odd_word.binds (ps := ["_law_cell"]) fun _ _ _ _ _ _ us hl => match us, hl with | [_], _ => rfl)⟩
  have F_law := fun_mk (st := s_law) l11 e11 k11
  have G_law := ok_law (P := l.prog) (w := w) (base := base) (ct := fun _ => none) F_law Z C_law_good C_read_town C_law_refused C_law_bad C_law_odd_word
  exact law_ok G_law hl
theorem walk {l : PySem.W.OpenLaw} {q : Program} {loose : List Str} {XP : (Str → Option Value) → Heap → Prop} {YP : World → Heap → Prop} {d : DefRec} {K : Params → PySem.W.Frag} (hn : l.most = some 63) (hdf : d.params.defaults = [])
    (hY : ∀ (w : World) (h : Heap), YP w h → (K w.params).In h)
    (F : ∀ (w : World) (mg : Str → Option Value) (fa : Addr) (h : Heap), (K w.params).In h → h.Ns mainGlobals mg → mg d.name = some (.ref fa) →
      ∃ fd : FuncData, (∀ (s : Shared) (u : Value), BindsTo s fd ⟨[u], []⟩ [("_law_script", u)]) ∧ ∀ base : Heap, (K w.params).In base → base.Ns mainGlobals mg → FnOk l.prog w (K w.params) mg base CX0 4 fa fd ["_law_script"] (spLaw (K w.params))) :
    PySem.W.WalkO q loose XP YP l.row.toRowW d [] (fun f vs => PySem.call f vs) :=
  L2.walk_of (n := 63) (k := 4) (x := "_law_script") (CX := fun _ => CX0) (sp := fun w => spLaw (K w.params)) hn (by decide) hdf ⟨rfl, by decide, by decide⟩ hY F (fun _ _ a ns hl _ hS => ⟨a, ns, rfl, hS, hl, fun _ => rfl⟩) fun _ _ _ _ _ z => z
end Law
open PySem PySem.W PyProof.Rows in
set_option maxRecDepth 100000 in
set_option maxHeartbeats 0 in
theorem PySem.Challenge.cw_knotless_k38_town_text_refused_holds : PySem.Challenge.rw_knotless_k38_town_text_refused.Holds := by
  refine head0 ?_
  k_fill
  refine Law.walk (l := PySem.Challenge.rw_knotless_k38_town_text_refused) rfl rfl (fun w h Y => PySem.W.kIn_of Y) ?F
  case F =>
    intro w mg fa h KX G hmg
    refine' Law.all_mk KX G hmg ?cC_Apart ?cC_BadTown ?cC_KnotError ?cC_NoCaller ?cC_NoCopy ?cC_NoGroup ?cC_NoHouse ?cC_NoLetter ?cC_NoText ?cC_NoWire ?xP_NoText ?kc_NoText ?bP_NoText ?tP_NoText ?egn ?egt ?tb_KnotError ?td_KnotError ?tt_KnotError ?eg_NoText ?ek_NoText ?ed_NoText ?ea_NoText ?eh_NoText ?es_NoText_KnotError ?kq_NoText_Apart ?kq_NoText_BadTown ?kq_NoText_NoCaller ?kq_NoText_NoCopy ?kq_NoText_NoGroup ?kq_NoText_NoHouse ?kq_NoText_NoLetter ?kq_NoText_NoText ?kq_NoText_NoWire ?kq_NoText_ValueError ?a0 ?l0 ?e0 ?k0 ?a1 ?l1 ?e1 ?k1 ?a2 ?l2 ?e2 ?k2 ?a3 ?l3 ?e3 ?k3 ?a6 ?l6 ?e6 ?k6 ?a7 ?l7 ?e7 ?k7 ?a8 ?l8 ?e8 ?k8 ?a9 ?l9 ?e9 ?k9 ?a10 ?l10 ?e10 ?k10 ?a11 ?l11 ?e11 ?k11 ?g_FIGURES ?z_ValueError ?z_int ?z_isinstance ?z_len ?z_range ?z_str ?z_tuple Law.law_true
    (case cC_Apart => k_is)
    (case cC_BadTown => k_is)
    (case cC_KnotError => k_is)
    (case cC_NoCaller => k_is)
    (case cC_NoCopy => k_is)
    (case cC_NoGroup => k_is)
    (case cC_NoHouse => k_is)
    (case cC_NoLetter => k_is)
    (case cC_NoText => k_is)
    (case cC_NoWire => k_is)
    (case xP_NoText => k_exc)
    (case kc_NoText => k_is)
    (case bP_NoText => k_is)
    (case tP_NoText => k_is)
    (case egn => k_is)
    (case egt => k_is)
    (case tb_KnotError => k_is)
    (case td_KnotError => k_is)
    (case tt_KnotError => k_is)
    (case eg_NoText => k_is)
    (case ek_NoText => k_is)
    (case ed_NoText => k_is)
    (case ea_NoText => k_is)
    (case eh_NoText => k_is)
    (case es_NoText_KnotError => k_is)
    (case kq_NoText_Apart => kit_is)
    (case kq_NoText_BadTown => kit_is)
    (case kq_NoText_NoCaller => kit_is)
    (case kq_NoText_NoCopy => kit_is)
    (case kq_NoText_NoGroup => kit_is)
    (case kq_NoText_NoHouse => kit_is)
    (case kq_NoText_NoLetter => kit_is)
    (case kq_NoText_NoText => kit_is)
    (case kq_NoText_NoWire => kit_is)
    (case kq_NoText_ValueError => kit_is)
    (case a0 => k_is)
    (case l0 => k_is)
    (case e0 => k_is)
    (case k0 => k_is)
    (case a1 => k_is)
    (case l1 => k_is)
    (case e1 => k_is)
    (case k1 => k_is)
    (case a2 => k_is)
    (case l2 => k_is)
    (case e2 => k_is)
    (case k2 => k_is)
    (case a3 => k_is)
    (case l3 => k_is)
    (case e3 => k_is)
    (case k3 => k_is)
    (case a6 => k_is)
    (case l6 => k_is)
    (case e6 => k_is)
    (case k6 => k_is)
    (case a7 => k_is)
    (case l7 => k_is)
    (case e7 => k_is)
    (case k7 => k_is)
    (case a8 => k_is)
    (case l8 => k_is)
    (case e8 => k_is)
    (case k8 => k_is)
    (case a9 => k_is)
    (case l9 => k_is)
    (case e9 => k_is)
    (case k9 => k_is)
    (case a10 => k_is)
    (case l10 => k_is)
    (case e10 => k_is)
    (case k10 => k_is)
    (case a11 => k_is)
    (case l11 => k_is)
    (case e11 => k_is)
    (case k11 => k_is)
    (case g_FIGURES => k_is)
    (case z_ValueError => k_is)
    (case z_int => k_is)
    (case z_isinstance => k_is)
    (case z_len => k_is)
    (case z_range => k_is)
    (case z_str => k_is)
    (case z_tuple => k_is)
