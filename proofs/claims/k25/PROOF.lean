import PyProof.Rows.All
import Wide.All
import OpenK.AllK
import Wide.FinOn
import HandS.ForMost
import HandS.IsInst
import HandS.Wide
import HandS.Deep
import HandS.Style
import HandS.SortInts
import HandS.Rev
import HandS.RevTup
import HandS.Conv
import KE.LtSeq
import HandS.More
import HandS.Strs
import HandS.DictTup
import HandS.ClsMeth
import PySem.Challenge.RW_knotless_k25_letters
set_option Elab.async false
set_option linter.all false
set_option maxRecDepth 100000
set_option maxHeartbeats 4000000
namespace Kn
open PySem L2

/-! data: what a value reads as -/
inductive D where
  | non | bl (b : Bool) | int (i : Int) | str (x : Str)
  | lst (ds : List D) | tup (ds : List D)
  | dic (kds : List (Key × D))
  | obj (c : Str) (ds : List D)
  | hnd (g : Nat)
  | scr (ns : List Int)

/-- shared heap and the objects by number -/
structure Wd where
  hs : Hp
  tp : Addr → Option (List V)
  rho : Nat → Option V
structure Wd.le (W W' : Wd) : Prop where
  hs : ∀ a o, W.hs a = some o → W'.hs a = some o
  tp : ∀ a o, W.tp a = some o → W'.tp a = some o
  rho : ∀ g v, W.rho g = some v → W'.rho g = some v
theorem Wd.le.refl (W : Wd) : W.le W := ⟨fun _ _ h => h, fun _ _ h => h, fun _ _ h => h⟩
theorem Wd.le.trans {A B C : Wd} (h : A.le B) (k : B.le C) : A.le C := ⟨fun a o e => k.1 a o (h.1 a o e), fun a o e => k.2 a o (h.2 a o e), fun g v e => k.3 g v (h.3 g v e)⟩

abbrev CT := Str → Option (Addr × List Str)
mutual
inductive Rep (K : PySem.W.Frag) (ct : CT) (W : Wd) : V → D → Prop
  | non : Rep K ct W .non .non
  | bl (b : Bool) : Rep K ct W (.bl b) (.bl b)
  | int (i : Int) : Rep K ct W (.int i) (.int i)
  | str (x : Str) : Rep K ct W (.str x) (.str x)
  | lst {a : Addr} {vs : List V} {ds : List D} : W.hs a = some (.lst vs) → RepL K ct W vs ds → Rep K ct W (.ref a) (.lst ds)
  | tup {a : Addr} {vs : List V} {ds : List D} : W.tp a = some vs → RepL K ct W vs ds → Rep K ct W (.ref a) (.tup ds)
  | dic {a : Addr} {kvs : List (Key × V)} {kds : List (Key × D)} : W.hs a = some (.dK kvs) → kvs.map (·.1) = kds.map (·.1) → RepL K ct W (kvs.map (·.2)) (kds.map (·.2)) → Rep K ct W (.ref a) (.dic kds)
  | obj {a C dx : Addr} {fs : List (Str × V)} {c : Str} {ns : List Str} {ds : List D} : W.hs a = some (.ins C dx fs) → ct c = some (C, ns) → fs.map (·.1) = ns.take ds.length → RepL K ct W (fs.map (·.2)) ds → Rep K ct W (.ref a) (.obj c ds)
  | hnd {g : Nat} {v : V} : W.rho g = some v → Rep K ct W v (.hnd g)
  | scr {a : Addr} {ns : List Int} : SqL K W.hs a (ns.map V.int) → Rep K ct W (.ref a) (.scr ns)
inductive RepL (K : PySem.W.Frag) (ct : CT) (W : Wd) : List V → List D → Prop
  | nil : RepL K ct W [] []
  | cons {v : V} {vs : List V} {d : D} {ds : List D} : Rep K ct W v d → RepL K ct W vs ds → RepL K ct W (v :: vs) (d :: ds)
end
section
variable {K : PySem.W.Frag} {ct : CT} {W W' : Wd}
theorem sq_mono {H H' : Hp} {a : Addr} {xs : List V} (e : ∀ a o, H a = some o → H' a = some o) (h : SqL K H a xs) : SqL K H' a xs := Same.seq (K := K) e h
mutual
theorem Rep.mono (l : W.le W') : ∀ {v : V} {d : D}, Rep K ct W v d → Rep K ct W' v d
  | _, _, .non => .non
  | _, _, .bl b => .bl b
  | _, _, .int i => .int i
  | _, _, .str x => .str x
  | _, _, .lst h r => .lst (l.1 _ _ h) (RepL.mono l r)
  | _, _, .scr h => .scr (sq_mono l.1 h)
  | _, _, .tup h r => .tup (l.2 _ _ h) (RepL.mono l r)
  | _, _, .dic h n r => .dic (l.1 _ _ h) n (RepL.mono l r)
  | _, _, .obj h c n r => .obj (l.1 _ _ h) c n (RepL.mono l r)
  | _, _, .hnd h => .hnd (l.3 _ _ h)
theorem RepL.mono (l : W.le W') : ∀ {vs : List V} {ds : List D}, RepL K ct W vs ds → RepL K ct W' vs ds
  | _, _, .nil => .nil
  | _, _, .cons h r => .cons (Rep.mono l h) (RepL.mono l r)
end
theorem RepL.length : ∀ {vs : List V} {ds : List D}, RepL K ct W vs ds → vs.length = ds.length
  | _, _, .nil => rfl
  | _, _, .cons _ r => congrArg (· + 1) (RepL.length r)
theorem RepL.get : ∀ {vs : List V} {ds : List D} {i : Nat} {d : D}, RepL K ct W vs ds → ds[i]? = some d → ∃ v, vs[i]? = some v ∧ Rep K ct W v d
  | _, _, _, _, .nil, e => by simp at e
  | _, _, 0, _, .cons h _, e => by simp at e; subst e; exact ⟨_, rfl, h⟩
  | _, _, i + 1, _, .cons _ r, e => RepL.get (i := i) r (by simpa using e)
theorem RepL.get2 : ∀ {vs : List V} {ds : List D} {i : Nat} {v : V}, RepL K ct W vs ds → vs[i]? = some v → ∃ d, ds[i]? = some d ∧ Rep K ct W v d
  | _, _, _, _, .nil, e => by simp at e
  | _, _, 0, _, .cons h _, e => by simp at e; subst e; exact ⟨_, rfl, h⟩
  | _, _, i + 1, _, .cons _ r, e => RepL.get2 (i := i) r (by simpa using e)
theorem RepL.append : ∀ {vs ws : List V} {ds es : List D}, RepL K ct W vs ds → RepL K ct W ws es → RepL K ct W (vs ++ ws) (ds ++ es)
  | _, _, _, _, .nil, s => s
  | _, _, _, _, .cons h r, s => .cons h (RepL.append r s)
theorem RepL.take : ∀ {vs : List V} {ds : List D} (n : Nat), RepL K ct W vs ds → RepL K ct W (vs.take n) (ds.take n)
  | _, _, 0, _ => .nil
  | _, _, _ + 1, .nil => .nil
  | _, _, n + 1, .cons h r => .cons h (RepL.take n r)
theorem RepL.drop : ∀ {vs : List V} {ds : List D} (n : Nat), RepL K ct W vs ds → RepL K ct W (vs.drop n) (ds.drop n)
  | _, _, 0, r => r
  | _, _, _ + 1, .nil => .nil
  | _, _, n + 1, .cons _ r => RepL.drop n r
theorem RepL.set : ∀ {vs : List V} {ds : List D} {v : V} {d : D} (i : Nat), RepL K ct W vs ds → Rep K ct W v d → RepL K ct W (vs.set i v) (ds.set i d)
  | _, _, _, _, _, .nil, _ => .nil
  | _, _, _, _, 0, .cons _ r, h => .cons h r
  | _, _, _, _, i + 1, .cons g r, h => .cons g (RepL.set i r h)
theorem RepL.eraseIdx : ∀ {vs : List V} {ds : List D} (i : Nat), RepL K ct W vs ds → RepL K ct W (vs.eraseIdx i) (ds.eraseIdx i)
  | _, _, _, .nil => .nil
  | _, _, 0, .cons _ r => r
  | _, _, i + 1, .cons g r => .cons g (RepL.eraseIdx i r)
theorem RepL.reverse {vs : List V} {ds : List D} (r : RepL K ct W vs ds) : RepL K ct W vs.reverse ds.reverse := by
  induction vs generalizing ds with
  | nil => cases r; exact .nil
  | cons v vs ih =>
    cases r with
    | cons h r =>
      rw [List.reverse_cons, List.reverse_cons]
      exact (ih r).append (.cons h .nil)
theorem RepL.rep {vs : List V} {ds : List D} (r : RepL K ct W vs ds) : ∀ k : Nat, RepL K ct W (List.replicate k vs).flatten (List.replicate k ds).flatten
  | 0 => .nil
  | k + 1 => by
    rw [List.replicate_succ, List.replicate_succ, List.flatten_cons, List.flatten_cons]
    exact r.append (RepL.rep r k)
theorem RepL.ints : ∀ {vs : List V} {ns : List Int}, RepL K ct W vs (ns.map D.int) → vs = ns.map V.int
  | _, [], .nil => rfl
  | _, n :: ns, .cons h r => by
    have e := RepL.ints (ns := ns) r
    cases h
    rw [e]; rfl
theorem RepL.bls : ∀ {vs : List V} {ns : List Bool}, RepL K ct W vs (ns.map D.bl) → vs = ns.map V.bl
  | _, [], .nil => rfl
  | _, n :: ns, .cons h r => by
    have e := RepL.bls (ns := ns) r
    cases h
    rw [e]; rfl
theorem RepL.strs : ∀ {vs : List V} {ns : List Str}, RepL K ct W vs (ns.map D.str) → vs = ns.map V.str
  | _, [], .nil => rfl
  | _, n :: ns, .cons h r => by
    have e := RepL.strs (ns := ns) r
    cases h
    rw [e]; rfl
theorem RepL.of_ints : ∀ ns : List Int, RepL K ct W (ns.map V.int) (ns.map D.int)
  | [] => .nil
  | n :: ns => .cons (.int n) (RepL.of_ints ns)
end

/-! the state -/
inductive Lab where
  | slot (i : Nat) | ob (g : Nat)
  deriving DecidableEq
inductive Slot where
  | no | sh (d : D) | ow (d : D) | o2 (dss : List (List D)) | me (a : Addr) (d : D)
/-- a kind of object of the store -/
structure Kd where
  P : PySem.W.Frag → CT → Wd → Hp → V → D → Prop
  mono : ∀ {K ct W W' F v d}, P K ct W F v d → W.le W' → P K ct W' F v d
abbrev Sto := List (Kd × D)

section
variable (K : PySem.W.Frag) (ct : CT)
/-- a list, a dict or an instance of one's own at a -/
inductive Cell (W : Wd) (H : Hp) (a : Addr) : D → Prop
  | lst {vs : List V} {ds : List D} : H a = some (.lst vs) → RepL K ct W vs ds → Cell W H a (.lst ds)
  | dic {kvs : List (Key × V)} {kds : List (Key × D)} : H a = some (.dK kvs) → kvs.map (·.1) = kds.map (·.1) → RepL K ct W (kvs.map (·.2)) (kds.map (·.2)) → Cell W H a (.dic kds)
  | obj {C dx : Addr} {fs : List (Str × V)} {c : Str} {ns : List Str} {ds : List D} : H a = some (.ins C dx fs) → ct c = some (C, ns) → fs.map (·.1) = ns.take ds.length → RepL K ct W (fs.map (·.2)) ds → Cell W H a (.obj c ds)
/-- rows of one's own -/
inductive Rows (W : Wd) (H : Hp) (L : Addr → Option Lab) (l : Lab) : List V → List (List D) → Prop
  | nil : Rows W H L l [] []
  | cons {a : Addr} {vs : List V} {ds : List D} {ws : List V} {dss : List (List D)} : H a = some (.lst vs) → L a = some l → RepL K ct W vs ds → V.ref a ∉ ws → Rows W H L l ws dss → Rows W H L l (.ref a :: ws) (ds :: dss)
def SlotOk (W : Wd) (L : Addr → Option Lab) (H : Hp) (σ : St) (i : Nat) : Slot → Prop
  | .no => True
  | .sh d => ∃ v, σ[i]? = some (some v) ∧ Rep K ct W v d
  | .ow d => ∃ a, σ[i]? = some (some (.ref a)) ∧ L a = some (.slot i) ∧ Cell K ct W H a d
  | .me a d => σ[i]? = some (some (.ref a)) ∧ L a = some (.slot i) ∧ Cell K ct W H a d
  | .o2 dss => ∃ a ws, σ[i]? = some (some (.ref a)) ∧ L a = some (.slot i) ∧ H a = some (.lst ws) ∧ V.ref a ∉ ws ∧ Rows K ct W H L (.slot i) ws dss
structure Rel (F : Hp) (W : Wd) (L : Addr → Option Lab) (env : List Slot) (st : Sto) (σ : St) (H : Hp) : Prop where
  fr : ∀ a o, F a = some o → H a = some o ∧ L a = none ∧ W.hs a = none
  hs : ∀ a o, W.hs a = some o → H a = some o ∧ L a = none
  tp : ∀ a vs, W.tp a = some vs → H a = some (.tup vs)
  ob : ∀ g κ d, st[g]? = some (κ, d) → ∃ v, W.rho g = some v ∧ κ.P K ct W (fun a => if L a = some (.ob g) then H a else none) v d
  rh : ∀ g v, W.rho g = some v → g < st.length
  len : σ.length = env.length
  sl : ∀ i s, env[i]? = some s → SlotOk K ct W L H σ i s
end

inductive R where
  | sh (d : D) | ow (d : D) | bw (i : Nat) (d : D)
def R.d : R → D
  | .sh d => d
  | .ow d => d
  | .bw _ d => d
/-- a thing just made is shared at once -/
def R.pin : R → R
  | .ow d => .sh d
  | r => r
section
variable (K : PySem.W.Frag) (ct : CT)
def RepR (F : Hp) (W : Wd) (L : Addr → Option Lab) (H : Hp) (env : List Slot) (σ : St) (v : V) : R → Prop
  | .sh d => Rep K ct W v d
  | .ow d => ∃ a, v = .ref a ∧ L a = none ∧ W.hs a = none ∧ F a = none ∧ Cell K ct W H a d
  | .bw i d => env[i]? = some (.ow d) ∧ σ[i]? = some (some v)
/-- what stays readable -/
def RdR (W : Wd) (env : List Slot) (σ : St) (v : V) : R → Prop
  | .sh d => Rep K ct W v d
  | .ow _ => False
  | .bw i d => env[i]? = some (.ow d) ∧ σ[i]? = some (some v)
/-- readable as the heap is now -/
def RdH (W : Wd) (H : Hp) (v : V) (d : D) : Prop := Rep K ct W v d ∨ ∃ a, v = .ref a ∧ Cell K ct W H a d
end

section
variable {K : PySem.W.Frag} {ct : CT} {F H H' : Hp} {W W' : Wd} {L L' : Addr → Option Lab} {env : List Slot} {st : Sto} {σ : St} {v : V} {d : D} {r : R} {a p : Addr} {o : HO}
theorem Cell.mono {W W' : Wd} {H H' : Hp} (c : Cell K ct W H a d) (l : W.le W') (e : ∀ o, H a = some o → H' a = some o) : Cell K ct W' H' a d := by
  cases c with
  | lst h q => exact .lst (e _ h) (q.mono l)
  | dic h n q => exact .dic (e _ h) n (q.mono l)
  | obj h c n q => exact .obj (e _ h) c n (q.mono l)
theorem Cell.there (c : Cell K ct W H a d) : ∃ o, H a = some o := by
  cases c with
  | lst h q => exact ⟨_, h⟩
  | dic h n q => exact ⟨_, h⟩
  | obj h c n q => exact ⟨_, h⟩
theorem Rows.mono {W W' : Wd} {H H' : Hp} {L L' : Addr → Option Lab} {l : Lab} (lw : W.le W') (e : ∀ a o, L a = some l → H a = some o → H' a = some o ∧ L' a = some l) : ∀ {ws : List V} {dss : List (List D)}, Rows K ct W H L l ws dss → Rows K ct W' H' L' l ws dss
  | _, _, .nil => .nil
  | _, _, .cons h hl q n r => .cons (e _ _ hl h).1 (e _ _ hl h).2 (q.mono lw) n (Rows.mono lw e r)

/-- more shared, labels of what is there kept, what is there kept -/
theorem SlotOk.mono {W W' : Wd} {H H' : Hp} {L L' : Addr → Option Lab} {σ : St} {i : Nat} (lw : W.le W') (e : ∀ a o, L a = some (.slot i) → H a = some o → H' a = some o ∧ L' a = some (.slot i)) : ∀ {s : Slot}, SlotOk K ct W L H σ i s → SlotOk K ct W' L' H' σ i s
  | .no, _ => trivial
  | .sh d, ⟨v, h, q⟩ => ⟨v, h, q.mono lw⟩
  | .ow d, ⟨a, h, hl, c⟩ => by
    obtain ⟨o, ho⟩ := c.there
    exact ⟨a, h, (e a o hl ho).2, c.mono lw fun o h => (e a o hl h).1⟩
  | .me a d, ⟨h, hl, c⟩ => by
    obtain ⟨o, ho⟩ := c.there
    exact ⟨h, (e a o hl ho).2, c.mono lw fun o h => (e a o hl h).1⟩
  | .o2 dss, ⟨a, ws, h, hl, hc, n, rr⟩ => ⟨a, ws, h, (e a _ hl hc).2, (e a _ hl hc).1, n, rr.mono lw e⟩

/-- the heap grows, nothing that was tracked is changed -/
theorem Rel.grow (I : Rel K ct F W L env st σ H) (e : ∀ a o, H a = some o → H' a = some o) : Rel K ct F W (fun a => if (H a).isSome then L a else none) env st σ H' := by
  have lab : ∀ a o, H a = some o → (if (H a).isSome then L a else none) = L a := fun a o h => by rw [h]; rfl
  refine ⟨fun a o h => ?_, fun a o h => ?_, fun a vs h => e a _ (I.tp a vs h), fun g κ d h => ?_, I.rh, I.len, fun i s h => ?_⟩
  · obtain ⟨h1, h2, h3⟩ := I.fr a o h
    exact ⟨e a o h1, (lab a o h1).trans h2, h3⟩
  · obtain ⟨h1, h2⟩ := I.hs a o h
    exact ⟨e a o h1, (lab a o h1).trans h2⟩
  · obtain ⟨v, h1, h2⟩ := I.ob g κ d h
    refine ⟨v, h1, ?_⟩
    have q : (fun a => if (if (H a).isSome then L a else none) = some (Lab.ob g) then H' a else none) = fun a => if L a = some (.ob g) then H a else none := by
      funext a
      cases h : H a with
      | none => simp
      | some o => simp [e a o h]
    rw [q]; exact h2
  · exact (I.sl i s h).mono (Wd.le.refl W) fun a o hl ho => ⟨e a o ho, (lab a o ho).trans hl⟩
/-- an object that is nobody's is shared -/
def Wd.add (W : Wd) (p : Addr) (o : HO) : Wd := ⟨upd W.hs p o, W.tp, W.rho⟩
def Wd.addT (W : Wd) (p : Addr) (vs : List V) : Wd := ⟨W.hs, fun a => if a = p then some vs else W.tp a, W.rho⟩
theorem Rel.le_add (I : Rel K ct F W L env st σ H) (h : H p = some o) : W.le (W.add p o) := by
  refine ⟨fun a u e => ?_, fun _ _ e => e, fun _ _ e => e⟩
  by_cases hp : a = p
  · subst hp
    have := (I.hs a u e).1
    rw [h] at this; cases this
    exact upd_same
  · show upd W.hs p o a = some u
    rw [upd_ne hp]; exact e
theorem Rel.share (I : Rel K ct F W L env st σ H) (h : H p = some o) (hl : L p = none) (hf : F p = none) : Rel K ct F (W.add p o) L env st σ H := by
  have le := I.le_add h
  refine ⟨fun a u e => ?_, fun a u e => ?_, I.tp, fun g κ d e => ?_, I.rh, I.len, fun i s e => (I.sl i s e).mono le fun a o hl ho => ⟨ho, hl⟩⟩
  · obtain ⟨h1, h2, h3⟩ := I.fr a u e
    refine ⟨h1, h2, ?_⟩
    have : a ≠ p := by rintro rfl; rw [hf] at e; cases e
    show upd W.hs p o a = none
    rw [upd_ne this]; exact h3
  · by_cases hp : a = p
    · subst hp
      have e : upd W.hs a o a = some u := e
      rw [upd_same] at e; cases e
      exact ⟨h, hl⟩
    · have e : upd W.hs p o a = some u := e
      rw [upd_ne hp] at e
      exact I.hs a u e
  · obtain ⟨v, h1, h2⟩ := I.ob g κ d e
    exact ⟨v, h1, κ.mono h2 le⟩
/-- a tuple is shared -/
theorem Rel.shareT {vs : List V} (I : Rel K ct F W L env st σ H) (h : H p = some (.tup vs)) : W.le (W.addT p vs) ∧ Rel K ct F (W.addT p vs) L env st σ H ∧ (W.addT p vs).tp p = some vs := by
  have le : W.le (W.addT p vs) := by
    refine ⟨fun _ _ e => e, fun a u e => ?_, fun _ _ e => e⟩
    show (if a = p then some vs else W.tp a) = some u
    by_cases hp : a = p
    · subst hp
      have := I.tp a u e
      rw [h] at this; cases this
      exact if_pos rfl
    · rw [if_neg hp]; exact e
  refine ⟨le, ⟨I.fr, I.hs, fun a u e => ?_, fun g κ d e => ?_, I.rh, I.len, fun i s e => (I.sl i s e).mono le fun a o hl ho => ⟨ho, hl⟩⟩, if_pos rfl⟩
  · have e : (if a = p then some vs else W.tp a) = some u := e
    by_cases hp : a = p
    · rw [if_pos hp] at e; cases e; rw [hp]; exact h
    · rw [if_neg hp] at e; exact I.tp a u e
  · obtain ⟨v, h1, h2⟩ := I.ob g κ d e
    exact ⟨v, h1, κ.mono h2 le⟩
/-- a new object -/
theorem Rel.laid (I : Rel K ct F W L env st σ H) (hp : H p = none) : Rel K ct F W (fun a => if (H a).isSome then L a else none) env st σ (upd H p o) ∧ (if (H p).isSome then L p else none) = none ∧ W.hs p = none ∧ F p = none := by
  refine ⟨I.grow fun a u e => by rw [upd_ne (ne_of_none e hp)]; exact e, by rw [hp]; rfl, ?_, ?_⟩
  · cases q : W.hs p with
    | none => rfl
    | some u => have := (I.hs p u q).1; rw [hp] at this; cases this
  · cases q : F p with
    | none => rfl
    | some u => have := (I.fr p u q).1; rw [hp] at this; cases this
/-- what was just made is shared -/
theorem Rel.pin (I : Rel K ct F W L env st σ H) (h : RepR K ct F W L H env σ v r) : ∃ W', W.le W' ∧ Rel K ct F W' L env st σ H ∧ RdR K ct W' env σ v r.pin := by
  cases r with
  | sh d => exact ⟨W, .refl W, I, h⟩
  | bw i d => exact ⟨W, .refl W, I, h⟩
  | ow d =>
    obtain ⟨a, rfl, hl, hw, hf, c⟩ := h
    cases c with
    | lst e q =>
      have le := I.le_add e
      refine ⟨_, le, I.share e hl hf, .lst ?_ (q.mono le)⟩
      exact upd_same
    | dic e n q =>
      have le := I.le_add e
      refine ⟨_, le, I.share e hl hf, .dic ?_ n (q.mono le)⟩
      exact upd_same
    | obj e c n q =>
      have le := I.le_add e
      exact ⟨_, le, I.share e hl hf, Rep.obj (show (W.add a _).hs a = some _ from upd_same) c n (q.mono le)⟩
theorem RdR.mono {W W' : Wd} (h : RdR K ct W env σ v r) (l : W.le W') : RdR K ct W' env σ v r := by
  cases r with
  | sh d => exact Rep.mono l h
  | ow d => exact h
  | bw i d => exact h
theorem Rel.look (I : Rel K ct F W L env st σ H) (h : RdR K ct W env σ v r) : RdH K ct W H v r.d := by
  cases r with
  | sh d => exact .inl h
  | ow d => exact h.elim
  | bw i d =>
    obtain ⟨h1, h2⟩ := h
    obtain ⟨a, e, _, c⟩ := I.sl i _ h1
    rw [h2] at e; cases e
    exact .inr ⟨a, rfl, c⟩
theorem RdH.list {ds : List D} (h : RdH K ct W H v (.lst ds)) (I : Rel K ct F W L env st σ H) : ∃ a vs, v = .ref a ∧ H a = some (.lst vs) ∧ RepL K ct W vs ds := by
  rcases h with h | ⟨a, rfl, c⟩
  · cases h with
    | lst h q => exact ⟨_, _, rfl, (I.hs _ _ h).1, q⟩
  · cases c with
    | lst h q => exact ⟨a, _, rfl, h, q⟩
/-- the items of a list -/
def D.seqL : D → Option (List D)
  | .lst ds => some ds
  | .scr ns => some (ns.map D.int)
  | _ => none
theorem RdH.seqL {ds : List D} (h : RdH K ct W H v d) (e : d.seqL = some ds) (I : Rel K ct F W L env st σ H) : ∃ a vs, v = .ref a ∧ SqL K H a vs ∧ RepL K ct W vs ds := by
  cases d <;> simp only [D.seqL, Option.some.injEq, reduceCtorEq] at e
  · subst e
    obtain ⟨a, vs, e1, e2, e3⟩ := h.list I
    exact ⟨a, vs, e1, SqL.of e2, e3⟩
  · subst e
    rcases h with h | ⟨a, rfl, c⟩
    · cases h with
      | scr h => exact ⟨_, _, rfl, sq_mono (fun a o e => (I.hs a o e).1) h, RepL.of_ints _⟩
    · cases c
theorem RdH.tup {ds : List D} (h : RdH K ct W H v (.tup ds)) (I : Rel K ct F W L env st σ H) : ∃ a vs, v = .ref a ∧ H a = some (.tup vs) ∧ RepL K ct W vs ds := by
  rcases h with h | ⟨a, rfl, c⟩
  · cases h with
    | tup h q => exact ⟨_, _, rfl, I.tp _ _ h, q⟩
  · cases c
theorem RdH.int {i : Int} (h : RdH K ct W H v (.int i)) : v = .int i := by
  rcases h with h | ⟨a, rfl, c⟩
  · cases h; rfl
  · cases c
theorem RdH.bl {i : Bool} (h : RdH K ct W H v (.bl i)) : v = .bl i := by
  rcases h with h | ⟨a, rfl, c⟩
  · cases h; rfl
  · cases c
theorem RdH.str {i : Str} (h : RdH K ct W H v (.str i)) : v = .str i := by
  rcases h with h | ⟨a, rfl, c⟩
  · cases h; rfl
  · cases c
theorem RdH.non (h : RdH K ct W H v .non) : v = .non := by
  rcases h with h | ⟨a, rfl, c⟩
  · cases h; rfl
  · cases c
end

/-! readings by functions -/
abbrev Sem := List Slot → Sto → Option (R × Sto)
abbrev SemA := List Slot → Sto → Option (List R × Sto)
section
variable (K : PySem.W.Frag) (ct : CT)
def tE (e : Sem) : TE := fun σ H Q => ∃ F W L env st r st', Rel K ct F W L env st σ H ∧ e env st = some (r, st') ∧
  ∀ v H' W' L', W.le W' → Rel K ct F W' L' env st' σ H' → RepR K ct F W' L' H' env σ v r → Q v H'
def tT (e : Sem) : TT := fun σ H Q => ∃ F W L env st b st', Rel K ct F W L env st σ H ∧ e env st = some (.sh (.bl b), st') ∧
  ∀ H' W' L', W.le W' → Rel K ct F W' L' env st' σ H' → Q b H'
inductive RdRs (W : Wd) (env : List Slot) (σ : St) : List V → List R → Prop
  | nil : RdRs W env σ [] []
  | cons {v : V} {vs : List V} {r : R} {rs : List R} : RdR K ct W env σ v r → RdRs W env σ vs rs → RdRs W env σ (v :: vs) (r :: rs)
def tA (e : SemA) : TA := fun σ H Q => ∃ F W L env st rs st', Rel K ct F W L env st σ H ∧ e env st = some (rs, st') ∧
  ∀ vs H' W' L', W.le W' → Rel K ct F W' L' env st' σ H' → RdRs K ct W' env σ vs rs → Q vs H'
end
structure SE (X : Cx) (ct : CT) (x : Expr) (e : Sem) : Prop where
  pe : PE X x (tE X.K ct e)
structure ST (X : Cx) (ct : CT) (x : Expr) (e : Sem) : Prop where
  pt : PT X x (tT X.K ct e)
structure SW (X : Cx) (ct : CT) (x : Expr) (e : Sem) : Prop where
  pw : PW X x (tT X.K ct e)
structure SA (X : Cx) (ct : CT) (xs : List Expr) (e : SemA) : Prop where
  pa : PA X xs (tA X.K ct e)
theorem pe_mono {X : Cx} {x : Expr} {t t' : TE} (h : PE X x t) (k : ∀ σ H Q, t' σ H Q → t σ H Q) : PE X x t' := ⟨fun pins s σ H Q I q => h.run pins s σ H Q I (k σ H Q q)⟩
theorem pt_mono {X : Cx} {x : Expr} {t t' : TT} (h : PT X x t) (k : ∀ σ H Q, t' σ H Q → t σ H Q) : PT X x t' := ⟨fun pins s σ H Q I q => h.run pins s σ H Q I (k σ H Q q)⟩
theorem pw_mono {X : Cx} {x : Expr} {t t' : TT} (h : PW X x t) (k : ∀ σ H Q, t' σ H Q → t σ H Q) : PW X x t' := ⟨fun wh pins s σ H Q I q => h.run wh pins s σ H Q I (k σ H Q q)⟩
theorem pa_mono {X : Cx} {x : List Expr} {t t' : TA} (h : PA X x t) (k : ∀ σ H Q, t' σ H Q → t σ H Q) : PA X x t' := ⟨fun pos pins s σ H Q I q => h.run pos pins s σ H Q I (k σ H Q q)⟩
theorem RdRs.mono {K : PySem.W.Frag} {ct : CT} {W W' : Wd} {env : List Slot} {σ : St} (l : W.le W') : ∀ {vs : List V} {rs : List R}, RdRs K ct W env σ vs rs → RdRs K ct W' env σ vs rs
  | _, _, .nil => .nil
  | _, _, .cons h r => .cons (h.mono l) (RdRs.mono l r)
end Kn
namespace Kn
open PySem L2

section
variable {X : Cx} {ct : CT} {pos : Pos}
theorem R.pin_d (r : R) : r.pin.d = r.d := by cases r <;> rfl
/-! names and constants -/
def eVar (i : Nat) : Sem := fun env st => match env[i]? with
  | some (.sh d) => some (.sh d, st)
  | some (.ow d) => some (.bw i d, st)
  | _ => none
def eC (d : D) : Sem := fun _ st => some (.sh d, st)
theorem se_var (i : Nat) {x : Str} (hN : X.N[i]? = some x := by rfl) (hv : Vis X.env.scope x := by first | exact Or.inl rfl | exact Or.inr (Or.inl rfl) | exact Or.inr (Or.inr rfl)) (hd : (x == ("__debug__" : Str)) = false := by decide)
    (hcd : (x == ("__classdict__" : Str)) = false := by decide) : SE X ct (.Name x pos) (eVar i) := by
  refine ⟨pe_mono (pe_var hN hv hd hcd) fun σ H Q ⟨F, W, L, env, st, r, st', I, e, k⟩ => ?_⟩
  unfold eVar at e
  split at e
  · rename_i d he
    cases e
    obtain ⟨v, h1, h2⟩ := I.sl i _ he
    exact ⟨v, h1, k v H W L (.refl W) I h2⟩
  · rename_i d he
    cases e
    obtain ⟨a, h1, h2⟩ := I.sl i _ he
    exact ⟨_, h1, k _ H W L (.refl W) I ⟨he, h1⟩⟩
  · cases e
theorem se_const {x : Expr} {v : V} {d : D} (h : PE X x (tC v)) (r : ∀ W, Rep X.K ct W v d) : SE X ct x (eC d) := by
  refine ⟨pe_mono h fun σ H Q ⟨F, W, L, env, st, r', st', I, e, k⟩ => ?_⟩
  cases e
  exact k v H W L (.refl W) I (r W)
theorem se_int {i j} : SE X ct (.Constant (.int i) j pos) (eC (.int i)) := se_const pe_int fun _ => .int i
theorem se_bl {i j} : SE X ct (.Constant (.bool i) j pos) (eC (.bl i)) := se_const pe_bl fun _ => .bl i
theorem se_str {i j} : SE X ct (.Constant (.str i) j pos) (eC (.str i)) := se_const pe_str fun _ => .str i
theorem se_non {j} : SE X ct (.Constant .none j pos) (eC .non) := se_const pe_non fun _ => .non

/-! two operands -/
def e2 (f : D → D → Option R) (a b : Sem) : Sem := fun env st => (a env st).bind fun p => (b env p.2).bind fun q => (f p.1.d q.1.d).map fun r => (r, q.2)
def e1 (f : D → Option R) (a : Sem) : Sem := fun env st => (a env st).bind fun p => (f p.1.d).map fun r => (r, p.2)
def OpS (K : PySem.W.Frag) (ct : CT) (rr : R2) (f : D → D → Option R) : Prop := ∀ F W L env st σ H x y d1 d2 r Q, Rel K ct F W L env st σ H → RdH K ct W H x d1 → RdH K ct W H y d2 → f d1 d2 = some r →
  (∀ v H' W' L', W.le W' → Rel K ct F W' L' env st σ H' → RepR K ct F W' L' H' env σ v r → Q v H') → rr x y H Q
def UnS (K : PySem.W.Frag) (ct : CT) (rr : V → Hp → VK → Prop) (f : D → Option R) : Prop := ∀ F W L env st σ H x d1 r Q, Rel K ct F W L env st σ H → RdH K ct W H x d1 → f d1 = some r →
  (∀ v H' W' L', W.le W' → Rel K ct F W' L' env st σ H' → RepR K ct F W' L' H' env σ v r → Q v H') → rr x H Q
theorem bind2 {α β : Type} {o : Option α} {f : α → Option β} {b : β} (h : o.bind f = some b) : ∃ a, o = some a ∧ f a = some b := by
  cases o with
  | none => cases h
  | some a => exact ⟨a, rfl, h⟩
theorem map2 {α β : Type} {o : Option α} {f : α → β} {b : β} (h : o.map f = some b) : ∃ a, o = some a ∧ f a = b := by
  cases o with
  | none => cases h
  | some a => exact ⟨a, rfl, Option.some.inj h⟩
theorem tE_e2 {K : PySem.W.Frag} {rr : R2} {f : D → D → Option R} {a b : Sem} (os : OpS K ct rr f) {σ : St} {H : Hp} {Q : VK} (h : tE K ct (e2 f a b) σ H Q) : tOp rr (tE K ct a) (tE K ct b) σ H Q := by
  obtain ⟨F, W, L, env, st, r, st', I, e, k⟩ := h
  obtain ⟨⟨r1, st1⟩, h1, e⟩ := bind2 e
  obtain ⟨⟨r2, st2⟩, h2, e⟩ := bind2 e
  obtain ⟨r3, h3, e⟩ := map2 e
  cases e
  refine ⟨F, W, L, env, st, r1, st1, I, h1, fun x H1 W1 L1 l1 I1 p1 => ?_⟩
  obtain ⟨W1', m1, J1, q1⟩ := I1.pin p1
  refine ⟨F, W1', L1, env, st1, r2, st2, J1, h2, fun y H2 W2 L2 l2 I2 p2 => ?_⟩
  obtain ⟨W2', m2, J2, q2⟩ := I2.pin p2
  have q1' := J2.look (q1.mono (l2.trans m2))
  have q2' := J2.look q2
  rw [R.pin_d] at q1' q2'
  exact os F W2' L2 env st2 σ H2 x y _ _ _ Q J2 q1' q2' h3 fun v H' W' L' l' I' p' => k v H' W' L' (l1.trans (m1.trans (l2.trans (m2.trans l')))) I' p'
theorem tE_e1 {K : PySem.W.Frag} {rr : V → Hp → VK → Prop} {f : D → Option R} {a : Sem} (os : UnS K ct rr f) {σ : St} {H : Hp} {Q : VK} (h : tE K ct (e1 f a) σ H Q) : tUn rr (tE K ct a) σ H Q := by
  obtain ⟨F, W, L, env, st, r, st', I, e, k⟩ := h
  obtain ⟨⟨r1, st1⟩, h1, e⟩ := bind2 e
  obtain ⟨r3, h3, e⟩ := map2 e
  cases e
  refine ⟨F, W, L, env, st, r1, st1, I, h1, fun x H1 W1 L1 l1 I1 p1 => ?_⟩
  obtain ⟨W1', m1, J1, q1⟩ := I1.pin p1
  have q1' := J1.look q1
  rw [R.pin_d] at q1'
  exact os F W1' L1 env st1 σ H1 x _ _ Q J1 q1' h3 fun v H' W' L' l' I' p' => k v H' W' L' (l1.trans (m1.trans l')) I' p'
theorem se_op {op : Operator} {rr : R2} {f : D → D → Option R} {x y : Expr} {a b : Sem} (ho : OpR X (binaryOp op) rr) (os : OpS X.K ct rr f) (ha : SE X ct x a) (hb : SE X ct y b) : SE X ct (.BinOp x op y pos) (e2 f a b) :=
  ⟨pe_mono (pe_op ho ha.pe hb.pe) fun _ _ _ h => tE_e2 os h⟩
theorem se_un {op : UnaryOp} {rr : V → Hp → VK → Prop} {f : D → Option R} {x : Expr} {a : Sem} (ho : UnR X (unaryOp op) rr) (os : UnS X.K ct rr f) (ha : SE X ct x a) : SE X ct (.UnaryOp op x pos) (e1 f a) :=
  ⟨pe_mono (pe_un ho ha.pe) fun _ _ _ h => tE_e1 os h⟩
theorem se_cmp {op : CmpOp} {rr : R2} {f : D → D → Option R} {x y : Expr} {a b : Sem} (ho : OpR X (compareOp op) rr) (os : OpS X.K ct rr f) (hm : behindInMarks op y = false) (ha : SE X ct x a) (hb : SE X ct y b) : SE X ct (.Compare x [op] [y] pos) (e2 f a b) :=
  ⟨pe_mono (pe_cmpR ho ha.pe hb.pe hm) fun _ _ _ h => tE_e2 os h⟩
theorem tT_tE {K : PySem.W.Frag} {a : Sem} {σ : St} {H : Hp} {Q : Bool → Hp → Prop} (h : tT K ct a σ H Q) : tE K ct a σ H (fun x H' => ∃ k, x = .bl k ∧ Q k H') := by
  obtain ⟨F, W, L, env, st, b, st', I, e, k⟩ := h
  refine ⟨F, W, L, env, st, _, st', I, e, fun v H' W' L' l I' p => ⟨b, ?_, k H' W' L' l I'⟩⟩
  cases (show Rep K ct W' v (.bl b) from p)
  rfl
theorem st_cmp {op : CmpOp} {rr : R2} {f : D → D → Option R} {x y : Expr} {a b : Sem} (ho : OpR X (compareOp op) rr) (os : OpS X.K ct rr f) (hm : behindInMarks op y = false) (ha : SE X ct x a) (hb : SE X ct y b) : ST X ct (.Compare x [op] [y] pos) (e2 f a b) :=
  ⟨pt_mono (pt_cmpR ho ha.pe hb.pe hm) fun _ _ _ h => tE_e2 os (tT_tE h)⟩
/-- a truth as a test -/
theorem st_val {x : Expr} {a : Sem} (h : SE X ct x a) (he : ∀ whole, isTrue x X.env whole = (do let v ← whole; standAt x.pos; holding [v] (truthy v)) := by intro _; rfl) : ST X ct x a :=
  ⟨pt_mono (pt_val h.pe he) fun _ _ _ h => tT_tE h⟩

/-! chains: a op b op' c -/
def eChain (f g : D → D → Option R) (a b c : Sem) : Sem := fun env st => (a env st).bind fun p => (b env p.2).bind fun q => (f p.1.d q.1.d).bind fun r => match r with
  | .sh (.bl true) => (c env q.2).bind fun u => (g q.1.d u.1.d).map fun r => (r, u.2)
  | .sh (.bl false) => some (.sh (.bl false), q.2)
  | _ => none
theorem tE_chain {K : PySem.W.Frag} {rr rr' : R2} {f g : D → D → Option R} {a b c : Sem} (os : OpS K ct rr f) (os' : OpS K ct rr' g) {σ : St} {H : Hp} {Q : VK} (h : tE K ct (eChain f g a b c) σ H Q) : tChain rr rr' (tE K ct a) (tE K ct b) (tE K ct c) σ H Q := by
  obtain ⟨F, W, L, env, st, r, st', I, e, k⟩ := h
  obtain ⟨⟨r1, st1⟩, h1, e⟩ := bind2 e
  obtain ⟨⟨r2, st2⟩, h2, e⟩ := bind2 e
  obtain ⟨r3, h3, e⟩ := bind2 e
  refine ⟨F, W, L, env, st, r1, st1, I, h1, fun x H1 W1 L1 l1 I1 p1 => ?_⟩
  obtain ⟨W1', m1, J1, q1⟩ := I1.pin p1
  refine ⟨F, W1', L1, env, st1, r2, st2, J1, h2, fun y H2 W2 L2 l2 I2 p2 => ?_⟩
  obtain ⟨W2', m2, J2, q2⟩ := I2.pin p2
  have q1' := J2.look (q1.mono (l2.trans m2))
  have q2' := J2.look q2
  rw [R.pin_d] at q1' q2'
  refine os F W2' L2 env st2 σ H2 x y _ _ _ _ J2 q1' q2' h3 fun v H3 W3 L3 l3 I3 p3 => ?_
  have le3 := l1.trans (m1.trans (l2.trans (m2.trans l3)))
  cases r3 with
  | ow d => cases e
  | bw i d => cases e
  | sh d =>
    cases d with
    | bl b =>
      cases (show Rep K ct W3 v (.bl b) from p3)
      refine ⟨b, rfl, ?_⟩
      cases b with
      | false =>
        cases e
        exact iteF (k _ _ _ _ le3 I3 (.bl false))
      | true =>
        refine iteT ?_
        obtain ⟨⟨r4, st4⟩, h4, e⟩ := bind2 e
        obtain ⟨r5, h5, e⟩ := map2 e
        cases e
        refine ⟨F, W3, L3, env, st2, r4, st4, I3, h4, fun z H4 W4 L4 l4 I4 p4 => ?_⟩
        obtain ⟨W4', m4, J4, q4⟩ := I4.pin p4
        have q4' := J4.look q4
        have q2'' := J4.look (q2.mono (l3.trans (l4.trans m4)))
        rw [R.pin_d] at q4' q2''
        exact os' F W4' L4 env st4 σ H4 y z _ _ _ Q J4 q2'' q4' h5 fun v H' W' L' l' I' p' => k v H' W' L' (le3.trans (l4.trans (m4.trans l'))) I' p'
    | _ => cases e
theorem se_chain {op op' : CmpOp} {rr rr' : R2} {f g : D → D → Option R} {x y z : Expr} {a b c : Sem} (ho : OpR X (compareOp op) rr) (os : OpS X.K ct rr f) (ho' : OpR X (compareOp op') rr') (os' : OpS X.K ct rr' g) (ha : SE X ct x a) (hb : SE X ct y b) (hc : SE X ct z c)
    (hm : lastMarks [op, op'] [y, z] = false := by with_unfolding_all rfl) : SE X ct (.Compare x [op, op'] [y, z] pos) (eChain f g a b c) := ⟨pe_mono (pe_chain ho ho' ha.pe hb.pe hc.pe hm) fun _ _ _ h => tE_chain os os' h⟩
theorem st_chain {op op' : CmpOp} {rr rr' : R2} {f g : D → D → Option R} {x y z : Expr} {a b c : Sem} (ho : OpR X (compareOp op) rr) (os : OpS X.K ct rr f) (ho' : OpR X (compareOp op') rr') (os' : OpS X.K ct rr' g) (ha : SE X ct x a) (hb : SE X ct y b) (hc : SE X ct z c)
    (hm : lastMarks [op, op'] [y, z] = false := by with_unfolding_all rfl) : ST X ct (.Compare x [op, op'] [y, z] pos) (eChain f g a b c) := ⟨pt_mono (pt_chain ho ho' ha.pe hb.pe hc.pe hm) fun _ _ _ h => tE_chain os os' (tT_tE h)⟩

/-! and, or, not, if-else -/
def eAnd (a b : Sem) : Sem := fun env st => (a env st).bind fun p => match p.1 with
  | .sh (.bl true) => b env p.2
  | .sh (.bl false) => some (.sh (.bl false), p.2)
  | _ => none
def eOr (a b : Sem) : Sem := fun env st => (a env st).bind fun p => match p.1 with
  | .sh (.bl false) => b env p.2
  | .sh (.bl true) => some (.sh (.bl true), p.2)
  | _ => none
def eNot (a : Sem) : Sem := fun env st => (a env st).bind fun p => match p.1 with
  | .sh (.bl b) => some (.sh (.bl (!b)), p.2)
  | _ => none
def eIf (c a b : Sem) : Sem := fun env st => (c env st).bind fun p => match p.1 with
  | .sh (.bl true) => a env p.2
  | .sh (.bl false) => b env p.2
  | _ => none
theorem eAnd_inv {a b : Sem} {env st r st'} (h : eAnd a b env st = some (r, st')) : (∃ st1, a env st = some (.sh (.bl true), st1) ∧ b env st1 = some (r, st')) ∨ (a env st = some (.sh (.bl false), st') ∧ r = .sh (.bl false)) := by
  obtain ⟨⟨r1, st1⟩, h1, h⟩ := bind2 h
  cases r1 with
  | sh d =>
    cases d with
    | bl b =>
      cases b with
      | true => exact .inl ⟨st1, h1, h⟩
      | false => cases h; exact .inr ⟨h1, rfl⟩
    | _ => cases h
  | _ => cases h
theorem eOr_inv {a b : Sem} {env st r st'} (h : eOr a b env st = some (r, st')) : (∃ st1, a env st = some (.sh (.bl false), st1) ∧ b env st1 = some (r, st')) ∨ (a env st = some (.sh (.bl true), st') ∧ r = .sh (.bl true)) := by
  obtain ⟨⟨r1, st1⟩, h1, h⟩ := bind2 h
  cases r1 with
  | sh d =>
    cases d with
    | bl b =>
      cases b with
      | false => exact .inl ⟨st1, h1, h⟩
      | true => cases h; exact .inr ⟨h1, rfl⟩
    | _ => cases h
  | _ => cases h
theorem eIf_inv {c a b : Sem} {env st r st'} (h : eIf c a b env st = some (r, st')) : ∃ k st1, c env st = some (.sh (.bl k), st1) ∧ (if k = true then a env st1 else b env st1) = some (r, st') := by
  obtain ⟨⟨r1, st1⟩, h1, h⟩ := bind2 h
  cases r1 with
  | sh d =>
    cases d with
    | bl k =>
      refine ⟨k, st1, h1, ?_⟩
      cases k with
      | false => exact h
      | true => exact h
    | _ => cases h
  | _ => cases h
theorem eNot_inv {a : Sem} {env st r st'} (h : eNot a env st = some (r, st')) : ∃ k, a env st = some (.sh (.bl k), st') ∧ r = .sh (.bl (!k)) := by
  obtain ⟨⟨r1, st1⟩, h1, h⟩ := bind2 h
  cases r1 with
  | sh d =>
    cases d with
    | bl k => cases h; exact ⟨k, h1, rfl⟩
    | _ => cases h
  | _ => cases h
theorem st_not {x : Expr} {a : Sem} (h : ST X ct x a) : ST X ct (.UnaryOp .Not x pos) (eNot a) := by
  refine ⟨pt_mono (pt_not h.pt) fun σ H Q ⟨F, W, L, env, st, b, st', I, e, k⟩ => ?_⟩
  obtain ⟨k', h1, h2⟩ := eNot_inv e
  cases h2
  refine ⟨F, W, L, env, st, k', st', I, h1, fun H' W' L' l I' => ?_⟩
  exact k H' W' L' l I'
theorem se_not {x : Expr} {a : Sem} (h : SE X ct x a) : SE X ct (.UnaryOp .Not x pos) (eNot a) := by
  refine ⟨pe_mono (pe_not h.pe) fun σ H Q ⟨F, W, L, env, st, r, st', I, e, k⟩ => ?_⟩
  obtain ⟨k', h1, h2⟩ := eNot_inv e
  cases h2
  refine ⟨F, W, L, env, st, _, st', I, h1, fun v H' W' L' l I' p => ?_⟩
  cases (show Rep X.K ct W' v (.bl k') from p)
  exact ⟨k', rfl, k _ H' W' L' l I' (.bl _)⟩
variable {rest : List Expr} {x y : Expr} {a b c : Sem}
theorem sw_and1 (h : ST X ct x a) : SW X ct (.BoolOp .And [x] pos) a := ⟨pw_and1 h.pt⟩
theorem sw_or1 (h : ST X ct x a) : SW X ct (.BoolOp .Or [x] pos) a := ⟨pw_or1 h.pt⟩
theorem sw_and (h : ST X ct x a) (k : SW X ct (.BoolOp .And (y :: rest) pos) b) : SW X ct (.BoolOp .And (x :: y :: rest) pos) (eAnd a b) := by
  refine ⟨pw_mono (pw_and h.pt k.pw) fun σ H Q ⟨F, W, L, env, st, r, st', I, e, k⟩ => ?_⟩
  rcases eAnd_inv e with ⟨st1, h1, h2⟩ | ⟨h1, h2⟩
  · refine ⟨F, W, L, env, st, true, st1, I, h1, fun H' W' L' l I' => ?_⟩
    exact iteT ⟨F, W', L', env, st1, r, st', I', h2, fun H2 W2 L2 l2 I2 => k H2 W2 L2 (l.trans l2) I2⟩
  · cases h2
    refine ⟨F, W, L, env, st, false, st', I, h1, fun H' W' L' l I' => ?_⟩
    exact iteF (k H' W' L' l I')
theorem sw_or (h : ST X ct x a) (k : SW X ct (.BoolOp .Or (y :: rest) pos) b) : SW X ct (.BoolOp .Or (x :: y :: rest) pos) (eOr a b) := by
  refine ⟨pw_mono (pw_or h.pt k.pw) fun σ H Q ⟨F, W, L, env, st, r, st', I, e, k⟩ => ?_⟩
  rcases eOr_inv e with ⟨st1, h1, h2⟩ | ⟨h1, h2⟩
  · refine ⟨F, W, L, env, st, false, st1, I, h1, fun H' W' L' l I' => ?_⟩
    exact iteF ⟨F, W', L', env, st1, r, st', I', h2, fun H2 W2 L2 l2 I2 => k H2 W2 L2 (l.trans l2) I2⟩
  · cases h2
    refine ⟨F, W, L, env, st, true, st', I, h1, fun H' W' L' l I' => ?_⟩
    exact iteT (k H' W' L' l I')
theorem se_one {op} (h : SE X ct x a) : SE X ct (.BoolOp op [x] pos) a := ⟨pe_one h.pe⟩
theorem se_and (h : SE X ct x a) (k : SE X ct (.BoolOp .And (y :: rest) pos) b) : SE X ct (.BoolOp .And (x :: y :: rest) pos) (eAnd a b) := by
  refine ⟨pe_mono (pe_and h.pe k.pe) fun σ H Q ⟨F, W, L, env, st, r, st', I, e, k⟩ => ?_⟩
  rcases eAnd_inv e with ⟨st1, h1, h2⟩ | ⟨h1, h2⟩
  · refine ⟨F, W, L, env, st, _, st1, I, h1, fun v H' W' L' l I' p => ?_⟩
    cases (show Rep X.K ct W' v (.bl true) from p)
    exact ⟨true, rfl, iteT ⟨F, W', L', env, st1, r, st', I', h2, fun v H2 W2 L2 l2 I2 => k v H2 W2 L2 (l.trans l2) I2⟩⟩
  · cases h2
    refine ⟨F, W, L, env, st, _, st', I, h1, fun v H' W' L' l I' p => ?_⟩
    cases (show Rep X.K ct W' v (.bl false) from p)
    exact ⟨false, rfl, iteF (k _ H' W' L' l I' (.bl false))⟩
theorem se_or (h : SE X ct x a) (k : SE X ct (.BoolOp .Or (y :: rest) pos) b) : SE X ct (.BoolOp .Or (x :: y :: rest) pos) (eOr a b) := by
  refine ⟨pe_mono (pe_or h.pe k.pe) fun σ H Q ⟨F, W, L, env, st, r, st', I, e, k⟩ => ?_⟩
  rcases eOr_inv e with ⟨st1, h1, h2⟩ | ⟨h1, h2⟩
  · refine ⟨F, W, L, env, st, _, st1, I, h1, fun v H' W' L' l I' p => ?_⟩
    cases (show Rep X.K ct W' v (.bl false) from p)
    exact ⟨false, rfl, iteF ⟨F, W', L', env, st1, r, st', I', h2, fun v H2 W2 L2 l2 I2 => k v H2 W2 L2 (l.trans l2) I2⟩⟩
  · cases h2
    refine ⟨F, W, L, env, st, _, st', I, h1, fun v H' W' L' l I' p => ?_⟩
    cases (show Rep X.K ct W' v (.bl true) from p)
    exact ⟨true, rfl, iteT (k _ H' W' L' l I' (.bl true))⟩
theorem se_if {z : Expr} (hc : ST X ct z c) (ha : SE X ct x a) (hb : SE X ct y b) : SE X ct (.IfExp z x y pos) (eIf c a b) := by
  refine ⟨pe_mono (pe_ifExp hc.pt ha.pe hb.pe) fun σ H Q ⟨F, W, L, env, st, r, st', I, e, k⟩ => ?_⟩
  obtain ⟨k', st1, h1, h2⟩ := eIf_inv e
  refine ⟨F, W, L, env, st, k', st1, I, h1, fun H' W' L' l I' => ?_⟩
  cases k' with
  | true => exact iteT ⟨F, W', L', env, st1, r, st', I', h2, fun v H2 W2 L2 l2 I2 => k v H2 W2 L2 (l.trans l2) I2⟩
  | false => exact iteF ⟨F, W', L', env, st1, r, st', I', h2, fun v H2 W2 L2 l2 I2 => k v H2 W2 L2 (l.trans l2) I2⟩
theorem SW.st (h : SW X ct x a) : ST X ct x a := ⟨h.pw.pt⟩
end
end Kn
namespace Kn
open PySem L2

/-! data as the library's -/
mutual
def D.py : D → PyData
  | .non => .none
  | .bl b => .bool b
  | .int i => .int i
  | .str x => .str x
  | .lst ds => .list (D.pyL ds)
  | .tup ds => .tuple (D.pyL ds)
  | .scr ns => .list (ns.map .int)
  | _ => .dict []
def D.pyL : List D → List PyData
  | [] => []
  | d :: ds => d.py :: D.pyL ds
end
theorem D.pyL_eq : ∀ ds : List D, D.pyL ds = ds.map D.py
  | [] => rfl
  | d :: ds => by rw [D.pyL, D.pyL_eq ds]; rfl
theorem dp_ints (K : PySem.W.Frag) (H : Hp) : ∀ ns : List Int, DpAll K H (ns.map V.int) (ns.map PyData.int)
  | [] => .nil
  | n :: ns => .cons (.int n) (dp_ints K H ns)
section
variable {K : PySem.W.Frag} {ct : CT} {W : Wd} {H : Hp}
mutual
theorem Rep.dp (e : ∀ a o, W.hs a = some o → H a = some o) (e' : ∀ a vs, W.tp a = some vs → H a = some (.tup vs)) : ∀ {v : V} {d : D}, Rep K ct W v d → d.py.canLay0 = true → Dp K H v d.py
  | _, _, .non, _ => .non
  | _, _, .bl b, _ => .bl b
  | _, _, .int i, _ => .int i
  | _, _, .str x, _ => .str x
  | _, _, .lst h r, c => by
    rw [D.py] at c ⊢
    exact .lst (SqL.of (e _ _ h)) (RepL.dp e e' r (by simpa [PyData.canLay0] using c))
  | _, _, .tup h r, c => by
    rw [D.py] at c ⊢
    exact .tup (SqT.of (e' _ _ h)) (RepL.dp e e' r (by simpa [PyData.canLay0] using c))
  | _, _, .scr h, c => by
    rw [D.py]
    exact .lst (sq_mono e h) (dp_ints K H _)
  | _, _, .dic h _ r, c => by simp [D.py, PyData.canLay0] at c
  | _, _, .obj h _ _ r, c => by simp [D.py, PyData.canLay0] at c
  | _, _, .hnd h, c => by simp [D.py, PyData.canLay0] at c
theorem RepL.dp (e : ∀ a o, W.hs a = some o → H a = some o) (e' : ∀ a vs, W.tp a = some vs → H a = some (.tup vs)) : ∀ {vs : List V} {ds : List D}, RepL K ct W vs ds → PyData.canLayAll0 (D.pyL ds) = true → DpAll K H vs (D.pyL ds)
  | _, _, .nil, _ => by rw [D.pyL]; exact .nil
  | _, _, .cons h r, c => by
    rw [D.pyL] at c ⊢
    rw [PyData.canLayAll0, Bool.and_eq_true] at c
    exact .cons (Rep.dp e e' h c.1) (RepL.dp e e' r c.2)
end
theorem RdH.dp {F : Hp} {L : Addr → Option Lab} {env : List Slot} {st : Sto} {σ : St} {v : V} {d : D} (h : RdH K ct W H v d) (I : Rel K ct F W L env st σ H) (c : SeqAt.shaped d.py = true) : Dp K H v d.py := by
  have c := SeqAt.canLay_of_shaped c
  rcases h with h | ⟨a, rfl, cl⟩
  · exact h.dp (fun a o e => (I.hs a o e).1) I.tp c
  · cases cl with
    | lst h q =>
      rw [D.py] at c ⊢
      exact .lst (SqL.of h) (q.dp (fun a o e => (I.hs a o e).1) I.tp (by simpa [PyData.canLay0] using c))
    | dic h _ q => simp [D.py, PyData.canLay0] at c
    | obj h _ _ q => simp [D.py, PyData.canLay0] at c
end

/-! operators -/
section
variable {X : Cx} {ct : CT} {pos : Pos}
theorem fresh_out {K : PySem.W.Frag} {F H : Hp} {W : Wd} {L : Addr → Option Lab} {env : List Slot} {st : Sto} {σ : St} {Q : VK} {d : D} {o : HO} {p : Addr} (I : Rel K ct F W L env st σ H) (hp : H p = none) (c : Cell K ct W (upd H p o) p d)
    (k : ∀ v H' W' L', W.le W' → Rel K ct F W' L' env st σ H' → RepR K ct F W' L' H' env σ v (.ow d) → Q v H') : Q (.ref p) (upd H p o) := by
  obtain ⟨I', h1, h2, h3⟩ := I.laid (o := o) hp
  exact k _ _ W _ (.refl W) I' ⟨p, rfl, h1, h2, h3, c⟩
theorem tup_out {K : PySem.W.Frag} {F H : Hp} {W : Wd} {L : Addr → Option Lab} {env : List Slot} {st : Sto} {σ : St} {Q : VK} {ds : List D} {vs : List V} {p : Addr} (I : Rel K ct F W L env st σ H) (hp : H p = none) (r : RepL K ct W vs ds)
    (k : ∀ v H' W' L', W.le W' → Rel K ct F W' L' env st σ H' → RepR K ct F W' L' H' env σ v (.sh (.tup ds)) → Q v H') : Q (.ref p) (upd H p (.tup vs)) := by
  obtain ⟨I', _⟩ := I.laid (o := .tup vs) hp
  obtain ⟨le, J, e⟩ := I'.shareT (p := p) upd_same
  exact k _ _ _ _ le J (Rep.tup e (r.mono le))

def fAdd : D → D → Option R
  | .int i, .int j => some (.sh (.int (i + j)))
  | .str a, .str b => if a.length + b.length ≤ sizeLine then some (.sh (.str (a ++ b))) else none
  | .lst a, .lst b => if a.length + b.length ≤ sizeLine then some (.ow (.lst (a ++ b))) else none
  | .tup (a :: as), .tup (b :: bs) => if (a :: as).length + (b :: bs).length ≤ sizeLine then some (.sh (.tup ((a :: as) ++ (b :: bs)))) else none
  | _, _ => none
def rrAdd (K : PySem.W.Frag) : R2 := fun x y H Q => (rI0 fun i j => .int (i + j)) x y H Q ∨ (∃ i j, x = .str i ∧ y = .str j ∧ i.length + j.length ≤ sizeLine ∧ Q (.str (i ++ j)) H) ∨ rCat x y H Q ∨ rCatT K x y H Q
theorem op_addA : OpR X (binaryOp .Add) (rrAdd X.K) := OpR.or op_add (OpR.or op_add_str (OpR.or op_cat op_catT))
theorem os_add {K : PySem.W.Frag} : OpS K ct (rrAdd K) fAdd := by
  intro F W L env st σ H x y d1 d2 r Q I h1 h2 e k
  unfold fAdd at e
  split at e
  · cases e
    exact .inl ⟨_, _, h1.int, h2.int, k _ H W L (.refl W) I (.int _)⟩
  · split at e <;> cases e
    rename_i c
    exact .inr (.inl ⟨_, _, h1.str, h2.str, c, k _ H W L (.refl W) I (.str _)⟩)
  · split at e <;> cases e
    rename_i c
    obtain ⟨a, vs, rfl, g1, q1⟩ := h1.list I
    obtain ⟨b, ws, rfl, g2, q2⟩ := h2.list I
    refine .inr (.inr (.inl ⟨a, b, vs, ws, rfl, rfl, g1, g2, by rw [q1.length, q2.length]; exact c, fun p hp => ?_⟩))
    exact fresh_out I hp (.lst upd_same (q1.append q2)) k
  · split at e <;> cases e
    rename_i c
    obtain ⟨a, vs, rfl, g1, q1⟩ := h1.tup I
    obtain ⟨b, ws, rfl, g2, q2⟩ := h2.tup I
    refine .inr (.inr (.inr ⟨a, b, vs, ws, rfl, rfl, SqT.of g1, SqT.of g2, ?_, by rw [q1.length, q2.length]; exact c, ?_⟩))
    · rintro rfl; cases q1
    · refine ⟨?_, fun _ p hp => tup_out I hp (q1.append q2) k⟩
      rintro rfl; cases q2
  · cases e
theorem se_add {x y : Expr} {a b : Sem} (ha : SE X ct x a) (hb : SE X ct y b) : SE X ct (.BinOp x .Add y pos) (e2 fAdd a b) := se_op op_addA os_add ha hb

/-- a rule over two ints -/
def fI (g : Int → Int → Option Int) : D → D → Option R
  | .int i, .int j => (g i j).map fun k => .sh (.int k)
  | _, _ => none
theorem os_I {K : PySem.W.Frag} {C : Int → Int → Prop} {f : Int → Int → Int} {g : Int → Int → Option Int} (h : ∀ i j k, g i j = some k → C i j ∧ k = f i j) : OpS K ct (rI C fun i j => .int (f i j)) (fI g) := by
  intro F W L env st σ H x y d1 d2 r Q I h1 h2 e k
  unfold fI at e
  split at e
  · obtain ⟨m, e1, e2⟩ := map2 e
    subst e2
    obtain ⟨c, rfl⟩ := h _ _ _ e1
    exact ⟨_, _, h1.int, h2.int, c, k _ H W L (.refl W) I (.int _)⟩
  · cases e
def gSub' : Int → Int → Option Int := fun i j => some (i - j)
def gMul : Int → Int → Option Int := fun i j => if i.natAbs.log2 + j.natAbs.log2 < 1000000 then some (i * j) else none
def gDiv : Int → Int → Option Int := fun i j => if 0 < j ∧ j.natAbs.log2 < 9000 then some (i / j) else none
def gMod : Int → Int → Option Int := fun i j => if 0 < j then some (i % j) else none
def gPow : Int → Int → Option Int := fun i j => if 0 ≤ j ∧ j ≤ 1000000 ∧ i.natAbs < 2 ^ 64 then some (i ^ j.toNat) else none
def gShl : Int → Int → Option Int := fun i j => if 0 ≤ j ∧ j ≤ 1000000 ∧ i.natAbs < 2 ^ 64 then some (i * 2 ^ j.toNat) else none
def gShr : Int → Int → Option Int := fun i j => if 0 ≤ j then some (i / 2 ^ j.toNat) else none
variable {x y : Expr} {a b : Sem}
theorem ifs {α : Type} {c : Prop} [Decidable c] {v w : α} (h : (if c then some v else none) = some w) : c ∧ w = v := by
  split at h
  · exact ⟨by assumption, (Option.some.inj h).symm⟩
  · cases h
theorem opI0' {f : Value → Value → PySem.Sem Value} {g : Int → Int → V} (h : OpR X f (rI0 g)) : OpR X f (rI (fun _ _ => True) g) := fun pins s σ H x y v u Q I rx ry ⟨i, j, e1, e2, _, q⟩ => h pins s σ H x y v u Q I rx ry ⟨i, j, e1, e2, q⟩
theorem se_sub (ha : SE X ct x a) (hb : SE X ct y b) : SE X ct (.BinOp x .Sub y pos) (e2 (fI gSub') a b) := se_op (opI0' op_sub) (os_I (f := fun i j => i - j) fun i j k h => ⟨trivial, (Option.some.inj h).symm⟩) ha hb
/-- a product of ints, or a list so many times -/
def fMul : D → D → Option R
  | .int i, .int j => (gMul i j).map fun k => .sh (.int k)
  | .lst ds, .int k => if -(2 ^ 63) ≤ k ∧ k < 2 ^ 63 ∧ ds.length * k.toNat ≤ sizeLine then some (.ow (.lst (List.replicate k.toNat ds).flatten)) else none
  | _, _ => none
theorem op_mulA : OpR X (binaryOp .Mult) (fun x y H Q => (rI CMulW fun i j => .int (i * j)) x y H Q ∨ rRep x y H Q) := OpR.or op_mulW op_rep
theorem os_mul {K : PySem.W.Frag} : OpS K ct (fun x y H Q => (rI CMulW fun i j => .int (i * j)) x y H Q ∨ rRep x y H Q) fMul := by
  intro F W L env st σ H x y d1 d2 r Q I h1 h2 e k
  unfold fMul at e
  split at e
  · obtain ⟨m, e1, e2⟩ := map2 e
    subst e2
    obtain ⟨c, rfl⟩ := ifs e1
    exact .inl ⟨_, _, h1.int, h2.int, c, k _ H W L (.refl W) I (.int _)⟩
  · obtain ⟨c, rfl⟩ := ifs e
    obtain ⟨a, vs, rfl, g1, q1⟩ := h1.list I
    refine .inr ⟨a, _, vs, rfl, h2.int, g1, c.1, c.2.1, by rw [q1.length]; exact c.2.2, fun p hp => ?_⟩
    exact fresh_out I hp (.lst upd_same (q1.rep _)) k
  · cases e
theorem se_mul (ha : SE X ct x a) (hb : SE X ct y b) : SE X ct (.BinOp x .Mult y pos) (e2 fMul a b) := se_op op_mulA os_mul ha hb
theorem se_div (ha : SE X ct x a) (hb : SE X ct y b) : SE X ct (.BinOp x .FloorDiv y pos) (e2 (fI gDiv) a b) := se_op op_fdivW (os_I (C := CDivW) (f := fun i j => i / j) fun i j k h => ⟨(ifs h).1, (ifs h).2⟩) ha hb
theorem se_mod (ha : SE X ct x a) (hb : SE X ct y b) : SE X ct (.BinOp x .Mod y pos) (e2 (fI gMod) a b) := se_op op_mod (os_I (C := fun _ j => 0 < j) (f := fun i j => i % j) fun i j k h => ⟨(ifs h).1, (ifs h).2⟩) ha hb
theorem se_pow (ha : SE X ct x a) (hb : SE X ct y b) : SE X ct (.BinOp x .Pow y pos) (e2 (fI gPow) a b) := se_op op_pow (os_I (C := CPow) (f := fun i j => i ^ j.toNat) fun i j k h => ⟨(ifs h).1, (ifs h).2⟩) ha hb
theorem se_shl (ha : SE X ct x a) (hb : SE X ct y b) : SE X ct (.BinOp x .LShift y pos) (e2 (fI gShl) a b) := se_op op_shl (os_I (C := CPow) (f := fun i j => i * 2 ^ j.toNat) fun i j k h => ⟨(ifs h).1, (ifs h).2⟩) ha hb
theorem se_shr (ha : SE X ct x a) (hb : SE X ct y b) : SE X ct (.BinOp x .RShift y pos) (e2 (fI gShr) a b) := se_op op_shr (os_I (C := fun _ j => 0 ≤ j) (f := fun i j => i / 2 ^ j.toNat) fun i j k h => ⟨(ifs h).1, (ifs h).2⟩) ha hb
theorem se_band (ha : SE X ct x a) (hb : SE X ct y b) : SE X ct (.BinOp x .BitAnd y pos) (e2 (fI fun i j => some (Builtin.bitAnd i j)) a b) := se_op (opI0' op_and) (os_I (f := fun i j => Builtin.bitAnd i j) fun i j k h => ⟨trivial, (Option.some.inj h).symm⟩) ha hb
theorem se_bor (ha : SE X ct x a) (hb : SE X ct y b) : SE X ct (.BinOp x .BitOr y pos) (e2 (fI fun i j => some (Builtin.bitOr i j)) a b) := se_op (opI0' op_or) (os_I (f := fun i j => Builtin.bitOr i j) fun i j k h => ⟨trivial, (Option.some.inj h).symm⟩) ha hb
def fNeg : D → Option R
  | .int i => some (.sh (.int (-i)))
  | _ => none
theorem se_neg (ha : SE X ct x a) : SE X ct (.UnaryOp .USub x pos) (e1 fNeg a) := by
  refine se_un un_neg (fun F W L env st σ H v d r Q I h e k => ?_) ha
  unfold fNeg at e
  split at e <;> cases e
  exact ⟨_, h.int, k _ H W L (.refl W) I (.int _)⟩

/-! comparisons -/
def fC (g : Int → Int → Bool) : D → D → Option R
  | .int i, .int j => some (.sh (.bl (g i j)))
  | _, _ => none
theorem os_C {K : PySem.W.Frag} {g : Int → Int → Bool} : OpS K ct (rI0 fun i j => .bl (g i j)) (fC g) := by
  intro F W L env st σ H x y d1 d2 r Q I h1 h2 e k
  unfold fC at e
  split at e <;> cases e
  exact ⟨_, _, h1.int, h2.int, k _ H W L (.refl W) I (.bl _)⟩
abbrev fLt := fC fun i j => decide (i < j)
abbrev fLe := fC fun i j => decide (i ≤ j)
abbrev fGt := fC fun i j => decide (j < i)
abbrev fGe := fC fun i j => decide (j ≤ i)
theorem se_lt (ha : SE X ct x a) (hb : SE X ct y b) : SE X ct (.Compare x [.Lt] [y] pos) (e2 fLt a b) := se_cmp op_lt os_C (nomark _) ha hb
theorem st_lt (ha : SE X ct x a) (hb : SE X ct y b) : ST X ct (.Compare x [.Lt] [y] pos) (e2 fLt a b) := st_cmp op_lt os_C (nomark _) ha hb
theorem se_le (ha : SE X ct x a) (hb : SE X ct y b) : SE X ct (.Compare x [.LtE] [y] pos) (e2 fLe a b) := se_cmp op_le os_C (nomark _) ha hb
theorem st_le (ha : SE X ct x a) (hb : SE X ct y b) : ST X ct (.Compare x [.LtE] [y] pos) (e2 fLe a b) := st_cmp op_le os_C (nomark _) ha hb
theorem se_gt (ha : SE X ct x a) (hb : SE X ct y b) : SE X ct (.Compare x [.Gt] [y] pos) (e2 fGt a b) := se_cmp op_gt os_C (nomark _) ha hb
theorem st_gt (ha : SE X ct x a) (hb : SE X ct y b) : ST X ct (.Compare x [.Gt] [y] pos) (e2 fGt a b) := st_cmp op_gt os_C (nomark _) ha hb
theorem se_ge (ha : SE X ct x a) (hb : SE X ct y b) : SE X ct (.Compare x [.GtE] [y] pos) (e2 fGe a b) := se_cmp op_ge os_C (nomark _) ha hb
theorem st_ge (ha : SE X ct x a) (hb : SE X ct y b) : ST X ct (.Compare x [.GtE] [y] pos) (e2 fGe a b) := st_cmp op_ge os_C (nomark _) ha hb
theorem se_chLL {z : Expr} {c : Sem} (ha : SE X ct x a) (hb : SE X ct y b) (hc : SE X ct z c) (hm : lastMarks [.LtE, .LtE] [y, z] = false := by with_unfolding_all rfl) : SE X ct (.Compare x [.LtE, .LtE] [y, z] pos) (eChain fLe fLe a b c) := se_chain op_le os_C op_le os_C ha hb hc hm
theorem st_chLL {z : Expr} {c : Sem} (ha : SE X ct x a) (hb : SE X ct y b) (hc : SE X ct z c) (hm : lastMarks [.LtE, .LtE] [y, z] = false := by with_unfolding_all rfl) : ST X ct (.Compare x [.LtE, .LtE] [y, z] pos) (eChain fLe fLe a b c) := st_chain op_le os_C op_le os_C ha hb hc hm
theorem se_chLT {z : Expr} {c : Sem} (ha : SE X ct x a) (hb : SE X ct y b) (hc : SE X ct z c) (hm : lastMarks [.LtE, .Lt] [y, z] = false := by with_unfolding_all rfl) : SE X ct (.Compare x [.LtE, .Lt] [y, z] pos) (eChain fLe fLt a b c) := se_chain op_le os_C op_lt os_C ha hb hc hm
theorem st_chLT {z : Expr} {c : Sem} (ha : SE X ct x a) (hb : SE X ct y b) (hc : SE X ct z c) (hm : lastMarks [.LtE, .Lt] [y, z] = false := by with_unfolding_all rfl) : ST X ct (.Compare x [.LtE, .Lt] [y, z] pos) (eChain fLe fLt a b c) := st_chain op_le os_C op_lt os_C ha hb hc hm

def D.ok (d : D) : Bool := SeqAt.shaped d.py
def D.eq (d e : D) : Bool := PyData.eqv d.py e.py
def fEq (d e : D) : Option R := if d.ok = true ∧ e.ok = true then some (.sh (.bl (d.eq e))) else none
def fNe (d e : D) : Option R := if d.ok = true ∧ e.ok = true then some (.sh (.bl (!d.eq e))) else none
theorem os_eq {K : PySem.W.Frag} : OpS K ct (rEqD K) fEq := by
  intro F W L env st σ H x y d1 d2 r Q I h1 h2 e k
  obtain ⟨c, rfl⟩ := ifs e
  exact ⟨_, _, h1.dp I c.1, h2.dp I c.2, c.1, c.2, k _ H W L (.refl W) I (.bl _)⟩
theorem os_ne {K : PySem.W.Frag} : OpS K ct (rNeD K) fNe := by
  intro F W L env st σ H x y d1 d2 r Q I h1 h2 e k
  obtain ⟨c, rfl⟩ := ifs e
  exact ⟨_, _, h1.dp I c.1, h2.dp I c.2, c.1, c.2, k _ H W L (.refl W) I (.bl _)⟩
theorem se_eq {k : Nat} (hr : Room k X.A) (ha : SE X ct x a) (hb : SE X ct y b) : SE X ct (.Compare x [.Eq] [y] pos) (e2 fEq a b) := se_cmp (op_eqD hr.units) os_eq (nomark _) ha hb
theorem st_eq {k : Nat} (hr : Room k X.A) (ha : SE X ct x a) (hb : SE X ct y b) : ST X ct (.Compare x [.Eq] [y] pos) (e2 fEq a b) := st_cmp (op_eqD hr.units) os_eq (nomark _) ha hb
theorem se_ne {k : Nat} (hr : Room k X.A) (ha : SE X ct x a) (hb : SE X ct y b) : SE X ct (.Compare x [.NotEq] [y] pos) (e2 fNe a b) := se_cmp (op_neD hr.units) os_ne (nomark _) ha hb
theorem st_ne {k : Nat} (hr : Room k X.A) (ha : SE X ct x a) (hb : SE X ct y b) : ST X ct (.Compare x [.NotEq] [y] pos) (e2 fNe a b) := st_cmp (op_neD hr.units) os_ne (nomark _) ha hb
/-- is None -/
def D.isN : D → Bool
  | .non => true
  | _ => false
def fIsN (d : D) : Option R := match d with
  | .hnd _ => none
  | d => some (.sh (.bl d.isN))
def fNotN (d : D) : Option R := match d with
  | .hnd _ => none
  | d => some (.sh (.bl (!d.isN)))
theorem RdH.isN {K : PySem.W.Frag} {W : Wd} {H : Hp} {v : V} {d : D} (h : RdH K ct W H v d) (n : ∀ g, d ≠ .hnd g) : decide (v = .non) = d.isN := by
  rcases h with h | ⟨a, rfl, c⟩
  · cases h <;> first | rfl | (rename_i g _; exact absurd rfl (n _))
  · cases c <;> rfl
theorem us_isN {K : PySem.W.Frag} : UnS K ct (fun x H Q => Q (.bl (decide (x = .non))) H) fIsN := by
  intro F W L env st σ H x d r Q I h e k
  unfold fIsN at e
  split at e
  · cases e
  · rename_i n
    cases e
    show Q (.bl (decide (x = .non))) H
    rw [h.isN n]
    exact k _ H W L (.refl W) I (.bl _)
theorem us_notN {K : PySem.W.Frag} : UnS K ct (fun x H Q => Q (.bl (!decide (x = .non))) H) fNotN := by
  intro F W L env st σ H x d r Q I h e k
  unfold fNotN at e
  split at e
  · cases e
  · rename_i n
    cases e
    show Q (.bl (!decide (x = .non))) H
    rw [h.isN n]
    exact k _ H W L (.refl W) I (.bl _)
theorem se_isN {j pos'} (ha : SE X ct x a) : SE X ct (.Compare x [.Is] [.Constant .none j pos'] pos) (e1 fIsN a) := ⟨pe_mono (pe_cmp (pc_isN ha.pe) rfl) fun _ _ _ h => tE_e1 us_isN h⟩
theorem se_notN {j pos'} (ha : SE X ct x a) : SE X ct (.Compare x [.IsNot] [.Constant .none j pos'] pos) (e1 fNotN a) := ⟨pe_mono (pe_cmp (pc_notN ha.pe) rfl) fun _ _ _ h => tE_e1 us_notN h⟩
theorem st_isN {j pos'} (ha : SE X ct x a) : ST X ct (.Compare x [.Is] [.Constant .none j pos'] pos) (e1 fIsN a) := ⟨pt_mono (pt_cmp (pc_isN ha.pe) rfl) fun _ _ _ h => tE_e1 us_isN (tT_tE h)⟩
theorem st_notN {j pos'} (ha : SE X ct x a) : ST X ct (.Compare x [.IsNot] [.Constant .none j pos'] pos) (e1 fNotN a) := ⟨pt_mono (pt_cmp (pc_notN ha.pe) rfl) fun _ _ _ h => tE_e1 us_notN (tT_tE h)⟩
/-- in, not in: a list, a tuple of flat things, a dict -/
def D.flat : D → Bool
  | .non | .bl _ | .int _ | .str _ => true
  | _ => false
def D.key : D → Option Key
  | .int i => some (.inl i)
  | .str x => some (.inr x)
  | _ => none
def valD (kds : List (Key × D)) (k : Key) : Option D := (kds.find? fun kv => decide (kv.1 = k)).map (·.2)
def fInB (x y : D) : Option Bool := match y with
  | .lst ds => if x.ok = true ∧ y.ok = true then some (ds.any fun z => z.eq x) else none
  | .scr ns => if x.ok = true then some ((ns.map D.int).any fun z => z.eq x) else none
  | .tup ds => if x.flat = true ∧ ds.all D.flat = true then some (ds.any fun z => z.eq x) else none
  | .dic kds => x.key.map fun k => (valD kds k).isSome
  | _ => none
def fIn (x y : D) : Option R := (fInB x y).map fun b => .sh (.bl b)
def fNin (x y : D) : Option R := (fInB x y).map fun b => .sh (.bl (!b))
theorem RdH.dic {K : PySem.W.Frag} {F H : Hp} {W : Wd} {L : Addr → Option Lab} {env : List Slot} {st : Sto} {σ : St} {v : V} {kds : List (Key × D)} (h : RdH K ct W H v (.dic kds)) (I : Rel K ct F W L env st σ H) :
    ∃ a kvs, v = .ref a ∧ H a = some (.dK kvs) ∧ kvs.map (·.1) = kds.map (·.1) ∧ RepL K ct W (kvs.map (·.2)) (kds.map (·.2)) := by
  rcases h with h | ⟨a, rfl, c⟩
  · cases h with
    | dic h n q => exact ⟨_, _, rfl, (I.hs _ _ h).1, n, q⟩
  · cases c with
    | dic h n q => exact ⟨a, _, rfl, h, n, q⟩
theorem valD_rep {K : PySem.W.Frag} {W : Wd} (k : Key) : ∀ {kvs : List (Key × V)} {kds : List (Key × D)}, kvs.map (·.1) = kds.map (·.1) → RepL K ct W (kvs.map (·.2)) (kds.map (·.2)) →
    (valV kvs k = none ∧ valD kds k = none) ∨ ∃ v d, valV kvs k = some v ∧ valD kds k = some d ∧ Rep K ct W v d
  | [], [], _, _ => .inl ⟨rfl, rfl⟩
  | [], _ :: _, n, _ => by cases n
  | _ :: _, [], n, _ => by cases n
  | (k1, v) :: kvs, (k2, d) :: kds, n, r => by
    simp only [List.map_cons, List.cons.injEq] at n
    obtain ⟨n1, n2⟩ := n
    cases r with
    | cons h r =>
      by_cases e : k1 = k
      · have e2 : k2 = k := n1.symm.trans e
        exact .inr ⟨v, d, valV_pos e, by simp [valD, List.find?_cons, e2], h⟩
      · have e2 : ¬ k2 = k := fun q => e (n1.trans q)
        have q1 : valV ((k1, v) :: kvs) k = valV kvs k := valV_neg e
        have q2 : valD ((k2, d) :: kds) k = valD kds k := by simp [valD, List.find?_cons, e2]
        rw [q1, q2]
        exact valD_rep k n2 r
theorem D.key_v {K : PySem.W.Frag} {W : Wd} {H : Hp} {v : V} {d : D} {k : Key} (h : RdH K ct W H v d) (e : d.key = some k) : v = kV k := by
  cases d <;> simp only [D.key, Option.some.injEq, reduceCtorEq] at e
  · subst e; exact h.int
  · subst e; exact h.str
theorem any_pyL (x : D) : ∀ ds : List D, (D.pyL ds).any (fun z => PyData.eqv z x.py) = ds.any fun z => z.eq x
  | [] => rfl
  | d :: ds => by rw [D.pyL, List.any_cons, List.any_cons, any_pyL x ds]; rfl
theorem Rep.flat {K : PySem.W.Frag} {W : Wd} {v : V} {d : D} (h : Rep K ct W v d) (f : d.flat = true) : flatV v = true := by
  cases h <;> first | rfl | (cases f; done)
theorem Rep.eqV {K : PySem.W.Frag} {W : Wd} {v w : V} {d e : D} (h : Rep K ct W v d) (k : Rep K ct W w e) (f : d.flat = true) (g : e.flat = true) : eqV v w = d.eq e := by
  cases h <;> first | (cases f; done) | (cases k <;> first | (cases g; done) | (unfold D.eq; simp only [D.py, PyData.eqv, L2.eqV]))
theorem RdH.rep {K : PySem.W.Frag} {W : Wd} {H : Hp} {v : V} {d : D} (h : RdH K ct W H v d) (f : d.flat = true) : Rep K ct W v d := by
  rcases h with h | ⟨a, rfl, c⟩
  · exact h
  · cases c <;> cases f
theorem inV_eq {K : PySem.W.Frag} {W : Wd} {x : V} {d : D} (h : Rep K ct W x d) (f : d.flat = true) : ∀ {vs : List V} {ds : List D}, RepL K ct W vs ds → ds.all D.flat = true → vs.all flatV = true ∧ inV x vs = ds.any fun z => z.eq d
  | _, _, .nil, _ => ⟨rfl, rfl⟩
  | _, _, .cons q r, g => by
    rw [List.all_cons, Bool.and_eq_true] at g
    obtain ⟨h1, h2⟩ := inV_eq h f r g.2
    unfold inV at h2 ⊢
    rw [List.all_cons, List.any_cons, List.any_cons, q.flat g.1, h1, h2, q.eqV h g.1 f]
    exact ⟨rfl, rfl⟩
theorem shaped_ints : ∀ ns : List Int, SeqAt.shaped (.list (ns.map PyData.int)) = true := fun ns => by
  have c : ∀ ns : List Int, PyData.canLayAll0 (ns.map PyData.int) = true := fun ns => by
    induction ns with
    | nil => rfl
    | cons n ns ih =>
      rw [List.map_cons, PyData.canLayAll0, ih]
      rfl
  have d : ∀ ns : List Int, PyData.depthAll (ns.map PyData.int) = 0 := fun ns => by
    induction ns with
    | nil => rfl
    | cons n ns ih =>
      rw [List.map_cons, PyData.depthAll, ih]
      rfl
  unfold SeqAt.shaped
  rw [PyData.canLay0, PyData.depth, c, d]
  rfl
theorem os_in {K : PySem.W.Frag} (neg : Bool) : OpS K ct (fun x y H Q => (if neg then rNotInD K else rInD K) x y H Q ∨ rIn K neg x y H Q ∨ ∃ a o, y = .ref a ∧ DGet H a x o ∧ Q (.bl (if neg then !o.isSome else o.isSome)) H) (fun x y => (fInB x y).map fun b => .sh (.bl (if neg then !b else b))) := by
  intro F W L env st σ H x y d1 d2 r Q I h1 h2 e k
  obtain ⟨m, e1, e2⟩ := map2 e
  subst e2
  unfold fInB at e1
  split at e1
  · rename_i ds
    obtain ⟨c, rfl⟩ := ifs e1
    have g2 := h2.dp I c.2
    have s2 : SeqAt.shaped (D.py (.lst ds)) = true := c.2
    rw [D.py] at g2 s2
    refine .inl ?_
    rw [← any_pyL] at k
    cases neg with
    | true => exact ⟨_, _, h1.dp I c.1, g2, c.1, s2, k _ H W L (.refl W) I (.bl _)⟩
    | false => exact ⟨_, _, h1.dp I c.1, g2, c.1, s2, k _ H W L (.refl W) I (.bl _)⟩
  · rename_i ns
    obtain ⟨c, rfl⟩ := ifs e1
    have s2 : SeqAt.shaped (D.py (.scr ns)) = true := by rw [D.py]; exact shaped_ints ns
    have g2 := h2.dp I s2
    rw [D.py] at g2 s2
    have pe : (ns.map PyData.int) = D.pyL (ns.map D.int) := by rw [D.pyL_eq, List.map_map]; exact List.map_congr_left fun n _ => rfl
    rw [pe] at g2 s2
    refine .inl ?_
    rw [← any_pyL] at k
    cases neg with
    | true => exact ⟨_, _, h1.dp I c, g2, c, s2, k _ H W L (.refl W) I (.bl _)⟩
    | false => exact ⟨_, _, h1.dp I c, g2, c, s2, k _ H W L (.refl W) I (.bl _)⟩
  · obtain ⟨c, rfl⟩ := ifs e1
    obtain ⟨a, vs, rfl, g, q⟩ := h2.tup I
    obtain ⟨f1, f2⟩ := inV_eq (h1.rep c.1) c.1 q c.2
    refine .inr (.inl ⟨a, vs, rfl, .inr (SqT.of g), (h1.rep c.1).flat c.1, f1, ?_⟩)
    rw [f2]
    exact k _ H W L (.refl W) I (.bl _)
  · rename_i kds
    obtain ⟨ky, ek, rfl⟩ := map2 e1
    obtain ⟨a, kvs, rfl, g, n, q⟩ := h2.dic I
    refine .inr (.inr ⟨a, valV kvs ky, rfl, ?_, ?_⟩)
    · rw [D.key_v h1 ek]; exact DGet.k g
    · have e : (valV kvs ky).isSome = (valD kds ky).isSome := by
        rcases valD_rep ky n q with ⟨e1, e2⟩ | ⟨v, d, e1, e2, _⟩ <;> rw [e1, e2] <;> rfl
      rw [e]
      exact k _ H W L (.refl W) I (.bl _)
  · cases e1
theorem op_inDict (hu : X.A.units + 1 < cLine) : OpR X (compareOp .In) (fun x y H Q => ∃ a o, y = .ref a ∧ DGet H a x o ∧ Q (.bl o.isSome) H) := by
  intro pins s σ H x y v u Q I rx ry ⟨a, o, e, g, q⟩
  subst e
  cases (show u = Value.ref a from ry)
  exact d_in hu I g rx fun s' I' => ⟨.bl _, H, I', rfl, q⟩
theorem op_ninDict (hu : X.A.units + 1 < cLine) : OpR X (compareOp .NotIn) (fun x y H Q => ∃ a o, y = .ref a ∧ DGet H a x o ∧ Q (.bl (!o.isSome)) H) := by
  intro pins s σ H x y v u Q I rx ry ⟨a, o, e, g, q⟩
  subst e
  cases (show u = Value.ref a from ry)
  exact d_notIn hu I g rx fun s' I' => ⟨.bl _, H, I', rfl, q⟩
theorem op_inA {k : Nat} (hr : Room k X.A) : OpR X (compareOp .In) (fun x y H Q => rInD X.K x y H Q ∨ rIn X.K false x y H Q ∨ ∃ a o, y = .ref a ∧ DGet H a x o ∧ Q (.bl o.isSome) H) := OpR.or (op_inD (by have := hr.un; omega)) (OpR.or op_in_seq (op_inDict (hu_of hr)))
theorem op_ninA {k : Nat} (hr : Room k X.A) : OpR X (compareOp .NotIn) (fun x y H Q => rNotInD X.K x y H Q ∨ rIn X.K true x y H Q ∨ ∃ a o, y = .ref a ∧ DGet H a x o ∧ Q (.bl (!o.isSome)) H) := OpR.or (op_notInD (by have := hr.un; omega)) (OpR.or op_notIn_seq (op_ninDict (hu_of hr)))
theorem se_in {k : Nat} (hr : Room k X.A) (ha : SE X ct x a) (hb : SE X ct y b) (hm : behindInMarks .In y = false := by with_unfolding_all rfl) : SE X ct (.Compare x [.In] [y] pos) (e2 fIn a b) := se_cmp (op_inA hr) (os_in false) hm ha hb
theorem st_in {k : Nat} (hr : Room k X.A) (ha : SE X ct x a) (hb : SE X ct y b) (hm : behindInMarks .In y = false := by with_unfolding_all rfl) : ST X ct (.Compare x [.In] [y] pos) (e2 fIn a b) := st_cmp (op_inA hr) (os_in false) hm ha hb
theorem se_nin {k : Nat} (hr : Room k X.A) (ha : SE X ct x a) (hb : SE X ct y b) (hm : behindInMarks .NotIn y = false := by with_unfolding_all rfl) : SE X ct (.Compare x [.NotIn] [y] pos) (e2 fNin a b) := se_cmp (op_ninA hr) (os_in true) hm ha hb
theorem st_nin {k : Nat} (hr : Room k X.A) (ha : SE X ct x a) (hb : SE X ct y b) (hm : behindInMarks .NotIn y = false := by with_unfolding_all rfl) : ST X ct (.Compare x [.NotIn] [y] pos) (e2 fNin a b) := st_cmp (op_ninA hr) (os_in true) hm ha hb
end
end Kn
namespace Kn
open PySem L2

section
variable {X : Cx} {ct : CT} {pos : Pos} {x y : Expr} {a b : Sem}
/-! an item -/
def fIdx : D → D → Option R
  | .lst ds, .int i => (atI ds i).map .sh
  | .scr ns, .int i => (atI ns i).map fun n => .sh (.int n)
  | .tup ds, .int i => (atI ds i).map .sh
  | .str z, .int i => if z.length ≤ sizeLine then (atI z.cps.toList i).map fun c => .sh (.str ⟨#[c]⟩) else none
  | .dic kds, d => d.key.bind fun k => (valD kds k).map .sh
  | _, _ => none
theorem atI_rep {K : PySem.W.Frag} {W : Wd} {vs : List V} {ds : List D} {i : Int} {d : D} (r : RepL K ct W vs ds) (h : atI ds i = some d) : ∃ v, atI vs i = some v ∧ Rep K ct W v d := by
  unfold atI at h ⊢
  obtain ⟨j, h1, h2⟩ := bind2 h
  obtain ⟨v, h3, h4⟩ := r.get h2
  refine ⟨v, ?_, h4⟩
  rw [r.length, h1]
  exact h3
theorem ix_dict (hu : X.A.units + 1 < cLine) : IxR X (fun x y H Q => ∃ a v, x = .ref a ∧ DGet H a y (some v) ∧ Q v H) := by
  intro value slice pins s σ H x y v u Q I rx ry ⟨a, w, e, g, q⟩ hs
  subst e
  cases (show v = Value.ref a from rx)
  exact PyProof.Rows.tail_any (dict_typeIs I g) PySem.F.slot_dict_getitem.lookup (d_getItem hu I g ry fun w' s3 I3 rw' => ⟨w, H, I3, rw', q⟩) hs
theorem os_idx {K : PySem.W.Frag} : OpS K ct (fun x y H Q => (∃ a v, x = .ref a ∧ DGet H a y (some v) ∧ Q v H) ∨ rIx K x y H Q) fIdx := by
  intro F W L env st σ H x y d1 d2 r Q I h1 h2 e k
  have go : ∀ (v : V) (d : D), Rep K ct W v d → r = .sh d → Q v H := fun v d h e => k v H W L (.refl W) I (by rw [e]; exact h)
  unfold fIdx at e
  split at e
  · obtain ⟨d, e1, rfl⟩ := map2 e
    obtain ⟨a, vs, rfl, g, q⟩ := h1.list I
    obtain ⟨v, h3, h4⟩ := atI_rep q e1
    exact .inr (.inl ⟨a, vs, _, v, rfl, h2.int, SqL.of g, h3, go v d h4 rfl⟩)
  · rename_i ns i
    obtain ⟨n, e1, rfl⟩ := map2 e
    obtain ⟨a, vs, rfl, g, q⟩ := h1.seqL (ds := ns.map D.int) rfl I
    have e2 : atI (ns.map D.int) i = some (.int n) := by
      unfold atI at e1 ⊢
      obtain ⟨j, e3, e4⟩ := bind2 e1
      rw [List.length_map, e3]
      show (ns.map D.int)[j]? = _
      rw [List.getElem?_map, e4]; rfl
    obtain ⟨v, h3, h4⟩ := atI_rep q e2
    exact .inr (.inl ⟨a, vs, _, v, rfl, h2.int, g, h3, go v _ h4 rfl⟩)
  · obtain ⟨d, e1, rfl⟩ := map2 e
    obtain ⟨a, vs, rfl, g, q⟩ := h1.tup I
    obtain ⟨v, h3, h4⟩ := atI_rep q e1
    exact .inr (.inr (.inl ⟨a, vs, _, v, rfl, h2.int, SqT.of g, h3, go v d h4 rfl⟩))
  · split at e
    · rename_i c
      obtain ⟨m, e1, rfl⟩ := map2 e
      exact .inr (.inr (.inr ⟨_, _, m, h1.str, h2.int, c, e1, go _ _ (.str _) rfl⟩))
    · cases e
  · obtain ⟨ky, ek, e⟩ := bind2 e
    obtain ⟨d, e1, rfl⟩ := map2 e
    obtain ⟨a, kvs, rfl, g, n, q⟩ := h1.dic I
    rcases valD_rep ky n q with ⟨_, e2⟩ | ⟨v, d', e2, e3, h⟩
    · rw [e1] at e2; cases e2
    · rw [e1] at e3; cases e3
      refine .inl ⟨a, v, rfl, ?_, go v d h rfl⟩
      rw [D.key_v h2 ek, ← e2]
      exact DGet.k g
  · cases e
theorem se_idx {k : Nat} (hr : Room k X.A) (ha : SE X ct x a) (hb : SE X ct y b) (hs : PlainIx y := by exact fun _ _ => rfl) : SE X ct (.Subscript x y pos) (e2 fIdx a b) :=
  ⟨pe_mono (pe_ix (IxR.or (ix_dict (hu_of hr)) ix_seq) ha.pe hb.pe hs) fun _ _ _ h => tE_e2 os_idx h⟩

/-! slices -/
def cutG {α : Type} (xs : List α) (lo hi : Option Int) : List α := (xs.drop (HT.sIx xs.length 0 lo)).take (HT.sIx xs.length xs.length hi - HT.sIx xs.length 0 lo)
theorem RepL.cut {K : PySem.W.Frag} {W : Wd} {vs : List V} {ds : List D} (r : RepL K ct W vs ds) (lo hi : Option Int) : RepL K ct W (cutV vs lo hi) (cutG ds lo hi) := by
  unfold cutV cutG
  rw [r.length]
  exact (r.drop _).take _
theorem cutG_map {α β : Type} (f : α → β) (xs : List α) (lo hi : Option Int) : cutG (xs.map f) lo hi = (cutG xs lo hi).map f := by
  unfold cutG
  rw [List.length_map, List.map_take, List.map_drop]
abbrev SemP := List Slot → Sto → Option (Option Int × Sto)
def pNo : SemP := fun _ st => some (none, st)
def pSome (e : Sem) : SemP := fun env st => (e env st).bind fun p => match p.1.d with
  | .int i => some (some i, p.2)
  | _ => none
def tP (K : PySem.W.Frag) (ct : CT) (e : SemP) : TO := fun σ H Q => ∃ F W L env st r st', Rel K ct F W L env st σ H ∧ e env st = some (r, st') ∧
  ∀ H' W' L', W.le W' → Rel K ct F W' L' env st' σ H' → Q r H'
structure SP' (X : Cx) (ct : CT) (x : Option Expr) (e : SemP) : Prop where
  po : PO X x (tP X.K ct e)
theorem po_mono {x : Option Expr} {t t' : TO} (h : PO X x t) (k : ∀ σ H Q, t' σ H Q → t σ H Q) : PO X x t' := ⟨fun pins s σ H Q I q => h.run pins s σ H Q I (k σ H Q q)⟩
theorem sp_no : SP' X ct none pNo := ⟨po_mono po_none fun σ H Q ⟨F, W, L, env, st, r, st', I, e, k⟩ => by cases e; exact k H W L (.refl W) I⟩
theorem sp_some (ha : SE X ct x a) : SP' X ct (some x) (pSome a) := by
  refine ⟨po_mono (po_some ha.pe) fun σ H Q ⟨F, W, L, env, st, r, st', I, e, k⟩ => ?_⟩
  obtain ⟨⟨r1, st1⟩, h1, e⟩ := bind2 e
  refine ⟨F, W, L, env, st, r1, st1, I, h1, fun v H1 W1 L1 l1 I1 p1 => ?_⟩
  obtain ⟨W1', m1, J1, q1⟩ := I1.pin p1
  have q1' := J1.look q1
  rw [R.pin_d] at q1'
  split at e
  · rename_i i ei
    cases e
    have ei : r1.d = .int i := ei
    rw [ei] at q1'
    exact ⟨i, q1'.int, k _ _ _ (l1.trans m1) J1⟩
  · cases e
def fSlc (d : D) (lo hi : Option Int) : Option R := match d with
  | .lst ds => some (.ow (.lst (cutG ds lo hi)))
  | .scr ns => some (.ow (.lst ((cutG ns lo hi).map .int)))
  | .tup ds => if ¬ (HT.sIx ds.length 0 lo = 0 ∧ HT.sIx ds.length ds.length hi = ds.length) then some (.sh (.tup (cutG ds lo hi))) else none
  | _ => none
def eSlc (a : Sem) (lo hi : SemP) : Sem := fun env st => (a env st).bind fun p => (lo env p.2).bind fun l => (hi env l.2).bind fun h => (fSlc p.1.d l.1 h.1).map fun r => (r, h.2)
theorem se_slc {lo hi : Option Expr} {l h : SemP} {p2 : Pos} (ha : SE X ct x a) (hl : SP' X ct lo l) (hh : SP' X ct hi h) : SE X ct (.Subscript x (.Slice lo hi none p2) pos) (eSlc a l h) := by
  refine ⟨pe_mono (pe_slice (SlR.or sl_list sl_tup) ha.pe hl.po hh.po) fun σ H Q ⟨F, W, L, env, st, r, st', I, e, k⟩ => ?_⟩
  obtain ⟨⟨r1, st1⟩, h1, e⟩ := bind2 e
  obtain ⟨⟨o1, st2⟩, h2, e⟩ := bind2 e
  obtain ⟨⟨o2, st3⟩, h3, e⟩ := bind2 e
  obtain ⟨r4, h4, e⟩ := map2 e
  cases e
  refine ⟨F, W, L, env, st, r1, st1, I, h1, fun v H1 W1 L1 l1 I1 p1 => ?_⟩
  obtain ⟨W1', m1, J1, q1⟩ := I1.pin p1
  refine ⟨F, W1', L1, env, st1, o1, st2, J1, h2, fun H2 W2 L2 l2 I2 => ?_⟩
  refine ⟨F, W2, L2, env, st2, o2, st3, I2, h3, fun H3 W3 L3 l3 I3 => ?_⟩
  have q3 := I3.look (q1.mono (l2.trans l3))
  rw [R.pin_d] at q3
  have k' : ∀ v H' W' L', W3.le W' → Rel X.K ct F W' L' env st3 σ H' → RepR X.K ct F W' L' H' env σ v r → Q v H' := fun v H' W' L' l' => k v H' W' L' (l1.trans (m1.trans (l2.trans (l3.trans l'))))
  have h4 : fSlc r1.d o1 o2 = some r := h4
  unfold fSlc at h4
  split at h4
  · rename_i ds ed
    cases h4
    rw [ed] at q3
    obtain ⟨a, vs, rfl, g, q⟩ := q3.list I3
    exact .inl ⟨a, vs, rfl, SqL.of g, fun p hp => fresh_out I3 hp (.lst upd_same (q.cut o1 o2)) k'⟩
  · rename_i ns ed
    cases h4
    rw [ed] at q3
    obtain ⟨a, vs, rfl, g, q⟩ := q3.seqL (ds := ns.map D.int) rfl I3
    refine .inl ⟨a, vs, rfl, g, fun p hp => fresh_out I3 hp (.lst upd_same ?_) k'⟩
    rw [← cutG_map]
    exact q.cut o1 o2
  · rename_i ds ed
    obtain ⟨c, rfl⟩ := ifs h4
    rw [ed] at q3
    obtain ⟨a, vs, rfl, g, q⟩ := q3.tup I3
    exact .inr ⟨a, vs, rfl, SqT.of g, by rw [q.length]; exact c, fun p hp => tup_out I3 hp (q.cut o1 o2) k'⟩
  · cases h4
/-- xs[::-1] -/
def fRev : D → Option R
  | .lst ds => some (.ow (.lst ds.reverse))
  | _ => none
theorem se_revs {k : Nat} {p1 p2 p3 : Pos} (ha : SE X ct x a) : SE X ct (.Subscript x (.Slice none none (some (.UnaryOp .USub (.Constant (.int 1) k p1) p2)) p3) pos) (e1 fRev a) := by
  refine ⟨pe_mono (pe_revL ha.pe) fun σ H Q h => ?_⟩
  refine tE_e1 (rr := fun x H1 Q => ∃ a xs, x = .ref a ∧ SqL X.K H1 a xs ∧ ∀ p, H1 p = none → Q (.ref p) (upd H1 p (.lst xs.reverse))) ?_ h
  intro F W L env st σ H x d r Q I h e k
  unfold fRev at e
  split at e <;> cases e
  obtain ⟨a, vs, rfl, g, q⟩ := h.list I
  exact ⟨a, vs, rfl, SqL.of g, fun p hp => fresh_out I hp (.lst upd_same q.reverse) k⟩

/-! argument lists, displays -/
def aNil : SemA := fun _ st => some ([], st)
def aCons (e : Sem) (as : SemA) : SemA := fun env st => (e env st).bind fun p => (as env p.2).map fun q => (p.1.pin :: q.1, q.2)
theorem sa_nil : SA X ct [] aNil := ⟨pa_mono pa_nil fun σ H Q ⟨F, W, L, env, st, r, st', I, e, k⟩ => by cases e; exact k [] H W L (.refl W) I .nil⟩
theorem sa_cons {es : List Expr} {as : SemA} (ha : SE X ct x a) (hr : SA X ct es as) (hs : starEach (x :: es) X.env = (false, eval x X.env) :: starEach es X.env := by rfl) : SA X ct (x :: es) (aCons a as) := by
  refine ⟨pa_mono (pa_cons ha.pe hr.pa hs) fun σ H Q ⟨F, W, L, env, st, r, st', I, e, k⟩ => ?_⟩
  obtain ⟨⟨r1, st1⟩, h1, e⟩ := bind2 e
  obtain ⟨⟨rs, st2⟩, h2, e⟩ := map2 e
  cases e
  refine ⟨F, W, L, env, st, r1, st1, I, h1, fun v H1 W1 L1 l1 I1 p1 => ?_⟩
  obtain ⟨W1', m1, J1, q1⟩ := I1.pin p1
  refine ⟨F, W1', L1, env, st1, rs, st2, J1, h2, fun vs H2 W2 L2 l2 I2 qs => ?_⟩
  exact k _ H2 W2 L2 (l1.trans (m1.trans l2)) I2 (.cons (q1.mono l2) qs)
/-- all shared -/
def valsR : List R → Option (List D)
  | [] => some []
  | .sh d :: rs => (valsR rs).map fun ds => d :: ds
  | _ :: _ => none
theorem RdRs.vals {K : PySem.W.Frag} {W : Wd} {env : List Slot} {σ : St} : ∀ {vs : List V} {rs : List R} {ds : List D}, RdRs K ct W env σ vs rs → valsR rs = some ds → RepL K ct W vs ds
  | _, _, _, .nil, e => by cases e; exact .nil
  | _, _, _, .cons (r := .sh d) h q, e => by
    obtain ⟨ds', e1, rfl⟩ := map2 e
    exact .cons h (q.vals e1)
  | _, _, _, .cons (r := .ow d) h q, e => by cases e
  | _, _, _, .cons (r := .bw i d) h q, e => by cases e
def eTup (as : SemA) : Sem := fun env st => (as env st).bind fun p => (valsR p.1).bind fun ds => if ds.length ≤ sizeLine then some (.sh (.tup ds), p.2) else none
def eLst (as : SemA) : Sem := fun env st => (as env st).bind fun p => (valsR p.1).bind fun ds => if ds.length ≤ sizeLine then some (.ow (.lst ds), p.2) else none
variable {es : List Expr} {as : SemA}
theorem se_tup {x1} (ha : SA X ct es as) : SE X ct (.Tuple es x1 pos) (eTup as) := by
  refine ⟨pe_mono (pe_tup ha.pa) fun σ H Q ⟨F, W, L, env, st, r, st', I, e, k⟩ => ?_⟩
  obtain ⟨⟨rs, st1⟩, h1, e⟩ := bind2 e
  obtain ⟨ds, h2, e⟩ := bind2 e
  obtain ⟨c, e⟩ := ifs e
  cases e
  refine ⟨F, W, L, env, st, rs, st1, I, h1, fun vs H1 W1 L1 l1 I1 qs => ?_⟩
  have q := qs.vals h2
  exact ⟨by rw [q.length]; exact c, fun p hp => tup_out I1 hp q fun v H' W' L' l' => k v H' W' L' (l1.trans l')⟩
theorem se_lst (ha : SA X ct es as) : SE X ct (.List es pos) (eLst as) := by
  refine ⟨pe_mono (pe_lst ha.pa) fun σ H Q ⟨F, W, L, env, st, r, st', I, e, k⟩ => ?_⟩
  obtain ⟨⟨rs, st1⟩, h1, e⟩ := bind2 e
  obtain ⟨ds, h2, e⟩ := bind2 e
  obtain ⟨c, e⟩ := ifs e
  cases e
  refine ⟨F, W, L, env, st, rs, st1, I, h1, fun vs H1 W1 L1 l1 I1 qs => ?_⟩
  have q := qs.vals h2
  exact ⟨by rw [q.length]; exact c, fun p hp => fresh_out I1 hp (.lst upd_same q) fun v H' W' L' l' => k v H' W' L' (l1.trans l')⟩

/-! calls of built-ins -/
theorem se_b1 {id : String} {n : Str} {rr : List V → Hp → VK → Prop} {f : D → Option R} {p : Pos} (hc : CallR X (.builtin id) rr) (os : UnS X.K ct (fun x H Q => rr [x] H Q) f) (hg : Gl X n) (hm : X.mg n = none) (hv : bootBuiltins n = some (.builtin id)) (ha : SE X ct x a)
    (hn : n ≠ "__name__" := by decide) (hdb : (n == ("__debug__" : Str)) = false := by decide) (he : starEach [x] X.env = (false, eval x X.env) :: starEach [] X.env := by rfl) (hpl : (backTo pos (starEach [] X.env)).any (·.1) = false := by rfl) : SE X ct (.Call (.Name n p) [x] [] pos) (e1 f a) :=
  ⟨pe_mono (pe_callB hc hg hm hv (pa_cons ha.pe pa_nil he) hn hdb he hpl) fun _ _ _ h => tE_e1 os h⟩
theorem se_b2 {id : String} {n : Str} {rr : List V → Hp → VK → Prop} {f : D → D → Option R} {p : Pos} (hc : CallR X (.builtin id) rr) (os : OpS X.K ct (fun x y H Q => rr [x, y] H Q) f) (hg : Gl X n) (hm : X.mg n = none) (hv : bootBuiltins n = some (.builtin id)) (ha : SE X ct x a) (hb : SE X ct y b)
    (hn : n ≠ "__name__" := by decide) (hdb : (n == ("__debug__" : Str)) = false := by decide) (he : starEach [x, y] X.env = (false, eval x X.env) :: starEach [y] X.env := by rfl) (he2 : starEach [y] X.env = (false, eval y X.env) :: starEach [] X.env := by rfl) (hpl : (backTo pos (starEach [y] X.env)).any (·.1) = false := by rfl) : SE X ct (.Call (.Name n p) [x, y] [] pos) (e2 f a b) :=
  ⟨pe_mono (pe_callB hc hg hm hv (pa_cons ha.pe (pa_cons hb.pe pa_nil he2) he) hn hdb he hpl) fun _ _ _ h => tE_e2 os h⟩
theorem se_t1 {T : String} {n : Str} {rr : List V → Hp → VK → Prop} {f : D → Option R} {p : Pos} (hc : CallR X (.type T) rr) (os : UnS X.K ct (fun x H Q => rr [x] H Q) f) (hg : Gl X n) (hm : X.mg n = none) (hv : bootBuiltins n = some (.type T)) (ha : SE X ct x a)
    (hn : n ≠ "__name__" := by decide) (hdb : (n == ("__debug__" : Str)) = false := by decide) (he : starEach [x] X.env = (false, eval x X.env) :: starEach [] X.env := by rfl) (hpl : (backTo pos (starEach [] X.env)).any (·.1) = false := by rfl) : SE X ct (.Call (.Name n p) [x] [] pos) (e1 f a) :=
  ⟨pe_mono (pe_callTy hc hg hm hv (pa_cons ha.pe pa_nil he) hn hdb he hpl) fun _ _ _ h => tE_e1 os h⟩
variable {p : Pos}
def fLen : D → Option R
  | .lst ds => some (.sh (.int ds.length))
  | .scr ns => some (.sh (.int ns.length))
  | .tup ds => some (.sh (.int ds.length))
  | .dic kds => some (.sh (.int kds.length))
  | .str z => if z.length ≤ sizeLine then some (.sh (.int z.length)) else none
  | _ => none
theorem us_len : UnS X.K ct (fun x H Q => (∃ p ys, [x] = [V.ref p] ∧ (SqL X.K H p ys ∨ SqT X.K H p ys) ∧ Q (.int ys.length) H) ∨ (∃ d kvs, [x] = [V.ref d] ∧ H d = some (.dK kvs) ∧ Q (.int kvs.length) H) ∨ ∃ z, [x] = [V.str z] ∧ z.length ≤ sizeLine ∧ Q (.int z.length) H) fLen := by
  intro F W L env st σ H x d r Q I h e k
  have go : ∀ n : Nat, r = .sh (.int n) → Q (.int n) H := fun n e => k _ H W L (.refl W) I (by rw [e]; exact .int _)
  unfold fLen at e
  split at e
  · cases e
    obtain ⟨a, vs, rfl, g, q⟩ := h.list I
    exact .inl ⟨a, vs, rfl, .inl (SqL.of g), by rw [q.length]; exact go _ rfl⟩
  · rename_i ns
    cases e
    obtain ⟨a, vs, rfl, g, q⟩ := h.seqL (ds := ns.map D.int) rfl I
    exact .inl ⟨a, vs, rfl, .inl g, by rw [q.length, List.length_map]; exact go _ rfl⟩
  · cases e
    obtain ⟨a, vs, rfl, g, q⟩ := h.tup I
    exact .inl ⟨a, vs, rfl, .inr (SqT.of g), by rw [q.length]; exact go _ rfl⟩
  · cases e
    obtain ⟨a, kvs, rfl, g, n, q⟩ := h.dic I
    refine .inr (.inl ⟨a, kvs, rfl, g, ?_⟩)
    have := congrArg List.length n
    rw [List.length_map, List.length_map] at this
    rw [this]; exact go _ rfl
  · obtain ⟨c, rfl⟩ := ifs e
    exact .inr (.inr ⟨_, by rw [h.str], c, go _ rfl⟩)
  · cases e
theorem se_len (hg : Gl X "len") (hm : X.mg "len" = none) (ha : SE X ct x a) (he : starEach [x] X.env = (false, eval x X.env) :: starEach [] X.env := by rfl) (hpl : (backTo pos (starEach [] X.env)).any (·.1) = false := by rfl) :
    SE X ct (.Call (.Name "len" p) [x] [] pos) (e1 fLen a) := se_b1 (CallR.or call_len_seq (CallR.or call_lenD call_len_str)) us_len hg hm PySem.boot_len ha (by decide) (by decide) he hpl
def fLofs : D → Option R
  | .lst ds => some (.ow (.lst ds))
  | .scr ns => some (.ow (.lst (ns.map .int)))
  | .tup ds => some (.ow (.lst ds))
  | _ => none
theorem se_list (hg : Gl X "list") (hm : X.mg "list" = none) (ha : SE X ct x a) (he : starEach [x] X.env = (false, eval x X.env) :: starEach [] X.env := by rfl) (hpl : (backTo pos (starEach [] X.env)).any (·.1) = false := by rfl) :
    SE X ct (.Call (.Name "list" p) [x] [] pos) (e1 fLofs a) := by
  refine se_t1 call_list_of ?_ hg hm PyProof.Rows.boot_list ha (by decide) (by decide) he hpl
  intro F W L env st σ H x d r Q I h e k
  unfold fLofs at e
  split at e
  · cases e
    obtain ⟨a, vs, rfl, g, q⟩ := h.list I
    exact ⟨a, vs, rfl, .inl (SqL.of g), fun p hp => fresh_out I hp (.lst upd_same q) k⟩
  · rename_i ns
    cases e
    obtain ⟨a, vs, rfl, g, q⟩ := h.seqL (ds := ns.map D.int) rfl I
    exact ⟨a, vs, rfl, .inl g, fun p hp => fresh_out I hp (.lst upd_same q) k⟩
  · cases e
    obtain ⟨a, vs, rfl, g, q⟩ := h.tup I
    exact ⟨a, vs, rfl, .inr (SqT.of g), fun p hp => fresh_out I hp (.lst upd_same q) k⟩
  · cases e
def fTofs : D → Option R
  | .lst ds => some (.sh (.tup ds))
  | .tup ds => some (.sh (.tup ds))
  | _ => none
theorem se_tuple (hg : Gl X "tuple") (hm : X.mg "tuple" = none) (ha : SE X ct x a) (he : starEach [x] X.env = (false, eval x X.env) :: starEach [] X.env := by rfl) (hpl : (backTo pos (starEach [] X.env)).any (·.1) = false := by rfl) :
    SE X ct (.Call (.Name "tuple" p) [x] [] pos) (e1 fTofs a) := by
  refine se_t1 call_tuple_of ?_ hg hm PyProof.Rows.boot_tuple ha (by decide) (by decide) he hpl
  intro F W L env st σ H x d r Q I h e k
  unfold fTofs at e
  split at e
  · cases e
    obtain ⟨a, vs, rfl, g, q⟩ := h.list I
    exact ⟨a, vs, rfl, .inl ⟨SqL.of g, fun p hp => tup_out I hp q k⟩⟩
  · cases e
    have h0 := h
    obtain ⟨a, vs, rfl, g, q⟩ := h.tup I
    refine ⟨a, vs, rfl, .inr ⟨SqT.of g, k _ H W L (.refl W) I ?_⟩⟩
    rcases h0 with h | ⟨a', e', c⟩
    · exact h
    · cases c
  · cases e
/-- two ints -/
theorem os_ii {K : PySem.W.Frag} {g : Int → Int → Int} : OpS K ct (fun x y H Q => ∃ i j, [x, y] = [V.int i, V.int j] ∧ Q (.int (g i j)) H) (fI fun i j => some (g i j)) := by
  intro F W L env st σ H x y d1 d2 r Q I h1 h2 e k
  unfold fI at e
  split at e
  · cases e
    exact ⟨_, _, by rw [h1.int, h2.int], k _ H W L (.refl W) I (.int _)⟩
  · cases e
theorem se_max2 (hc : X.calm = true) (hg : Gl X "max") (hm : X.mg "max" = none) (ha : SE X ct x a) (hb : SE X ct y b) (he : starEach [x, y] X.env = (false, eval x X.env) :: starEach [y] X.env := by rfl) (he2 : starEach [y] X.env = (false, eval y X.env) :: starEach [] X.env := by rfl) (hpl : (backTo pos (starEach [y] X.env)).any (·.1) = false := by rfl) :
    SE X ct (.Call (.Name "max" p) [x, y] [] pos) (e2 (fI fun i j => some (if j > i then j else i)) a b) := se_b2 (call_max2 hc) (os_ii (g := fun i j => if j > i then j else i)) hg hm (by decide +kernel) ha hb (by decide) (by decide) he he2 hpl
theorem se_min2 (hc : X.calm = true) (hg : Gl X "min") (hm : X.mg "min" = none) (ha : SE X ct x a) (hb : SE X ct y b) (he : starEach [x, y] X.env = (false, eval x X.env) :: starEach [y] X.env := by rfl) (he2 : starEach [y] X.env = (false, eval y X.env) :: starEach [] X.env := by rfl) (hpl : (backTo pos (starEach [y] X.env)).any (·.1) = false := by rfl) :
    SE X ct (.Call (.Name "min" p) [x, y] [] pos) (e2 (fI fun i j => some (if j < i then j else i)) a b) := se_b2 (call_min2 hc) (os_ii (g := fun i j => if j < i then j else i)) hg hm (by decide +kernel) ha hb (by decide) (by decide) he he2 hpl
def fInt : D → Option R
  | .int i => some (.sh (.int i))
  | .bl k => some (.sh (.int (if k then 1 else 0)))
  | _ => none
theorem se_toint (hg : Gl X "int") (hm : X.mg "int" = none) (ha : SE X ct x a) (he : starEach [x] X.env = (false, eval x X.env) :: starEach [] X.env := by rfl) (hpl : (backTo pos (starEach [] X.env)).any (·.1) = false := by rfl) :
    SE X ct (.Call (.Name "int" p) [x] [] pos) (e1 fInt a) := by
  refine se_t1 call_int1 ?_ hg hm PyProof.Rows.boot_int ha (by decide) (by decide) he hpl
  intro F W L env st σ H x d r Q I h e k
  unfold fInt at e
  split at e <;> cases e
  · exact .inl ⟨_, by rw [h.int], k _ H W L (.refl W) I (.int _)⟩
  · exact .inr ⟨_, by rw [h.bl], k _ H W L (.refl W) I (.int _)⟩
/-- a list of ints, of bools -/
def D.ints : D → Option (List Int)
  | .int i => some [i]
  | _ => none
def intsL : List D → Option (List Int)
  | [] => some []
  | .int i :: ds => (intsL ds).map fun ns => i :: ns
  | _ :: _ => none
theorem intsL_eq : ∀ {ds : List D} {ns : List Int}, intsL ds = some ns → ds = ns.map .int
  | [], _, e => by cases e; rfl
  | .int i :: ds, _, e => by
    obtain ⟨m, e1, rfl⟩ := map2 e
    rw [intsL_eq e1]; rfl
theorem intsL_map : ∀ ns : List Int, intsL (ns.map D.int) = some ns
  | [] => rfl
  | n :: ns => by rw [List.map_cons, intsL, intsL_map ns]; rfl
def blsL : List D → Option (List Bool)
  | [] => some []
  | .bl i :: ds => (blsL ds).map fun ns => i :: ns
  | _ :: _ => none
theorem blsL_eq : ∀ {ds : List D} {ns : List Bool}, blsL ds = some ns → ds = ns.map .bl
  | [], _, e => by cases e; rfl
  | .bl i :: ds, _, e => by
    obtain ⟨m, e1, rfl⟩ := map2 e
    rw [blsL_eq e1]; rfl
theorem blsL_map : ∀ ns : List Bool, blsL (ns.map D.bl) = some ns
  | [] => rfl
  | n :: ns => by rw [List.map_cons, blsL, blsL_map ns]; rfl
def fInts (g : List Int → Option R) (d : D) : Option R := match d with
  | .lst ds => (intsL ds).bind g
  | _ => none
def fBls (g : List Bool → Option R) (d : D) : Option R := match d with
  | .lst ds => (blsL ds).bind g
  | _ => none
theorem fInts_out {K : PySem.W.Frag} {F H : Hp} {W : Wd} {L : Addr → Option Lab} {env : List Slot} {st : Sto} {σ : St} {v : V} {d : D} {r : R} {g : List Int → Option R} (I : Rel K ct F W L env st σ H) (h : RdH K ct W H v d) (e : fInts g d = some r) :
    ∃ a ns, v = .ref a ∧ H a = some (.lst (ns.map V.int)) ∧ g ns = some r := by
  unfold fInts at e
  split at e
  · obtain ⟨ns, e1, e2⟩ := bind2 e
    obtain ⟨a, vs, rfl, h1, q⟩ := h.list I
    rw [intsL_eq e1] at q
    rw [q.ints] at h1
    exact ⟨a, ns, rfl, h1, e2⟩
  · cases e
theorem fBls_out {K : PySem.W.Frag} {F H : Hp} {W : Wd} {L : Addr → Option Lab} {env : List Slot} {st : Sto} {σ : St} {v : V} {d : D} {r : R} {g : List Bool → Option R} (I : Rel K ct F W L env st σ H) (h : RdH K ct W H v d) (e : fBls g d = some r) :
    ∃ a ns, v = .ref a ∧ H a = some (.lst (ns.map V.bl)) ∧ g ns = some r := by
  unfold fBls at e
  split at e
  · obtain ⟨ns, e1, e2⟩ := bind2 e
    obtain ⟨a, vs, rfl, h1, q⟩ := h.list I
    rw [blsL_eq e1] at q
    rw [q.bls] at h1
    exact ⟨a, ns, rfl, h1, e2⟩
  · cases e
theorem se_sum (hc : X.calm = true) (hg : Gl X "sum") (hm : X.mg "sum" = none) (ha : SE X ct x a) (he : starEach [x] X.env = (false, eval x X.env) :: starEach [] X.env := by rfl) (hpl : (backTo pos (starEach [] X.env)).any (·.1) = false := by rfl) :
    SE X ct (.Call (.Name "sum" p) [x] [] pos) (e1 (fInts fun ns => some (.sh (.int ns.sum))) a) := by
  refine se_b1 (cr_sum hc) ?_ hg hm (by decide +kernel) ha (by decide) (by decide) he hpl
  intro F W L env st σ H x d r Q I h e k
  obtain ⟨a, ns, rfl, h1, e⟩ := fInts_out I h e
  cases e
  exact ⟨a, ns, rfl, SqL.of h1, k _ H W L (.refl W) I (.int _)⟩
theorem se_all (hc : X.calm = true) (hg : Gl X "all") (hm : X.mg "all" = none) (ha : SE X ct x a) (he : starEach [x] X.env = (false, eval x X.env) :: starEach [] X.env := by rfl) (hpl : (backTo pos (starEach [] X.env)).any (·.1) = false := by rfl) :
    SE X ct (.Call (.Name "all" p) [x] [] pos) (e1 (fBls fun ns => some (.sh (.bl (ns.all id)))) a) := by
  refine se_b1 (cr_all hc) ?_ hg hm (by decide +kernel) ha (by decide) (by decide) he hpl
  intro F W L env st σ H x d r Q I h e k
  obtain ⟨a, ns, rfl, h1, e⟩ := fBls_out I h e
  cases e
  exact ⟨a, ns, rfl, SqL.of h1, k _ H W L (.refl W) I (.bl _)⟩
theorem se_any (hc : X.calm = true) (hg : Gl X "any") (hm : X.mg "any" = none) (ha : SE X ct x a) (he : starEach [x] X.env = (false, eval x X.env) :: starEach [] X.env := by rfl) (hpl : (backTo pos (starEach [] X.env)).any (·.1) = false := by rfl) :
    SE X ct (.Call (.Name "any" p) [x] [] pos) (e1 (fBls fun ns => some (.sh (.bl (ns.any id)))) a) := by
  refine se_b1 (cr_any hc) ?_ hg hm (by decide +kernel) ha (by decide) (by decide) he hpl
  intro F W L env st σ H x d r Q I h e k
  obtain ⟨a, ns, rfl, h1, e⟩ := fBls_out I h e
  cases e
  exact ⟨a, ns, rfl, SqL.of h1, k _ H W L (.refl W) I (.bl _)⟩
/-- the greatest, the least of a list of ints -/
def maxI : Int → List Int → Int
  | m, [] => m
  | m, n :: ns => maxI (if n > m then n else m) ns
def minI : Int → List Int → Int
  | m, [] => m
  | m, n :: ns => minI (if n < m then n else m) ns
theorem maxI_spec : ∀ (ns : List Int) (m : Int), (maxI m ns = m ∨ maxI m ns ∈ ns) ∧ m ≤ maxI m ns ∧ ∀ n ∈ ns, n ≤ maxI m ns
  | [], m => ⟨.inl rfl, Int.le_refl _, fun n h => by cases h⟩
  | n :: ns, m => by
    obtain ⟨h1, h2, h3⟩ := maxI_spec ns (if n > m then n else m)
    unfold maxI
    refine ⟨?_, ?_, fun k hk => ?_⟩
    · rcases h1 with h1 | h1
      · rw [h1]; split
        · exact .inr List.mem_cons_self
        · exact .inl rfl
      · exact .inr (List.mem_cons_of_mem _ h1)
    · refine Int.le_trans ?_ h2; split <;> omega
    · rcases List.mem_cons.mp hk with rfl | hk
      · refine Int.le_trans ?_ h2; split <;> omega
      · exact h3 k hk
theorem minI_spec : ∀ (ns : List Int) (m : Int), (minI m ns = m ∨ minI m ns ∈ ns) ∧ minI m ns ≤ m ∧ ∀ n ∈ ns, minI m ns ≤ n
  | [], m => ⟨.inl rfl, Int.le_refl _, fun n h => by cases h⟩
  | n :: ns, m => by
    obtain ⟨h1, h2, h3⟩ := minI_spec ns (if n < m then n else m)
    unfold minI
    refine ⟨?_, ?_, fun k hk => ?_⟩
    · rcases h1 with h1 | h1
      · rw [h1]; split
        · exact .inr List.mem_cons_self
        · exact .inl rfl
      · exact .inr (List.mem_cons_of_mem _ h1)
    · refine Int.le_trans h2 ?_; split <;> omega
    · rcases List.mem_cons.mp hk with rfl | hk
      · refine Int.le_trans h2 ?_; split <;> omega
      · exact h3 k hk
def fMaxL : D → Option R := fInts fun ns => match ns with
  | [] => none
  | n :: ns => some (.sh (.int (maxI n ns)))
def fMinL : D → Option R := fInts fun ns => match ns with
  | [] => none
  | n :: ns => some (.sh (.int (minI n ns)))
theorem se_maxL (hc : X.calm = true) (hg : Gl X "max") (hm : X.mg "max" = none) (ha : SE X ct x a) (he : starEach [x] X.env = (false, eval x X.env) :: starEach [] X.env := by rfl) (hpl : (backTo pos (starEach [] X.env)).any (·.1) = false := by rfl) :
    SE X ct (.Call (.Name "max" p) [x] [] pos) (e1 fMaxL a) := by
  refine se_b1 (cr_max hc) ?_ hg hm (by decide +kernel) ha (by decide) (by decide) he hpl
  intro F W L env st σ H x d r Q I h e k
  obtain ⟨a, ns, rfl, h1, e⟩ := fInts_out I h e
  split at e
  · cases e
  · rename_i n ns
    cases e
    refine ⟨a, _, rfl, SqL.of h1, Nat.succ_pos _, fun m hm hle => ?_⟩
    obtain ⟨s1, s2, s3⟩ := maxI_spec ns n
    have e1 : m = maxI n ns := by
      have g1 : m ≤ maxI n ns := by
        rcases List.mem_cons.mp hm with rfl | hm
        · exact s2
        · exact s3 m hm
      have g2 : maxI n ns ≤ m := by
        refine hle _ ?_
        rcases s1 with s1 | s1
        · rw [s1]; exact List.mem_cons_self
        · exact List.mem_cons_of_mem _ s1
      omega
    rw [e1]
    exact k _ H W L (.refl W) I (.int _)
theorem se_minL (hc : X.calm = true) (hg : Gl X "min") (hm : X.mg "min" = none) (ha : SE X ct x a) (he : starEach [x] X.env = (false, eval x X.env) :: starEach [] X.env := by rfl) (hpl : (backTo pos (starEach [] X.env)).any (·.1) = false := by rfl) :
    SE X ct (.Call (.Name "min" p) [x] [] pos) (e1 fMinL a) := by
  refine se_b1 (cr_min hc) ?_ hg hm (by decide +kernel) ha (by decide) (by decide) he hpl
  intro F W L env st σ H x d r Q I h e k
  obtain ⟨a, ns, rfl, h1, e⟩ := fInts_out I h e
  split at e
  · cases e
  · rename_i n ns
    cases e
    refine ⟨a, _, rfl, SqL.of h1, Nat.succ_pos _, fun m hm hle => ?_⟩
    obtain ⟨s1, s2, s3⟩ := minI_spec ns n
    have e1 : m = minI n ns := by
      have g1 : minI n ns ≤ m := by
        rcases List.mem_cons.mp hm with rfl | hm
        · exact s2
        · exact s3 m hm
      have g2 : m ≤ minI n ns := by
        refine hle _ ?_
        rcases s1 with s1 | s1
        · rw [s1]; exact List.mem_cons_self
        · exact List.mem_cons_of_mem _ s1
      omega
    rw [e1]
    exact k _ H W L (.refl W) I (.int _)
/-- isinstance(x, T), T a built-in class -/
def D.ty : D → Option String
  | .non => some "NoneType"
  | .bl _ => some "bool"
  | .int _ => some "int"
  | .str _ => some "str"
  | .lst _ => some "list"
  | .tup _ => some "tuple"
  | .dic _ => some "dict"
  | _ => none
def fIsi (T : String) (d : D) : Option R := d.ty.bind fun t => (kitB t T).map fun b => .sh (.bl b)
theorem us_isi {K : PySem.W.Frag} {T : String} : UnS K ct (fun x H Q => rIsi K [x, .ty T] H Q) (fIsi T) := by
  intro F W L env st σ H x d r Q I h e k
  obtain ⟨t, e1, e⟩ := bind2 e
  obtain ⟨b, e2, rfl⟩ := map2 e
  refine ⟨x, _, .type t, .type T, b, rfl, .ty T, ?_, kit_ty e2, k _ H W L (.refl W) I (.bl _)⟩
  unfold D.ty at e1
  split at e1 <;> cases e1
  · rw [h.non]; exact .base .non
  · rw [h.bl]; exact .base (.bl _)
  · rw [h.int]; exact .base (.int _)
  · rw [h.str]; exact .base (.str _)
  · obtain ⟨a, vs, rfl, g, q⟩ := h.list I; exact .base (.lst g)
  · obtain ⟨a, vs, rfl, g, q⟩ := h.tup I; exact .base (.tup g)
  · obtain ⟨a, vs, rfl, g, n, q⟩ := h.dic I; exact .base (.dK g)
theorem se_isi {T : String} {n : Str} {p2 : Pos} (hg : Gl X "isinstance") (hm : X.mg "isinstance" = none) (hg2 : Gl X n) (hm2 : X.mg n = none) (hv : bootBuiltins n = some (.type T)) (ha : SE X ct x a) (hn : n ≠ "__name__" := by decide) (hdb : (n == ("__debug__" : Str)) = false := by decide)
    (he : starEach [x, .Name n p2] X.env = (false, eval x X.env) :: starEach [.Name n p2] X.env := by rfl) (he2 : starEach [Expr.Name n p2] X.env = (false, eval (.Name n p2) X.env) :: starEach [] X.env := by rfl) (hpl : (backTo pos (starEach [Expr.Name n p2] X.env)).any (·.1) = false := by rfl) :
    SE X ct (.Call (.Name "isinstance" p) [x, .Name n p2] [] pos) (e1 (fIsi T) a) :=
  ⟨pe_mono (pe_callB call_isi hg hm PyProof.Rows.boot_isinstance (pa_cons ha.pe (pa_cons (pe_bltn (v := .ty T) hg2 hm2 hv rfl hn hdb) pa_nil he2) he) (by decide) (by decide) he hpl) fun _ _ _ h => tE_e1 us_isi h⟩
end
end Kn
namespace Kn
open PySem L2

inductive Out where
  | nx | rt (r : R) | bk | ct
abbrev SemS := List Slot → Sto → Option (Out × List Slot × Sto)
abbrev SemG := D → List Slot → Option (List Slot)
abbrev SemI := List Slot → Sto → Option (List D × Sto)
section
variable (K : PySem.W.Frag) (ct : CT)
def OutOk (F : Hp) (W : Wd) (env' : List Slot) (st' : Sto) (D : Ends) : Out → Prop
  | .nx => ∀ σ' H' W' L', W.le W' → Rel K ct F W' L' env' st' σ' H' → D.nx σ' H'
  | .bk => ∀ σ' H' W' L', W.le W' → Rel K ct F W' L' env' st' σ' H' → D.bk σ' H'
  | .ct => ∀ σ' H' W' L', W.le W' → Rel K ct F W' L' env' st' σ' H' → D.ct σ' H'
  | .rt r => ∀ v σ' H' W' L', W.le W' → Rel K ct F W' L' env' st' σ' H' → RepR K ct F W' L' H' env' σ' v r → D.rt v H'
def tSm (s : SemS) : TS := fun D σ H => ∃ F W L env st o env' st', Rel K ct F W L env st σ H ∧ s env st = some (o, env', st') ∧ OutOk K ct F W env' st' D o
/-- only the slots ts differ -/
def OffTs (ts : List Nat) (σ σ' : St) : Prop := σ'.length = σ.length ∧ ∀ j : Nat, j ∉ ts → σ'[j]? = σ[j]?
def OffTe (ts : List Nat) (e e' : List Slot) : Prop := e'.length = e.length ∧ ∀ j : Nat, j ∉ ts → e'[j]? = e[j]?
def tG (ts : List Nat) (g : SemG) : TG := fun v σ H Q => ∃ F W L env st d env', Rel K ct F W L env st σ H ∧ Rep K ct W v d ∧ g d env = some env' ∧
  ∀ σ', OffTs ts σ σ' → OffTe ts env env' → Rel K ct F W L env' st σ' H → Q σ' H
def tGs (ts : List Nat) (g : List D → List Slot → Option (List Slot)) : TGs := fun vs σ H Q => ∃ F W L env st ds env', Rel K ct F W L env st σ H ∧ RepL K ct W vs ds ∧ g ds env = some env' ∧
  ∀ σ', OffTs ts σ σ' → OffTe ts env env' → Rel K ct F W L env' st σ' H → Q σ' H
/-- J walks ds -/
def Wk (J : It) (W0 : Wd) (ds : List D) : Prop := ∀ F W L env st σ H (i : Nat), W0.le W → Rel K ct F W L env st σ H →
  (∀ d, ds[i]? = some d → J.go i H ∧ ∀ x H', J.yld i H x H' → ∃ W' L', W.le W' ∧ Rel K ct F W' L' env st σ H' ∧ Rep K ct W' x d) ∧ (ds.length ≤ i → J.stop i H)
def tI (e : SemI) : TI := fun σ H R => ∃ F W L env st ds st', Rel K ct F W L env st σ H ∧ e env st = some (ds, st') ∧
  ∀ J H' W' L', W.le W' → Rel K ct F W' L' env st' σ H' → Wk K ct J W' ds → R J H'
end
structure SS (X : Cx) (ct : CT) (x : Stmt) (s : SemS) : Prop where
  ps : PS X x (tSm X.K ct s)
structure SB (X : Cx) (ct : CT) (x : List Stmt) (s : SemS) : Prop where
  pss : PSs X x (tSm X.K ct s)
structure SG (X : Cx) (ct : CT) (x : Expr) (ts : List Nat) (g : SemG) : Prop where
  pg : PG X x (tG X.K ct ts g)
structure SGs (X : Cx) (ct : CT) (x : List Expr) (ts : List Nat) (g : List D → List Slot → Option (List Slot)) : Prop where
  pgs : PGs X x (tGs X.K ct ts g)
structure SI (X : Cx) (ct : CT) (tg x : Expr) (e : SemI) : Prop where
  pi : PI X tg x (tI X.K ct e)
theorem ps_mono {X : Cx} {x : Stmt} {t t' : TS} (h : PS X x t) (k : ∀ D σ H, t' D σ H → t D σ H) : PS X x t' := ⟨fun pins s σ H D I q => h.run pins s σ H D I (k D σ H q)⟩
theorem pss_mono {X : Cx} {x : List Stmt} {t t' : TS} (h : PSs X x t) (k : ∀ D σ H, t' D σ H → t D σ H) : PSs X x t' := ⟨fun pins s σ H D I q => h.run pins s σ H D I (k D σ H q)⟩
theorem pg_mono {X : Cx} {x : Expr} {t t' : TG} (h : PG X x t) (k : ∀ v σ H Q, t' v σ H Q → t v σ H Q) : PG X x t' := ⟨fun pins s σ H v u Q I r q => h.run pins s σ H v u Q I r (k v σ H Q q)⟩
theorem pgs_mono {X : Cx} {x : List Expr} {t t' : TGs} (h : PGs X x t) (k : ∀ v σ H Q, t' v σ H Q → t v σ H Q) : PGs X x t' := ⟨fun pins s σ H v u Q I r q => h.run pins s σ H v u Q I r (k v σ H Q q)⟩
theorem pi_mono {X : Cx} {tg x : Expr} {t t' : TI} (h : PI X tg x t) (k : ∀ σ H R, t' σ H R → t σ H R) : PI X tg x t' := ⟨fun pins s σ H R I q => h.run pins s σ H R I (k σ H R q)⟩
theorem ps_or {X : Cx} {x : Stmt} {t t' : TS} (h : PS X x t) (h' : PS X x t') : PS X x (fun D σ H => t D σ H ∨ t' D σ H) := ⟨fun pins s σ H D I q => q.elim (h.run pins s σ H D I) (h'.run pins s σ H D I)⟩
theorem pi_or {X : Cx} {tg x : Expr} {t t' : TI} (h : PI X tg x t) (h' : PI X tg x t') : PI X tg x (fun σ H R => t σ H R ∨ t' σ H R) := ⟨fun pins s σ H R I q => q.elim (h.run pins s σ H R I) (h'.run pins s σ H R I)⟩

section
variable {K : PySem.W.Frag} {ct : CT} {F H H' : Hp} {W W' : Wd} {L L' : Addr → Option Lab} {env env' : List Slot} {st st' : Sto} {σ : St} {v : V} {d : D} {r : R} {a p : Addr} {o : HO} {D : Ends} {u : Out}
theorem OutOk.mono (h : OutOk K ct F W env' st' D u) (l : W.le W') : OutOk K ct F W' env' st' D u := by
  cases u with
  | nx => exact fun σ' H' W2 L2 l2 => h σ' H' W2 L2 (l.trans l2)
  | bk => exact fun σ' H' W2 L2 l2 => h σ' H' W2 L2 (l.trans l2)
  | ct => exact fun σ' H' W2 L2 l2 => h σ' H' W2 L2 (l.trans l2)
  | rt r => exact fun v σ' H' W2 L2 l2 => h v σ' H' W2 L2 (l.trans l2)
theorem getset {α : Type} {l : List α} {i j : Nat} {x y : α} (h : (l.set i x)[j]? = some y) : (j = i ∧ y = x ∧ i < l.length) ∨ (j ≠ i ∧ l[j]? = some y) := by
  by_cases e : i = j
  · subst e
    by_cases hi : i < l.length
    · rw [List.getElem?_set_self hi] at h
      exact .inl ⟨rfl, (Option.some.inj h).symm, hi⟩
    · rw [List.getElem?_eq_none (by simpa using hi)] at h
      cases h
  · rw [List.getElem?_set_ne e] at h
    exact .inr ⟨fun z => e z.symm, h⟩
theorem SlotOk.at' {σ' : St} {i : Nat} {s : Slot} (h : SlotOk K ct W L H σ i s) (e : σ'[i]? = σ[i]?) : SlotOk K ct W L H σ' i s := by
  cases s with
  | no => trivial
  | sh d => obtain ⟨v, h1, h2⟩ := h; exact ⟨v, e.trans h1, h2⟩
  | ow d => obtain ⟨a, h1, h2⟩ := h; exact ⟨a, e.trans h1, h2⟩
  | o2 d => obtain ⟨a, ws, h1, h2⟩ := h; exact ⟨a, ws, e.trans h1, h2⟩
  | me a d => obtain ⟨h1, h2⟩ := h; exact ⟨e.trans h1, h2⟩
/-- a slot takes a shared value -/
theorem Rel.setSh (I : Rel K ct F W L env st σ H) (i : Nat) (h : Rep K ct W v d) : Rel K ct F W L (env.set i (.sh d)) st (σ.set i (some v)) H := by
  refine ⟨I.fr, I.hs, I.tp, I.ob, I.rh, by rw [List.length_set, List.length_set]; exact I.len, fun j s e => ?_⟩
  rcases getset e with ⟨rfl, rfl, hi⟩ | ⟨hj, e⟩
  · refine ⟨v, ?_, h⟩
    rw [List.getElem?_set_self (by rw [I.len]; exact hi)]
  · exact (I.sl j s e).at' (List.getElem?_set_ne (Ne.symm hj))
/-- a slot takes a thing just made for one's own -/
theorem Rel.setOw (I : Rel K ct F W L env st σ H) (i : Nat) (hl : L a = none) (hw : W.hs a = none) (hf : F a = none) (c : Cell K ct W H a d) :
    Rel K ct F W (fun b => if b = a then some (.slot i) else L b) (env.set i (.ow d)) st (σ.set i (some (.ref a))) H := by
  have lab : ∀ b, b ≠ a → (if b = a then some (Lab.slot i) else L b) = L b := fun b h => if_neg h
  refine ⟨fun b u e => ?_, fun b u e => ?_, I.tp, fun g κ x e => ?_, I.rh, by rw [List.length_set, List.length_set]; exact I.len, fun j s e => ?_⟩
  · have nb : b ≠ a := by rintro rfl; rw [hf] at e; cases e
    obtain ⟨h1, h2, h3⟩ := I.fr b u e
    exact ⟨h1, (lab b nb).trans h2, h3⟩
  · have nb : b ≠ a := by rintro rfl; rw [hw] at e; cases e
    obtain ⟨h1, h2⟩ := I.hs b u e
    exact ⟨h1, (lab b nb).trans h2⟩
  · obtain ⟨v, h1, h2⟩ := I.ob g κ x e
    refine ⟨v, h1, ?_⟩
    have q : (fun b => if (if b = a then some (Lab.slot i) else L b) = some (.ob g) then H b else none) = fun b => if L b = some (.ob g) then H b else none := by
      funext b
      by_cases hb : b = a
      · subst hb; simp [hl]
      · rw [lab b hb]
    rw [q]; exact h2
  · rcases getset e with ⟨rfl, rfl, hi⟩ | ⟨hj, e⟩
    · exact ⟨a, by rw [List.getElem?_set_self (by rw [I.len]; exact hi)], if_pos rfl, c⟩
    · refine SlotOk.at' (σ := σ) ?_ (List.getElem?_set_ne (Ne.symm hj))
      refine (I.sl j s e).mono (.refl W) fun b u hb hu => ⟨hu, ?_⟩
      have nb : b ≠ a := by rintro rfl; rw [hl] at hb; cases hb
      exact (lab b nb).trans hb
/-- a slot's own thing is changed -/
theorem Rel.updOw' (I : Rel K ct F W L env st σ H) {i : Nat} (hs : σ[i]? = some (some (.ref a))) (hl : L a = some (.slot i)) (hn : ∀ xs, H a ≠ some (.tup xs)) {d' : Kn.D} (c' : Cell K ct W (upd H a o) a d') :
    Rel K ct F W L (env.set i (.ow d')) st σ (upd H a o) := by
  have ne : ∀ b, L b ≠ some (.slot i) → (upd H a o) b = H b := fun b h => upd_ne (by rintro rfl; exact h hl)
  refine ⟨fun b u e => ?_, fun b u e => ?_, fun b vs e => ?_, fun g κ x e => ?_, I.rh, by rw [List.length_set]; exact I.len, fun j s e => ?_⟩
  · obtain ⟨h1, h2, h3⟩ := I.fr b u e
    exact ⟨by rw [ne b (by rw [h2]; exact fun z => nomatch z)]; exact h1, h2, h3⟩
  · obtain ⟨h1, h2⟩ := I.hs b u e
    exact ⟨by rw [ne b (by rw [h2]; exact fun z => nomatch z)]; exact h1, h2⟩
  · rw [upd_ne (by rintro rfl; exact hn _ (I.tp _ _ e))]
    exact I.tp b vs e
  · obtain ⟨v, h1, h2⟩ := I.ob g κ x e
    refine ⟨v, h1, ?_⟩
    have q : (fun b => if L b = some (.ob g) then (upd H a o) b else none) = fun b => if L b = some (.ob g) then H b else none := by
      funext b
      by_cases hb : L b = some (.ob g)
      · rw [if_pos hb, if_pos hb, ne b (by rw [hb]; exact fun z => nomatch z)]
      · rw [if_neg hb, if_neg hb]
    rw [q]; exact h2
  · rcases getset e with ⟨rfl, rfl, hi⟩ | ⟨hj, e⟩
    · exact ⟨a, hs, hl, c'⟩
    · refine (I.sl j s e).mono (.refl W) fun b u hb hu => ⟨?_, hb⟩
      rw [ne b (by rw [hb]; intro z; cases z; exact hj rfl)]; exact hu
/-- a label is taken away -/
theorem Rel.unlab (I : Rel K ct F W L env st σ H) {i : Nat} (hl : L a = some (.slot i)) : Rel K ct F W (fun b => if b = a then none else L b) (env.set i .no) st σ H := by
  have lab : ∀ b, b ≠ a → (if b = a then none else L b) = L b := fun b h => if_neg h
  refine ⟨fun b u e => ?_, fun b u e => ?_, I.tp, fun g κ x e => ?_, I.rh, by rw [List.length_set]; exact I.len, fun j s e => ?_⟩
  · obtain ⟨h1, h2, h3⟩ := I.fr b u e
    refine ⟨h1, ?_, h3⟩
    by_cases hb : b = a
    · exact if_pos hb
    · exact (lab b hb).trans h2
  · obtain ⟨h1, h2⟩ := I.hs b u e
    refine ⟨h1, ?_⟩
    by_cases hb : b = a
    · exact if_pos hb
    · exact (lab b hb).trans h2
  · obtain ⟨v, h1, h2⟩ := I.ob g κ x e
    refine ⟨v, h1, ?_⟩
    have q : (fun b => if (if b = a then none else L b) = some (.ob g) then H b else none) = fun b => if L b = some (.ob g) then H b else none := by
      funext b
      by_cases hb : b = a
      · subst hb; simp [hl]
      · rw [lab b hb]
    rw [q]; exact h2
  · rcases getset e with ⟨rfl, rfl, hi⟩ | ⟨hj, e⟩
    · trivial
    · refine (I.sl j s e).mono (.refl W) fun b u hb hu => ⟨hu, ?_⟩
      have nb : b ≠ a := by rintro rfl; rw [hl] at hb; cases hb; exact hj rfl
      exact (lab b nb).trans hb
/-- a slot's own thing is shared -/
theorem Rel.freeze (I : Rel K ct F W L env st σ H) {i : Nat} (he : env[i]? = some (.ow d)) : ∃ W' L', W.le W' ∧ Rel K ct F W' L' (env.set i (.sh d)) st σ H := by
  obtain ⟨a, h1, h2, c⟩ := I.sl i _ he
  have J := I.unlab h2
  have na : (fun b => if b = a then none else L b) a = none := if_pos rfl
  have hf : F a = none := by
    cases q : F a with
    | none => rfl
    | some u => have := (I.fr a u q).2.1; rw [h2] at this; cases this
  have hw : W.hs a = none := by
    cases q : W.hs a with
    | none => rfl
    | some u => have := (I.hs a u q).2; rw [h2] at this; cases this
  obtain ⟨W', le, J', q⟩ := J.pin (v := .ref a) (r := .ow d) ⟨a, rfl, na, hw, hf, c⟩
  refine ⟨W', (fun b => if b = a then none else L b), le, ?_⟩
  have s := J'.setSh (v := .ref a) (d := d) i q
  rw [List.set_set] at s
  have e : σ.set i (some (.ref a)) = σ := by
    refine List.ext_getElem? fun j => ?_
    by_cases hj : i = j
    · subst hj
      rw [List.getElem?_set_self (List.getElem?_eq_some_iff.mp h1).1, h1]
    · rw [List.getElem?_set_ne hj]
  rw [e] at s
  exact s
end

section
variable {X : Cx} {ct : CT} {pos : Pos} {x y : Expr} {a b c : Sem} {sx : Stmt} {sxs rest : List Stmt} {f g : SemS}
/-! blocks -/
def sNil : SemS := fun env st => some (.nx, env, st)
def sSeq (f g : SemS) : SemS := fun env st => (f env st).bind fun p => match p with
  | (.nx, env', st') => g env' st'
  | q => some q
theorem sb_nil : SB X ct [] sNil := ⟨pss_mono pss_nil fun D σ H ⟨F, W, L, env, st, o, env', st', I, e, k⟩ => by cases e; exact k σ H W L (.refl W) I⟩
theorem tSm_seq {K : PySem.W.Frag} {D : Ends} {σ : St} {H : Hp} (h : tSm K ct (sSeq f g) D σ H) : tSeq (tSm K ct f) (tSm K ct g) D σ H := by
  obtain ⟨F, W, L, env, st, o, env', st', I, e, k⟩ := h
  obtain ⟨⟨o1, env1, st1⟩, h1, e⟩ := bind2 e
  cases o1 with
  | nx => exact ⟨F, W, L, env, st, .nx, env1, st1, I, h1, fun σ' H' W' L' l I' => ⟨F, W', L', env1, st1, o, env', st', I', e, k.mono l⟩⟩
  | bk => cases e; exact ⟨F, W, L, env, st, .bk, _, _, I, h1, k⟩
  | ct => cases e; exact ⟨F, W, L, env, st, .ct, _, _, I, h1, k⟩
  | rt r => cases e; exact ⟨F, W, L, env, st, .rt r, _, _, I, h1, k⟩
theorem sb_cons (h : SS X ct sx f) (k : SB X ct rest g) : SB X ct (sx :: rest) (sSeq f g) := ⟨pss_mono (pss_cons h.ps k.pss) fun _ _ _ h => tSm_seq h⟩
theorem sb_one (h : SS X ct sx f) : SB X ct [sx] f := ⟨pss_one h.ps⟩
/-- own things shared ahead of a statement -/
def sFrz (i : Nat) (f : SemS) : SemS := fun env st => match env[i]? with
  | some (.ow d) => f (env.set i (.sh d)) st
  | _ => f env st
theorem ss_frz (i : Nat) (h : SS X ct sx f) : SS X ct sx (sFrz i f) := by
  refine ⟨ps_mono h.ps fun D σ H ⟨F, W, L, env, st, o, env', st', I, e, k⟩ => ?_⟩
  unfold sFrz at e
  split at e
  · rename_i d he
    obtain ⟨W', L', le, J⟩ := I.freeze he
    exact ⟨F, W', L', _, st, o, env', st', J, e, k.mono le⟩
  · exact ⟨F, W, L, env, st, o, env', st', I, e, k⟩

/-! targets -/
def gNm (i : Nat) : SemG := fun d env => some (env.set i (.sh d))
def gL : List SemG → List D → List Slot → Option (List Slot)
  | [], [], env => some env
  | g :: gs, d :: ds, env => (g d env).bind fun env' => gL gs ds env'
  | _, _, _ => none
def gTp (gs : List SemG) : SemG := fun d env => match d with
  | .tup ds => gL gs ds env
  | _ => none
theorem offSet {α : Type} (l : List α) (i : Nat) (x : α) : (l.set i x).length = l.length ∧ ∀ j : Nat, j ∉ [i] → (l.set i x)[j]? = l[j]? :=
  ⟨List.length_set, fun j hj => List.getElem?_set_ne (by rintro rfl; exact hj List.mem_cons_self)⟩
theorem sg_nm (i : Nat) {n : Str} (hN : X.N.Nodup) (hi : X.N[i]? = some n := by rfl) (hx : Loc X.env.scope n := by first | exact .inl rfl | exact .inr rfl) (hf : X.fn n = true ∨ X.env.scope.names.lookup n = some .local := by first | exact .inl rfl | exact .inr rfl) : SG X ct (.Name n pos) [i] (gNm i) := by
  refine ⟨pg_mono (pg_name hN hi hx hf) fun v σ H Q ⟨F, W, L, env, st, d, env', I, r, e, k⟩ => ?_⟩
  cases e
  exact k _ (offSet _ _ _) (offSet _ _ _) (I.setSh i r)
theorem sgs_nil : SGs X ct [] [] (gL []) := by
  refine ⟨pgs_mono pgs_nil fun v σ H Q ⟨F, W, L, env, st, ds, env', I, r, e, k⟩ => ?_⟩
  cases r with
  | nil => cases e; exact ⟨rfl, k σ ⟨rfl, fun _ _ => rfl⟩ ⟨rfl, fun _ _ => rfl⟩ I⟩
  | cons => cases e
theorem offTrans {α : Type} {ts us : List Nat} {l m n : List α} (h : m.length = l.length ∧ ∀ j : Nat, j ∉ ts → m[j]? = l[j]?) (k : n.length = m.length ∧ ∀ j : Nat, j ∉ us → n[j]? = m[j]?) : n.length = l.length ∧ ∀ j : Nat, j ∉ ts ++ us → n[j]? = l[j]? :=
  ⟨k.1.trans h.1, fun j hj => (k.2 j fun z => hj (List.mem_append_right _ z)).trans (h.2 j fun z => hj (List.mem_append_left _ z))⟩
theorem sgs_cons {xs : List Expr} {ts us : List Nat} {g : SemG} {gs : List SemG} (h : SG X ct x ts g) (k : SGs X ct xs us (gL gs)) (hs : (assignEach (x :: xs) X.env).map (·.2) = assign x X.env :: (assignEach xs X.env).map (·.2) := by rfl) : SGs X ct (x :: xs) (ts ++ us) (gL (g :: gs)) := by
  refine ⟨pgs_mono (pgs_cons h.pg k.pgs hs) fun v σ H Q ⟨F, W, L, env, st, ds, env', I, r, e, k⟩ => ?_⟩
  cases r with
  | nil => cases e
  | cons h r =>
    obtain ⟨env1, e1, e⟩ := bind2 e
    refine ⟨_, _, rfl, F, W, L, env, st, _, env1, I, h, e1, fun σ' o1 o2 I1 => ?_⟩
    exact ⟨F, W, L, env1, st, _, env', I1, r, e, fun σ2 o3 o4 I2 => k σ2 (offTrans o1 o3) (offTrans o2 o4) I2⟩
theorem gL_len : ∀ {gs : List SemG} {ds : List D} {e e' : List Slot}, gL gs ds e = some e' → ds.length = gs.length
  | [], [], _, _, _ => rfl
  | [], _ :: _, _, _, h => by cases h
  | _ :: _, [], _, _, h => by cases h
  | g :: gs, d :: ds, e, e', h => by
    obtain ⟨e1, _, h⟩ := bind2 h
    exact congrArg (· + 1) (gL_len h)
theorem sg_tup {xs : List Expr} {n : Nat} {ts : List Nat} {gs : List SemG} (hc : X.calm = true) (h : SGs X ct xs ts (gL gs)) (hn : (assignEach xs X.env).length = gs.length := by rfl) (hst : (assignEach xs X.env).findIdx? (·.1) = none := by rfl) : SG X ct (.Tuple xs n pos) ts (gTp gs) := by
  refine ⟨pg_mono (pg_tup hc h.pgs hn hst) fun v σ H Q ⟨F, W, L, env, st, d, env', I, r, e, k⟩ => ?_⟩
  cases d <;> try (cases e; done)
  cases r with
  | tup h q =>
    refine ⟨_, _, rfl, SqT.of (I.tp _ _ h), by rw [q.length]; exact gL_len e, F, W, L, env, st, _, env', I, q, e, k⟩

/-! assignments -/
def sSet (i : Nat) (e : Sem) : SemS := fun env st => (e env st).bind fun p => match p.1 with
  | .sh d => some (.nx, env.set i (.sh d), p.2)
  | .ow d => some (.nx, env.set i (.ow d), p.2)
  | .bw _ _ => none
theorem tSm_set {K : PySem.W.Frag} {i : Nat} {D : Ends} {σ : St} {H : Hp} (h : tSm K ct (sSet i a) D σ H) : tAsg (tE K ct a) (gName i) D σ H := by
  obtain ⟨F, W, L, env, st, o, env', st', I, e, k⟩ := h
  obtain ⟨⟨r1, st1⟩, h1, e⟩ := bind2 e
  refine ⟨F, W, L, env, st, r1, st1, I, h1, fun v H1 W1 L1 l1 I1 p1 => ?_⟩
  cases r1 with
  | sh d => cases e; exact k _ H1 W1 L1 l1 (I1.setSh i p1)
  | ow d =>
    cases e
    obtain ⟨a, rfl, h1, h2, h3, c⟩ := p1
    exact k _ H1 W1 _ l1 (I1.setOw i h1 h2 h3 c)
  | bw j d => cases e
theorem ss_set (i : Nat) {n : Str} {pos' : Pos} (hN : X.N.Nodup) (he : SE X ct x a) (hi : X.N[i]? = some n := by rfl) (hx : Loc X.env.scope n := by first | exact .inl rfl | exact .inr rfl) (hs : swapsWith x (some (.Name n pos')) pos.line X.env = pure false := by rfl)
    (hf : X.fn n = true ∨ X.env.scope.names.lookup n = some .local := by first | exact .inl rfl | exact .inr rfl) : SS X ct (.Assign [.Name n pos'] x pos) (sSet i a) := ⟨ps_mono (ps_set hN hi hx he.pe hs hf) fun _ _ _ h => tSm_set h⟩
/-- into a tuple of names -/
def sAsg (e : Sem) (g : SemG) : SemS := fun env st => (e env st).bind fun p => match p.1.pin with
  | .sh d => (g d env).map fun env' => (.nx, env', p.2)
  | _ => none
theorem ss_asg {tg : Expr} {ts : List Nat} {g : SemG} (he : SE X ct x a) (hg : SG X ct tg ts g) (hs : swapsWithSole [tg] x pos.line X.env = pure false := by rfl) (hw : swappedStores [tg] x X.env = pure none := by rfl)
    (h1 : (assignEach [tg] X.env).map (·.2) = [assign tg X.env] := by rfl) : SS X ct (.Assign [tg] x pos) (sAsg a g) := by
  refine ⟨ps_mono (ps_asg he.pe hg.pg hs hw h1) fun D σ H ⟨F, W, L, env, st, o, env', st', I, e, k⟩ => ?_⟩
  obtain ⟨⟨r1, st1⟩, h1, e⟩ := bind2 e
  refine ⟨F, W, L, env, st, r1, st1, I, h1, fun v H1 W1 L1 l1 I1 p1 => ?_⟩
  obtain ⟨W1', m1, J1, q1⟩ := I1.pin p1
  obtain ⟨d, env1, hr, e1, rfl, rfl, rfl⟩ : ∃ d env1, r1.pin = .sh d ∧ g d env = some env1 ∧ o = .nx ∧ env' = env1 ∧ st' = st1 := by
    clear p1 q1 J1 I1 k h1
    dsimp only at e
    split at e
    · rename_i d hr
      obtain ⟨env1, e1, e2⟩ := map2 e
      cases e2
      exact ⟨d, _, hr, e1, rfl, rfl, rfl⟩
    · cases e
  rw [hr] at q1
  exact ⟨F, W1', L1, env, _, d, _, J1, q1, e1, fun σ' _ _ I' => k σ' H1 W1' L1 (l1.trans m1) I'⟩
/-- a, b = x, y -/
def sPar (i j : Nat) (as : SemA) : SemS := fun env st => (as env st).bind fun p => match p.1 with
  | [.sh d, .sh e] => some (.nx, (env.set i (.sh d)).set j (.sh e), p.2)
  | _ => none
theorem ss_par (i j : Nat) {n m : Str} {as : SemA} {px py pt : Pos} {kt k2 pt2} (hc : X.calm = true) (hN : X.N.Nodup) (hi : X.N[i]? = some n := by rfl) (hj : X.N[j]? = some m := by rfl) (hij : i ≠ j := by decide)
    (hx : X.env.scope.names.lookup n = some .local := by rfl) (hy : X.env.scope.names.lookup m = some .local := by rfl) (ha : SA X ct [x, y] as)
    (hw : swappedStores [.Tuple [.Name n px, .Name m py] kt pt] (.Tuple [x, y] k2 pt2) X.env = pure (some [n, m]) := by rfl)
    (hs : swapsWithSole [.Tuple [.Name n px, .Name m py] kt pt] (.Tuple [x, y] k2 pt2) pos.line X.env = pure false := by rfl) :
    SS X ct (.Assign [.Tuple [.Name n px, .Name m py] kt pt] (.Tuple [x, y] k2 pt2) pos) (sPar i j as) := by
  refine ⟨ps_mono (ps_par hc hN hi hj hij hx hy ha.pa hw hs) fun D σ H ⟨F, W, L, env, st, o, env', st', I, e, k⟩ => ?_⟩
  obtain ⟨⟨rs, st1⟩, h1, e⟩ := bind2 e
  refine ⟨F, W, L, env, st, rs, st1, I, h1, fun vs H1 W1 L1 l1 I1 qs => ?_⟩
  obtain ⟨d1, d2, rfl, rfl, rfl, rfl⟩ : ∃ d1 d2, rs = [.sh d1, .sh d2] ∧ o = .nx ∧ env' = (env.set i (.sh d1)).set j (.sh d2) ∧ st' = st1 := by
    clear qs I1 k h1
    dsimp only at e
    split at e
    · cases e
      exact ⟨_, _, rfl, rfl, rfl, rfl⟩
    · cases e
  cases qs with
  | cons q1 qs =>
    cases qs with
    | cons q2 qs =>
      cases qs
      exact ⟨_, _, rfl, k _ H1 W1 L1 l1 ((I1.setSh i q1).setSh j q2)⟩
/-- x op= e -/
def sAug (i : Nat) (f : D → D → Option R) (e : Sem) : SemS := fun env st => match env[i]? with
  | some (.sh d) => (e env st).bind fun p => (f d p.1.d).bind fun r => match r with
    | .sh d' => some (.nx, env.set i (.sh d'), p.2)
    | _ => none
  | _ => none
theorem ss_aug (i : Nat) {n : Str} {op : Operator} {g : Int → Int → Int} {pos' : Pos} (ho : PIp X op (ipI g)) (hN : X.N.Nodup) (he : SE X ct x a) (hi : X.N[i]? = some n := by rfl) (hx : Loc X.env.scope n := by first | exact .inl rfl | exact .inr rfl)
    (hf : X.fn n = true ∨ X.env.scope.names.lookup n = some .local := by first | exact .inl rfl | exact .inr rfl) : SS X ct (.AugAssign (.Name n pos') op x pos) (sAug i (fI fun i j => some (g i j)) a) := by
  refine ⟨ps_mono (ps_aug hN hi hx he.pe ho hf) fun D σ H ⟨F, W, L, env, st, o, env', st', I, e, k⟩ => ?_⟩
  unfold sAug at e
  split at e
  · rename_i d hd
    obtain ⟨v, hv, rv⟩ := I.sl i _ hd
    obtain ⟨⟨r1, st1⟩, h1, e⟩ := bind2 e
    obtain ⟨r2, h2, e⟩ := bind2 e
    refine ⟨v, hv, F, W, L, env, st, r1, st1, I, h1, fun w H1 W1 L1 l1 I1 p1 => ?_⟩
    obtain ⟨W1', m1, J1, q1⟩ := I1.pin p1
    have q1' := J1.look q1
    rw [R.pin_d] at q1'
    unfold fI at h2
    split at h2
    · rename_i n m _ e2 _
      cases h2
      cases e
      have e2 : r1.d = _ := e2
      rw [e2] at q1'
      cases rv
      exact ⟨_, _, rfl, q1'.int, k _ _ _ _ (l1.trans m1) (J1.setSh i (.int _))⟩
    · cases h2
  · cases e
theorem ss_augadd (i : Nat) {n : Str} {pos' : Pos} (hN : X.N.Nodup) (he : SE X ct x a) (hi : X.N[i]? = some n := by rfl) (hx : Loc X.env.scope n := by first | exact .inl rfl | exact .inr rfl)
    (hf : X.fn n = true ∨ X.env.scope.names.lookup n = some .local := by first | exact .inl rfl | exact .inr rfl) : SS X ct (.AugAssign (.Name n pos') .Add x pos) (sAug i (fI fun i j => some (i + j)) a) := ss_aug i (g := fun i j => i + j) ip_add hN he hi hx hf

/-! small statements -/
def sEx (e : Sem) : SemS := fun env st => (e env st).map fun p => (.nx, env, p.2)
theorem ss_ex (he : SE X ct x a) (hs : swapsWith x none pos.line X.env = pure false := by rfl) : SS X ct (.Expr x pos) (sEx a) := by
  refine ⟨ps_mono (ps_expr he.pe hs) fun D σ H ⟨F, W, L, env, st, o, env', st', I, e, k⟩ => ?_⟩
  obtain ⟨⟨r1, st1⟩, h1, e⟩ := map2 e
  cases e
  exact ⟨F, W, L, env, st, r1, _, I, h1, fun v H1 W1 L1 l1 I1 _ => k _ H1 W1 L1 l1 I1⟩
def sRet (e : Sem) : SemS := fun env st => (e env st).map fun p => (.rt p.1, env, p.2)
theorem ss_ret (he : SE X ct x a) : SS X ct (.Return (some x) pos) (sRet a) := by
  refine ⟨ps_mono (ps_ret he.pe) fun D σ H ⟨F, W, L, env, st, o, env', st', I, e, k⟩ => ?_⟩
  obtain ⟨⟨r1, st1⟩, h1, e⟩ := map2 e
  cases e
  exact ⟨F, W, L, env, st, r1, _, I, h1, fun v H1 W1 L1 l1 I1 p => k v _ H1 W1 L1 l1 I1 p⟩
def sRetN : SemS := fun env st => some (.rt (.sh .non), env, st)
theorem ss_retN : SS X ct (.Return none pos) sRetN := ⟨ps_mono ps_retN fun D σ H ⟨F, W, L, env, st, o, env', st', I, e, k⟩ => by cases e; exact k _ σ H W L (.refl W) I .non⟩
theorem ss_pass : SS X ct (.Pass pos) sNil := ⟨ps_mono ps_pass fun D σ H ⟨F, W, L, env, st, o, env', st', I, e, k⟩ => by cases e; exact k σ H W L (.refl W) I⟩
def sBrk : SemS := fun env st => some (.bk, env, st)
def sCnt : SemS := fun env st => some (.ct, env, st)
theorem ss_brk : SS X ct (.Break pos) sBrk := ⟨ps_mono ps_break fun D σ H ⟨F, W, L, env, st, o, env', st', I, e, k⟩ => by cases e; exact k σ H W L (.refl W) I⟩
theorem ss_cnt : SS X ct (.Continue pos) sCnt := ⟨ps_mono ps_continue fun D σ H ⟨F, W, L, env, st, o, env', st', I, e, k⟩ => by cases e; exact k σ H W L (.refl W) I⟩
/-- what is never come to -/
def sNever : SemS := fun _ _ => none
theorem ss_never : SS X ct sx sNever := ⟨ps_mono ps_never fun D σ H ⟨F, W, L, env, st, o, env', st', I, e, k⟩ => by cases e⟩
theorem sb_never : SB X ct sxs sNever := ⟨pss_mono pss_never fun D σ H ⟨F, W, L, env, st, o, env', st', I, e, k⟩ => by cases e⟩
theorem ss_doc {x j pos pos'} : SS X ct (.Expr (.Constant (.str x) j pos) pos') sNil := ⟨ps_mono ps_doc fun D σ H ⟨F, W, L, env, st, o, env', st', I, e, k⟩ => by cases e; exact k σ H W L (.refl W) I⟩
def R.tr : R → Option Bool
  | .sh (.bl b) => some b
  | _ => none
theorem R.tr_eq : ∀ {r : R} {b : Bool}, r.tr = some b → r = .sh (.bl b)
  | .sh (.bl _), _, e => by cases e; rfl
  | .sh .non, _, e => nomatch e
  | .sh (.int _), _, e => nomatch e
  | .sh (.str _), _, e => nomatch e
  | .sh (.lst _), _, e => nomatch e
  | .sh (.tup _), _, e => nomatch e
  | .sh (.dic _), _, e => nomatch e
  | .sh (.obj _ _), _, e => nomatch e
  | .sh (.hnd _), _, e => nomatch e
  | .sh (.scr _), _, e => nomatch e
  | .ow _, _, e => nomatch e
  | .bw _ _, _, e => nomatch e
def sIf (c : Sem) (f g : SemS) : SemS := fun env st => (c env st).bind fun p => p.1.tr.bind fun k => if k = true then f env p.2 else g env p.2
theorem ss_if {s1 s2 : List Stmt} (hc : ST X ct x c) (hf : SB X ct s1 f) (hg : SB X ct s2 g) : SS X ct (.If x s1 s2 pos) (sIf c f g) := by
  refine ⟨ps_mono (ps_if hc.pt hf.pss hg.pss) fun D σ H ⟨F, W, L, env, st, o, env', st', I, e, k⟩ => ?_⟩
  obtain ⟨⟨r1, st1⟩, h1, e⟩ := bind2 e
  obtain ⟨b, hb, e⟩ := bind2 e
  have hb := R.tr_eq hb
  rw [show r1 = _ from hb] at h1
  refine ⟨F, W, L, env, st, b, st1, I, h1, fun H1 W1 L1 l1 I1 => ?_⟩
  cases b with
  | true => exact iteT ⟨F, W1, L1, env, st1, o, env', st', I1, e, k.mono l1⟩
  | false => exact iteF ⟨F, W1, L1, env, st1, o, env', st', I1, e, k.mono l1⟩
/-- while, at most n turns -/
def whL (c : Sem) (f : SemS) : Nat → List Slot → Sto → Option (Out × List Slot × Sto)
  | 0, _, _ => none
  | n + 1, env, st => (c env st).bind fun p => p.1.tr.bind fun k => if k = true then (f env p.2).bind fun q => match q with
      | (.nx, env', st') => whL c f n env' st'
      | (.ct, env', st') => whL c f n env' st'
      | (.bk, env', st') => some (.nx, env', st')
      | (.rt r, env', st') => some (.rt r, env', st')
    else some (.nx, env, p.2)
def sWhl (n : Nat) (c : Sem) (f : SemS) : SemS := fun env st => whL c f n env st
theorem ss_whl (n : Nat) {s1 : List Stmt} (hp : PassesOwn (model X.prog X.w) X.A X.env X.xe) (hc : ST X ct x c) (hf : SB X ct s1 f) : SS X ct (.While x s1 [] pos) (sWhl n c f) := by
  refine ⟨ps_mono (ps_while hp hc.pt hf.pss) fun D σ H ⟨F, W, L, env, st, o, env', st', I, e, k⟩ => ?_⟩
  refine ⟨fun m σ H => ∃ W1 L1 env1 st1, W.le W1 ∧ Rel X.K ct F W1 L1 env1 st1 σ H ∧ whL c f m env1 st1 = some (o, env', st'), ⟨n, W, L, env, st, .refl W, I, e⟩, ?_⟩
  rintro m σ H ⟨W1, L1, env1, st1, l1, I1, e1⟩
  cases m with
  | zero => cases e1
  | succ m =>
    obtain ⟨⟨r1, st2⟩, h1, e1⟩ := bind2 e1
    obtain ⟨b, hb, e1⟩ := bind2 e1
    have hb := R.tr_eq hb
    rw [show r1 = _ from hb] at h1
    cases b with
    | false =>
      have e1 : some (Out.nx, env1, st2) = some (o, env', st') := e1
      cases e1
      exact ⟨F, W1, L1, _, st1, false, _, I1, h1, fun H2 W2 L2 l2 I2 => iteF (k _ _ _ _ (l1.trans l2) I2)⟩
    | true =>
      have e1 : ((f env1 st2).bind fun q => match q with
        | (.nx, env', st') => whL c f m env' st'
        | (.ct, env', st') => whL c f m env' st'
        | (.bk, env', st') => some (.nx, env', st')
        | (.rt r, env', st') => some (.rt r, env', st')) = some (o, env', st') := e1
      obtain ⟨⟨o2, env2, st3⟩, h2, e2⟩ := bind2 e1
      refine ⟨F, W1, L1, env1, st1, true, st2, I1, h1, fun H2 W2 L2 l2 I2 => iteT ?_⟩
      refine ⟨fun σ' H' => ∃ W3 L3 env3 st3, W.le W3 ∧ Rel X.K ct F W3 L3 env3 st3 σ' H' ∧ whL c f m env3 st3 = some (o, env', st'), fun σ' H' q => ⟨m, Nat.lt_succ_self m, q⟩, ?_⟩
      refine ⟨F, W2, L2, env1, st2, o2, env2, st3, I2, h2, ?_⟩
      cases o2 with
      | nx => exact fun σ' H' W3 L3 l3 I3 => ⟨W3, L3, env2, st3, l1.trans (l2.trans l3), I3, e2⟩
      | ct => exact fun σ' H' W3 L3 l3 I3 => ⟨W3, L3, env2, st3, l1.trans (l2.trans l3), I3, e2⟩
      | bk => cases e2; exact fun σ' H' W3 L3 l3 I3 => k _ _ _ _ (l1.trans (l2.trans l3)) I3
      | rt r => cases e2; exact fun v σ' H' W3 L3 l3 I3 => k v _ _ _ _ (l1.trans (l2.trans l3)) I3

/-! for -/
def forL (g : SemG) (f : SemS) : List D → List Slot → Sto → Option (Out × List Slot × Sto)
  | [], env, st => some (.nx, env, st)
  | d :: ds, env, st => (g d env).bind fun env1 => (f env1 st).bind fun q => match q with
    | (.nx, env', st') => forL g f ds env' st'
    | (.ct, env', st') => forL g f ds env' st'
    | (.bk, env', st') => some (.nx, env', st')
    | (.rt r, env', st') => some (.rt r, env', st')
def sFor (it : SemI) (g : SemG) (f : SemS) : SemS := fun env st => (it env st).bind fun p => forL g f p.1 env p.2
theorem ss_for {tg : Expr} {ts : List Nat} {g : SemG} {it : SemI} {s1 : List Stmt} (hp : PassesOwn (model X.prog X.w) X.A X.env X.xe) (hc : X.calm = true) (hi : SI X ct tg x it) (hg : SG X ct tg ts g) (hf : SB X ct s1 f) (hs : ∀ z, foldedSetIterable x X.env z = pure z := by intro _; rfl) :
    SS X ct (.For tg x s1 [] pos) (sFor it g f) := by
  refine ⟨ps_mono (ps_for hp hc hi.pi hg.pg hf.pss hs) fun D σ H ⟨F, W, L, env, st, o, env', st', I, e, k⟩ => ?_⟩
  obtain ⟨⟨ds, st1⟩, h1, e⟩ := bind2 e
  refine ⟨F, W, L, env, st, ds, st1, I, h1, fun J H1 W1 L1 l1 I1 wk => ?_⟩
  refine ⟨fun i m σ H => m = ds.length - i ∧ i ≤ ds.length ∧ ∃ W2 L2 env2 st2, W1.le W2 ∧ Rel X.K ct F W2 L2 env2 st2 σ H ∧ forL g f (ds.drop i) env2 st2 = some (o, env', st'), ⟨_, rfl, Nat.zero_le _, W1, L1, env, st1, .refl W1, I1, e⟩, ?_⟩
  rintro i m σ H ⟨rfl, hi, W2, L2, env2, st2, l2, I2, e2⟩
  have wk2 := wk F W2 L2 env2 st2 σ H i l2 I2
  by_cases hlt : i < ds.length
  · rw [List.drop_eq_getElem_cons hlt] at e2
    obtain ⟨env3, h3, e2⟩ := bind2 e2
    obtain ⟨⟨o4, env4, st4⟩, h4, e2⟩ := bind2 e2
    obtain ⟨go, yl⟩ := wk2.1 ds[i] (List.getElem?_eq_getElem hlt)
    refine .inr ⟨go, fun σ' H' => i + 1 ≤ ds.length ∧ ∃ W2 L2 env2 st2, W1.le W2 ∧ Rel X.K ct F W2 L2 env2 st2 σ' H' ∧ forL g f (ds.drop (i + 1)) env2 st2 = some (o, env', st'), fun σ' H' q => ⟨_, by omega, rfl, q⟩, fun v H' y => ?_⟩
    obtain ⟨W3, L3, l3, I3, r3⟩ := yl v H' y
    refine ⟨F, W3, L3, env2, st2, _, env3, I3, r3, h3, fun σ3 _ _ I3' => ?_⟩
    refine ⟨F, W3, L3, env3, st2, o4, env4, st4, I3', h4, ?_⟩
    have ll := l2.trans l3
    cases o4 with
    | nx => exact fun σ' H' W5 L5 l5 I5 => ⟨hlt, W5, L5, env4, st4, ll.trans l5, I5, e2⟩
    | ct => exact fun σ' H' W5 L5 l5 I5 => ⟨hlt, W5, L5, env4, st4, ll.trans l5, I5, e2⟩
    | bk => cases e2; exact fun σ' H' W5 L5 l5 I5 => k _ _ _ _ (l1.trans (ll.trans l5)) I5
    | rt r => cases e2; exact fun v σ' H' W5 L5 l5 I5 => k v _ _ _ _ (l1.trans (ll.trans l5)) I5
  · have ei : i = ds.length := by omega
    rw [ei, List.drop_length] at e2
    cases e2
    exact .inl ⟨wk2.2 (by omega), k _ _ _ _ (l1.trans l2) I2⟩
end
end Kn
namespace Kn
open PySem L2

section
variable {X : Cx} {ct : CT} {pos : Pos} {x y : Expr} {a b c : Sem} {es : List Expr} {as : SemA}
/-! a list of one's own is changed by its methods -/
def MuS (rr : V → List V → Hp → VK → Prop) (f : List D → List D → Option (List D)) : Prop := ∀ K ct W H l vs ds ws xs ds' Q, H l = some (.lst vs) → RepL K ct W vs ds → RepL K ct W ws xs → f xs ds = some ds' →
  (∀ v vs', RepL K ct W vs' ds' → Q v (upd H l (.lst vs'))) → rr (.ref l) ws H Q
def sMut (i : Nat) (f : List D → List D → Option (List D)) (as : SemA) : SemS := fun env st => (as env st).bind fun p => (valsR p.1).bind fun xs => match env[i]? with
  | some (.ow (.lst ds)) => (f xs ds).map fun ds' => (.nx, env.set i (.ow (.lst ds')), p.2)
  | _ => none
theorem tSm_mut {K : PySem.W.Frag} {i : Nat} {rr : V → List V → Hp → VK → Prop} {f : List D → List D → Option (List D)} (ms : MuS rr f) {D : Ends} {σ : St} {H : Hp} (h : tSm K ct (sMut i f as) D σ H) :
    ∃ l vs, σ[i]? = some (some (.ref l)) ∧ H l = some (.lst vs) ∧ tA K ct as σ H fun ws H2 => rr (.ref l) ws H2 fun _ H3 => D.nx σ H3 := by
  obtain ⟨F, W, L, env, st, o, env', st', I, e, k⟩ := h
  obtain ⟨⟨rs, st1⟩, h1, e⟩ := bind2 e
  obtain ⟨xs, h2, e⟩ := bind2 e
  split at e
  · rename_i ds he
    obtain ⟨ds', h3, e3⟩ := map2 e
    cases e3
    obtain ⟨l, s1, s2, c⟩ := I.sl i _ he
    cases c with
    | lst g q =>
      refine ⟨l, _, s1, g, F, W, L, env, st, rs, _, I, h1, fun ws H2 W2 L2 l2 I2 qs => ?_⟩
      obtain ⟨l', t1, t2, c2⟩ := I2.sl i _ he
      rw [s1] at t1; cases t1
      cases c2 with
      | lst g2 q2 =>
        refine ms _ _ _ _ _ _ _ _ _ _ _ g2 q2 (qs.vals h2) h3 fun v vs' q' => ?_
        exact k _ _ _ _ l2 (I2.updOw' s1 t2 (fun xs z => by rw [g2] at z; cases z) (.lst upd_same q'))
  · cases e
theorem ss_mut1 {id : String} {name n : Str} {rr : V → List V → Hp → VK → Prop} {f : List D → List D → Option (List D)} {apos cpos npos : Pos} (i : Nat) (slot : PySem.Slot "list" name id) (hty : typeOf (.builtin id) = pure (.type "method_descriptor")) (hm : MtR X id rr) (ms : MuS rr f) (ha : SA X ct (x :: es) as)
    (hN : X.N[i]? = some n := by rfl) (hv : Vis X.env.scope n := by first | exact Or.inl rfl | exact Or.inr (Or.inl rfl) | exact Or.inr (Or.inr rfl)) (hd : (n == ("__debug__" : Str)) = false := by decide)
    (hcd : (n == ("__classdict__" : Str)) = false := by decide) (hbase : attributeBase (.Name n npos) name X.env (eval (.Name n npos) X.env) = eval (.Name n npos) X.env := by rfl)
    (hfew : ((backTo cpos (starEach (x :: es) X.env)).all (fun x => !x.1) && (backToKw cpos (keywordEach [] X.env)).all (fun x => x.1.isSome)
      && decide ((x :: es).length + ([] : List Keyword).length + (if ([] : List Keyword).isEmpty then 0 else 1) < 30)) = true := by rfl)
    (hline : (apos.endLine == cpos.line) = true := by rfl) (hs : starEach (x :: es) X.env = (false, eval x X.env) :: starEach es X.env := by rfl) (hplain : (backTo cpos (starEach es X.env)).any (·.1) = false := by rfl)
    (hsw : swapsWith (.Call (.Attribute (.Name n npos) name apos) (x :: es) [] cpos) none pos.line X.env = pure false := by rfl) :
    SS X ct (.Expr (.Call (.Attribute (.Name n npos) name apos) (x :: es) [] cpos) pos) (sMut i f as) := by
  refine ⟨ps_mono (ps_expr (pe_bm PySem.F.plainAttrs_list slot hty hm (pe_var hN hv hd hcd) ha.pa hbase hfew hline hs hplain) hsw) fun D σ H h => ?_⟩
  obtain ⟨l, vs, s1, g, t⟩ := tSm_mut ms h
  exact ⟨_, s1, .inl ⟨rfl, _, SqL.of g⟩, t⟩
theorem ss_mut0 {id : String} {name n : Str} {rr : V → List V → Hp → VK → Prop} {f : List D → List D → Option (List D)} {apos cpos npos : Pos} (i : Nat) (slot : PySem.Slot "list" name id) (hty : typeOf (.builtin id) = pure (.type "method_descriptor")) (hm : MtR X id rr) (ms : MuS rr f)
    (hN : X.N[i]? = some n := by rfl) (hv : Vis X.env.scope n := by first | exact Or.inl rfl | exact Or.inr (Or.inl rfl) | exact Or.inr (Or.inr rfl)) (hd : (n == ("__debug__" : Str)) = false := by decide)
    (hcd : (n == ("__classdict__" : Str)) = false := by decide) (hbase : attributeBase (.Name n npos) name X.env (eval (.Name n npos) X.env) = eval (.Name n npos) X.env := by rfl)
    (hline : (apos.endLine == cpos.line) = true := by rfl)
    (hsw : swapsWith (.Call (.Attribute (.Name n npos) name apos) [] [] cpos) none pos.line X.env = pure false := by rfl) :
    SS X ct (.Expr (.Call (.Attribute (.Name n npos) name apos) [] [] cpos) pos) (sMut i f aNil) := by
  refine ⟨ps_mono (ps_expr (pe_bm0 PySem.F.plainAttrs_list slot hty hm (pe_var hN hv hd hcd) hbase hline) hsw) fun D σ H h => ?_⟩
  obtain ⟨l, vs, s1, g, t⟩ := tSm_mut ms h
  refine ⟨_, s1, .inl ⟨rfl, _, SqL.of g⟩, ?_⟩
  exact sa_nil_use t
where
  sa_nil_use {K : PySem.W.Frag} {σ : St} {H : Hp} {Q : List V → Hp → Prop} (h : tA K ct aNil σ H Q) : Q [] H := by
    obtain ⟨F, W, L, env, st, rs, st', I, e, k⟩ := h
    cases e
    exact k [] H W L (.refl W) I .nil
def fApp (xs ds : List D) : Option (List D) := match xs with
  | [d] => if ds.length < sizeLine then some (ds ++ [d]) else none
  | _ => none
theorem ms_app : MuS rAppend fApp := by
  intro K ct W H l vs ds ws xs ds' Q g q qx e k
  unfold fApp at e
  split at e
  · obtain ⟨c, rfl⟩ := ifs e
    cases qx with
    | cons h r =>
      cases r
      exact ⟨l, vs, _, rfl, rfl, g, by rw [q.length]; exact c, k _ _ (q.append (.cons h .nil))⟩
  · cases e
def fClr (xs _ : List D) : Option (List D) := match xs with
  | [] => some []
  | _ => none
theorem ms_clr : MuS rClear fClr := by
  intro K ct W H l vs ds ws xs ds' Q g q qx e k
  unfold fClr at e
  split at e
  · cases e; cases qx
    exact ⟨l, vs, rfl, rfl, g, k _ _ .nil⟩
  · cases e
def fPop (xs ds : List D) : Option (List D) := match xs with
  | [] => if ds ≠ [] then some ds.dropLast else none
  | _ => none
theorem RepL.dropLast {K : PySem.W.Frag} {W : Wd} {vs : List V} {ds : List D} (r : RepL K ct W vs ds) : RepL K ct W vs.dropLast ds.dropLast := by
  rw [List.dropLast_eq_take, List.dropLast_eq_take, r.length]
  exact r.take _
theorem ms_pop : MuS rPop fPop := by
  intro K ct W H l vs ds ws xs ds' Q g q qx e k
  unfold fPop at e
  split at e
  · obtain ⟨c, rfl⟩ := ifs e
    cases qx
    have hl := q.length
    have hd : 0 < ds.length := List.length_pos_iff.mpr c
    exact ⟨l, vs, _, rfl, rfl, g, List.getElem?_eq_getElem (by omega), k _ _ q.dropLast⟩
  · cases e
def fIns (xs ds : List D) : Option (List D) := match xs with
  | [.int i, d] => if ds.length < sizeLine ∧ 0 ≤ i ∧ i < 2 ^ 63 then some (ds.take i.toNat ++ [d] ++ ds.drop i.toNat) else none
  | _ => none
theorem ms_ins : MuS (fun x vs H Q => ∃ (l : Addr) (xs : List V) (i : Int) (y : V), x = .ref l ∧ vs = [.int i, y] ∧ H l = some (.lst xs) ∧ xs.length < sizeLine ∧ 0 ≤ i ∧ i < 2 ^ 63 ∧ Q .non (upd H l (.lst (xs.take i.toNat ++ [y] ++ xs.drop i.toNat)))) fIns := by
  intro K ct W H l vs ds ws xs ds' Q g q qx e k
  unfold fIns at e
  split at e
  · obtain ⟨c, rfl⟩ := ifs e
    cases qx with
    | cons h r =>
      cases r with
      | cons h2 r =>
        cases r
        cases h
        exact ⟨l, vs, _, _, rfl, rfl, g, by rw [q.length]; exact c.1, c.2.1, c.2.2, k _ _ (((q.take _).append (.cons h2 .nil)).append (q.drop _))⟩
  · cases e

/-! an item of one's own list or dict is stored -/
def putD (kds : List (Key × D)) (k : Key) (d : D) : List (Key × D) := if (valD kds k).isSome = true then kds.map fun kv => if kv.1 = k then (kv.1, d) else kv else kds ++ [(k, d)]
def setItm : D → D → D → Option D
  | .lst ds, .int k, d => (ixN ds.length k).map fun j => .lst (ds.set j d)
  | .dic kds, i, d => i.key.bind fun k => if kds.length < sizeLine then some (.dic (putD kds k d)) else none
  | _, _, _ => none
def sSub (i : Nat) (ix e : Sem) : SemS := fun env st => (e env st).bind fun p => (ix env p.2).bind fun q => match p.1.pin, env[i]? with
  | .sh d, some (.ow c) => (setItm c q.1.d d).map fun c' => (.nx, env.set i (.ow c'), q.2)
  | _, _ => none
theorem put_rep {K : PySem.W.Frag} {W : Wd} {k : Key} {v : V} {d : D} (h : Rep K ct W v d) {kvs : List (Key × V)} {kds : List (Key × D)} (n : kvs.map (·.1) = kds.map (·.1)) (r : RepL K ct W (kvs.map (·.2)) (kds.map (·.2))) :
    (putK kvs k v).map (·.1) = (putD kds k d).map (·.1) ∧ RepL K ct W ((putK kvs k v).map (·.2)) ((putD kds k d).map (·.2)) := by
  have sm : (valV kvs k).isSome = (valD kds k).isSome := by
    rcases valD_rep k n r with ⟨e1, e2⟩ | ⟨v, d, e1, e2, _⟩ <;> rw [e1, e2] <;> rfl
  have mp : ∀ {kvs : List (Key × V)} {kds : List (Key × D)}, kvs.map (·.1) = kds.map (·.1) → RepL K ct W (kvs.map (·.2)) (kds.map (·.2)) →
      (kvs.map fun kv => if kv.1 = k then (kv.1, v) else kv).map (·.1) = (kds.map fun kv => if kv.1 = k then (kv.1, d) else kv).map (·.1) ∧
      RepL K ct W ((kvs.map fun kv => if kv.1 = k then (kv.1, v) else kv).map (·.2)) ((kds.map fun kv => if kv.1 = k then (kv.1, d) else kv).map (·.2)) := by
    intro kvs
    induction kvs with
    | nil =>
      intro kds n r
      cases kds with
      | nil => exact ⟨rfl, .nil⟩
      | cons => cases n
    | cons p kvs ih =>
      intro kds n r
      cases kds with
      | nil => cases n
      | cons q kds =>
        simp only [List.map_cons, List.cons.injEq] at n
        cases r with
        | cons h1 r =>
          obtain ⟨i1, i2⟩ := ih n.2 r
          simp only [List.map_cons]
          by_cases e : p.1 = k
          · have e2 : q.1 = k := n.1.symm.trans e
            rw [if_pos e, if_pos e2]
            exact ⟨by rw [i1]; show p.1 :: _ = q.1 :: _; rw [n.1], .cons h i2⟩
          · have e2 : ¬ q.1 = k := fun z => e (n.1.trans z)
            rw [if_neg e, if_neg e2]
            exact ⟨by rw [i1, n.1], .cons h1 i2⟩
  unfold putK putD
  rw [valV_any, sm]
  split
  · exact mp n r
  · rw [List.map_append, List.map_append, List.map_append, List.map_append, n]
    exact ⟨rfl, r.append (.cons h .nil)⟩
theorem ss_sub (i : Nat) {n : Str} {npos tpos : Pos} {k : Nat} (hr : Room k X.A) (hix : SE X ct y b) (he : SE X ct x a)
    (hN : X.N[i]? = some n := by rfl) (hv : Vis X.env.scope n := by first | exact Or.inl rfl | exact Or.inr (Or.inl rfl) | exact Or.inr (Or.inr rfl)) (hd : (n == ("__debug__" : Str)) = false := by decide) (hcd : (n == ("__classdict__" : Str)) = false := by decide)
    (ha : ∀ v, assign (.Subscript (.Name n npos) y tpos) X.env v = (do
      let ov ← holding [v] (eval (.Name n npos) X.env)
      let iv ← holding [v, ov] (eval y X.env)
      standAt tpos
      holding [v, ov, iv] (setItem ov iv v)
      release [v, ov, iv] []) := by intro _; rfl)
    (hs : swapsWithSole [.Subscript (.Name n npos) y tpos] x pos.line X.env = pure false := by rfl) (hw : swappedStores [.Subscript (.Name n npos) y tpos] x X.env = pure none := by rfl)
    (h1 : (assignEach [.Subscript (.Name n npos) y tpos] X.env).map (·.2) = [assign (.Subscript (.Name n npos) y tpos) X.env] := by rfl)
    (hsd : swapsWith x (some (.Subscript (.Name n npos) y tpos)) pos.line X.env = pure false := by rfl) : SS X ct (.Assign [.Subscript (.Name n npos) y tpos] x pos) (sSub i b a) := by
  have hvr : PE X (.Name n npos) (tVar i) := pe_var hN hv hd hcd
  refine ⟨ps_mono (ps_or (ps_asg he.pe (pg_sub hvr hix.pe set_list ha) hs hw h1) (ps_dput (hu_of hr) hvr hix.pe he.pe hsd)) fun D σ H ⟨F, W, L, env, st, o, env', st', I, e, k⟩ => ?_⟩
  obtain ⟨⟨r1, st1⟩, h1, e⟩ := bind2 e
  obtain ⟨⟨r2, st2⟩, h2, e⟩ := bind2 e
  obtain ⟨d, c, c', hr1, hc, hset, rfl, rfl, rfl⟩ : ∃ d c c', r1.pin = .sh d ∧ env[i]? = some (.ow c) ∧ setItm c r2.d d = some c' ∧ o = .nx ∧ env' = env.set i (.ow c') ∧ st' = st2 := by
    clear k h1 h2
    dsimp only at e
    split at e
    · rename_i d c e1 e2
      obtain ⟨c', e3, e4⟩ := map2 e
      cases e4
      exact ⟨d, c, c', e1, e2, e3, rfl, rfl, rfl⟩
    · cases e
  obtain ⟨l, s1, s2, cl⟩ := I.sl i _ hc
  have go : ∀ {H2 : Hp} {W2 : Wd} {L2 : Addr → Option Lab} {HH : HO}, W.le W2 → Rel X.K ct F W2 L2 env st' σ H2 → Cell X.K ct W2 (upd H2 l HH) l c' → L2 l = some (.slot i) → (∀ xs, H2 l ≠ some (.tup xs)) → D.nx σ (upd H2 l HH) := fun l2 I2 c2 hl hn => k _ _ _ _ l2 (I2.updOw' s1 hl hn c2)
  cases cl with
  | lst g q =>
    rename_i vs ds
    refine .inl ⟨F, W, L, env, st, r1, st1, I, h1, fun v H1 W1 L1 l1 I1 p1 => ⟨_, s1, ?_⟩⟩
    obtain ⟨W1', m1, J1, q1⟩ := I1.pin p1
    rw [hr1] at q1
    refine ⟨F, W1', L1, env, st1, r2, _, J1, h2, fun w H2 W2 L2 l2 I2 p2 => ?_⟩
    obtain ⟨W2', m2, J2, q2⟩ := I2.pin p2
    have q2' := J2.look q2
    rw [R.pin_d] at q2'
    have hset : setItm (.lst ds) r2.d d = some c' := hset
    cases hr2 : r2.d <;> rw [hr2] at hset q2' <;> try (cases hset; done)
    obtain ⟨j, e1, rfl⟩ := map2 hset
    obtain ⟨l', t1, t2, c2⟩ := J2.sl i _ hc
    rw [s1] at t1; cases t1
    cases c2 with
    | lst g2 q3 =>
      refine ⟨l, _, _, j, rfl, q2'.int, g2, by rw [q3.length]; exact e1, ?_⟩
      exact go (l1.trans (m1.trans (l2.trans m2))) J2 (.lst upd_same (q3.set j (q1.mono (l2.trans m2)))) t2 (fun xs z => by rw [g2] at z; cases z)
  | dic g n q =>
    rename_i kvs kds
    refine .inr ⟨F, W, L, env, st, r1, st1, I, h1, fun v H1 W1 L1 l1 I1 p1 => ⟨_, s1, ?_⟩⟩
    obtain ⟨W1', m1, J1, q1⟩ := I1.pin p1
    rw [hr1] at q1
    refine ⟨F, W1', L1, env, st1, r2, _, J1, h2, fun w H2 W2 L2 l2 I2 p2 => ?_⟩
    obtain ⟨W2', m2, J2, q2⟩ := I2.pin p2
    have q2' := J2.look q2
    rw [R.pin_d] at q2'
    have hset : setItm (.dic kds) r2.d d = some c' := hset
    obtain ⟨ky, ek, hset⟩ := bind2 hset
    obtain ⟨cz, rfl⟩ := ifs hset
    obtain ⟨l', t1, t2, c2⟩ := J2.sl i _ hc
    rw [s1] at t1; cases t1
    cases c2 with
    | dic g2 n2 q3 =>
      rename_i kvs2
      have hlen : kvs2.length = kds.length := by
        have := congrArg List.length n2
        rw [List.length_map, List.length_map] at this
        exact this
      refine ⟨l, _, rfl, by rw [Kn.D.key_v q2' ek]; exact DPut.k g2 (by rw [hlen]; exact cz), ?_⟩
      obtain ⟨z1, z2⟩ := put_rep (k := ky) (q1.mono (l2.trans m2)) n2 q3
      exact go (l1.trans (m1.trans (l2.trans m2))) J2 (.dic upd_same z1 z2) t2 (fun xs z => by rw [g2] at z; cases z)
  | obj => cases hset
/-- {} -/
def eDnew : Sem := fun _ st => some (.ow (.dic []), st)
theorem se_dnew : SE X ct (.Dict [] [] pos) eDnew := ⟨pe_mono pe_dnewK fun σ H Q ⟨F, W, L, env, st, r, st', I, e, k⟩ p hp => by
  cases e
  exact fresh_out I hp (.dic (kvs := []) (kds := []) upd_same rfl .nil) k⟩

/-! what is walked -/
variable {tg : Expr}
theorem wk_list {K : PySem.W.Frag} {W0 : Wd} {l : Addr} {vs : List V} {ds : List D} (h : SqL K W0.hs l vs) (r : RepL K ct W0 vs ds) : Wk K ct (Itl K l) W0 ds := by
  intro F W L env st σ H i le I
  have hs : SqL K H l vs := sq_mono (fun a o e => (I.hs a o (le.1 a o e)).1) h
  refine ⟨fun d hd => ?_, fun hi => ⟨vs, hs, by rw [r.length]; exact hi⟩⟩
  obtain ⟨v, hv, hr⟩ := r.get hd
  exact ⟨⟨vs, v, hs, hv⟩, fun x H' ⟨e, y⟩ => by
    subst e
    have e2 := y vs hs
    rw [hv] at e2; cases e2
    exact ⟨W, L, .refl W, I, hr.mono le⟩⟩
theorem wk_tup {K : PySem.W.Frag} {W0 : Wd} {l : Addr} {vs : List V} {ds : List D} (h : W0.tp l = some vs) (r : RepL K ct W0 vs ds) : Wk K ct (Itt K l) W0 ds := by
  intro F W L env st σ H i le I
  have hs : SqT K H l vs := SqT.of (I.tp _ _ (le.2 _ _ h))
  refine ⟨fun d hd => ?_, fun hi => ⟨vs, hs, by rw [r.length]; exact hi⟩⟩
  obtain ⟨v, hv, hr⟩ := r.get hd
  exact ⟨⟨vs, v, hs, hv⟩, fun x H' ⟨e, y⟩ => by
    subst e
    have e2 := y vs hs
    rw [hv] at e2; cases e2
    exact ⟨W, L, .refl W, I, hr.mono le⟩⟩
def D.seq : D → Option (List D)
  | .lst ds => some ds
  | .scr ns => some (ns.map D.int)
  | .tup ds => some ds
  | _ => none
def R.sh? : R → Option D
  | .sh d => some d
  | .ow d => some d
  | .bw _ _ => none
theorem R.sh_pin : ∀ {r : R} {d : D}, r.sh? = some d → r.pin = .sh d
  | .sh _, _, e => by cases e; rfl
  | .ow _, _, e => by cases e; rfl
  | .bw _ _, _, e => by cases e
def iSeq (a : Sem) : SemI := fun env st => (a env st).bind fun p => p.1.sh?.bind fun d => d.seq.map fun ds => (ds, p.2)
theorem si_seq (ha : SE X ct x a) : SI X ct tg x (iSeq a) := by
  refine ⟨pi_mono (pi_or (pi_list ha.pe) (pi_tup ha.pe)) fun σ H RR ⟨F, W, L, env, st, ds, st', I, e, k⟩ => ?_⟩
  obtain ⟨⟨r1, st1⟩, h1, e⟩ := bind2 e
  obtain ⟨d, h2, e⟩ := bind2 e
  obtain ⟨ds', h3, e⟩ := map2 e
  cases e
  have hp := R.sh_pin h2
  have out : (∀ v H1 W1 L1, W.le W1 → Rel X.K ct F W1 L1 env st1 σ H1 → Rep X.K ct W1 v d → ∃ a, v = .ref a ∧ (∃ vs, SqL X.K W1.hs a vs ∧ RepL X.K ct W1 vs ds)) ∨
      (∀ v H1 W1 L1, W.le W1 → Rel X.K ct F W1 L1 env st1 σ H1 → Rep X.K ct W1 v d → ∃ a, v = .ref a ∧ (∃ vs, W1.tp a = some vs ∧ RepL X.K ct W1 vs ds)) := by
    cases d <;> simp only [D.seq, Option.some.injEq, reduceCtorEq] at h3
    · subst h3
      refine .inl fun v H1 W1 L1 _ _ r => ?_
      cases r with
      | lst h q => exact ⟨_, rfl, _, SqL.of h, q⟩
    · subst h3
      refine .inr fun v H1 W1 L1 _ _ r => ?_
      cases r with
      | tup h q => exact ⟨_, rfl, _, h, q⟩
    · subst h3
      refine .inl fun v H1 W1 L1 _ _ r => ?_
      cases r with
      | scr h => exact ⟨_, rfl, _, h, RepL.of_ints _⟩
  rcases out with out | out
  · refine .inl ⟨F, W, L, env, st, r1, st1, I, h1, fun v H1 W1 L1 l1 I1 p1 => ?_⟩
    obtain ⟨W1', m1, J1, q1⟩ := I1.pin p1
    rw [hp] at q1
    obtain ⟨l, rfl, vs, g, q⟩ := out v H1 W1' L1 (l1.trans m1) J1 q1
    exact ⟨l, rfl, ⟨vs, sq_mono (fun a o e => (J1.hs a o e).1) g⟩, k _ H1 W1' L1 (l1.trans m1) J1 (wk_list g q)⟩
  · refine .inr ⟨F, W, L, env, st, r1, st1, I, h1, fun v H1 W1 L1 l1 I1 p1 => ?_⟩
    obtain ⟨W1', m1, J1, q1⟩ := I1.pin p1
    rw [hp] at q1
    obtain ⟨l, rfl, vs, g, q⟩ := out v H1 W1' L1 (l1.trans m1) J1 q1
    exact ⟨l, rfl, ⟨vs, SqT.of (J1.tp _ _ g)⟩, k _ H1 W1' L1 (l1.trans m1) J1 (wk_tup g q)⟩
/-- lo, lo + 1, .. -/
def rngD (lo : Int) (n : Nat) : List D := (List.range n).map fun (k : Nat) => D.int (lo + k)
theorem wk_rng {K : PySem.W.Frag} {W0 : Wd} (lo : Int) (n : Nat) : Wk K ct (Itr lo n) W0 (rngD lo n) := by
  intro F W L env st σ H i le I
  have hl : (rngD lo n).length = n := by unfold rngD; rw [List.length_map, List.length_range]
  refine ⟨fun d hd => ?_, fun hi => by rw [hl] at hi; exact hi⟩
  have hi : i < n := by
    have := (List.getElem?_eq_some_iff.mp hd).1
    rw [hl] at this; exact this
  have e : d = .int (lo + i) := by
    unfold rngD at hd
    rw [List.getElem?_map, List.getElem?_range hi] at hd
    exact (Option.some.inj hd).symm
  subst e
  exact ⟨hi, fun x H' ⟨e1, e2⟩ => by subst e1; subst e2; exact ⟨W, L, .refl W, I, .int _⟩⟩
/-- within the bounds of a range -/
structure Rg (j : Int) : Prop where
  lo : -(2 ^ 62) ≤ j
  hi : j < 2 ^ 62
noncomputable instance (j : Int) : Decidable (Rg j) := Classical.propDecidable _
theorem Rg.of {j : Int} (h : -1000000 ≤ j ∧ j ≤ 1000000) : Rg j := ⟨by omega, by omega⟩
noncomputable def iRng1' (a : Sem) : SemI := fun env st => (a env st).bind fun p => match p.1.d with
  | .int j => if Rg j then some (rngD 0 j.toNat, p.2) else none
  | _ => none
theorem si_rng1 {p : Pos} (hg : Gl X "range") (hm : X.mg "range" = none) (ha : SE X ct x a) (he : starEach [x] X.env = (false, eval x X.env) :: starEach [] X.env := by rfl) (hs : starEach [x] X.env = [(false, eval x X.env)] := by rfl) : SI X ct tg (.Call (.Name "range" p) [x] [] pos) (iRng1' a) := by
  refine ⟨pi_mono (pi_range1 hg hm (pa_cons ha.pe pa_nil he) hs) fun σ H RR ⟨F, W, L, env, st, ds, st', I, e, k⟩ => ?_⟩
  obtain ⟨⟨r1, st1⟩, h1, e⟩ := bind2 e
  refine ⟨F, W, L, env, st, r1, st1, I, h1, fun v H1 W1 L1 l1 I1 p1 => ?_⟩
  obtain ⟨W1', m1, J1, q1⟩ := I1.pin p1
  have q1' := J1.look q1
  rw [R.pin_d] at q1'
  cases hr : r1.d <;> rw [show ((r1, st1) : R × Sto).1.d = _ from hr] at e <;> try (cases e; done)
  obtain ⟨c, e⟩ := ifs e
  cases e
  rw [hr] at q1'
  exact ⟨_, by rw [q1'.int], c.1, c.2, k _ _ _ _ (l1.trans m1) J1 (wk_rng 0 _)⟩
noncomputable def iRng2' (a b : Sem) : SemI := fun env st => (a env st).bind fun p => (b env p.2).bind fun q => match p.1.d, q.1.d with
  | .int i, .int j => if Rg i ∧ Rg j then some (rngD i (j - i).toNat, q.2) else none
  | _, _ => none
theorem si_rng2 {p : Pos} (hg : Gl X "range") (hm : X.mg "range" = none) (ha : SE X ct x a) (hb : SE X ct y b) (he : starEach [x, y] X.env = (false, eval x X.env) :: starEach [y] X.env := by rfl) (he2 : starEach [y] X.env = (false, eval y X.env) :: starEach [] X.env := by rfl)
    (hs : starEach [x, y] X.env = [(false, eval x X.env), (false, eval y X.env)] := by rfl) (hs2 : starEach [y] X.env = [(false, eval y X.env)] := by rfl) : SI X ct tg (.Call (.Name "range" p) [x, y] [] pos) (iRng2' a b) := by
  refine ⟨pi_mono (pi_range2 hg hm (pa_cons ha.pe (pa_cons hb.pe pa_nil he2) he) hs hs2) fun σ H RR ⟨F, W, L, env, st, ds, st', I, e, k⟩ => ?_⟩
  obtain ⟨⟨r1, st1⟩, h1, e⟩ := bind2 e
  obtain ⟨⟨r2, st2⟩, h2, e⟩ := bind2 e
  refine ⟨F, W, L, env, st, r1, st1, I, h1, fun v H1 W1 L1 l1 I1 p1 => ?_⟩
  obtain ⟨W1', m1, J1, q1⟩ := I1.pin p1
  refine ⟨F, W1', L1, env, st1, r2, st2, J1, h2, fun w H2 W2 L2 l2 I2 p2 => ?_⟩
  obtain ⟨W2', m2, J2, q2⟩ := I2.pin p2
  have q1' := J2.look (q1.mono (l2.trans m2))
  have q2' := J2.look q2
  rw [R.pin_d] at q1' q2'
  cases hr : r1.d <;> rw [show ((r1, st1) : R × Sto).1.d = _ from hr] at e <;> try (cases e; done)
  cases hr2 : r2.d <;> rw [show ((r2, st2) : R × Sto).1.d = _ from hr2] at e <;> try (cases e; done)
  obtain ⟨c, e⟩ := ifs e
  cases e
  rw [hr] at q1'
  rw [hr2] at q2'
  exact ⟨_, _, by rw [q1'.int, q2'.int], ⟨c.1.1, c.1.2, c.2.1, c.2.2⟩, k _ _ _ _ (l1.trans (m1.trans (l2.trans m2))) J2 (wk_rng _ _)⟩
def enumF : Nat → List D → List D
  | _, [] => []
  | k, d :: ds => .tup [.int k, d] :: enumF (k + 1) ds
theorem enumF_len : ∀ (k : Nat) (ds : List D), (enumF k ds).length = ds.length
  | _, [] => rfl
  | k, d :: ds => congrArg (· + 1) (enumF_len (k + 1) ds)
theorem enumF_get : ∀ (k : Nat) (ds : List D) (i : Nat) (d : D), (enumF k ds)[i]? = some d → ∃ e, ds[i]? = some e ∧ d = .tup [.int ((k + i : Nat) : Int), e]
  | _, [], i, d, h => by simp [enumF] at h
  | k, e :: ds, 0, d, h => ⟨e, rfl, by simp [enumF] at h; exact h.symm⟩
  | k, e :: ds, i + 1, d, h => by
    obtain ⟨e', h1, h2⟩ := enumF_get (k + 1) ds i d (by simpa [enumF] using h)
    exact ⟨e', by simpa using h1, by rw [h2]; congr 4; omega⟩
theorem tup_new {K : PySem.W.Frag} {F H : Hp} {W : Wd} {L : Addr → Option Lab} {env : List Slot} {st : Sto} {σ : St} {ds : List D} {vs : List V} {p : Addr} (I : Rel K ct F W L env st σ H) (hp : H p = none) (r : RepL K ct W vs ds) :
    ∃ W' L', W.le W' ∧ Rel K ct F W' L' env st σ (upd H p (.tup vs)) ∧ Rep K ct W' (.ref p) (.tup ds) := by
  obtain ⟨I', _⟩ := I.laid (o := .tup vs) hp
  obtain ⟨le, J, e⟩ := I'.shareT (p := p) upd_same
  exact ⟨_, _, le, J, Rep.tup e (r.mono le)⟩
theorem wk_enum {K : PySem.W.Frag} {W0 : Wd} {l : Addr} {vs : List V} {ds : List D} (h : SqL K W0.hs l vs) (r : RepL K ct W0 vs ds) : Wk K ct (Ite K l) W0 (enumF 0 ds) := by
  intro F W L env st σ H i le I
  have hs : SqL K H l vs := sq_mono (fun a o e => (I.hs a o (le.1 a o e)).1) h
  refine ⟨fun d hd => ?_, fun hi => ⟨vs, hs, by rw [r.length]; rw [enumF_len] at hi; exact hi⟩⟩
  obtain ⟨e, he, rfl⟩ := enumF_get 0 ds i d hd
  obtain ⟨v, hv, hr⟩ := r.get he
  refine ⟨⟨vs, v, hs, hv⟩, fun x H' ⟨T, w, e1, e2, e3, e4⟩ => ?_⟩
  subst e1 e3
  have e5 := e4 vs hs
  rw [hv] at e5; cases e5
  rw [Nat.zero_add]
  exact tup_new I e2 (.cons (.int _) (.cons (hr.mono le) .nil))
def iEnum' (a : Sem) : SemI := fun env st => (a env st).bind fun p => p.1.sh?.bind fun d => d.seqL.map fun ds => (enumF 0 ds, p.2)
theorem rep_seqL {K : PySem.W.Frag} {W : Wd} {v : V} {d : D} {ds : List D} (h : Rep K ct W v d) (e : d.seqL = some ds) : ∃ a vs, v = .ref a ∧ SqL K W.hs a vs ∧ RepL K ct W vs ds := by
  cases d <;> simp only [D.seqL, Option.some.injEq, reduceCtorEq] at e
  · subst e
    cases h with
    | lst h q => exact ⟨_, _, rfl, SqL.of h, q⟩
  · subst e
    cases h with
    | scr h => exact ⟨_, _, rfl, h, RepL.of_ints _⟩
theorem si_enum {p tpos : Pos} {elts : List Expr} {kk : Nat} (hg : Gl X "enumerate") (hm : X.mg "enumerate" = none) (ha : SE X ct x a) (he : starEach [x] X.env = (false, eval x X.env) :: starEach [] X.env := by rfl) (hs : starEach [x] X.env = [(false, eval x X.env)] := by rfl) :
    SI X ct (.Tuple elts kk tpos) (.Call (.Name "enumerate" p) [x] [] pos) (iEnum' a) := by
  refine ⟨pi_mono (pi_enum hg hm (pa_cons ha.pe pa_nil he) hs) fun σ H RR ⟨F, W, L, env, st, ds, st', I, e, k⟩ => ?_⟩
  obtain ⟨⟨r1, st1⟩, h1, e⟩ := bind2 e
  obtain ⟨d, h2, e⟩ := bind2 e
  obtain ⟨ds', h3, e⟩ := map2 e
  cases e
  refine ⟨F, W, L, env, st, r1, st1, I, h1, fun v H1 W1 L1 l1 I1 p1 => ?_⟩
  obtain ⟨W1', m1, J1, q1⟩ := I1.pin p1
  rw [R.sh_pin h2] at q1
  obtain ⟨l, vs, rfl, g, q⟩ := rep_seqL q1 h3
  exact ⟨l, vs, rfl, sq_mono (fun a o e => (J1.hs a o e).1) g, k _ _ _ _ (l1.trans m1) J1 (wk_enum g q)⟩
def zipD : List D → List D → List D
  | d :: ds, e :: es => .tup [d, e] :: zipD ds es
  | _, _ => []
theorem zipD_get : ∀ (ds es : List D) (i : Nat) (d : D), (zipD ds es)[i]? = some d → ∃ a b, ds[i]? = some a ∧ es[i]? = some b ∧ d = .tup [a, b]
  | [], _, i, d, h => by simp [zipD] at h
  | _ :: _, [], i, d, h => by simp [zipD] at h
  | a :: ds, b :: es, 0, d, h => ⟨a, b, rfl, rfl, by simp [zipD] at h; exact h.symm⟩
  | a :: ds, b :: es, i + 1, d, h => by
    obtain ⟨a', b', h1, h2, h3⟩ := zipD_get ds es i d (by simpa [zipD] using h)
    exact ⟨a', b', by simpa using h1, by simpa using h2, h3⟩
theorem zipD_len : ∀ (ds es : List D) (i : Nat), (zipD ds es).length ≤ i → ds.length ≤ i ∨ es.length ≤ i
  | [], _, i, _ => .inl (Nat.zero_le _)
  | _ :: _, [], i, _ => .inr (Nat.zero_le _)
  | a :: ds, b :: es, 0, h => by simp [zipD] at h
  | a :: ds, b :: es, i + 1, h => by
    rcases zipD_len ds es i (by simpa [zipD] using h) with h | h
    · exact .inl (Nat.succ_le_succ h)
    · exact .inr (Nat.succ_le_succ h)
theorem wk_zip {K : PySem.W.Frag} {W0 : Wd} {l m : Addr} {vs ws : List V} {ds es : List D} (h : SqL K W0.hs l vs) (r : RepL K ct W0 vs ds) (h' : SqL K W0.hs m ws) (r' : RepL K ct W0 ws es) : Wk K ct (Itz K l m) W0 (zipD ds es) := by
  intro F W L env st σ H i le I
  have hs : SqL K H l vs := sq_mono (fun a o e => (I.hs a o (le.1 a o e)).1) h
  have hs' : SqL K H m ws := sq_mono (fun a o e => (I.hs a o (le.1 a o e)).1) h'
  refine ⟨fun d hd => ?_, fun hi => ⟨vs, ws, hs, hs', by rw [r.length, r'.length]; exact zipD_len _ _ _ hi⟩⟩
  obtain ⟨e, e', he, he', rfl⟩ := zipD_get ds es i d hd
  obtain ⟨v, hv, hr⟩ := r.get he
  obtain ⟨v', hv', hr'⟩ := r'.get he'
  refine ⟨⟨vs, ws, v, v', hs, hs', hv, hv'⟩, fun x H' ⟨T, w, w', e1, e2, e3, e4, e5⟩ => ?_⟩
  subst e1 e3
  have e6 := e4 vs hs
  rw [hv] at e6; cases e6
  have e7 := e5 ws hs'
  rw [hv'] at e7; cases e7
  exact tup_new I e2 (.cons (hr.mono le) (.cons (hr'.mono le) .nil))
def iZip' (a b : Sem) : SemI := fun env st => (a env st).bind fun p => p.1.sh?.bind fun d => d.seqL.bind fun ds => (b env p.2).bind fun q => q.1.sh?.bind fun e => e.seqL.map fun es => (zipD ds es, q.2)
theorem si_zip {p tpos : Pos} {elts : List Expr} {kk : Nat} (hg : Gl X "zip") (hm : X.mg "zip" = none) (ha : SE X ct x a) (hb : SE X ct y b) (he : starEach [x, y] X.env = (false, eval x X.env) :: starEach [y] X.env := by rfl) (he2 : starEach [y] X.env = (false, eval y X.env) :: starEach [] X.env := by rfl)
    (hpl : (backTo pos (starEach [y] X.env)).any (·.1) = false := by rfl) : SI X ct (.Tuple elts kk tpos) (.Call (.Name "zip" p) [x, y] [] pos) (iZip' a b) := by
  refine ⟨pi_mono (pi_zip hg hm (pa_cons ha.pe (pa_cons hb.pe pa_nil he2) he) he hpl) fun σ H RR ⟨F, W, L, env, st, ds, st', I, e, k⟩ => ?_⟩
  obtain ⟨⟨r1, st1⟩, h1, e⟩ := bind2 e
  obtain ⟨d, h2, e⟩ := bind2 e
  obtain ⟨ds', h3, e⟩ := bind2 e
  obtain ⟨⟨r2, st2⟩, h4, e⟩ := bind2 e
  obtain ⟨d2, h5, e⟩ := bind2 e
  obtain ⟨es', h6, e⟩ := map2 e
  cases e
  refine ⟨F, W, L, env, st, r1, st1, I, h1, fun v H1 W1 L1 l1 I1 p1 => ?_⟩
  obtain ⟨W1', m1, J1, q1⟩ := I1.pin p1
  rw [R.sh_pin h2] at q1
  refine ⟨F, W1', L1, env, st1, r2, _, J1, h4, fun w H2 W2 L2 l2 I2 p2 => ?_⟩
  obtain ⟨W2', m2, J2, q2⟩ := I2.pin p2
  rw [R.sh_pin h5] at q2
  have q1' := q1.mono (l2.trans m2)
  obtain ⟨l, vs, rfl, g, q⟩ := rep_seqL q1' h3
  obtain ⟨l', vs', rfl, g', q'⟩ := rep_seqL q2 h6
  have mo := fun (a : Addr) (o : HO) (e : W2'.hs a = some o) => (J2.hs a o e).1
  exact ⟨l, l', vs, vs', rfl, sq_mono mo g, sq_mono mo g', k _ _ _ _ (l1.trans (m1.trans (l2.trans m2))) J2 (wk_zip g q g' q')⟩
end
end Kn
namespace Kn
open PySem L2

section
variable {X : Cx} {ct : CT} {pos : Pos} {x y : Expr} {a b c : Sem} {es : List Expr} {as : SemA}
/-! list comprehensions -/
def wipeE (env : List Slot) : List Nat → List Slot
  | [] => env
  | v :: vs => (wipeE env vs).set v .no
theorem wipeE_len (env : List Slot) : ∀ vs, (wipeE env vs).length = env.length
  | [] => rfl
  | v :: vs => by rw [wipeE, List.length_set, wipeE_len env vs]
theorem wipeE_out {env : List Slot} {i : Nat} : ∀ {vs : List Nat}, i ∉ vs → (wipeE env vs)[i]? = env[i]?
  | [], _ => rfl
  | v :: vs, h => by
    rw [wipeE, List.getElem?_set_ne fun e => h (by rw [e]; exact List.mem_cons_self)]
    exact wipeE_out fun m => h (List.mem_cons_of_mem _ m)
theorem wipeE_in {env : List Slot} {i : Nat} {s : Slot} : ∀ {vs : List Nat}, i ∈ vs → (wipeE env vs)[i]? = some s → s = .no
  | v :: vs, h, e => by
    rw [wipeE] at e
    rcases getset e with ⟨_, e, _⟩ | ⟨hj, e⟩
    · exact e
    · rcases List.mem_cons.mp h with h | h
      · exact absurd h hj
      · exact wipeE_in h e
theorem wipe_in {σ : St} {i : Nat} : ∀ {vs : List Nat}, i ∈ vs → i < σ.length → (wipe σ vs)[i]? = some none
  | v :: vs, h, hi => by
    unfold wipe
    by_cases e : v = i
    · subst e
      rw [List.getElem?_set_self (by rw [wipe_length]; exact hi)]
    · rw [List.getElem?_set_ne e]
      rcases List.mem_cons.mp h with h | h
      · exact absurd h.symm e
      · exact wipe_in h hi
theorem wipe_again {σ σ' : St} {vs : List Nat} (hl : σ'.length = σ.length) (h : ∀ j : Nat, j ∉ vs → σ'[j]? = (wipe σ vs)[j]?) : wipe σ' vs = wipe σ vs := by
  refine List.ext_getElem? fun j => ?_
  by_cases hj : j ∈ vs
  · by_cases hi : j < σ.length
    · rw [wipe_in hj hi, wipe_in hj (by rw [hl]; exact hi)]
    · rw [List.getElem?_eq_none (by rw [wipe_length]; omega), List.getElem?_eq_none (by rw [wipe_length]; omega)]
  · rw [wipe_out hj, h j hj]
theorem Rel.wiped {K : PySem.W.Frag} {F H : Hp} {W : Wd} {L : Addr → Option Lab} {env : List Slot} {st : Sto} {σ : St} (I : Rel K ct F W L env st σ H) (vs : List Nat) : Rel K ct F W L (wipeE env vs) st (wipe σ vs) H := by
  refine ⟨I.fr, I.hs, I.tp, I.ob, I.rh, by rw [wipe_length, wipeE_len]; exact I.len, fun j s e => ?_⟩
  by_cases hj : j ∈ vs
  · rw [wipeE_in hj e]; trivial
  · rw [wipeE_out hj] at e
    exact (I.sl j s e).at' (wipe_out hj)
def Slot.okW : Slot → Bool
  | .no => true
  | .sh _ => true
  | _ => false
/-- back out of the block -/
theorem Rel.back {K : PySem.W.Frag} {F H1 H : Hp} {W W1 : Wd} {L L1 : Addr → Option Lab} {env env1 : List Slot} {st st1 : Sto} {σ σ1 : St} {F0 : Hp} {vs : List Nat} (I0 : Rel K ct F0 W L env st σ H) (le : W.le W1) (I1 : Rel K ct F W1 L1 env1 st1 σ1 H1)
    (hs : ∀ j : Nat, j ∉ vs → σ1[j]? = σ[j]?) (he : ∀ j : Nat, j ∉ vs → env1[j]? = env[j]?) (hv : ∀ j : Nat, j ∈ vs → ∀ s, env[j]? = some s → s.okW = true) : Rel K ct F W1 L1 env st1 σ H1 := by
  refine ⟨I1.fr, I1.hs, I1.tp, I1.ob, I1.rh, I0.len, fun j s e => ?_⟩
  by_cases hj : j ∈ vs
  · have h0 := I0.sl j s e
    have ok := hv j hj s e
    cases s with
    | no => trivial
    | sh d =>
      obtain ⟨v, h1, h2⟩ := h0
      exact ⟨v, h1, h2.mono le⟩
    | ow d => cases ok
    | o2 d => cases ok
    | me a d => cases ok
  · rw [← he j hj] at e
    exact (I1.sl j s e).at' (hs j hj).symm
def lcL (g : SemG) (c a : Sem) (vs : List Nat) (env : List Slot) : List D → Sto → Option (List D × Sto)
  | [], st => some ([], st)
  | d :: ds, st => (g d (wipeE env vs)).bind fun env1 => (c env1 st).bind fun p => p.1.tr.bind fun k => if k = true then (a env1 p.2).bind fun q => q.1.sh?.bind fun e => (lcL g c a vs env ds q.2).map fun r => (e :: r.1, r.2)
    else lcL g c a vs env ds p.2
def eLc (it : SemI) (vs : List Nat) (g : SemG) (c a : Sem) : Sem := fun env st => (it env st).bind fun p => if vs.all (fun j => (env[j]?.map Slot.okW).getD true) = true then (lcL g c a vs env p.1 p.2).bind fun q => if q.1.length ≤ sizeLine then some (.ow (.lst q.1), q.2) else none else none
/-- the tests of a clause -/
structure STs (X : Cx) (ct : CT) (x : List Expr) (e : Sem) : Prop where
  pts : PTs X x (tT X.K ct e)
def eYes : Sem := fun _ st => some (.sh (.bl true), st)
theorem pts_mono {x : List Expr} {t t' : TT} (h : PTs X x t) (k : ∀ σ H Q, t' σ H Q → t σ H Q) : PTs X x t' := ⟨fun pins s σ H Q I q => h.run pins s σ H Q I (k σ H Q q)⟩
theorem sts_nil : STs X ct [] eYes := ⟨pts_mono pts_nil fun σ H Q ⟨F, W, L, env, st, r, st', I, e, k⟩ => by cases e; exact k H W L (.refl W) I⟩
theorem sts_one (h : ST X ct x a) : STs X ct [x] a := ⟨pts_one h.pt⟩
theorem frame_add {K : PySem.W.Frag} {F H : Hp} {W : Wd} {L : Addr → Option Lab} {env : List Slot} {st : Sto} {σ : St} {p : Addr} {o : HO} (I : Rel K ct F W L env st σ H) (h : H p = some o) (hl : L p = none) (hw : W.hs p = none) : Rel K ct (upd F p o) W L env st σ H := by
  refine ⟨fun b u e => ?_, I.hs, I.tp, I.ob, I.rh, I.len, I.sl⟩
  by_cases hb : b = p
  · subst hb; rw [upd_same] at e; cases e; exact ⟨h, hl, hw⟩
  · rw [upd_ne hb] at e; exact I.fr b u e
theorem frame_sub {K : PySem.W.Frag} {F H : Hp} {W : Wd} {L : Addr → Option Lab} {env : List Slot} {st : Sto} {σ : St} {p : Addr} {o : HO} (I : Rel K ct (upd F p o) W L env st σ H) (hf : F p = none) : Rel K ct F W L env st σ H := by
  refine ⟨fun b u e => ?_, I.hs, I.tp, I.ob, I.rh, I.len, I.sl⟩
  have nb : b ≠ p := by rintro rfl; rw [hf] at e; cases e
  exact I.fr b u (by rw [upd_ne nb]; exact e)
/-- the frame's own list is changed -/
theorem frame_upd {K : PySem.W.Frag} {F H : Hp} {W : Wd} {L : Addr → Option Lab} {env : List Slot} {st : Sto} {σ : St} {p : Addr} {o o' : HO} (hn : ∀ xs, o ≠ .tup xs) (I : Rel K ct (upd F p o) W L env st σ H) : Rel K ct (upd F p o') W L env st σ (upd H p o') := by
  obtain ⟨h1, h2, h3⟩ := I.fr p o upd_same
  refine ⟨fun b u e => ?_, fun b u e => ?_, fun b vs e => ?_, fun g κ d e => ?_, I.rh, I.len, fun i s e => (I.sl i s e).mono (.refl W) fun b u hl hu => ⟨?_, hl⟩⟩
  · by_cases hb : b = p
    · subst hb; rw [upd_same] at e; cases e; exact ⟨upd_same, h2, h3⟩
    · rw [upd_ne hb] at e
      rw [upd_ne hb]
      exact I.fr b u (by rw [upd_ne hb]; exact e)
  · have nb : b ≠ p := by rintro rfl; rw [h3] at e; cases e
    rw [upd_ne nb]
    exact I.hs b u e
  · have g := I.tp b vs e
    rw [upd_ne (by rintro rfl; rw [h1] at g; cases g; exact hn _ rfl)]
    exact g
  · obtain ⟨v, e1, e2⟩ := I.ob g κ d e
    refine ⟨v, e1, ?_⟩
    have q : (fun b => if L b = some (.ob g) then (upd H p o') b else none) = fun b => if L b = some (.ob g) then H b else none := by
      funext b
      by_cases hb : b = p
      · subst hb; simp [h2]
      · rw [upd_ne hb]
    rw [q]; exact e2
  · have nb : b ≠ p := by rintro rfl; rw [h2] at hl; cases hl
    rw [upd_ne nb]; exact hu
theorem tE_lc {K : PySem.W.Frag} {it : SemI} {vs ts : List Nat} {g : SemG} (hts : ∀ j ∈ ts, j ∈ vs) {σ : St} {H : Hp} {Q : VK} (h : tE K ct (eLc it vs g c a) σ H Q) : tLc (tI K ct it) (tG K ct ts g) (tT K ct c) (tE K ct a) vs σ H Q := by
  obtain ⟨F, W, L, env, st, r, st', I, e, k⟩ := h
  obtain ⟨⟨ds, st1⟩, h1, e⟩ := bind2 e
  have okv : vs.all (fun j => (env[j]?.map Slot.okW).getD true) = true ∧ ((lcL g c a vs env ds st1).bind fun q => if q.1.length ≤ sizeLine then some (R.ow (.lst q.1), q.2) else none) = some (r, st') := by
    dsimp only at e
    split at e
    · exact ⟨by assumption, e⟩
    · cases e
  obtain ⟨okv, e⟩ := okv
  obtain ⟨⟨out, st2⟩, h2, e⟩ := bind2 e
  obtain ⟨hz, e⟩ := ifs e
  cases e
  have hz : out.length ≤ sizeLine := hz
  have ok : ∀ j : Nat, j ∈ vs → ∀ s, env[j]? = some s → s.okW = true := fun j hj s e => by
    have := List.all_eq_true.mp okv j hj
    rw [e] at this
    exact this
  refine ⟨F, W, L, env, st, ds, st1, I, h1, fun J H1 W1 L1 l1 I1 wk p hp => ?_⟩
  -- the new list at p
  obtain ⟨I2, n1, n2, n3⟩ := I1.laid (o := HO.lst []) hp
  have I3 := frame_add I2 (p := p) (o := HO.lst []) upd_same n1 n2
  refine ⟨fun i m H => m = ds.length - i ∧ i ≤ ds.length ∧ ∃ W2 L2 st5 acc accd rest, W1.le W2 ∧ Rel K ct (upd F p (.lst acc)) W2 L2 env st5 σ H ∧ RepL K ct W2 acc accd ∧ lcL g c a vs env (ds.drop i) st5 = some (rest, st2) ∧ accd ++ rest = out,
    ⟨_, rfl, Nat.zero_le _, W1, _, st1, [], [], out, .refl W1, I3, .nil, h2, rfl⟩, ?_⟩
  rintro i m H ⟨rfl, hi, W2, L2, st3, acc, accd, rest, l2, I4, ra, e2, eo⟩
  have wk2 := wk _ W2 L2 env st3 σ H i l2 I4
  have wk3 := wk _ W2 L2 (wipeE env vs) st3 (wipe σ vs) H i l2 (I4.wiped vs)
  by_cases hlt : i < ds.length
  · rw [List.drop_eq_getElem_cons hlt] at e2
    obtain ⟨env3, h3, e2⟩ := bind2 e2
    obtain ⟨⟨r4, st4⟩, h4, e2⟩ := bind2 e2
    obtain ⟨kb, hkb, e2⟩ := bind2 e2
    have hkb := R.tr_eq hkb
    rw [show r4 = _ from hkb] at h4
    obtain ⟨go, yl⟩ := wk3.1 ds[i] (List.getElem?_eq_getElem hlt)
    refine .inr ⟨go, fun H' => i + 1 ≤ ds.length ∧ ∃ W2 L2 st5 acc accd rest, W1.le W2 ∧ Rel K ct (upd F p (.lst acc)) W2 L2 env st5 σ H' ∧ RepL K ct W2 acc accd ∧ lcL g c a vs env (ds.drop (i + 1)) st5 = some (rest, st2) ∧ accd ++ rest = out, fun H' q => ⟨_, by omega, rfl, q⟩, fun v H' y => ?_⟩
    obtain ⟨W3, L3, l3, I5, r5⟩ := yl v H' y
    refine ⟨_, W3, L3, wipeE env vs, st3, _, env3, I5, r5, h3, fun σ3 o1 o2 I6 => ?_⟩
    have hs : ∀ j : Nat, j ∉ vs → σ3[j]? = (wipe σ vs)[j]? := fun j hj => o1.2 j fun z => hj (hts j z)
    have hs' : ∀ j : Nat, j ∉ vs → σ3[j]? = σ[j]? := fun j hj => (hs j hj).trans (wipe_out hj)
    have he : ∀ j : Nat, j ∉ vs → env3[j]? = env[j]? := fun j hj => (o2.2 j fun z => hj (hts j z)).trans (wipeE_out hj)
    refine ⟨wipe_again (by rw [o1.1, wipe_length]) hs, ?_⟩
    refine ⟨_, W3, L3, env3, st3, kb, st4, I6, h4, fun H6 W6 L6 l6 I7 => ?_⟩
    have ll := l2.trans (l3.trans l6)
    cases kb with
    | true =>
      refine iteT ?_
      have e2 : ((a env3 st4).bind fun q => q.1.sh?.bind fun e => (lcL g c a vs env (ds.drop (i + 1)) q.2).map fun r => (e :: r.1, r.2)) = some (rest, st2) := e2
      obtain ⟨⟨r7, st7⟩, h7, e2⟩ := bind2 e2
      obtain ⟨d7, h8, e2⟩ := bind2 e2
      obtain ⟨⟨rest', st8⟩, h9, e2⟩ := map2 e2
      cases e2
      refine ⟨_, W6, L6, env3, st4, r7, st7, I7, h7, fun v7 H7 W7 L7 l7 I8 p8 => ?_⟩
      obtain ⟨W8, m8, J8, q8⟩ := I8.pin p8
      rw [R.sh_pin h8] at q8
      have le := l3.trans (l6.trans (l7.trans m8))
      have hacc : H7 p = some (.lst acc) := (J8.fr p _ upd_same).1
      have I9 := Rel.back (vs := vs) I4 le J8 hs' he ok
      refine ⟨acc, hacc, ?_, hlt, W8, L7, st7, acc ++ [v7], accd ++ [d7], rest', l2.trans le, frame_upd (o := HO.lst acc) (fun xs z => nomatch z) I9, (ra.mono le).append (.cons q8 .nil), h9, ?_⟩
      · rw [ra.length]
        have := congrArg List.length eo
        rw [List.length_append, List.length_cons] at this
        omega
      · rw [← eo, List.append_assoc]; rfl
    | false =>
      refine iteF ?_
      have e2 : lcL g c a vs env (ds.drop (i + 1)) st4 = some (rest, st2) := e2
      have I9 := Rel.back (vs := vs) I4 (l3.trans l6) I7 hs' he ok
      exact ⟨hlt, W6, L6, st4, acc, accd, rest, ll, I9, ra.mono (l3.trans l6), e2, eo⟩
  · have ei : i = ds.length := by omega
    rw [ei, List.drop_length] at e2
    cases e2
    rw [List.append_nil] at eo
    subst eo
    refine .inl ⟨wk2.2 (by omega), ?_⟩
    obtain ⟨f1, f2, f3⟩ := I4.fr p _ upd_same
    exact k _ _ _ _ (l1.trans l2) (frame_sub I4 n3) ⟨p, rfl, f2, f3, n3, .lst f1 ra⟩
theorem se_lc {tg : Expr} {ifs : List Expr} {scope : Scope} {own : List (Str × Nat)} {it : SemI} {ts : List Nat} {g : SemG} (hc : X.calm = true) (hN : X.N.Nodup) (hi : SI X ct tg x it) (ok : BlkOk X.N X.env.scope scope own)
    (hg : ∀ (s : Shared) (H : Hp) (C : Addr) (cl : List (Str × Addr)) (fp : List Addr), SG (X.blk s H scope (compEnvC scope cl C X.env) fp) ct tg ts g) (ht : ∀ (s : Shared) (H : Hp) (C : Addr) (cl : List (Str × Addr)) (fp : List Addr), STs (X.blk s H scope (compEnvC scope cl C X.env) fp) ct ifs c)
    (he : ∀ (s : Shared) (H : Hp) (C : Addr) (cl : List (Str × Addr)) (fp : List Addr), SE (X.blk s H scope (compEnvC scope cl C X.env) fp) ct y a) (hts : ∀ j ∈ ts, j ∈ own.map (·.2) := by decide) (hs : ∀ z, foldedSetIterable x X.env z = pure z := by intro _; rfl) :
    SE X ct (.ListComp y [⟨tg, x, ifs, 0⟩] scope pos) (eLc it (own.map (·.2)) g c a) :=
  ⟨pe_mono (pe_lc (te := tE X.K ct a) (tt := tT X.K ct c) (g := tG X.K ct ts g) hc hN hi.pi ok (fun s H C cl fp => (hg s H C cl fp).pg) (fun s H C cl fp => (ht s H C cl fp).pts) (fun s H C cl fp => (he s H C cl fp).pe) hs) fun _ _ _ h => tE_lc hts h⟩
theorem ss_setLc (i : Nat) {n : Str} {py spos : Pos} {tg : Expr} {ifs : List Expr} {scope : Scope} {own : List (Str × Nat)} {it : SemI} {ts : List Nat} {g : SemG} (hc : X.calm = true) (hN : X.N.Nodup) (hi : SI X ct tg x it) (ok : BlkOk X.N X.env.scope scope own)
    (hg : ∀ (s : Shared) (H : Hp) (C : Addr) (cl : List (Str × Addr)) (fp : List Addr), SG (X.blk s H scope (compEnvC scope cl C X.env) fp) ct tg ts g) (ht : ∀ (s : Shared) (H : Hp) (C : Addr) (cl : List (Str × Addr)) (fp : List Addr), STs (X.blk s H scope (compEnvC scope cl C X.env) fp) ct ifs c)
    (he : ∀ (s : Shared) (H : Hp) (C : Addr) (cl : List (Str × Addr)) (fp : List Addr), SE (X.blk s H scope (compEnvC scope cl C X.env) fp) ct y a) (hy : X.N[i]? = some n := by rfl) (hyl : X.env.scope.names.lookup n = some .local := by rfl)
    (hsw : swapsWith (.ListComp y [⟨tg, x, ifs, 0⟩] scope pos) (some (.Name n py)) spos.line X.env = pure true := by exact sw_true rfl rfl rfl (by decide +kernel)) (hts : ∀ j ∈ ts, j ∈ own.map (·.2) := by decide) (hs : ∀ z, foldedSetIterable x X.env z = pure z := by intro _; rfl) :
    SS X ct (.Assign [.Name n py] (.ListComp y [⟨tg, x, ifs, 0⟩] scope pos) spos) (sSet i (eLc it (own.map (·.2)) g c a)) := by
  refine ⟨ps_mono (ps_setLc (te := tE X.K ct a) (tt := tT X.K ct c) (g := tG X.K ct ts g) hc hN hy hyl hsw hi.pi ok (fun s H C cl fp => (hg s H C cl fp).pg) (fun s H C cl fp => (ht s H C cl fp).pts) (fun s H C cl fp => (he s H C cl fp).pe) hs) fun D σ H h => ?_⟩
  exact tE_lc hts (tSm_set h)
end

/-! ### what a def promises -/
abbrev Fn := List D → Sto → Option (R × Sto)
def spD (K : PySem.W.Frag) (ct : CT) (n : Nat) (m : Fn) : Sp := fun vs H Q _ => ∃ F W L st ds r st', Rel K ct F W L [] st [] H ∧ RepL K ct W vs ds ∧ ds.length = n ∧ m ds st = some (r, st') ∧
  ∀ v H' W' L', W.le W' → Rel K ct F W' L' [] st' [] H' → RepR K ct F W' L' H' [] [] v r → Q v H'
def R.outR : R → R
  | .bw _ d => .ow d
  | r => r
/-- a body as a function; k: how many names -/
def runB (k : Nat) (f : SemS) : Fn := fun ds st => (f (ds.map .sh ++ List.replicate (k - ds.length) .no) st).bind fun p => match p.1 with
  | .nx => some (.sh .non, p.2.2)
  | .rt r => some (r.outR, p.2.2)
  | _ => none
section
variable {K : PySem.W.Frag} {ct : CT}
theorem spD_imp {n : Nat} {m m' : Fn} (h : ∀ ds st r st', ds.length = n → m' ds st = some (r, st') → m ds st = some (r, st')) : ∀ vs H Q E, spD K ct n m' vs H Q E → spD K ct n m vs H Q E := by
  rintro vs H Q E ⟨F, W, L, st, ds, r, st', I, q, hl, e, k⟩
  exact ⟨F, W, L, st, ds, r, st', I, q, hl, h _ _ _ _ hl e, k⟩
theorem rel_start {F H : Hp} {W : Wd} {L : Addr → Option Lab} {st : Sto} {vs : List V} {ds : List D} {N : List Str} (I : Rel K ct F W L [] st [] H) (q : RepL K ct W vs ds) (hN : vs.length ≤ N.length) :
    Rel K ct F W L (ds.map .sh ++ List.replicate (N.length - ds.length) .no) st (L2.start N vs) H := by
  have hl := q.length
  refine ⟨I.fr, I.hs, I.tp, I.ob, I.rh, ?_, fun i s e => ?_⟩
  · unfold L2.start
    rw [List.length_append, List.length_map, List.length_replicate, List.length_append, List.length_map, List.length_replicate, hl]
  · by_cases hi : i < ds.length
    · rw [List.getElem?_append_left (by simpa using hi), List.getElem?_map] at e
      obtain ⟨d, hd, rfl⟩ := Option.map_eq_some_iff.mp e
      obtain ⟨v, hv, hr⟩ := q.get hd
      refine ⟨v, ?_, hr⟩
      unfold L2.start
      rw [List.getElem?_append_left (by rw [List.length_map]; omega), List.getElem?_map, hv]
      rfl
    · rw [List.getElem?_append_right (by simpa using hi), List.getElem?_replicate] at e
      split at e
      · cases e; trivial
      · cases e
/-- the slots are forgotten -/
theorem rel_end {F H : Hp} {W : Wd} {L : Addr → Option Lab} {env : List Slot} {st : Sto} {σ : St} {v : V} {r : R} (I : Rel K ct F W L env st σ H) (p : RepR K ct F W L H env σ v r) :
    ∃ L', Rel K ct F W L' [] st [] H ∧ RepR K ct F W L' H [] [] v r.outR := by
  refine ⟨fun b => match L b with | some (.slot _) => none | z => z, ?_, ?_⟩
  · refine ⟨fun b u e => ?_, fun b u e => ?_, I.tp, fun g κ d e => ?_, I.rh, rfl, fun i s e => by simp at e⟩
    · obtain ⟨h1, h2, h3⟩ := I.fr b u e
      exact ⟨h1, by simp only [h2], h3⟩
    · obtain ⟨h1, h2⟩ := I.hs b u e
      exact ⟨h1, by simp only [h2]⟩
    · obtain ⟨v, h1, h2⟩ := I.ob g κ d e
      refine ⟨v, h1, ?_⟩
      have q : (fun b => if (match L b with | some (.slot _) => none | z => z) = some (Lab.ob g) then H b else none) = fun b => if L b = some (.ob g) then H b else none := by
        funext b
        cases hb : L b with
        | none => rfl
        | some l => cases l with
          | slot i => simp
          | ob g' => rfl
      rw [q]; exact h2
  · cases r with
    | sh d => exact p
    | ow d =>
      obtain ⟨a, h1, h2, h3⟩ := p
      exact ⟨a, h1, by simp only [h2], h3⟩
    | bw i d =>
      obtain ⟨h1, h2⟩ := p
      obtain ⟨a, e1, e2, c⟩ := I.sl i _ h1
      rw [h2] at e1; cases e1
      refine ⟨a, rfl, by simp only [e2], ?_, ?_, c⟩
      · cases q : W.hs a with
        | none => rfl
        | some u => have := (I.hs a u q).2; rw [e2] at this; cases this
      · cases q : F a with
        | none => rfl
        | some u => have := (I.fr a u q).2.1; rw [e2] at this; cases this
/-- THE RULE for a def: its body as a function -/
theorem fn_ok {P : Program} {w : World} {mg : Str → Option Value} {base : Heap} {name qual : Str} {st : Stmt} {f : Addr} {fd : FuncData} {N ps : List Str} {k : Nat} {b : SemS} (F : Fun K name qual st f fd) (S : FnScope N ps (defScope st))
    (hb : ∀ (cdv : Value) (A : Around) (outer : List Env) (s : Shared) (H : Hp) (E : XK), Room k (A.deeper (PyProof.Rows.envOfC qual (defScope st) s.heap.objs.size f cdv)) → SB (cxOf CX0 P w K mg base N qual (defScope st) f cdv A outer s H E).nox ct (defBody st) b) :
    FnOk P w K mg base CX0 (k + 1) f fd ps (spD K ct ps.length (runB N.length b)) := by
  refine F.ok S (fun vs H Q E h => ?_) (fun cdv A outer s H vs Q E hr h => ?_)
  · obtain ⟨F, W, L, st, ds, r, st', I, q, hl, e, k⟩ := h
    rw [q.length]; exact hl
  · obtain ⟨F, W, L, st, ds, r, st', I, q, hl, e, kk⟩ := h
    refine ⟨_, (hb cdv A outer s H E hr).pss, ?_⟩
    obtain ⟨⟨o, env', st1⟩, h1, e⟩ := bind2 e
    have hpl : ps.length ≤ N.length := by have := congrArg List.length S.pre; rw [List.length_take] at this; omega
    refine ⟨F, W, L, _, st, o, env', st1, rel_start I q (by rw [q.length, hl]; exact hpl), h1, ?_⟩
    cases o with
    | nx =>
      cases e
      intro σ' H' W' L' l I'
      obtain ⟨L2, I2, p2⟩ := rel_end I' (v := .non) (r := .sh .non) .non
      exact kk _ _ _ _ l I2 p2
    | rt r1 =>
      cases e
      intro v σ' H' W' L' l I' p
      obtain ⟨L2, I2, p2⟩ := rel_end I' p
      exact kk _ _ _ _ l I2 p2
    | bk => cases e
    | ct => cases e
end

/-! ### calls of defs -/
section
variable {X : Cx} {ct : CT} {pos : Pos} {x y : Expr} {a b c : Sem} {es : List Expr} {as : SemA}
def eCall (n : Nat) (m : Fn) (as : SemA) : Sem := fun env st => (as env st).bind fun p => (valsR p.1).bind fun ds => if ds.length = n then m ds p.2 else none
/-- the call by shared values -/
theorem call_out {K : PySem.W.Frag} {F H : Hp} {W : Wd} {L : Addr → Option Lab} {env : List Slot} {st st' : Sto} {σ : St} {vs : List V} {ds : List D} {n : Nat} {m : Fn} {r : R} {Q : VK} {E : XK} (I : Rel K ct F W L env st σ H) (q : RepL K ct W vs ds) (hl : ds.length = n) (e : m ds st = some (r, st'))
    (k : ∀ v H' W' L', W.le W' → Rel K ct F W' L' env st' σ H' → RepR K ct F W' L' H' env σ v r → Q v H') : spD K ct n m vs H Q E := by
  -- all that is no object's and not shared is the frame's
  refine ⟨fun b => match L b, W.hs b with | some (.ob _), _ => none | _, some _ => none | _, none => H b, W, fun b => match L b with | some (.ob g) => some (.ob g) | _ => none, st, ds, r, st', ?_, q, hl, e, ?_⟩
  · refine ⟨fun b u e => ?_, fun b u e => ?_, I.tp, fun g κ d e => ?_, I.rh, rfl, fun i s e => by simp at e⟩
    · cases hb : L b with
      | none =>
        cases hw : W.hs b with
        | none => simp only [hb, hw] at e; exact ⟨e, rfl, rfl⟩
        | some z => simp only [hb, hw] at e; cases e
      | some l =>
        cases l with
        | slot i =>
          cases hw : W.hs b with
          | none => simp only [hb, hw] at e; exact ⟨e, rfl, rfl⟩
          | some z => simp only [hb, hw] at e; cases e
        | ob g => simp only [hb] at e; cases e
    · obtain ⟨h1, h2⟩ := I.hs b u e
      exact ⟨h1, by simp only [h2]⟩
    · obtain ⟨v, h1, h2⟩ := I.ob g κ d e
      refine ⟨v, h1, ?_⟩
      have q : (fun b => if (match L b with | some (.ob g) => some (Lab.ob g) | _ => none) = some (Lab.ob g) then H b else none) = fun b => if L b = some (.ob g) then H b else none := by
        funext b
        cases hb : L b with
        | none => simp
        | some l => cases l with
          | slot i => simp
          | ob g' => rfl
      rw [q]; exact h2
  · intro v H' W' L' l I' p
    -- the frame's part
    have own : ∀ b i u, L b = some (.slot i) → H b = some u → H' b = some u ∧ L' b = none ∧ W'.hs b = none := fun b i u hb hu => by
      have hw : W.hs b = none := by
        cases q : W.hs b with
        | none => rfl
        | some z => have := (I.hs b z q).2; rw [hb] at this; cases this
      exact I'.fr b u (by simp only [hb, hw]; exact hu)
    refine k v H' W' (fun b => match L b, H b with | some (.slot i), some _ => some (.slot i) | _, _ => L' b) l ?_ ?_
    · have off : ∀ b, L' b = none ∨ (∀ i u, ¬ (L b = some (.slot i) ∧ H b = some u)) := fun b => by
        by_cases z : ∃ i u, L b = some (.slot i) ∧ H b = some u
        · obtain ⟨i, u, z1, z2⟩ := z
          exact .inl (own b i u z1 z2).2.1
        · exact .inr fun i u q => z ⟨i, u, q⟩
      have lab : ∀ b, (∀ i u, ¬ (L b = some (.slot i) ∧ H b = some u)) → (match L b, H b with | some (.slot i), some _ => some (Lab.slot i) | _, _ => L' b) = L' b := fun b z => by
        split
        · rename_i i u h1 h2
          exact absurd ⟨h1, h2⟩ (z i u)
        · rfl
      refine ⟨fun b u e => ?_, fun b u e => ?_, I'.tp, fun g κ d e => ?_, I'.rh, I.len, fun i s e => ?_⟩
      · obtain ⟨h1, h2, h3⟩ := I.fr b u e
        obtain ⟨g1, g2, g3⟩ := I'.fr b u (by simp only [h2, h3]; exact h1)
        exact ⟨g1, by simp only [h2]; exact g2, g3⟩
      · obtain ⟨g1, g2⟩ := I'.hs b u e
        refine ⟨g1, ?_⟩
        have z : ∀ i w, ¬ (L b = some (.slot i) ∧ H b = some w) := fun i w ⟨z1, z2⟩ => by
          rw [(own b i w z1 z2).2.2] at e; cases e
        rw [lab b z]; exact g2
      · obtain ⟨w, g1, g2⟩ := I'.ob g κ d e
        refine ⟨w, g1, ?_⟩
        have q : (fun b => if (match L b, H b with | some (.slot i), some _ => some (Lab.slot i) | _, _ => L' b) = some (Lab.ob g) then H' b else none) = fun b => if L' b = some (.ob g) then H' b else none := by
          funext b
          by_cases z : ∃ i u, L b = some (.slot i) ∧ H b = some u
          · obtain ⟨i, u, z1, z2⟩ := z
            simp only [z1, z2, (own b i u z1 z2).2.1]
            simp
          · rw [lab b fun i u q => z ⟨i, u, q⟩]
        rw [q]; exact g2
      · refine (I.sl i s e).mono l fun b u hb hu => ?_
        exact ⟨(own b i u hb hu).1, by simp only [hb, hu]⟩
    · cases r with
      | sh d => exact p
      | ow d =>
        obtain ⟨b, h1, h2, h3, h4, h5⟩ := p
        have hb : ∀ i u, ¬ (L b = some (.slot i) ∧ H b = some u) := fun i u ⟨z1, z2⟩ => by
          have hw : W.hs b = none := by
            cases q : W.hs b with
            | none => rfl
            | some z => have := (I.hs b z q).2; rw [z1] at this; cases this
          simp only [z1, hw, z2] at h4
          cases h4
        refine ⟨b, h1, ?_, h3, ?_, h5⟩
        · dsimp only
          split
          · rename_i i u z1 z2; exact absurd ⟨z1, z2⟩ (hb i u)
          · exact h2
        · cases q : F b with
          | none => rfl
          | some u =>
            obtain ⟨g1, g2, g3⟩ := I.fr b u q
            simp only [g2, g3] at h4
            rw [h4] at g1; cases g1
      | bw i d => exact absurd p.1 (by simp)
theorem tE_call {K : PySem.W.Frag} {n : Nat} {m : Fn} {E : XK} {σ : St} {H : Hp} {Q : VK} (h : tE K ct (eCall n m as) σ H Q) : tCall (spD K ct n m) [] E (tA K ct as) σ H Q := by
  obtain ⟨F, W, L, env, st, r, st', I, e, k⟩ := h
  obtain ⟨⟨rs, st1⟩, h1, e⟩ := bind2 e
  obtain ⟨ds, h2, e⟩ := bind2 e
  have hl : ds.length = n ∧ m ds st1 = some (r, st') := by
    dsimp only at e
    split at e
    · exact ⟨by assumption, e⟩
    · cases e
  refine ⟨F, W, L, env, st, rs, st1, I, h1, fun vs H1 W1 L1 l1 I1 qs => ?_⟩
  show spD K ct n m (vs ++ []) H1 Q E
  rw [List.append_nil]
  exact call_out I1 (qs.vals h2) hl.1 hl.2 fun v H' W' L' l' => k v H' W' L' (l1.trans l')
theorem se_call {k n : Nat} {f : Addr} {fd : FuncData} {ps : List Str} {m : Fn} {nm : Str} {p : Pos} (G : FnOk X.prog X.w X.K X.mg X.base CX0 k f fd ps (spD X.K ct n m)) (hr : Room k X.A) (hm : X.mg nm = some (.ref f)) (hk : PySem.W.keepIn X.K (.ref f) = true) (hb : Binds X.K fd ps []) (ha : SA X ct (x :: es) as) (hg : Gl X nm := by rfl)
    (hdb : (nm == ("__debug__" : Str)) = false := by decide) (he : starEach (x :: es) X.env = (false, eval x X.env) :: starEach es X.env := by rfl) (hpl : (backTo pos (starEach es X.env)).any (·.1) = false := by rfl) :
    SE X ct (.Call (.Name nm p) (x :: es) [] pos) (eCall n m as) := ⟨pe_mono (pe_call G hr hg hm hk hb .nil pass0 ha.pa hdb he hpl) fun _ _ _ h => tE_call h⟩
/-! flat things and tuples of such -/
mutual
def D.imm : D → Bool
  | .non | .bl _ | .int _ | .str _ => true
  | .tup ds => D.immL ds
  | _ => false
def D.immL : List D → Bool
  | [] => true
  | d :: ds => d.imm && D.immL ds
end
/-! no number of an object is in it -/
mutual
def D.nh : D → Bool
  | .hnd _ => false
  | .dic _ => false
  | .lst ds => D.nhL ds
  | .tup ds => D.nhL ds
  | .obj _ ds => D.nhL ds
  | _ => true
def D.nhL : List D → Bool
  | [] => true
  | d :: ds => d.nh && D.nhL ds
end
mutual
theorem Rep.nh {K : PySem.W.Frag} {W W' : Wd} (l : ∀ a o, W.hs a = some o → W'.hs a = some o) (l2 : ∀ a o, W.tp a = some o → W'.tp a = some o) : ∀ {v : V} {d : D}, Rep K ct W v d → d.nh = true → Rep K ct W' v d
  | _, _, .non, _ => .non
  | _, _, .bl b, _ => .bl b
  | _, _, .int i, _ => .int i
  | _, _, .str x, _ => .str x
  | _, _, .lst h r, n => .lst (l _ _ h) (RepL.nh l l2 r (by rw [D.nh] at n; exact n))
  | _, _, .tup h r, n => .tup (l2 _ _ h) (RepL.nh l l2 r (by rw [D.nh] at n; exact n))
  | _, _, .dic h _ r, n => by simp [D.nh] at n
  | _, _, .obj h c z r, n => .obj (l _ _ h) c z (RepL.nh l l2 r (by rw [D.nh] at n; exact n))
  | _, _, .hnd h, n => by simp [D.nh] at n
  | _, _, .scr h, _ => .scr (sq_mono l h)
theorem RepL.nh {K : PySem.W.Frag} {W W' : Wd} (l : ∀ a o, W.hs a = some o → W'.hs a = some o) (l2 : ∀ a o, W.tp a = some o → W'.tp a = some o) : ∀ {vs : List V} {ds : List D}, RepL K ct W vs ds → D.nhL ds = true → RepL K ct W' vs ds
  | _, _, .nil, _ => .nil
  | _, _, .cons h r, n => by
    rw [D.nhL, Bool.and_eq_true] at n
    exact .cons (Rep.nh l l2 h n.1) (RepL.nh l l2 r n.2)
end
/-- by things of one's own too, where the answer is flat and the store is not asked -/
def eCallP (n : Nat) (m : Fn) (as : SemA) : Sem := fun env st => (as env st).bind fun p => if p.1.length = n ∧ D.nhL (p.1.map R.d) = true then (m (p.1.map R.d) []).bind fun q => match q.1 with
  | .sh d => if d.imm = true then some (.sh d, p.2) else none
  | _ => none else none
theorem RepL.of_rd {K : PySem.W.Frag} {F H : Hp} {W : Wd} {L : Addr → Option Lab} {env : List Slot} {st : Sto} {σ : St} (I : Rel K ct F W L env st σ H) : ∀ {vs : List V} {rs : List R}, RdRs K ct W env σ vs rs → D.nhL (rs.map R.d) = true → RepL K ct ⟨H, W.tp, fun _ => none⟩ vs (rs.map R.d)
  | _, _, .nil, _ => .nil
  | _, _, .cons (r := r) h q, n => by
    rw [List.map_cons, D.nhL, Bool.and_eq_true] at n
    refine .cons ?_ (RepL.of_rd I q n.2)
    have le : ∀ a o, W.hs a = some o → (Wd.mk H W.tp fun _ => none).hs a = some o := fun a o e => (I.hs a o e).1
    have nd := n.1
    rcases I.look h with r | ⟨b, e, c⟩
    · exact Rep.nh le (fun _ _ e => e) r nd
    · subst e
      revert c nd
      generalize r.d = d
      intro nd c
      cases c with
      | lst g q => exact .lst g (RepL.nh le (fun _ _ e => e) q (by rw [D.nh] at nd; exact nd))
      | dic g n q => simp [D.nh] at nd
      | obj g n z q => exact .obj g n z (RepL.nh le (fun _ _ e => e) q (by rw [D.nh] at nd; exact nd))
theorem Rep.immAll_aux : True := trivial
mutual
theorem Rep.immAll {K : PySem.W.Frag} {W W' : Wd} (l : ∀ a o, W.tp a = some o → W'.tp a = some o) : ∀ {v : V} {d : D}, Rep K ct W v d → d.imm = true → Rep K ct W' v d
  | _, _, .non, _ => .non
  | _, _, .bl b, _ => .bl b
  | _, _, .int i, _ => .int i
  | _, _, .str x, _ => .str x
  | _, _, .tup h r, n => .tup (l _ _ h) (RepL.immAll l r (by rw [D.imm] at n; exact n))
  | _, _, .lst h r, n => by simp [D.imm] at n
  | _, _, .dic h _ r, n => by simp [D.imm] at n
  | _, _, .obj h c z r, n => by simp [D.imm] at n
  | _, _, .hnd h, n => by simp [D.imm] at n
  | _, _, .scr h, n => by simp [D.imm] at n
theorem RepL.immAll {K : PySem.W.Frag} {W W' : Wd} (l : ∀ a o, W.tp a = some o → W'.tp a = some o) : ∀ {vs : List V} {ds : List D}, RepL K ct W vs ds → D.immL ds = true → RepL K ct W' vs ds
  | _, _, .nil, _ => .nil
  | _, _, .cons h r, n => by
    rw [D.immL, Bool.and_eq_true] at n
    exact .cons (Rep.immAll l h n.1) (RepL.immAll l r n.2)
end
theorem tE_callP {K : PySem.W.Frag} {n : Nat} {m : Fn} {E : XK} {σ : St} {H : Hp} {Q : VK} (h : tE K ct (eCallP n m as) σ H Q) : tCall (spD K ct n m) [] E (tA K ct as) σ H Q := by
  obtain ⟨F, W, L, env, st, r, st', I, e, k⟩ := h
  obtain ⟨⟨rs, st1⟩, h1, e⟩ := bind2 e
  obtain ⟨d, stx, hl, h2, hf, e3⟩ : ∃ d stx, (rs.length = n ∧ D.nhL (rs.map R.d) = true) ∧ m (rs.map R.d) [] = some (.sh d, stx) ∧ d.imm = true ∧ (r = .sh d ∧ st' = st1) := by
    clear h1
    dsimp only at e
    split at e
    · obtain ⟨⟨r2, st2⟩, h2, e⟩ := bind2 e
      dsimp only at e
      split at e
      · split at e
        · cases e
          exact ⟨_, _, by assumption, h2, by assumption, rfl, rfl⟩
        · cases e
      · cases e
    · cases e
  obtain ⟨e3, e4⟩ := e3
  rw [e3, e4] at k
  refine ⟨F, W, L, env, st, rs, st1, I, h1, fun vs H1 W1 L1 l1 I1 qs => ?_⟩
  show spD K ct n m (vs ++ []) H1 Q E
  rw [List.append_nil]
  refine ⟨fun _ => none, ⟨H1, W1.tp, fun _ => none⟩, fun _ => none, [], rs.map R.d, .sh d, stx, ?_, RepL.of_rd I1 qs hl.2, by rw [List.length_map]; exact hl.1, h2, fun v H' W' L' l' I' p => ?_⟩
  · exact ⟨fun _ _ e => (nomatch e), fun b u e => ⟨e, rfl⟩, I1.tp, fun g κ d e => by simp at e, fun g v e => (nomatch e), rfl, fun i s e => by simp at e⟩
  · have same : ∀ b u, H1 b = some u → H' b = some u := fun b u e => (I'.hs b u (l'.1 b u e)).1
    have J := I1.grow same
    have le : W1.le ⟨W1.hs, W'.tp, W1.rho⟩ := ⟨fun _ _ e => e, l'.2, fun _ _ e => e⟩
    have J' : Rel K ct F ⟨W1.hs, W'.tp, W1.rho⟩ (fun a => if (H1 a).isSome then L1 a else none) env st1 σ H' :=
      ⟨J.fr, J.hs, I'.tp, fun g κ d e => let ⟨v, e1, e2⟩ := J.ob g κ d e; ⟨v, e1, κ.mono e2 le⟩, J.rh, J.len, fun i s e => (J.sl i s e).mono le fun a o hl ho => ⟨ho, hl⟩⟩
    exact k v H' _ _ (l1.trans le) J' (by
      have p : Rep K ct W' v d := p
      have le2 : ∀ a o, W'.tp a = some o → (Wd.mk W1.hs W'.tp W1.rho).tp a = some o := fun _ _ e => e
      exact Rep.immAll le2 p hf)
theorem se_callP {k n : Nat} {f : Addr} {fd : FuncData} {ps : List Str} {m : Fn} {nm : Str} {p : Pos} (G : FnOk X.prog X.w X.K X.mg X.base CX0 k f fd ps (spD X.K ct n m)) (hr : Room k X.A) (hm : X.mg nm = some (.ref f)) (hk : PySem.W.keepIn X.K (.ref f) = true) (hb : Binds X.K fd ps []) (ha : SA X ct (x :: es) as) (hg : Gl X nm := by rfl)
    (hdb : (nm == ("__debug__" : Str)) = false := by decide) (he : starEach (x :: es) X.env = (false, eval x X.env) :: starEach es X.env := by rfl) (hpl : (backTo pos (starEach es X.env)).any (·.1) = false := by rfl) :
    SE X ct (.Call (.Name nm p) (x :: es) [] pos) (eCallP n m as) := ⟨pe_mono (pe_call G hr hg hm hk hb .nil pass0 ha.pa hdb he hpl) fun _ _ _ h => tE_callP h⟩
end
end Kn
namespace Kn
open PySem L2

/-! a def that may be called, by its name -/
structure Cal (P : Program) (w : World) (K : PySem.W.Frag) (mg : Str → Option Value) (base : Heap) (ct : CT) (nm : Str) (k : Nat) (ps : List Str) (m : Fn) : Prop where
  ex : ∃ f fd, FnOk P w K mg base CX0 k f fd ps (spD K ct ps.length m) ∧ mg nm = some (.ref f) ∧ PySem.W.keepIn K (.ref f) = true ∧ Binds K fd ps []
theorem Cal.of {P : Program} {w : World} {K : PySem.W.Frag} {mg : Str → Option Value} {base : Heap} {ct : CT} {nm qual : Str} {k : Nat} {ps : List Str} {m : Fn} {st : Stmt} {f : Addr} {fd : FuncData} (F : Fun K nm qual st f fd) (hm : mg nm = some (.ref f)) (hb : Binds K fd ps [])
    (G : FnOk P w K mg base CX0 k f fd ps (spD K ct ps.length m)) : Cal P w K mg base ct nm k ps m := ⟨f, fd, G, hm, F.kp, hb⟩
/-- by a function that says less -/
theorem Cal.imp {P : Program} {w : World} {K : PySem.W.Frag} {mg : Str → Option Value} {base : Heap} {ct : CT} {nm : Str} {k : Nat} {ps : List Str} {m m' : Fn} (c : Cal P w K mg base ct nm k ps m) (h : ∀ ds st r st', ds.length = ps.length → m' ds st = some (r, st') → m ds st = some (r, st')) : Cal P w K mg base ct nm k ps m' := by
  obtain ⟨f, fd, G, h1, h2, h3⟩ := c.ex
  exact ⟨f, fd, G.imp (spD_imp h), h1, h2, h3⟩
section
variable {X : Cx} {ct : CT} {pos : Pos} {x : Expr} {es : List Expr} {as : SemA} {k : Nat} {ps : List Str} {m : Fn} {nm : Str} {p : Pos}
theorem sc_call (n : Nat) (c : Cal X.prog X.w X.K X.mg X.base ct nm k ps m) (hr : Room k X.A) (ha : SA X ct (x :: es) as) (hn : ps.length = n := by rfl) (hg : Gl X nm := by rfl)
    (hdb : (nm == ("__debug__" : Str)) = false := by decide) (he : starEach (x :: es) X.env = (false, eval x X.env) :: starEach es X.env := by rfl) (hpl : (backTo pos (starEach es X.env)).any (·.1) = false := by rfl) :
    SE X ct (.Call (.Name nm p) (x :: es) [] pos) (eCall n m as) := by
  subst hn
  obtain ⟨f, fd, G, h1, h2, h3⟩ := c.ex
  exact se_call G hr h1 h2 h3 ha hg hdb he hpl
theorem sc_callP (n : Nat) (c : Cal X.prog X.w X.K X.mg X.base ct nm k ps m) (hr : Room k X.A) (ha : SA X ct (x :: es) as) (hn : ps.length = n := by rfl) (hg : Gl X nm := by rfl)
    (hdb : (nm == ("__debug__" : Str)) = false := by decide) (he : starEach (x :: es) X.env = (false, eval x X.env) :: starEach es X.env := by rfl) (hpl : (backTo pos (starEach es X.env)).any (·.1) = false := by rfl) :
    SE X ct (.Call (.Name nm p) (x :: es) [] pos) (eCallP n m as) := by
  subst hn
  obtain ⟨f, fd, G, h1, h2, h3⟩ := c.ex
  exact se_callP G hr h1 h2 h3 ha hg hdb he hpl
end

/-! the law's own entry -/
def spLaw (K : PySem.W.Frag) : Sp := fun vs H Q _ => ∃ (a : Addr) (ns : List Int), vs = [.ref a] ∧ SqL K H a (ns.map V.int) ∧ ns.length ≤ 63 ∧ ∀ H', Q (.bl true) H'
theorem law_ok {P : Program} {w : World} {K : PySem.W.Frag} {mg : Str → Option Value} {base : Heap} {ct : CT} {x : Str} {k : Nat} {m : Fn} {f : Addr} {fd : FuncData} (G : FnOk P w K mg base CX0 k f fd [x] (spD K ct 1 m)) (h : ∀ ns : List Int, ns.length ≤ 63 → ∃ st', m [.scr ns] [] = some (.sh (.bl true), st')) :
    FnOk P w K mg base CX0 k f fd [x] (spLaw K) := by
  refine G.imp fun vs H Q E q => ?_
  obtain ⟨a, ns, rfl, hs, hl, q⟩ := q
  obtain ⟨st', e⟩ := h ns hl
  refine ⟨fun _ => none, ⟨H, fun _ => none, fun _ => none⟩, fun _ => none, [], [.scr ns], _, st', ?_, .cons (.scr hs) .nil, rfl, e, fun v H' W' L' l I' p => ?_⟩
  · exact ⟨fun _ _ e => (nomatch e), fun b u e => ⟨e, rfl⟩, fun _ _ e => (nomatch e), fun g κ d e => by simp at e, fun g v e => (nomatch e), rfl, fun i s e => by simp at e⟩
  · cases (show Rep K ct W' v (.bl true) from p)
    exact q H'
end Kn
namespace Kn
open PySem L2

/-! ### evaluating the functions (no program in sight) -/
theorem sSeq_nx {f g : SemS} {env st env' st'} (h : f env st = some (.nx, env', st')) : sSeq f g env st = g env' st' := by unfold sSeq; rw [h]; rfl
theorem sSeq_rt {f g : SemS} {env st env' st' r} (h : f env st = some (.rt r, env', st')) : sSeq f g env st = some (.rt r, env', st') := by unfold sSeq; rw [h]; rfl
theorem forL_nil {g f env st} : forL g f [] env st = some (.nx, env, st) := rfl
theorem forL_nx {g : SemG} {f : SemS} {d ds env env1 st env' st'} (h1 : g d env = some env1) (h : f env1 st = some (.nx, env', st')) : forL g f (d :: ds) env st = forL g f ds env' st' := by
  rw [forL, h1]; show ((f env1 st).bind _) = _; rw [h]; rfl
theorem forL_rt {g : SemG} {f : SemS} {d ds env env1 st env' st' r} (h1 : g d env = some env1) (h : f env1 st = some (.rt r, env', st')) : forL g f (d :: ds) env st = some (.rt r, env', st') := by
  rw [forL, h1]; show ((f env1 st).bind _) = _; rw [h]; rfl
/-- a loop as a fold -/
theorem forL_fold {α : Type} (E : α → List Slot) (step : α → D → α) {g : SemG} {f : SemS} {st : Sto} : ∀ {ds : List D} {a : α}, (∀ a d, d ∈ ds → ∃ env1, g d (E a) = some env1 ∧ f env1 st = some (.nx, E (step a d), st)) → forL g f ds (E a) st = some (.nx, E (ds.foldl step a), st)
  | [], _, _ => rfl
  | d :: ds, a, h => by
    obtain ⟨env1, h1, h2⟩ := h a d List.mem_cons_self
    rw [forL_nx h1 h2, List.foldl_cons]
    exact forL_fold E step fun a d hd => h a d (List.mem_cons_of_mem _ hd)
/-- a list comprehension without effects -/
theorem lcL_map {α : Type} {g : SemG} {c a : Sem} {vs : List Nat} {env : List Slot} {st : Sto} (F : α → D) (G : α → D) : ∀ {xs : List α}, (∀ x ∈ xs, ∃ env1 r, g (F x) (wipeE env vs) = some env1 ∧ c env1 st = some (.sh (.bl true), st) ∧ a env1 st = some (r, st) ∧ r.sh? = some (G x)) →
    lcL g c a vs env (xs.map F) st = some (xs.map G, st)
  | [], _ => rfl
  | x :: xs, h => by
    obtain ⟨env1, r, h1, h2, h3, h4⟩ := h x List.mem_cons_self
    have ih := lcL_map F G (xs := xs) fun y hy => h y (List.mem_cons_of_mem _ hy)
    rw [List.map_cons, lcL, h1]
    show ((c env1 st).bind _) = _
    rw [h2]
    show ((a env1 st).bind _) = _
    rw [h3]
    show (r.sh?.bind _) = _
    rw [h4]
    show (lcL g c a vs env (xs.map F) st).map _ = _
    rw [ih]; rfl
theorem eqv_int (i j : Int) : (D.int i).eq (.int j) = decide (i = j) := by unfold D.eq; simp [D.py, PyData.eqv]; exact Bool.beq_eq_decide_eq i j
theorem ok_int (i : Int) : (D.int i).ok = true := rfl
theorem ok_non : D.non.ok = true := rfl
theorem ok_bl (b : Bool) : (D.bl b).ok = true := rfl
theorem fEq_int (i j : Int) : fEq (.int i) (.int j) = some (.sh (.bl (decide (i = j)))) := by unfold fEq; rw [eqv_int]; rfl
theorem fNe_int (i j : Int) : fNe (.int i) (.int j) = some (.sh (.bl (!decide (i = j)))) := by unfold fNe; rw [eqv_int]; rfl
theorem ok_ints (ns : List Int) : (D.lst (ns.map .int)).ok = true := by
  unfold D.ok
  rw [D.py, D.pyL_eq, List.map_map]
  exact shaped_ints ns
theorem eqvAll_ints : ∀ ns ms : List Int, PyData.eqvAll (D.pyL (ns.map .int)) (D.pyL (ms.map .int)) = decide (ns = ms)
  | [], [] => rfl
  | [], _ :: _ => rfl
  | _ :: _, [] => rfl
  | n :: ns, m :: ms => by
    simp only [List.map_cons, D.pyL, PyData.eqvAll, D.py, PyData.eqv]
    rw [eqvAll_ints ns ms]
    by_cases h : n = m
    · subst h; simp
    · simp [h]
theorem eq_ints (ns ms : List Int) : (D.lst (ns.map .int)).eq (.lst (ms.map .int)) = decide (ns = ms) := by
  unfold D.eq
  rw [D.py, D.py, PyData.eqv, eqvAll_ints]
theorem fEq_ints (ns ms : List Int) : fEq (.lst (ns.map .int)) (.lst (ms.map .int)) = some (.sh (.bl (decide (ns = ms)))) := by unfold fEq; rw [eq_ints, ok_ints, ok_ints]; rfl
theorem fNe_ints (ns ms : List Int) : fNe (.lst (ns.map .int)) (.lst (ms.map .int)) = some (.sh (.bl (!decide (ns = ms)))) := by unfold fNe; rw [eq_ints, ok_ints, ok_ints]; rfl
theorem atI_map {α β : Type} (f : α → β) (xs : List α) (i : Int) : atI (xs.map f) i = (atI xs i).map f := by
  unfold atI
  rw [List.length_map]
  cases ixN xs.length i with
  | none => rfl
  | some j => show (xs.map f)[j]? = (xs[j]?).map f; rw [List.getElem?_map]
theorem kit_int_int : kitB "int" "int" = some true := by decide +kernel
theorem kit_int_bool : kitB "int" "bool" = some false := by decide +kernel
theorem kit_bool_bool : kitB "bool" "bool" = some true := by decide +kernel
theorem kit_bool_int : kitB "bool" "int" = some true := by decide +kernel
theorem kit_list_list : kitB "list" "list" = some true := by decide +kernel
theorem kit_tuple_tuple : kitB "tuple" "tuple" = some true := by decide +kernel
theorem cutG_to {α : Type} (xs : List α) (k : Nat) : cutG xs none (some (k : Int)) = xs.take k := by
  unfold cutG
  rw [HT.sIx_none, HT.sIx_nat, List.drop_zero, Nat.sub_zero]
  by_cases h : k ≤ xs.length
  · rw [Nat.min_eq_left h]
  · rw [Nat.min_eq_right (by omega), List.take_of_length_le (Nat.le_refl _)]
    exact (List.take_of_length_le (by omega)).symm

section
variable {env env' : List Slot} {st st' : Sto} {a b c : Sem} {f g : SemS} {i j n : Nat} {d : D} {as : SemA}
@[simp] theorem x_seq : sSeq f g env st = (f env st).bind fun p => match p with
  | (.nx, env', st') => g env' st'
  | q => some q := rfl
@[simp] theorem x_nil : sNil env st = some (.nx, env, st) := rfl
@[simp] theorem x_set : sSet i a env st = (a env st).bind fun p => match p.1 with
  | .sh d => some (.nx, env.set i (.sh d), p.2)
  | .ow d => some (.nx, env.set i (.ow d), p.2)
  | .bw _ _ => none := rfl
@[simp] theorem x_var : eVar i env st = match env[i]? with
  | some (.sh d) => some (.sh d, st)
  | some (.ow d) => some (.bw i d, st)
  | _ => none := rfl
@[simp] theorem x_c : eC d env st = some (.sh d, st) := rfl
@[simp] theorem x_e2 {o} : e2 o a b env st = (a env st).bind fun p => (b env p.2).bind fun q => (o p.1.d q.1.d).map fun r => (r, q.2) := rfl
@[simp] theorem x_e1 {o} : e1 o a env st = (a env st).bind fun p => (o p.1.d).map fun r => (r, p.2) := rfl
@[simp] theorem x_d1 : (R.sh d).d = d := rfl
@[simp] theorem x_d2 : (R.ow d).d = d := rfl
@[simp] theorem x_d3 : (R.bw i d).d = d := rfl
@[simp] theorem x_p1 : (R.sh d).pin = .sh d := rfl
@[simp] theorem x_p2 : (R.ow d).pin = .sh d := rfl
@[simp] theorem x_p3 : (R.bw i d).pin = .bw i d := rfl
@[simp] theorem x_s1 : (R.sh d).sh? = some d := rfl
@[simp] theorem x_s2 : (R.ow d).sh? = some d := rfl
@[simp] theorem x_o1 : (R.sh d).outR = .sh d := rfl
@[simp] theorem x_o2 : (R.ow d).outR = .ow d := rfl
@[simp] theorem x_o3 : (R.bw i d).outR = .ow d := rfl
@[simp] theorem x_if : sIf c f g env st = (c env st).bind fun p => p.1.tr.bind fun k => if k = true then f env p.2 else g env p.2 := rfl
@[simp] theorem x_tr {k : Bool} : (R.sh (.bl k)).tr = some k := rfl
@[simp] theorem x_ret : sRet a env st = (a env st).map fun p => (.rt p.1, env, p.2) := rfl
@[simp] theorem x_retN : sRetN env st = some (.rt (.sh .non), env, st) := rfl
@[simp] theorem x_ex : sEx a env st = (a env st).map fun p => (.nx, env, p.2) := rfl
@[simp] theorem x_frz : sFrz i f env st = match env[i]? with
  | some (.ow d) => f (env.set i (.sh d)) st
  | _ => f env st := rfl
@[simp] theorem x_aug {o} : sAug i o a env st = match env[i]? with
  | some (.sh d) => (a env st).bind fun p => (o d p.1.d).bind fun r => match r with
    | .sh d' => some (.nx, env.set i (.sh d'), p.2)
    | _ => none
  | _ => none := rfl
@[simp] theorem x_sub : sSub i a b env st = (b env st).bind fun p => (a env p.2).bind fun q => match p.1.pin, env[i]? with
  | .sh d, some (.ow c) => (setItm c q.1.d d).map fun c' => (.nx, env.set i (.ow c'), q.2)
  | _, _ => none := rfl
@[simp] theorem x_asg {o} : sAsg a o env st = (a env st).bind fun p => match p.1.pin with
  | .sh d => (o d env).map fun env' => (.nx, env', p.2)
  | _ => none := rfl
@[simp] theorem x_par : sPar i j as env st = (as env st).bind fun p => match p.1 with
  | [.sh d, .sh e] => some (.nx, (env.set i (.sh d)).set j (.sh e), p.2)
  | _ => none := rfl
@[simp] theorem x_mut {o} : sMut i o as env st = (as env st).bind fun p => (valsR p.1).bind fun xs => match env[i]? with
  | some (.ow (.lst ds)) => (o xs ds).map fun ds' => (.nx, env.set i (.ow (.lst ds')), p.2)
  | _ => none := rfl
@[simp] theorem x_anil : aNil env st = some ([], st) := rfl
@[simp] theorem x_acons : aCons a as env st = (a env st).bind fun p => (as env p.2).map fun q => (p.1.pin :: q.1, q.2) := rfl
@[simp] theorem x_v0 : valsR [] = some [] := rfl
@[simp] theorem x_v1 {rs} : valsR (.sh d :: rs) = (valsR rs).map fun ds => d :: ds := rfl
@[simp] theorem x_tup : eTup as env st = (as env st).bind fun p => (valsR p.1).bind fun ds => if ds.length ≤ sizeLine then some (.sh (.tup ds), p.2) else none := rfl
@[simp] theorem x_lst : eLst as env st = (as env st).bind fun p => (valsR p.1).bind fun ds => if ds.length ≤ sizeLine then some (.ow (.lst ds), p.2) else none := rfl
@[simp] theorem x_dnew : eDnew env st = some (.ow (.dic []), st) := rfl
@[simp] theorem x_call {m} : eCall n m as env st = (as env st).bind fun p => (valsR p.1).bind fun ds => if ds.length = n then m ds p.2 else none := rfl
@[simp] theorem x_for {it o} : sFor it o f env st = (it env st).bind fun p => forL o f p.1 env p.2 := rfl
@[simp] theorem x_whl : sWhl n c f env st = whL c f n env st := rfl
@[simp] theorem x_nm : gNm i d env = some (env.set i (.sh d)) := rfl
@[simp] theorem x_tp {gs} {ds} : gTp gs (.tup ds) env = gL gs ds env := rfl
@[simp] theorem x_gl0 : gL [] [] env = some env := rfl
@[simp] theorem x_gl1 {o gs ds} : gL (o :: gs) (d :: ds) env = (o d env).bind fun env' => gL gs ds env' := rfl
@[simp] theorem x_iseq : iSeq a env st = (a env st).bind fun p => p.1.sh?.bind fun d => d.seq.map fun ds => (ds, p.2) := rfl
@[simp] theorem x_seq1 {ds} : (D.lst ds).seq = some ds := rfl
@[simp] theorem x_seq2 {ds} : (D.tup ds).seq = some ds := rfl
@[simp] theorem x_seq3 {ns} : (D.scr ns).seq = some (ns.map D.int) := rfl
@[simp] theorem x_seql1 {ds} : (D.lst ds).seqL = some ds := rfl
@[simp] theorem x_seql2 {ns} : (D.scr ns).seqL = some (ns.map D.int) := rfl
@[simp] theorem x_rng1 : iRng1' a env st = (a env st).bind fun p => match p.1.d with
  | .int j => if Rg j then some (rngD 0 j.toNat, p.2) else none
  | _ => none := rfl
@[simp] theorem x_rng2 : iRng2' a b env st = (a env st).bind fun p => (b env p.2).bind fun q => match p.1.d, q.1.d with
  | .int i, .int j => if Rg i ∧ Rg j then some (rngD i (j - i).toNat, q.2) else none
  | _, _ => none := rfl
@[simp] theorem x_enum : iEnum' a env st = (a env st).bind fun p => p.1.sh?.bind fun d => d.seqL.map fun ds => (enumF 0 ds, p.2) := rfl
@[simp] theorem x_zip : iZip' a b env st = (a env st).bind fun p => p.1.sh?.bind fun d => d.seqL.bind fun ds => (b env p.2).bind fun q => q.1.sh?.bind fun e => e.seqL.map fun es => (zipD ds es, q.2) := rfl
@[simp] theorem x_slc {l h} : eSlc a l h env st = (a env st).bind fun p => (l env p.2).bind fun l => (h env l.2).bind fun h => (fSlc p.1.d l.1 h.1).map fun r => (r, h.2) := rfl
@[simp] theorem x_pno : pNo env st = some (none, st) := rfl
@[simp] theorem x_psome : pSome a env st = (a env st).bind fun p => match p.1.d with
  | .int i => some (some i, p.2)
  | _ => none := rfl
@[simp] theorem x_yes : eYes env st = some (.sh (.bl true), st) := rfl
@[simp] theorem x_lc {it vs o} : eLc it vs o c a env st = (it env st).bind fun p => if vs.all (fun j => (env[j]?.map Slot.okW).getD true) = true then (lcL o c a vs env p.1 p.2).bind fun q => if q.1.length ≤ sizeLine then some (.ow (.lst q.1), q.2) else none else none := rfl
@[simp] theorem x_and : eAnd a b env st = (a env st).bind fun p => match p.1 with
  | .sh (.bl true) => b env p.2
  | .sh (.bl false) => some (.sh (.bl false), p.2)
  | _ => none := rfl
@[simp] theorem x_or : eOr a b env st = (a env st).bind fun p => match p.1 with
  | .sh (.bl false) => b env p.2
  | .sh (.bl true) => some (.sh (.bl true), p.2)
  | _ => none := rfl
@[simp] theorem x_not : eNot a env st = (a env st).bind fun p => match p.1 with
  | .sh (.bl b) => some (.sh (.bl (!b)), p.2)
  | _ => none := rfl
@[simp] theorem x_eif : eIf c a b env st = (c env st).bind fun p => match p.1 with
  | .sh (.bl true) => a env p.2
  | .sh (.bl false) => b env p.2
  | _ => none := rfl
@[simp] theorem x_okw1 : Slot.okW .no = true := rfl
@[simp] theorem x_okw2 : Slot.okW (.sh d) = true := rfl
@[simp] theorem x_add {i j : Int} : fAdd (.int i) (.int j) = some (.sh (.int (i + j))) := rfl
@[simp] theorem x_I {o} {i j : Int} : fI o (.int i) (.int j) = (o i j).map fun k => .sh (.int k) := rfl
@[simp] theorem x_gsub {i j : Int} : gSub' i j = some (i - j) := rfl
@[simp] theorem x_C {o} {i j : Int} : fC o (.int i) (.int j) = some (.sh (.bl (o i j))) := rfl
@[simp] theorem x_eqi {i j : Int} : fEq (.int i) (.int j) = some (.sh (.bl (decide (i = j)))) := fEq_int i j
@[simp] theorem x_nei {i j : Int} : fNe (.int i) (.int j) = some (.sh (.bl (!decide (i = j)))) := fNe_int i j
@[simp] theorem x_len1 {ds : List D} : fLen (.lst ds) = some (.sh (.int ds.length)) := rfl
@[simp] theorem x_len2 {ds : List D} : fLen (.tup ds) = some (.sh (.int ds.length)) := rfl
@[simp] theorem x_len3 {ns : List Int} : fLen (.scr ns) = some (.sh (.int ns.length)) := rfl
@[simp] theorem x_len4 {kds : List (Key × D)} : fLen (.dic kds) = some (.sh (.int kds.length)) := rfl
@[simp] theorem x_idx1 {ds : List D} {i : Int} : fIdx (.lst ds) (.int i) = (atI ds i).map .sh := rfl
@[simp] theorem x_idx2 {ds : List D} {i : Int} : fIdx (.tup ds) (.int i) = (atI ds i).map .sh := rfl
@[simp] theorem x_idx3 {ns : List Int} {i : Int} : fIdx (.scr ns) (.int i) = (atI ns i).map fun n => .sh (.int n) := rfl
@[simp] theorem x_isn1 : fIsN .non = some (.sh (.bl true)) := rfl
@[simp] theorem x_isn2 {i : Int} : fIsN (.int i) = some (.sh (.bl false)) := rfl
@[simp] theorem x_isn3 {ds} : fIsN (.tup ds) = some (.sh (.bl false)) := rfl
@[simp] theorem x_isn4 {ds} : fIsN (.lst ds) = some (.sh (.bl false)) := rfl
@[simp] theorem x_ntn1 : fNotN .non = some (.sh (.bl false)) := rfl
@[simp] theorem x_ntn2 {i : Int} : fNotN (.int i) = some (.sh (.bl true)) := rfl
@[simp] theorem x_ntn3 {ds} : fNotN (.tup ds) = some (.sh (.bl true)) := rfl
@[simp] theorem x_ntn4 {ds} : fNotN (.lst ds) = some (.sh (.bl true)) := rfl
@[simp] theorem x_int1 {i : Int} : fInt (.int i) = some (.sh (.int i)) := rfl
@[simp] theorem x_int2 {k : Bool} : fInt (.bl k) = some (.sh (.int (if k then 1 else 0))) := rfl
@[simp] theorem x_isi_ii {i : Int} : fIsi "int" (.int i) = some (.sh (.bl true)) := by unfold fIsi; simp [D.ty, kit_int_int]
@[simp] theorem x_isi_bi {i : Int} : fIsi "bool" (.int i) = some (.sh (.bl false)) := by unfold fIsi; simp [D.ty, kit_int_bool]
@[simp] theorem x_isi_bb {i : Bool} : fIsi "bool" (.bl i) = some (.sh (.bl true)) := by unfold fIsi; simp [D.ty, kit_bool_bool]
@[simp] theorem x_isi_ib {i : Bool} : fIsi "int" (.bl i) = some (.sh (.bl true)) := by unfold fIsi; simp [D.ty, kit_bool_int]
@[simp] theorem x_isi_ll {ds} : fIsi "list" (.lst ds) = some (.sh (.bl true)) := by unfold fIsi; simp [D.ty, kit_list_list]
@[simp] theorem x_isi_tt {ds} : fIsi "tuple" (.tup ds) = some (.sh (.bl true)) := by unfold fIsi; simp [D.ty, kit_tuple_tuple]
@[simp] theorem x_slc1 {ds l h} : fSlc (.lst ds) l h = some (.ow (.lst (cutG ds l h))) := rfl
@[simp] theorem x_slc2 {ns : List Int} {l h} : fSlc (.scr ns) l h = some (.ow (.lst ((cutG ns l h).map .int))) := rfl
@[simp] theorem x_tofs1 {ds} : fLofs (.lst ds) = some (.ow (.lst ds)) := rfl
@[simp] theorem x_tofs2 {ds} : fLofs (.tup ds) = some (.ow (.lst ds)) := rfl
@[simp] theorem x_gmod {i j : Int} : gMod i j = if 0 < j then some (i % j) else none := rfl
@[simp] theorem x_wipe0 : wipeE env [] = env := rfl
@[simp] theorem x_wipe1 {v vs} : wipeE env (v :: vs) = (wipeE env vs).set v .no := rfl
@[simp] theorem x_app : fApp [d] ds = if ds.length < sizeLine then some (ds ++ [d]) else none := rfl
end
theorem gDiv_of {i j : Int} (h : 0 < j) (h2 : j < 2 ^ 8000) : gDiv i j = some (i / j) := by
  unfold gDiv
  rw [if_pos]
  refine ⟨h, ?_⟩
  have := PySem.Flt.log2_lt_of (n := j.natAbs) (k := 8000) (by decide) (by omega)
  omega
theorem gMul_of {i j : Int} (h1 : i.natAbs < 2 ^ 400000) (h2 : j.natAbs < 2 ^ 400000) : gMul i j = some (i * j) := by
  unfold gMul
  rw [if_pos]
  have a := PySem.Flt.log2_lt_of (k := 400000) (by decide) h1
  have b := PySem.Flt.log2_lt_of (k := 400000) (by decide) h2
  omega
/-- a loop that keeps a word -/
theorem forL_inv (P : List Slot → Prop) {g : SemG} {f : SemS} {st : Sto} : ∀ {ds : List D} {env : List Slot}, (∀ d ∈ ds, ∀ env, P env → ∃ env1 env2, g d env = some env1 ∧ f env1 st = some (.nx, env2, st) ∧ P env2) → P env → ∃ env', forL g f ds env st = some (.nx, env', st) ∧ P env'
  | [], env, _, p => ⟨env, rfl, p⟩
  | d :: ds, env, h, p => by
    obtain ⟨env1, env2, h1, h2, p2⟩ := h d List.mem_cons_self env p
    obtain ⟨env', h3, p3⟩ := forL_inv P (ds := ds) (env := env2) (fun d hd => h d (List.mem_cons_of_mem _ hd)) p2
    exact ⟨env', by rw [forL_nx h1 h2, h3], p3⟩
/-- data that may be compared, so deep at most -/
def D.okN (k : Nat) (d : D) : Prop := d.py.canLay0 = true ∧ d.py.depth ≤ k
theorem okN_ok {k : Nat} {d : D} (h : d.okN k) (hk : k ≤ 64) : d.ok = true := by
  unfold D.ok SeqAt.shaped
  rw [h.1, decide_eq_true (Nat.le_trans h.2 hk)]; rfl
theorem okN_mono {k m : Nat} {d : D} (h : d.okN k) (hk : k ≤ m) : d.okN m := ⟨h.1, Nat.le_trans h.2 hk⟩
theorem okN_int {k : Nat} (i : Int) : (D.int i).okN k := ⟨rfl, Nat.zero_le _⟩
theorem okN_non {k : Nat} : D.non.okN k := ⟨rfl, Nat.zero_le _⟩
theorem okN_bl {k : Nat} (b : Bool) : (D.bl b).okN k := ⟨rfl, Nat.zero_le _⟩
theorem okN_all {k : Nat} : ∀ {ds : List D}, (∀ d ∈ ds, d.okN k) → PyData.canLayAll0 (D.pyL ds) = true ∧ PyData.depthAll (D.pyL ds) ≤ k
  | [], _ => ⟨rfl, Nat.zero_le _⟩
  | d :: ds, h => by
    obtain ⟨h1, h2⟩ := okN_all (ds := ds) fun e he => h e (List.mem_cons_of_mem _ he)
    obtain ⟨h3, h4⟩ := h d List.mem_cons_self
    rw [D.pyL, PyData.canLayAll0, PyData.depthAll, h1, h3]
    exact ⟨rfl, Nat.max_le.mpr ⟨h4, h2⟩⟩
theorem okN_lst {k : Nat} {ds : List D} (h : ∀ d ∈ ds, d.okN k) : (D.lst ds).okN (k + 1) := by
  obtain ⟨h1, h2⟩ := okN_all h
  exact ⟨by rw [D.py, PyData.canLay0]; exact h1, by rw [D.py, PyData.depth]; omega⟩
theorem okN_tup {k : Nat} {ds : List D} (h : ∀ d ∈ ds, d.okN k) : (D.tup ds).okN (k + 1) := by
  obtain ⟨h1, h2⟩ := okN_all h
  exact ⟨by rw [D.py, PyData.canLay0]; exact h1, by rw [D.py, PyData.depth]; omega⟩
theorem maxI_eq {n m : Int} {ns : List Int} (h1 : m ∈ n :: ns) (h2 : ∀ k ∈ n :: ns, k ≤ m) : maxI n ns = m := by
  obtain ⟨s1, s2, s3⟩ := maxI_spec ns n
  have g1 : m ≤ maxI n ns := by
    rcases List.mem_cons.mp h1 with rfl | h
    · exact s2
    · exact s3 m h
  have g2 : maxI n ns ≤ m := by
    rcases s1 with s1 | s1
    · rw [s1]; exact h2 n List.mem_cons_self
    · exact h2 _ (List.mem_cons_of_mem _ s1)
  omega
theorem minI_eq {n m : Int} {ns : List Int} (h1 : m ∈ n :: ns) (h2 : ∀ k ∈ n :: ns, m ≤ k) : minI n ns = m := by
  obtain ⟨s1, s2, s3⟩ := minI_spec ns n
  have g1 : minI n ns ≤ m := by
    rcases List.mem_cons.mp h1 with rfl | h
    · exact s2
    · exact s3 m h
  have g2 : m ≤ minI n ns := by
    rcases s1 with s1 | s1
    · rw [s1]; exact h2 n List.mem_cons_self
    · exact h2 _ (List.mem_cons_of_mem _ s1)
  omega
theorem fMaxL_of {m : Int} {ns : List Int} (h1 : m ∈ ns) (h2 : ∀ k ∈ ns, k ≤ m) : fMaxL (.lst (ns.map .int)) = some (.sh (.int m)) := by
  cases ns with
  | nil => cases h1
  | cons n ns =>
    show ((intsL ((n :: ns).map D.int)).bind _) = _
    rw [intsL_map]
    show some (R.sh (.int (maxI n ns))) = _
    rw [maxI_eq h1 h2]
theorem fMinL_of {m : Int} {ns : List Int} (h1 : m ∈ ns) (h2 : ∀ k ∈ ns, m ≤ k) : fMinL (.lst (ns.map .int)) = some (.sh (.int m)) := by
  cases ns with
  | nil => cases h1
  | cons n ns =>
    show ((intsL ((n :: ns).map D.int)).bind _) = _
    rw [intsL_map]
    show some (R.sh (.int (minI n ns))) = _
    rw [minI_eq h1 h2]
theorem whL_stop {c : Sem} {f : SemS} {n : Nat} {env st st'} (h : c env st = some (.sh (.bl false), st')) : whL c f (n + 1) env st = some (.nx, env, st') := by
  rw [whL, h]; rfl
theorem whL_nx {c : Sem} {f : SemS} {n : Nat} {env st st1 env' st'} (h : c env st = some (.sh (.bl true), st1)) (h2 : f env st1 = some (.nx, env', st')) : whL c f (n + 1) env st = whL c f n env' st' := by
  rw [whL, h]; show ((f env st1).bind _) = _; rw [h2]; rfl
theorem whL_rt {c : Sem} {f : SemS} {n : Nat} {env st st1 env' st' r} (h : c env st = some (.sh (.bl true), st1)) (h2 : f env st1 = some (.rt r, env', st')) : whL c f (n + 1) env st = some (.rt r, env', st') := by
  rw [whL, h]; show ((f env st1).bind _) = _; rw [h2]; rfl
theorem rngD_eq (n : Nat) : rngD 0 n = (List.range n).map fun k => D.int ((k : Nat) : Int) := List.map_congr_left fun k _ => by rw [Int.zero_add]
theorem cutG_mid {α : Type} (xs : List α) (i k : Nat) : cutG xs (some (i : Int)) (some (k : Int)) = (xs.take k).drop i := by
  unfold cutG
  rw [HT.sIx_nat, HT.sIx_nat, List.drop_take]
  by_cases h : i ≤ xs.length
  · rw [Nat.min_eq_left h]
    by_cases h2 : k ≤ xs.length
    · rw [Nat.min_eq_left h2]
    · rw [Nat.min_eq_right (show xs.length ≤ k by omega), List.take_of_length_le (by simp), List.take_of_length_le (by simp; omega)]
  · have e1 : xs.drop i = [] := List.drop_of_length_le (by omega)
    have e2 : xs.drop (min i xs.length) = [] := List.drop_of_length_le (by omega)
    rw [e1, e2]; simp
theorem gDiv_s {i j : Int} (h : 0 < j) (h2 : j ≤ 1000) : gDiv i j = some (i / j) := by
  refine gDiv_of h ?_
  have e : (2 : Int) ^ 8000 = ((2 ^ 8000 : Nat) : Int) := (Int.natCast_pow 2 8000).symm
  have : 2 ^ 10 ≤ 2 ^ 8000 := Nat.pow_le_pow_right (by decide) (by decide)
  rw [e]
  generalize 2 ^ 8000 = z at this
  omega
@[simp] theorem x_sz {k : Nat} (h : k ≤ 1000) : k ≤ sizeLine := Nat.le_trans h (by decide)
@[simp] theorem x_sz2 {k : Nat} (h : k ≤ 1000) : k < sizeLine := Nat.lt_of_le_of_lt h (by decide)
end Kn
namespace Kn
open PySem L2

/-! ### list(range(..)), list(reversed(..)), {k: v}, reversed walks -/
section
open PySem.Spec PyProof.Rows
variable {prog : Program} {w : World} {A : Around} {s : Shared}
theorem rv_init {R : Result → Shared → Prop} {S it l : Addr} {items : Array Value} (hh : A.handled = none) (hi : s.heap.IsRevIter it l ((items.size : Int) - 1)) (hl : s.heap.IsList l items)
    (n1 : S ≠ it) (n2 : S ≠ l) (n3 : l ≠ it) (hz : items.size ≤ sizeLine) (hS : s.heap.get? S = some { cls := .type "list", data := .seq #[] })
    (hR : ∀ g tk acc' c', (∀ b o, b ≠ S → b ≠ it → s.heap.get? b = some o → g.get? b = some o) → g.get? S = some { cls := .type "list", dict := none, data := .seq acc' c', slots := #[] } →
      ItemsOf (fun j v => items[items.size - 1 - j]? = some v) acc' items.size → R (.ok (.ret .none)) { s with heap := g, toks := tk }) :
    wpAny (model prog w) A.in1 (Builtin.«list.__init__» ⟨[.ref S, .ref it], []⟩)
      (fun fin s1 => match fin with | .done f => R (.ok f) s1 | .again c1 => c1.quiet = true ∧ codeAny (model prog w) A c1 R s1) (fun e s1 => R (.error e) s1) s := by
  have W := (Walks.listRev (prog := prog) (w := w) (A := A.in1) hh it l n3 items).toS
  have nf : S ∉ [it, l] := by
    intro hm
    rcases List.mem_cons.mp hm with h | h
    · exact n1 h
    · exact n2 (List.mem_singleton.mp h)
  show wpAny _ A.in1 (do let was ← Builtin.List.listItems (.ref S); Builtin.List.listUpdate (.ref S) (fun _ => #[]); letGo was.toList.reverse; Builtin.List.listExtendWith (.ref S) (.ref it) .none) _ _ s
  refine wpAny_bind ?_
  unfold Builtin.List.listItems
  refine wpAny_bind (wpAny_seqItems hS rfl (wpAny_pure ?_))
  refine wpAny_bind (m := updateSeq S (fun _ => #[])) (wpAny_updateSeq hS rfl ?_)
  have g1 := Heap.get?_update_self (Obj.mapSeq fun _ => (#[] : Array Value)) hS rfl
  have o1 : ∀ b o, b ≠ S → s.heap.get? b = some o → (s.heap.update S (Obj.mapSeq fun _ => (#[] : Array Value))).get? b = some o := fun b o hb e => (Heap.get?_update_other _ _ (Ne.symm hb)).trans e
  refine wpAny_bind (m := letGo (#[] : Array Value).toList.reverse) (wpAny_letGo ?_)
  have hi1 : (s.heap.update S (Obj.mapSeq fun _ => (#[] : Array Value))).IsRevIter it l ((items.size : Int) - 1) := hi.at fun o e => o1 it o (Ne.symm n1) e
  have hl1 : (s.heap.update S (Obj.mapSeq fun _ => (#[] : Array Value))).IsList l items := by
    obtain ⟨o, ho, hr⟩ := hl
    exact ⟨o, o1 l o (Ne.symm n2) ho, hr⟩
  generalize s.heap.update S (Obj.mapSeq fun _ => (#[] : Array Value)) = h0 at g1 o1 hi1 hl1 ⊢
  have ty : ({ s with heap := h0 } : Shared).TypeIs (.ref it) "list_reverseiterator" := Heap.IsRevIter.typeIs (s := { s with heap := h0 }) hi1
  unfold Builtin.List.listExtendWith
  refine wpAny_bind (wpAny_typeOf ty ?_)
  rw [if_neg (by rw [show Builtin.List.listSameRef (.ref S) (.ref it) = false from by simp [Builtin.List.listSameRef, n1]]; decide)]
  refine wpAny_bind (wpAny_pyIter_revIter (s := { s with heap := h0 }) hi1 ?_)
  refine wpAny_bind (wpAny_holding ?_)
  unfold Builtin.List.listLengthHint
  refine wpAny_bind (wpAny_specialOf ty RT.nolen_lri ?_)
  refine wpAny_bind (m := specialOf (Value.ref it) (Str.ofString "__length_hint__")) (wpAny_specialOf ty RT.hint_lri ?_)
  generalize hid : ("list_reverseiterator.__length_hint__" : String) = id0
  wp_delta
  rw [show splitId id0 = some ("list_reverseiterator", "__length_hint__") from by subst hid; decide +kernel]
  subst hid
  refine wpAny_bind (wpAny_isInstance (b := true) ty (by rw [isSubtype_type]; kernel_rfl) ?_)
  refine wpAny_pure ?_
  rw [if_neg (by decide)]
  have z0 : ((items.size : Nat) : Int) - 1 - ((0 : Nat) : Int) = (items.size : Int) - 1 := by omega
  refine wpAny_pure ⟨plainId_quiet F.plain_extend_loop _, codeAny_extend_loopS W hz _ nf _ items.size 0 _ _ _ rfl (Nat.zero_le _) ⟨Nat.zero_le _, by rw [z0]; exact hi1, hl1⟩ g1 (ItemsOf.nil _) fun s2 acc' c' hm hS' hacc => ?_⟩
  rw [Moved.eq_with hm]
  refine hR s2.heap s2.toks acc' c' (fun b o b1 b2 e => hm.heap b o (fun hmem => ?_) (o1 b o b1 e)) hS' hacc
  rcases List.mem_cons.mp hmem with h | h
  · exact b1 h
  · exact b2 (List.mem_singleton.mp h)
theorem rv_list {E : Value → Shared → Prop} {Q : Value → Shared → Prop} {it l : Addr} {items : Array Value} (hh : A.handled = none) (hi : s.heap.IsRevIter it l ((items.size : Int) - 1)) (hl : s.heap.IsList l items) (n3 : l ≠ it) (hz : items.size ≤ sizeLine)
    (hQ : ∀ g tk acc' c', (∀ b o, b ≠ it → s.heap.get? b = some o → g.get? b = some o) → g.get? s.heap.objs.size = some { cls := .type "list", dict := none, data := .seq acc' c', slots := #[] } →
      ItemsOf (fun j v => items[items.size - 1 - j]? = some v) acc' items.size → Q (.ref s.heap.objs.size) { s with heap := g, toks := tk }) : wpAny (model prog w) A (call (.type "list") [.ref it]) Q E s := by
  obtain ⟨oi, hoi, _⟩ := id hi
  obtain ⟨ol, hol, _⟩ := id hl
  refine callType_codes (Q₁ := fun z s1 => z = .ref s.heap.objs.size ∧ s1 = { s with heap := s.heap.push { cls := .type "list", data := .seq #[] } }) F.called_list (F.typeCall_list_1 _) F.entry_list_init (code_list_new _ ⟨rfl, rfl⟩) fun z s1 h1 => ?_
  obtain ⟨rfl, rfl⟩ := h1
  have hS : (s.heap.push { cls := .type "list", data := .seq #[] }).get? s.heap.objs.size = some { cls := .type "list", data := .seq #[] } := Heap.get?_push_size _ rfl
  refine ⟨⟨_, hS, rfl⟩, F.args_list_init_2 _ _, rv_init (A := A.in1) (s := { s with heap := s.heap.push { cls := .type "list", data := .seq #[] } }) hh (hi.at fun o e => Heap.get?_push_of_some _ e) (hl.push _) (Nat.ne_of_gt (Heap.lt_size hoi)) (Nat.ne_of_gt (Heap.lt_size hol)) n3 hz hS fun g tk acc' c' hk hS' hacc => ?_⟩
  exact ⟨rfl, hQ g tk acc' c' (fun b o hb e => hk b o (Nat.ne_of_lt (Heap.lt_size e)) hb (Heap.get?_push_of_some _ e)) hS' hacc⟩
end
section
open PySem.Spec PyProof.Rows
def tLstRev (K : PySem.W.Frag) (te : TE) : TE := fun σ H Q => te σ H fun v H1 => ∃ (a : Addr) (xs : List V), v = .ref a ∧ SqL K H1 a xs ∧ ∀ b, H1 b = none → Q (.ref b) (upd H1 b (.lst xs.reverse))
theorem pe_lstRev {X : Cx} {e : Expr} {te : TE} {p p2 pos pos2 : Pos} (hc : X.calm = true) (hg : Gl X "list") (hm : X.mg "list" = none) (hg2 : Gl X "reversed") (hm2 : X.mg "reversed" = none) (he : PE X e te)
    (a1 : starEach [e] X.env = (false, eval e X.env) :: starEach [] X.env := by rfl)
    (a2 : starEach [.Call (.Name "reversed" p2) [e] [] pos2] X.env = (false, eval (.Call (.Name "reversed" p2) [e] [] pos2) X.env) :: starEach [] X.env := by rfl) :
    PE X (.Call (.Name "list" p) [.Call (.Name "reversed" p2) [e] [] pos2] [] pos) (tLstRev X.K te) := by
  refine ⟨fun pins s σ H Q I h => Call_ (ld_blt I hg hm boot_list (PyProof.Rows.callWith_type1 (args_cons (Call_ (ld_blt I hg2 hm2 PyProof.Rows.boot_reversed (PyProof.Rows.callWith_type1 (args_cons (thn (he.run pins s σ H _ I h) fun u s1 ⟨v, H1, I1, r1, a, xs, ev, hq, q⟩ => args_nil ?_) a1) a1 rfl))) a2) a2 rfl))⟩
  subst ev
  obtain rfl : u = Value.ref a := r1
  obtain ⟨its, rv, p1, hz⟩ := I1.list hq
  refine call_reversed_list p1.isList (args_nil ?_)
  have hl := p1.isList
  obtain ⟨ol, hol, _⟩ := id hl
  have fp := I1.fpOk (H' := H1) (b := s1.heap.objs.size) (Nat.le_refl _) (I1.hok.fresh (Nat.le_refl _))
  have I2 : Inv X pins σ H1 { s1 with heap := s1.heap.push (revObj a ((its.toArray.size : Int) - 1)) } := I1.kept (t' := s1.toks) fun b o e => Heap.get?_push_of_some _ e
  have hn : its.toArray.size ≤ sizeLine := by rw [List.size_toArray, ← rv.length]; exact hz
  refine rv_list (s := { s1 with heap := s1.heap.push (revObj a ((its.toArray.size : Int) - 1)) }) (I1.ok.hd hc) ⟨_, Heap.get?_push_size _ rfl, rfl, rfl⟩ (hl.push _) (Nat.ne_of_lt (Heap.lt_size hol)) hn fun g tk acc c' hk hS hi => ?_
  have sz := I2.hok.fresh (Nat.le_refl _)
  refine ⟨_, upd H1 _ (.lst xs.reverse), I2.turnedNew (t' := tk) (ch := [s1.heap.objs.size]) (fun b o hb e => hk b o (fun z => hb (by rw [z]; exact List.mem_singleton.mpr rfl)) e) (fun b hb => by rw [List.mem_singleton.mp hb]; exact fp) (Nat.le_refl _)
    (show ObjOk X.prog X.w _ _ _ (.lst xs.reverse) from ⟨by rw [List.length_reverse]; exact hz, acc.toList, c', RT.vals_rev rv hi, ?_⟩), ?_, q _ sz⟩
  rotate_left
  · exact rfl
  rw [Array.toArray_toList]
  exact hS
end
section
variable {X : Cx} {ct : CT} {x y : Expr} {a b : Sem} {pos p p2 pos2 : Pos} {tg : Expr}
noncomputable def eLrg (a : Sem) : Sem := fun env st => (a env st).bind fun p => match p.1.d with
  | .int j => if Rg j ∧ j ≤ 1000 then some (.ow (.lst (rngD 0 j.toNat)), p.2) else none
  | _ => none
theorem rgV_rep {K : PySem.W.Frag} {W : Wd} (j : Int) : RepL K ct W (rgV 0 j) (rngD 0 j.toNat) := by
  unfold rngD rgV
  have : ∀ l : List Nat, RepL K ct W (l.map fun k => V.int (0 + (k : Nat))) (l.map fun k => D.int (0 + (k : Nat))) := fun l => by
    induction l with
    | nil => exact .nil
    | cons k l ih => exact .cons (.int _) ih
  simpa using this (List.range j.toNat)
theorem se_lrg (hc : X.calm = true) (hg : Gl X "list") (hm : X.mg "list" = none) (hg2 : Gl X "range") (hm2 : X.mg "range" = none) (ha : SE X ct x a) (s1 : starEach [x] X.env = (false, eval x X.env) :: starEach [] X.env := by rfl)
    (s2 : starEach [.Call (.Name "range" p2) [x] [] pos2] X.env = (false, eval (.Call (.Name "range" p2) [x] [] pos2) X.env) :: starEach [] X.env := by rfl) :
    SE X ct (.Call (.Name "list" p) [.Call (.Name "range" p2) [x] [] pos2] [] pos) (eLrg a) := by
  refine ⟨pe_mono (pe_listRg hc hg hm (prg_1 hg2 hm2 ha.pe s1) s2) fun σ H Q ⟨F, W, L, env, st, r, st', I, e, k⟩ => ?_⟩
  obtain ⟨⟨r1, st1⟩, h1, e⟩ := bind2 e
  refine ⟨F, W, L, env, st, r1, st1, I, h1, fun v H1 W1 L1 l1 I1 p1 => ?_⟩
  obtain ⟨W1', m1, J1, q1⟩ := I1.pin p1
  have q1' := J1.look q1
  rw [R.pin_d] at q1'
  cases hr : r1.d <;> rw [show ((r1, st1) : R × Sto).1.d = _ from hr] at e <;> try (cases e; done)
  rename_i j
  obtain ⟨c, e⟩ := ifs e
  cases e
  rw [hr] at q1'
  refine ⟨j, q1'.int, ?_, fun q hq => fresh_out J1 hq (.lst upd_same (rgV_rep j)) fun v H' W' L' l' => k v H' W' L' (l1.trans (m1.trans l'))⟩
  exact ⟨by decide, by decide, c.1.1, c.1.2, by have := c.2; omega⟩
def fLrev : D → Option R
  | .lst ds => some (.ow (.lst ds.reverse))
  | _ => none
theorem se_lrev (hc : X.calm = true) (hg : Gl X "list") (hm : X.mg "list" = none) (hg2 : Gl X "reversed") (hm2 : X.mg "reversed" = none) (ha : SE X ct x a) (s1 : starEach [x] X.env = (false, eval x X.env) :: starEach [] X.env := by rfl)
    (s2 : starEach [.Call (.Name "reversed" p2) [x] [] pos2] X.env = (false, eval (.Call (.Name "reversed" p2) [x] [] pos2) X.env) :: starEach [] X.env := by rfl) :
    SE X ct (.Call (.Name "list" p) [.Call (.Name "reversed" p2) [x] [] pos2] [] pos) (e1 fLrev a) := by
  refine ⟨pe_mono (pe_lstRev hc hg hm hg2 hm2 ha.pe s1 s2) fun σ H Q ⟨F, W, L, env, st, r, st', I, e, k⟩ => ?_⟩
  obtain ⟨⟨r1, st1⟩, h1, e⟩ := bind2 e
  obtain ⟨r3, h3, e⟩ := map2 e
  cases e
  refine ⟨F, W, L, env, st, r1, st1, I, h1, fun v H1 W1 L1 l1 I1 p1 => ?_⟩
  obtain ⟨W1', m1, J1, q1⟩ := I1.pin p1
  have q1' := J1.look q1
  rw [R.pin_d] at q1'
  obtain ⟨ds, ed, rfl⟩ : ∃ ds, r1.d = .lst ds ∧ r = .ow (.lst ds.reverse) := by
    have h3 : fLrev r1.d = some r := h3
    unfold fLrev at h3
    split at h3 <;> cases h3
    exact ⟨_, by assumption, rfl⟩
  rw [ed] at q1'
  obtain ⟨a, vs, rfl, g, q⟩ := q1'.list J1
  exact ⟨a, vs, rfl, SqL.of g, fun b hb => fresh_out J1 hb (.lst upd_same q.reverse) fun v H' W' L' l' => k v H' W' L' (l1.trans (m1.trans l'))⟩
/-- for x in reversed(xs) -/
def iRevd (a : Sem) : SemI := fun env st => (a env st).bind fun p => p.1.sh?.bind fun d => match d with
  | .lst ds => some (ds.reverse, p.2)
  | _ => none
theorem wk_rev {K : PySem.W.Frag} {W0 : Wd} {l : Addr} {vs : List V} {ds : List D} (h : SqL K W0.hs l vs) (r : RepL K ct W0 vs ds) : Wk K ct (Itv K l vs.length) W0 ds.reverse := by
  intro F W L env st σ H i le I
  have hs : SqL K H l vs := sq_mono (fun a o e => (I.hs a o (le.1 a o e)).1) h
  refine ⟨fun d hd => ?_, fun hi => by rw [List.length_reverse, ← r.length] at hi; exact hi⟩
  have hi : i < vs.length := by
    have := (List.getElem?_eq_some_iff.mp hd).1
    rw [List.length_reverse, ← r.length] at this; exact this
  rw [List.getElem?_reverse (by rw [← r.length]; exact hi), ← r.length] at hd
  obtain ⟨v, hv, hr⟩ := r.get hd
  exact ⟨⟨hi, vs, v, hs, hv⟩, fun x H' ⟨e, y⟩ => by
    subst e
    have e2 := y vs hs
    rw [hv] at e2; cases e2
    exact ⟨W, L, .refl W, I, hr.mono le⟩⟩
theorem si_revd (hg : Gl X "reversed") (hm : X.mg "reversed" = none) (ha : SE X ct x a) (he : starEach [x] X.env = (false, eval x X.env) :: starEach [] X.env := by rfl) (hs : starEach [x] X.env = [(false, eval x X.env)] := by rfl) : SI X ct tg (.Call (.Name "reversed" p) [x] [] pos) (iRevd a) := by
  refine ⟨pi_mono (pi_reversed hg hm (pa_cons ha.pe pa_nil he) hs) fun σ H RR ⟨F, W, L, env, st, ds, st', I, e, k⟩ => ?_⟩
  obtain ⟨⟨r1, st1⟩, h1, e⟩ := bind2 e
  obtain ⟨d, h2, e⟩ := bind2 e
  cases d <;> try (cases e; done)
  cases e
  have hp := R.sh_pin h2
  refine ⟨F, W, L, env, st, r1, st1, I, h1, fun v H1 W1 L1 l1 I1 p1 => ?_⟩
  obtain ⟨W1', m1, J1, q1⟩ := I1.pin p1
  rw [hp] at q1
  have q1 : Rep X.K ct W1' v (.lst _) := q1
  cases q1 with
  | lst g q => exact ⟨_, _, rfl, SqL.of (J1.hs _ _ g).1, k _ _ _ _ (l1.trans m1) J1 (wk_rev (SqL.of g) q)⟩
/-- one that is nobody's is changed -/
theorem Rel.updFree {K : PySem.W.Frag} {F F' H : Hp} {W : Wd} {L : Addr → Option Lab} {env : List Kn.Slot} {st : Sto} {σ : St} {q : Addr} {o : HO} (I : Rel K ct F' W L env st σ H) (hF : ∀ b u, F b = some u → F' b = some u ∧ b ≠ q) (hl : L q = none) (hw : W.hs q = none) (hn : ∀ xs, H q ≠ some (.tup xs)) :
    Rel K ct F W L env st σ (upd H q o) := by
  have ne : ∀ b l, L b = some l → (upd H q o) b = H b := fun b l h => upd_ne (by rintro rfl; rw [hl] at h; cases h)
  refine ⟨fun b u e => ?_, fun b u e => ?_, fun b vs e => ?_, fun g κ x e => ?_, I.rh, I.len, fun j s e => (I.sl j s e).mono (.refl W) fun b u hb hu => ⟨by rw [ne b _ hb]; exact hu, hb⟩⟩
  · obtain ⟨e', hb⟩ := hF b u e
    obtain ⟨h1, h2, h3⟩ := I.fr b u e'
    exact ⟨by rw [upd_ne hb]; exact h1, h2, h3⟩
  · obtain ⟨h1, h2⟩ := I.hs b u e
    exact ⟨by rw [upd_ne (by rintro rfl; rw [hw] at e; cases e)]; exact h1, h2⟩
  · rw [upd_ne (by rintro rfl; exact hn _ (I.tp _ _ e))]
    exact I.tp b vs e
  · obtain ⟨v, h1, h2⟩ := I.ob g κ x e
    refine ⟨v, h1, ?_⟩
    have z : (fun b => if L b = some (.ob g) then (upd H q o) b else none) = fun b => if L b = some (.ob g) then H b else none := by
      funext b
      by_cases hb : L b = some (.ob g)
      · rw [if_pos hb, if_pos hb, ne b _ hb]
      · rw [if_neg hb, if_neg hb]
    rw [z]; exact h2
/-- one that stands aside -/
theorem Rel.aside {K : PySem.W.Frag} {F H : Hp} {W : Wd} {L : Addr → Option Lab} {env : List Kn.Slot} {st : Sto} {σ : St} {q : Addr} {o : HO} (I : Rel K ct F W L env st σ H) (hq : H q = none) :
    Rel K ct (upd F q o) W (fun a => if (H a).isSome then L a else none) env st σ (upd H q o) := by
  obtain ⟨I', h1, h2, h3⟩ := I.laid (o := o) hq
  refine ⟨fun b u e => ?_, I'.hs, I'.tp, I'.ob, I'.rh, I'.len, I'.sl⟩
  by_cases hb : b = q
  · subst hb
    rw [upd_same] at e; cases e
    exact ⟨upd_same, h1, h2⟩
  · rw [upd_ne hb] at e
    exact I'.fr b u e
/-- {k: v} -/
def eD1 (a b : Sem) : Sem := fun env st => (a env st).bind fun p => (b env p.2).bind fun q => match p.1.pin, q.1.pin with
  | .sh d, .sh d' => d.key.map fun ky => (.ow (.dic [(ky, d')]), q.2)
  | _, _ => none
theorem se_d1 (ha : SE X ct x a) (hb : SE X ct y b) : SE X ct (.Dict [some x] [y] pos) (eD1 a b) := by
  refine ⟨pe_mono (pe_disp (pps_cons ha.pe hb.pe pps_nil) rfl rfl (by simp) (by simp)) fun σ H Q ⟨F, W, L, env, st, r, st', I, e, k⟩ q hq => ?_⟩
  obtain ⟨⟨r1, st1⟩, h1, e⟩ := bind2 e
  obtain ⟨⟨r2, st2⟩, h2, e⟩ := bind2 e
  obtain ⟨d, d', hr1, hr2, e⟩ : ∃ d d', r1.pin = .sh d ∧ r2.pin = .sh d' ∧ (d.key.map fun ky => ((.ow (.dic [(ky, d')]) : R), st2)) = some (r, st') := by
    dsimp only at e
    split at e
    · rename_i d d' e1 e2
      exact ⟨d, d', e1, e2, e⟩
    · cases e
  obtain ⟨ky, hk, e⟩ := map2 e
  cases e
  have I0 := I.aside (o := .dK []) hq
  have hFq : F q = none := by
    cases z : F q with
    | none => rfl
    | some u => have := (I.fr q u z).1; rw [hq] at this; cases this
  refine ⟨_, W, _, env, st, r1, st1, I0, h1, fun v H1 W1 L1 l1 I1 p1 => ?_⟩
  obtain ⟨W1', m1, J1, q1⟩ := I1.pin p1
  rw [hr1] at q1
  refine ⟨_, W1', L1, env, st1, r2, _, J1, h2, fun w H2 W2 L2 l2 I2 p2 => ?_⟩
  obtain ⟨W2', m2, J2, q2⟩ := I2.pin p2
  rw [hr2] at q2
  have q1 : Rep X.K ct W1' v d := q1
  have q2 : Rep X.K ct W2' w d' := q2
  obtain ⟨f1, f2, f3⟩ := J2.fr q _ upd_same
  have ev : v = kV ky := Kn.D.key_v (H := H2) (.inl (q1.mono (l2.trans m2))) hk
  subst ev
  refine ⟨f1, [(ky, w)], rfl, by simp, ?_⟩
  have J3 := J2.updFree (F := F) (o := .dK (mergeK [] [(ky, w)])) (fun b u e => by
    have : b ≠ q := by rintro rfl; rw [hFq] at e; cases e
    exact ⟨by rw [upd_ne this]; exact e, this⟩) f2 f3 fun xs z => by rw [f1] at z; cases z
  exact k _ _ _ _ (l1.trans (m1.trans (l2.trans m2))) J3 ⟨q, rfl, f2, f3, hFq, .dic (kvs := [(ky, w)]) upd_same rfl (.cons q2 .nil)⟩
/-! evaluating -/
variable {env env' : List Kn.Slot} {st st' : Sto} {ds : List D}
@[simp] theorem x_lrev : fLrev (.lst ds) = some (.ow (.lst ds.reverse)) := rfl
@[simp] theorem x_lrg : eLrg a env st = (a env st).bind fun p => match p.1.d with
  | .int j => if Rg j ∧ j ≤ 1000 then some (.ow (.lst (rngD 0 j.toNat)), p.2) else none
  | _ => none := rfl
@[simp] theorem x_revd : iRevd a env st = (a env st).bind fun p => p.1.sh?.bind fun d => match d with
  | .lst ds => some (ds.reverse, p.2)
  | _ => none := rfl
@[simp] theorem x_d1e : eD1 a b env st = (a env st).bind fun p => (b env p.2).bind fun q => match p.1.pin, q.1.pin with
  | .sh d, .sh d' => d.key.map fun ky => (.ow (.dic [(ky, d')]), q.2)
  | _, _ => none := rfl
@[simp] theorem x_key1 {i : Int} : (D.int i).key = some (.inl i) := rfl
end
end Kn
namespace Kn
open PySem L2

/-! ### plain lemmas -/
/-- a loop's turns, each to its end -/
inductive Runs (g : SemG) (f : SemS) (st : Sto) : List D → List Slot → List Slot → Prop
  | nil {env : List Slot} : Runs g f st [] env env
  | cons {d : D} {ds : List D} {env env1 env2 env' : List Slot} : g d env = some env1 → f env1 st = some (.nx, env2, st) → Runs g f st ds env2 env' → Runs g f st (d :: ds) env env'
theorem Runs.forL {g : SemG} {f : SemS} {st : Sto} {ds : List D} {env env' : List Slot} (h : Runs g f st ds env env') : Kn.forL g f ds env st = some (.nx, env', st) := by
  induction h with
  | nil => rfl
  | cons h1 h2 _ ih => rw [forL_nx h1 h2, ih]
theorem Runs.app {g : SemG} {f : SemS} {st : Sto} {ds es : List D} {env env' env2 : List Slot} (h : Runs g f st ds env env') (k : Runs g f st es env' env2) : Runs g f st (ds ++ es) env env2 := by
  induction h with
  | nil => exact k
  | cons h1 h2 _ ih => exact .cons h1 h2 (ih k)
/-- a loop that keeps a word of what was done -/
theorem forL_rel {α β : Type} (P : α → List Slot → Prop) (step : α → β → α) (F : β → D) {g : SemG} {f : SemS} {st : Sto} : ∀ {xs : List β} {a : α} {env : List Slot}, P a env → (∀ a x env, x ∈ xs → P a env → ∃ env1 env2, g (F x) env = some env1 ∧ f env1 st = some (.nx, env2, st) ∧ P (step a x) env2) →
    ∃ env', forL g f (xs.map F) env st = some (.nx, env', st) ∧ P (xs.foldl step a) env'
  | [], a, env, p, _ => ⟨env, rfl, p⟩
  | x :: xs, a, env, p, h => by
    obtain ⟨env1, env2, h1, h2, p2⟩ := h a x env List.mem_cons_self p
    obtain ⟨env', h3, p3⟩ := forL_rel P step F (xs := xs) p2 fun a y env hy => h a y env (List.mem_cons_of_mem _ hy)
    exact ⟨env', by rw [List.map_cons, forL_nx h1 h2, h3], p3⟩
def nI (k : Nat) : D := .int (k : Nat)
theorem atI_map_nat {α : Type} (F : α → D) {l : List α} {i : Nat} (z : α) (h : i < l.length) : atI (l.map F) (i : Int) = some (F (l.getD i z)) := by
  rw [atI_map, atI_nat (List.getElem?_eq_getElem h), List.getD_eq_getElem?_getD, List.getElem?_eq_getElem h]; rfl
theorem ixN_nat {n i : Nat} (h : i < n) : ixN n (i : Int) = some i := by
  unfold ixN
  simp; omega
theorem setItm_map {α : Type} (F : α → D) {l : List α} {i : Nat} {z : α} (h : i < l.length) : setItm (.lst (l.map F)) (.int (i : Nat)) (F z) = some (.lst ((l.set i z).map F)) := by
  show ((ixN (l.map F).length (i : Int)).map _) = _
  rw [List.length_map, ixN_nat h, List.map_set]; rfl
theorem any_ints (S : List Int) (x : Int) : (S.map D.int).any (fun z => z.eq (.int x)) = decide (x ∈ S) := by
  rw [List.any_map, Bool.eq_iff_iff, List.any_eq_true, decide_eq_true_eq]
  constructor
  · rintro ⟨k, hk, e⟩
    have e : (D.int k).eq (.int x) = true := e
    rw [eqv_int] at e
    rw [← of_decide_eq_true e]; exact hk
  · intro h
    exact ⟨x, h, by show (D.int x).eq (.int x) = true; rw [eqv_int]; exact decide_eq_true rfl⟩
theorem any_nats (S : List Nat) (x : Nat) : (S.map nI).any (fun z => z.eq (.int (x : Nat))) = decide (x ∈ S) := by
  have e : S.map nI = (S.map fun (k : Nat) => (k : Int)).map D.int := by rw [List.map_map]; rfl
  rw [e, any_ints]
  refine decide_eq_decide.mpr ⟨fun h => ?_, fun h => List.mem_map.mpr ⟨x, h, rfl⟩⟩
  obtain ⟨k, hk, e⟩ := List.mem_map.mp h
  have : k = x := by omega
  rw [← this]; exact hk
theorem ok_nats (S : List Nat) : (D.lst (S.map nI)).ok = true := by
  have e : S.map nI = (S.map fun (k : Nat) => (k : Int)).map D.int := by rw [List.map_map]; rfl
  rw [e]; exact ok_ints _
theorem fInB_nats (S : List Nat) (x : Nat) : fInB (.int (x : Nat)) (.lst (S.map nI)) = some (decide (x ∈ S)) := by
  unfold fInB
  simp only [ok_nats, ok_int, and_self, if_true, any_nats]
theorem fIn_nats (S : List Nat) (x : Nat) : fIn (.int (x : Nat)) (.lst (S.map nI)) = some (.sh (.bl (decide (x ∈ S)))) := by unfold fIn; rw [fInB_nats]; rfl
theorem fNin_nats (S : List Nat) (x : Nat) : fNin (.int (x : Nat)) (.lst (S.map nI)) = some (.sh (.bl (!decide (x ∈ S)))) := by unfold fNin; rw [fInB_nats]; rfl
theorem flat_int (i : Int) : (D.int i).flat = true := rfl
theorem fInB_tnats (S : List Nat) (x : Nat) : fInB (.int (x : Nat)) (.tup (S.map nI)) = some (decide (x ∈ S)) := by
  unfold fInB
  have : (S.map nI).all D.flat = true := by rw [List.all_map, List.all_eq_true]; intro k _; rfl
  simp only [this, flat_int, and_self, if_true, any_nats]
theorem fNin_tnats (S : List Nat) (x : Nat) : fNin (.int (x : Nat)) (.tup (S.map nI)) = some (.sh (.bl (!decide (x ∈ S)))) := by unfold fNin; rw [fInB_tnats]; rfl
theorem fIn_tnats (S : List Nat) (x : Nat) : fIn (.int (x : Nat)) (.tup (S.map nI)) = some (.sh (.bl (decide (x ∈ S)))) := by unfold fIn; rw [fInB_tnats]; rfl
/-- dicts by whole numbers -/
def dN {α : Type} (F : α → D) (C : List (Nat × α)) : List (Key × D) := C.map fun p => (Sum.inl (p.1 : Int), F p.2)
theorem valD_dN {α : Type} (F : α → D) (x : Nat) : ∀ C : List (Nat × α), valD (dN F C) (Sum.inl (x : Int)) = (C.find? fun p => decide (p.1 = x)).map fun p => F p.2
  | [] => rfl
  | (k, v) :: C => by
    unfold valD dN
    rw [List.map_cons, List.find?_cons, List.find?_cons]
    by_cases h : k = x
    · subst h; simp
    · have h1 : ¬ ((k : Int) = (x : Int)) := by omega
      have h2 : ¬ ((Sum.inl (k : Int) : Key) = Sum.inl (x : Int)) := fun q => h1 (Sum.inl.inj q)
      simp only [h, h2, decide_false]
      exact valD_dN F x C
theorem find_key {α : Type} (x : Nat) (C : List (Nat × α)) : (C.find? fun p => decide (p.1 = x)).isSome = decide (x ∈ C.map (·.1)) := by
  rw [Bool.eq_iff_iff, List.find?_isSome, decide_eq_true_eq]
  constructor
  · rintro ⟨p, hp, e⟩
    exact List.mem_map.mpr ⟨p, hp, of_decide_eq_true e⟩
  · intro h
    obtain ⟨p, hp, e⟩ := List.mem_map.mp h
    exact ⟨p, hp, decide_eq_true e⟩
theorem fNin_dN {α : Type} (F : α → D) (x : Nat) (C : List (Nat × α)) : fNin (.int (x : Nat)) (.dic (dN F C)) = some (.sh (.bl (!decide (x ∈ C.map (·.1))))) := by
  unfold fNin fInB
  show some (R.sh (.bl (!(valD (dN F C) (Sum.inl (x : Int))).isSome))) = _
  rw [valD_dN, Option.isSome_map, find_key]
theorem fIn_dN {α : Type} (F : α → D) (x : Nat) (C : List (Nat × α)) : fIn (.int (x : Nat)) (.dic (dN F C)) = some (.sh (.bl (decide (x ∈ C.map (·.1))))) := by
  unfold fIn fInB
  show some (R.sh (.bl ((valD (dN F C) (Sum.inl (x : Int))).isSome))) = _
  rw [valD_dN, Option.isSome_map, find_key]
theorem find_at {α : Type} {x : Nat} {v : α} : ∀ {C : List (Nat × α)}, (C.map (·.1)).Nodup → (x, v) ∈ C → (C.find? fun p => decide (p.1 = x)) = some (x, v)
  | [], _, h => by cases h
  | (k, u) :: C, n, h => by
    rw [List.map_cons, List.nodup_cons] at n
    rw [List.find?_cons]
    rcases List.mem_cons.mp h with h | h
    · cases h; simp
    · have : k ≠ x := fun e => n.1 (by rw [e]; exact List.mem_map.mpr ⟨_, h, rfl⟩)
      simp only [this, decide_false]
      exact find_at n.2 h
theorem fIdx_dN {α : Type} (F : α → D) {x : Nat} {v : α} {C : List (Nat × α)} (n : (C.map (·.1)).Nodup) (h : (x, v) ∈ C) : fIdx (.dic (dN F C)) (.int (x : Nat)) = some (.sh (F v)) := by
  show (((D.int (x : Nat)).key.bind fun k => (valD (dN F C) k).map R.sh)) = _
  show (valD (dN F C) (Sum.inl (x : Int))).map R.sh = _
  rw [valD_dN, find_at n h]; rfl
theorem putD_new {α : Type} (F : α → D) {x : Nat} {v : α} {C : List (Nat × α)} (h : x ∉ C.map (·.1)) (hz : C.length < sizeLine) : setItm (.dic (dN F C)) (.int (x : Nat)) (F v) = some (.dic (dN F (C ++ [(x, v)]))) := by
  show (if (dN F C).length < sizeLine then some (D.dic (putD (dN F C) (Sum.inl (x : Int)) (F v))) else none) = _
  rw [if_pos (by unfold dN; rw [List.length_map]; exact hz)]
  unfold putD
  rw [valD_dN, Option.isSome_map, find_key, if_neg (by simp only [decide_eq_true_eq]; exact h)]
  unfold dN; rw [List.map_append]; rfl
section
variable {d : D} {i j k : Int} {f g : D → D → Option R} {a b c : Sem} {env : List Slot} {st : Sto} {n : Nat} {m : Fn} {as : SemA} {ds : List D}
@[simp] theorem x_neg : fNeg (.int i) = some (.sh (.int (-i))) := rfl
@[simp] theorem x_chain : eChain f g a b c env st = (a env st).bind fun p => (b env p.2).bind fun q => (f p.1.d q.1.d).bind fun r => match r with
  | .sh (.bl true) => (c env q.2).bind fun u => (g q.1.d u.1.d).map fun r => (r, u.2)
  | .sh (.bl false) => some (.sh (.bl false), q.2)
  | _ => none := rfl
@[simp] theorem x_callp : eCallP n m as env st = (as env st).bind fun p => if p.1.length = n ∧ D.nhL (p.1.map R.d) = true then (m (p.1.map R.d) []).bind fun q => match q.1 with
  | .sh d => if d.imm = true then some (.sh d, p.2) else none
  | _ => none else none := rfl
@[simp] theorem x_clr : fClr [] ds = some [] := rfl
@[simp] theorem x_pop : fPop [] ds = if ds ≠ [] then some ds.dropLast else none := rfl
end
/-! ### equality of plain data -/
mutual
def D.pl : D → Bool
  | .non => true
  | .int _ => true
  | .lst ds => D.plL ds
  | .tup ds => D.plL ds
  | _ => false
def D.plL : List D → Bool
  | [] => true
  | d :: ds => d.pl && D.plL ds
end
mutual
theorem eq_pl : ∀ {d e : D}, d.pl = true → e.pl = true → (PyData.eqv d.py e.py = true ↔ d = e)
  | .non, .non, _, _ => by simp [D.py, PyData.eqv]
  | .non, .int _, _, _ => by simp [D.py, PyData.eqv]
  | .non, .lst _, _, _ => by simp [D.py, PyData.eqv]
  | .non, .tup _, _, _ => by simp [D.py, PyData.eqv]
  | .int _, .non, _, _ => by simp [D.py, PyData.eqv]
  | .int _, .int _, _, _ => by simp [D.py, PyData.eqv]
  | .int _, .lst _, _, _ => by simp [D.py, PyData.eqv]
  | .int _, .tup _, _, _ => by simp [D.py, PyData.eqv]
  | .lst _, .non, _, _ => by simp [D.py, PyData.eqv]
  | .lst _, .int _, _, _ => by simp [D.py, PyData.eqv]
  | .lst ds, .lst es, h, k => by
    rw [D.pl] at h k
    rw [D.py, D.py, PyData.eqv, eqL_pl h k]; simp
  | .lst _, .tup _, _, _ => by simp [D.py, PyData.eqv]
  | .tup _, .non, _, _ => by simp [D.py, PyData.eqv]
  | .tup _, .int _, _, _ => by simp [D.py, PyData.eqv]
  | .tup _, .lst _, _, _ => by simp [D.py, PyData.eqv]
  | .tup ds, .tup es, h, k => by
    rw [D.pl] at h k
    rw [D.py, D.py, PyData.eqv, eqL_pl h k]; simp
theorem eqL_pl : ∀ {ds es : List D}, D.plL ds = true → D.plL es = true → (PyData.eqvAll (D.pyL ds) (D.pyL es) = true ↔ ds = es)
  | [], [], _, _ => by simp [D.pyL, PyData.eqvAll]
  | [], _ :: _, _, _ => by simp [D.pyL, PyData.eqvAll]
  | _ :: _, [], _, _ => by simp [D.pyL, PyData.eqvAll]
  | d :: ds, e :: es, h, k => by
    rw [D.plL, Bool.and_eq_true] at h k
    rw [D.pyL, D.pyL, PyData.eqvAll, Bool.and_eq_true, eq_pl h.1 k.1, eqL_pl h.2 k.2]; simp
end
theorem plL_all {ds : List D} (h : ∀ d ∈ ds, d.pl = true) : D.plL ds = true := by
  induction ds with
  | nil => rfl
  | cons d ds ih => rw [D.plL, h d List.mem_cons_self, ih fun e he => h e (List.mem_cons_of_mem _ he)]; rfl
theorem plL_mem {ds : List D} (h : D.plL ds = true) : ∀ d ∈ ds, d.pl = true := by
  induction ds with
  | nil => intro d hd; cases hd
  | cons d ds ih =>
    rw [D.plL, Bool.and_eq_true] at h
    intro e he
    rcases List.mem_cons.mp he with rfl | he
    · exact h.1
    · exact ih h.2 e he
/-- plain, so deep at most -/
structure D.Pn (k : Nat) (d : D) : Prop where
  pl : d.pl = true
  ok : d.okN k
theorem Pn_int {k : Nat} (i : Int) : (D.int i).Pn k := ⟨rfl, okN_int i⟩
theorem Pn_non {k : Nat} : D.non.Pn k := ⟨rfl, okN_non⟩
theorem Pn_lst {k : Nat} {ds : List D} (h : ∀ d ∈ ds, d.Pn k) : (D.lst ds).Pn (k + 1) := ⟨by rw [D.pl]; exact plL_all fun d hd => (h d hd).pl, okN_lst fun d hd => (h d hd).ok⟩
theorem Pn_tup {k : Nat} {ds : List D} (h : ∀ d ∈ ds, d.Pn k) : (D.tup ds).Pn (k + 1) := ⟨by rw [D.pl]; exact plL_all fun d hd => (h d hd).pl, okN_tup fun d hd => (h d hd).ok⟩
theorem Pn_mono {k m : Nat} {d : D} (h : d.Pn k) (hk : k ≤ m) : d.Pn m := ⟨h.pl, okN_mono h.ok hk⟩
theorem eq_Pn {k m : Nat} {d e : D} (h : d.Pn k) (h' : e.Pn m) [Decidable (d = e)] : d.eq e = decide (d = e) := by
  rw [Bool.eq_iff_iff, decide_eq_true_eq]
  exact eq_pl h.pl h'.pl
theorem fEq_Pn {k m : Nat} {d e : D} (h : d.Pn k) (h' : e.Pn m) (hk : k ≤ 64) (hm : m ≤ 64) [Decidable (d = e)] : fEq d e = some (.sh (.bl (decide (d = e)))) := by
  unfold fEq
  rw [okN_ok h.ok hk, okN_ok h'.ok hm, eq_Pn h h']; rfl
theorem fNe_Pn {k m : Nat} {d e : D} (h : d.Pn k) (h' : e.Pn m) (hk : k ≤ 64) (hm : m ≤ 64) [Decidable (d = e)] : fNe d e = some (.sh (.bl (!decide (d = e)))) := by
  unfold fNe
  rw [okN_ok h.ok hk, okN_ok h'.ok hm, eq_Pn h h']; rfl
theorem fEq_self {k : Nat} {d : D} (h : d.Pn k) (hk : k ≤ 64) : fEq d d = some (.sh (.bl true)) := by
  have : Decidable (d = d) := .isTrue rfl
  rw [fEq_Pn h h hk hk]; simp
theorem fNe_self {k : Nat} {d : D} (h : d.Pn k) (hk : k ≤ 64) : fNe d d = some (.sh (.bl false)) := by
  have : Decidable (d = d) := .isTrue rfl
  rw [fNe_Pn h h hk hk]; simp
theorem nhL_all {ds : List D} (h : ∀ d ∈ ds, d.nh = true) : D.nhL ds = true := by
  induction ds with
  | nil => rfl
  | cons d ds ih => rw [D.nhL, h d List.mem_cons_self, ih fun e he => h e (List.mem_cons_of_mem _ he)]; rfl
mutual
theorem nh_pl : ∀ {d : D}, d.pl = true → d.nh = true
  | .non, _ => rfl
  | .int _, _ => rfl
  | .lst _, h => by rw [D.pl] at h; rw [D.nh]; exact nhL_pl h
  | .tup _, h => by rw [D.pl] at h; rw [D.nh]; exact nhL_pl h
theorem nhL_pl : ∀ {ds : List D}, D.plL ds = true → D.nhL ds = true
  | [], _ => rfl
  | d :: ds, h => by
    rw [D.plL, Bool.and_eq_true] at h
    rw [D.nhL, nh_pl h.1, nhL_pl h.2]; rfl
end
theorem gMul_s {i j : Int} (h1 : i.natAbs ≤ 1000) (h2 : j.natAbs ≤ 1000) : gMul i j = some (i * j) := by
  have : 2 ^ 10 ≤ 2 ^ 400000 := Nat.pow_le_pow_right (by decide) (by decide)
  refine gMul_of ?_ ?_
  all_goals
    generalize 2 ^ 400000 = z at this
    omega
@[simp] theorem x_mul {i j : Int} : fMul (.int i) (.int j) = (gMul i j).map fun k => .sh (.int k) := rfl
@[simp] theorem x_imm_bl {b : Bool} : (D.bl b).imm = true := rfl
@[simp] theorem x_imm_int {i : Int} : (D.int i).imm = true := rfl
@[simp] theorem x_imm_non : D.non.imm = true := rfl
theorem fNe_some {k m : Nat} {d e : D} (h : d.Pn k) (h' : e.Pn m) (hk : k ≤ 64) (hm : m ≤ 64) : ∃ b, fNe d e = some (.sh (.bl b)) := by
  unfold fNe
  rw [okN_ok h.ok hk, okN_ok h'.ok hm]; exact ⟨_, rfl⟩
theorem fEq_some {k m : Nat} {d e : D} (h : d.Pn k) (h' : e.Pn m) (hk : k ≤ 64) (hm : m ≤ 64) : ∃ b, fEq d e = some (.sh (.bl b)) := by
  unfold fEq
  rw [okN_ok h.ok hk, okN_ok h'.ok hm]; exact ⟨_, rfl⟩
theorem eq_bl (a b : Bool) : (D.bl a).eq (.bl b) = decide (a = b) := by cases a <;> cases b <;> simp [D.eq, D.py, PyData.eqv]
@[simp] theorem x_eqb {a b : Bool} : fEq (.bl a) (.bl b) = some (.sh (.bl (decide (a = b)))) := by unfold fEq; rw [eq_bl]; rfl
@[simp] theorem x_neb {a b : Bool} : fNe (.bl a) (.bl b) = some (.sh (.bl (!decide (a = b)))) := by unfold fNe; rw [eq_bl]; rfl
section
variable {α : Type} {a b c d e : α} {l : List α}
@[simp] theorem x_at0 : atI (a :: l) 0 = some a := by
  have := @atI_nat α (a :: l) 0 a rfl
  exact this
@[simp] theorem x_at1 : atI (a :: b :: l) 1 = some b := by
  have := @atI_nat α (a :: b :: l) 1 b rfl
  exact this
@[simp] theorem x_at2 : atI (a :: b :: c :: l) 2 = some c := by
  have := @atI_nat α (a :: b :: c :: l) 2 c rfl
  exact this
@[simp] theorem x_at3 : atI (a :: b :: c :: d :: l) 3 = some d := by
  have := @atI_nat α (a :: b :: c :: d :: l) 3 d rfl
  exact this
@[simp] theorem x_at4 : atI (a :: b :: c :: d :: e :: l) 4 = some e := by
  have := @atI_nat α (a :: b :: c :: d :: e :: l) 4 e rfl
  exact this
end
end Kn
namespace Kn
open PySem L2

/-! ### classes -/
/-- what of a class of one's own must be known -/
structure Own (K : PySem.W.Frag) (ct : CT) (c : Str) (C : Addr) (ns : List Str) : Prop where
  at_ : ct c = some (C, ns)
  cl : Cls K C
  nd : ns.Nodup
  no : ∀ f ∈ ns, NoAttr K C f
section
variable {K : PySem.W.Frag} {ct : CT}
theorem look_fld : ∀ {ns : List Str} {fs : List (Str × V)} {k : Nat} {f : Str} {v : V}, ns.Nodup → fs.map (·.1) = ns.take fs.length → ns[k]? = some f → (fs.map (·.2))[k]? = some v → fs.lookup f = some v
  | _, [], k, _, _, _, _, _, h => by simp at h
  | [], (g, x) :: fs, k, f, v, _, h, _, _ => by simp at h
  | n :: ns, (g, x) :: fs, 0, f, v, nd, h, hk, hv => by
    simp at h hk hv
    obtain ⟨h1, _⟩ := h
    subst h1; subst hk; subst hv
    simp [List.lookup]
  | n :: ns, (g, x) :: fs, k + 1, f, v, nd, h, hk, hv => by
    simp only [List.map_cons, List.length_cons, List.take_succ_cons, List.cons.injEq] at h
    obtain ⟨h1, h2⟩ := h
    simp only [List.getElem?_cons_succ] at hk
    simp only [List.map_cons, List.getElem?_cons_succ] at hv
    rw [List.nodup_cons] at nd
    have : f ≠ n := fun e => nd.1 (by rw [← e]; exact List.mem_of_getElem? hk)
    rw [List.lookup_cons]
    have e : (f == g) = false := by rw [h1]; exact beq_eq_false_iff_ne.mpr this
    rw [e]
    exact look_fld nd.2 h2 hk hv
theorem look_none {ns : List Str} {m : Str} : ∀ {fs : List (Str × V)}, fs.map (·.1) = ns.take fs.length → m ∉ ns → fs.lookup m = none := by
  intro fs h hm
  have : ∀ g ∈ fs.map (·.1), g ≠ m := fun g hg e => hm (by rw [h, e] at hg; exact List.mem_of_mem_take hg)
  clear h
  induction fs with
  | nil => rfl
  | cons p fs ih =>
    rw [List.lookup_cons]
    have e : (m == p.1) = false := beq_eq_false_iff_ne.mpr (this p.1 List.mem_cons_self).symm
    rw [e]
    exact ih fun g hg => this g (List.mem_cons_of_mem _ hg)
theorem RdH.obj {F H : Hp} {W : Wd} {L : Addr → Option Lab} {env : List Slot} {st : Sto} {σ : St} {v : V} {c : Str} {ds : List D} (h : RdH K ct W H v (.obj c ds)) (I : Rel K ct F W L env st σ H) :
    ∃ a C dx fs ns, v = .ref a ∧ H a = some (.ins C dx fs) ∧ ct c = some (C, ns) ∧ fs.map (·.1) = ns.take fs.length ∧ RepL K ct W (fs.map (·.2)) ds := by
  rcases h with h | ⟨a, rfl, cl⟩
  · cases h with
    | obj h1 h2 h3 h4 =>
      have e := h4.length
      rw [List.length_map] at e
      exact ⟨_, _, _, _, _, rfl, (I.hs _ _ h1).1, h2, by rw [e]; exact h3, h4⟩
  · cases cl with
    | obj h1 h2 h3 h4 =>
      have e := h4.length
      rw [List.length_map] at e
      exact ⟨_, _, _, _, _, rfl, h1, h2, by rw [e]; exact h3, h4⟩
end
section
variable {X : Cx} {ct : CT} {x y : Expr} {a b : Sem} {pos p apos : Pos} {c f m : Str} {C : Addr} {ns : List Str} {es : List Expr} {as : SemA}
/-- o.f -/
def fFld (c : Str) (k : Nat) : D → Option R
  | .obj c' ds => if c' = c then ds[k]?.map .sh else none
  | _ => none
theorem fFld_inv {k : Nat} {u : D} {r : R} (h : fFld c k u = some r) : ∃ ds d, u = .obj c ds ∧ ds[k]? = some d ∧ r = .sh d := by
  unfold fFld at h
  split at h
  · rename_i c' ds
    by_cases ec : c' = c
    · rw [if_pos ec] at h
      obtain ⟨d, h1, h2⟩ := map2 h
      exact ⟨ds, d, by rw [ec], h1, h2.symm⟩
    · rw [if_neg ec] at h; cases h
  · cases h
theorem se_fld (k : Nat) (o : Own X.K ct c C ns) (ha : SE X ct x a) (hk : ns[k]? = some f := by rfl) (hb : attributeBase x f X.env (eval x X.env) = eval x X.env := by rfl) : SE X ct (.Attribute x f pos) (e1 (fFld c k) a) := by
  refine ⟨pe_mono (pe_fld ha.pe hb) fun σ H Q ⟨F, W, L, env, st, r, st', I, e, kk⟩ => ?_⟩
  obtain ⟨⟨r1, st1⟩, h1, e⟩ := bind2 e
  obtain ⟨r3, h3, e⟩ := map2 e
  cases e
  obtain ⟨ds, d, ed, hd, rfl⟩ := fFld_inv h3
  refine ⟨F, W, L, env, st, r1, st1, I, h1, fun v H1 W1 L1 l1 I1 p1 => ?_⟩
  obtain ⟨W1', m1, J1, q1⟩ := I1.pin p1
  have q1' := J1.look q1
  rw [R.pin_d] at q1'
  have ed : r1.d = .obj c ds := ed
  rw [ed] at q1'
  obtain ⟨a, C', dx, fs, ns', rfl, g, hc, hn, q⟩ := q1'.obj J1
  rw [o.at_] at hc; cases hc
  obtain ⟨v, hv, hr⟩ := q.get hd
  exact ⟨a, C, dx, fs, v, rfl, g, o.cl, o.no f (List.mem_of_getElem? hk), look_fld o.nd hn hk hv, kk v _ _ _ (l1.trans m1) J1 hr⟩
/-- o.m(..), o an object that is shared -/
def eMeth (n : Nat) (c : Str) (m : Fn) (a : Sem) (as : SemA) : Sem := fun env st => (a env st).bind fun p => match p.1.pin with
  | .sh (.obj c' ds) => if c' = c then (as env p.2).bind fun q => (valsR q.1).bind fun es => if es.length + 1 = n then m (.obj c' ds :: es) q.2 else none else none
  | _ => none
theorem eMeth_inv {n : Nat} {mf : Fn} {env : List Kn.Slot} {st st' : Sto} {r : R} (e : eMeth n c mf a as env st = some (r, st')) : ∃ r1 st1 ds rs st2 es', a env st = some (r1, st1) ∧ r1.pin = .sh (.obj c ds) ∧ as env st1 = some (rs, st2) ∧ valsR rs = some es' ∧ es'.length + 1 = n ∧ mf (.obj c ds :: es') st2 = some (r, st') := by
  obtain ⟨⟨r1, st1⟩, h1, e⟩ := bind2 e
  dsimp only at e
  split at e
  · rename_i c' ds e1
    by_cases ec : c' = c
    · rw [if_pos ec] at e
      obtain ⟨⟨rs, st2⟩, h2, e⟩ := bind2 e
      obtain ⟨es', h3, e⟩ := bind2 e
      by_cases hl : es'.length + 1 = n
      · have e : (if es'.length + 1 = n then mf (.obj c' ds :: es') st2 else none) = some (r, st') := e
        rw [if_pos hl] at e
        exact ⟨r1, st1, ds, rs, st2, es', h1, by rw [e1, ec], h2, h3, hl, by rw [← ec]; exact e⟩
      · have e : (if es'.length + 1 = n then mf (.obj c' ds :: es') st2 else none) = some (r, st') := e
        rw [if_neg hl] at e; cases e
    · rw [if_neg ec] at e; cases e
  · cases e
theorem tE_meth {n : Nat} {mf : Fn} {E : XK} {σ : St} {H : Hp} {Q : VK} {K : PySem.W.Frag} (o : Own K ct c C ns) (hm : m ∉ ns) (h : tE K ct (eMeth n c mf a as) σ H Q) : tMeth C m (spD K ct n mf) [] E (tE K ct a) (tA K ct as) σ H Q := by
  obtain ⟨F, W, L, env, st, r, st', I, e, kk⟩ := h
  obtain ⟨r1, st1, ds, rs, st2, es', h1, hp, h2, h3, hl, h4⟩ := eMeth_inv e
  refine ⟨F, W, L, env, st, r1, st1, I, h1, fun v H1 W1 L1 l1 I1 p1 => ?_⟩
  obtain ⟨W1', m1, J1, q1⟩ := I1.pin p1
  rw [hp] at q1
  have q1 : Rep K ct W1' v (.obj c ds) := q1
  obtain ⟨a, C', dx, fs, ns', rfl, g, hc, hn, q⟩ := Kn.RdH.obj (H := H1) (.inl q1) J1
  rw [o.at_] at hc; cases hc
  refine ⟨a, dx, fs, rfl, g, look_none hn hm, F, W1', L1, env, st1, rs, st2, J1, h2, fun vs H2 W2 L2 l2 I2 qs => ?_⟩
  show spD K ct n mf (V.ref a :: (vs ++ [])) H2 Q E
  rw [List.append_nil]
  exact call_out I2 (.cons (q1.mono l2) (qs.vals h3)) (by simpa using hl) h4 fun v H' W' L' l' => kk v H' W' L' (l1.trans (m1.trans (l2.trans l')))
/-- a method that may be called -/
structure Mcl (P : Program) (w : World) (K : PySem.W.Frag) (mg : Str → Option Value) (base : Heap) (ct : CT) (C : Addr) (nm : Str) (k : Nat) (ps : List Str) (m : Fn) : Prop where
  ex : ∃ f fd, FnOk P w K mg base CX0 k f fd ps (spD K ct ps.length m) ∧ Meth K C nm f ∧ Binds K fd ps []
theorem se_meth (n : Nat) {k : Nat} {ps : List Str} {mf : Fn} {pl : PySem.Sem Bool} (o : Own X.K ct c C ns) (M : Mcl X.prog X.w X.K X.mg X.base ct C m k ps mf) (hr : Room k X.A) (ha : SE X ct x a) (has : SA X ct (y :: es) as) (hn : ps.length = n := by rfl) (hm : m ∉ ns := by decide +kernel)
    (he : starEach (y :: es) X.env = (false, eval y X.env) :: starEach es X.env := by rfl) (hpl : (backTo pos (starEach es X.env)).any (·.1) = false := by rfl)
    (ht : eval (.Call (.Attribute x m apos) (y :: es) [] pos) X.env = (do
      let u ← eval x X.env
      standAt apos.atName
      let (g, us) ← holding [u] (getMethod u m pl)
      callWith pos g us (backTo pos (starEach (y :: es) X.env)) (backToKw pos (keywordEach [] X.env))) := by rfl) :
    SE X ct (.Call (.Attribute x m apos) (y :: es) [] pos) (eMeth n c mf a as) := by
  subst hn
  obtain ⟨g, fd, G, hM, hb⟩ := M.ex
  exact ⟨pe_mono (pe_meth ha.pe o.cl hM G hr hb .nil pass0 has.pa he hpl ht) fun _ _ _ h => tE_meth o hm h⟩
end

/-! ### constructors -/
section
variable {K : PySem.W.Frag} {ct : CT}
theorem call_core {F H : Hp} {W : Wd} {L : Addr → Option Lab} {env : List Kn.Slot} {st : Sto} {σ : St} (N : Addr → Bool) (hN : ∀ b, N b = true → L b = none ∧ W.hs b = none ∧ F b = none) (I : Rel K ct F W L env st σ H) :
    ∃ F1 L1, Rel K ct F1 W L1 [] st [] H ∧ (∀ b, N b = true → F1 b = none ∧ L1 b = none) ∧ ∀ r st' v H' W' L', W.le W' → Rel K ct F1 W' L' [] st' [] H' → RepR K ct F1 W' L' H' [] [] v r → ∃ L2, Rel K ct F W' L2 env st' σ H' ∧ RepR K ct F W' L2 H' env σ v r := by
  have nN : ∀ b, (L b ≠ none ∨ W.hs b ≠ none ∨ F b ≠ none) → N b = false := fun b h => by
    cases q : N b with
    | false => rfl
    | true =>
      obtain ⟨h1, h2, h3⟩ := hN b q
      rcases h with h | h | h
      · exact absurd h1 h
      · exact absurd h2 h
      · exact absurd h3 h
  refine ⟨fun b => if N b = true then none else match L b, W.hs b with | some (.ob _), _ => none | _, some _ => none | _, none => H b, fun b => match L b with | some (.ob g) => some (.ob g) | _ => none, ?_, fun b hb => ?_, ?_⟩
  · refine ⟨fun b u e => ?_, fun b u e => ?_, I.tp, fun g κ d e => ?_, I.rh, rfl, fun i s e => by simp at e⟩
    · split at e
      · cases e
      cases hb : L b with
      | none =>
        cases hw : W.hs b with
        | none => simp only [hb, hw] at e; exact ⟨e, rfl, rfl⟩
        | some z => simp only [hb, hw] at e; cases e
      | some l =>
        cases l with
        | slot i =>
          cases hw : W.hs b with
          | none => simp only [hb, hw] at e; exact ⟨e, rfl, rfl⟩
          | some z => simp only [hb, hw] at e; cases e
        | ob g => simp only [hb] at e; cases e
    · obtain ⟨h1, h2⟩ := I.hs b u e
      exact ⟨h1, by simp only [h2]⟩
    · obtain ⟨v, h1, h2⟩ := I.ob g κ d e
      refine ⟨v, h1, ?_⟩
      have q : (fun b => if (match L b with | some (.ob g) => some (Lab.ob g) | _ => none) = some (Lab.ob g) then H b else none) = fun b => if L b = some (.ob g) then H b else none := by
        funext b
        cases hb : L b with
        | none => simp
        | some l => cases l with
          | slot i => simp
          | ob g' => rfl
      rw [q]; exact h2
  · obtain ⟨h1, _, _⟩ := hN b hb
    exact ⟨if_pos hb, by simp only [h1]⟩
  · intro r st' v H' W' L' l I' p
    have own : ∀ b i u, L b = some (.slot i) → H b = some u → H' b = some u ∧ L' b = none ∧ W'.hs b = none := fun b i u hb hu => by
      have hw : W.hs b = none := by
        cases q : W.hs b with
        | none => rfl
        | some z => have := (I.hs b z q).2; rw [hb] at this; cases this
      have hn := nN b (.inl (by rw [hb]; exact fun z => nomatch z))
      exact I'.fr b u (by simp only [hn, hb, hw]; exact hu)
    refine ⟨fun b => match L b, H b with | some (.slot i), some _ => some (.slot i) | _, _ => L' b, ?_, ?_⟩
    · have lab : ∀ b, (∀ i u, ¬ (L b = some (.slot i) ∧ H b = some u)) → (match L b, H b with | some (.slot i), some _ => some (Lab.slot i) | _, _ => L' b) = L' b := fun b z => by
        split
        · rename_i i u h1 h2
          exact absurd ⟨h1, h2⟩ (z i u)
        · rfl
      refine ⟨fun b u e => ?_, fun b u e => ?_, I'.tp, fun g κ d e => ?_, I'.rh, I.len, fun i s e => ?_⟩
      · obtain ⟨h1, h2, h3⟩ := I.fr b u e
        have hn := nN b (.inr (.inr (by rw [e]; exact fun z => nomatch z)))
        obtain ⟨g1, g2, g3⟩ := I'.fr b u (by simp only [hn, h2, h3]; exact h1)
        exact ⟨g1, by simp only [h2]; exact g2, g3⟩
      · obtain ⟨g1, g2⟩ := I'.hs b u e
        refine ⟨g1, ?_⟩
        have z : ∀ i w, ¬ (L b = some (.slot i) ∧ H b = some w) := fun i w ⟨z1, z2⟩ => by
          rw [(own b i w z1 z2).2.2] at e; cases e
        rw [lab b z]; exact g2
      · obtain ⟨w, g1, g2⟩ := I'.ob g κ d e
        refine ⟨w, g1, ?_⟩
        have q : (fun b => if (match L b, H b with | some (.slot i), some _ => some (Lab.slot i) | _, _ => L' b) = some (Lab.ob g) then H' b else none) = fun b => if L' b = some (.ob g) then H' b else none := by
          funext b
          by_cases z : ∃ i u, L b = some (.slot i) ∧ H b = some u
          · obtain ⟨i, u, z1, z2⟩ := z
            simp only [z1, z2, (own b i u z1 z2).2.1]
            simp
          · rw [lab b fun i u q => z ⟨i, u, q⟩]
        rw [q]; exact g2
      · refine (I.sl i s e).mono l fun b u hb hu => ?_
        exact ⟨(own b i u hb hu).1, by simp only [hb, hu]⟩
    · cases r with
      | sh d => exact p
      | ow d =>
        obtain ⟨b, h1, h2, h3, h4, h5⟩ := p
        have hb : ∀ i u, ¬ (L b = some (.slot i) ∧ H b = some u) := fun i u ⟨z1, z2⟩ => by
          have hw : W.hs b = none := by
            cases q : W.hs b with
            | none => rfl
            | some z => have := (I.hs b z q).2; rw [z1] at this; cases this
          have hn := nN b (.inl (by rw [z1]; exact fun z => nomatch z))
          simp only [hn, z1, hw, z2] at h4
          cases h4
        refine ⟨b, h1, ?_, h3, ?_, h5⟩
        · dsimp only
          split
          · rename_i i u z1 z2; exact absurd ⟨z1, z2⟩ (hb i u)
          · exact h2
        · cases q : F b with
          | none => rfl
          | some u =>
            obtain ⟨g1, g2, g3⟩ := I.fr b u q
            have hn := nN b (.inr (.inr (by rw [q]; exact fun z => nomatch z)))
            simp only [hn, g2, g3] at h4
            have h4 : H b = none := h4
            rw [h4] at g1; cases g1
      | bw i d => exact absurd p.1 (by simp)
def spI (K : PySem.W.Frag) (ct : CT) (c : Str) (n : Nat) (m : Fn) : Sp := fun vs H Q _ => ∃ F W L st x args ds r st' C dx ns, vs = V.ref x :: args ∧ Rel K ct F W L [] st [] H ∧ L x = none ∧ W.hs x = none ∧ F x = none ∧ H x = some (.ins C dx []) ∧ ct c = some (C, ns) ∧
  RepL K ct W args ds ∧ ds.length + 1 = n ∧ m ds st = some (r, st') ∧ ∀ H' W' L', W.le W' → Rel K ct F W' L' [] st' [] H' → RepR K ct F W' L' H' [] [] (.ref x) r → Q .non H'
def startI (k : Nat) (c : Str) (ad : Addr) (ds : List D) : List Kn.Slot := (.me ad (.obj c []) :: ds.map .sh) ++ List.replicate (k - (ds.length + 1)) .no
def meOf (env : List Kn.Slot) : Option D := match (env[0]? : Option Kn.Slot) with
  | some (Kn.Slot.me _ d) => some d
  | _ => none
open Classical in
noncomputable def runI (k : Nat) (c : Str) (f : SemS) : Fn := fun ds st => (f (startI k c 0 ds) st).bind fun p => match p.1 with
  | .nx => (meOf p.2.1).bind fun d => if ∀ ad, ∃ env2, f (startI k c ad ds) st = some (.nx, env2, p.2.2) ∧ env2[0]? = some (.me ad d) then some (.ow d, p.2.2) else none
  | _ => none
theorem runI_of {k : Nat} {c : Str} {f : SemS} {ds : List D} {st st' : Sto} {d : D} (h : ∀ ad, ∃ env2, f (startI k c ad ds) st = some (.nx, env2, st') ∧ env2[0]? = some (.me ad d)) : runI k c f ds st = some (.ow d, st') := by
  obtain ⟨env2, h1, h2⟩ := h 0
  have h3 : meOf env2 = some d := by unfold meOf; rw [h2]
  unfold runI
  simp only [h1, Option.bind_some, h3]
  exact if_pos h
theorem runI_inv {k : Nat} {c : Str} {f : SemS} {ds : List D} {st st' : Sto} {r : R} (h : runI k c f ds st = some (r, st')) : ∃ d, r = .ow d ∧ ∀ ad, ∃ env2, f (startI k c ad ds) st = some (.nx, env2, st') ∧ env2[0]? = some (.me ad d) := by
  unfold runI at h
  obtain ⟨⟨o, env', st1⟩, h1, h⟩ := bind2 h
  cases o with
  | nx =>
    obtain ⟨d, h2, h⟩ := bind2 h
    split at h
    · rename_i hh
      cases h
      exact ⟨d, rfl, hh⟩
    · cases h
  | rt r => cases h
  | bk => cases h
  | ct => cases h
theorem fnI_ok {P : Program} {w : World} {mg : Str → Option Value} {base : Heap} {name qual c : Str} {st : Stmt} {f : Addr} {fd : FuncData} {N ps : List Str} {k : Nat} {b : SemS} (F : Fun K name qual st f fd) (S : FnScope N ps (defScope st))
    (hb : ∀ (cdv : Value) (A : Around) (outer : List Env) (s : Shared) (H : Hp) (E : XK), Room k (A.deeper (PyProof.Rows.envOfC qual (defScope st) s.heap.objs.size f cdv)) → SB (cxOf CX0 P w K mg base N qual (defScope st) f cdv A outer s H E).nox ct (defBody st) b) :
    FnOk P w K mg base CX0 (k + 1) f fd ps (spI K ct c ps.length (runI N.length c b)) := by
  refine F.ok S (fun vs H Q E h => ?_) (fun cdv A outer s H vs Q E hr h => ?_)
  · obtain ⟨F, W, L, st, x, args, ds, r, st', C, dx, ns, rfl, I, _, _, _, _, _, q, hl, e, k⟩ := h
    rw [List.length_cons, q.length]; exact hl
  · obtain ⟨F, W, L, st, x, args, ds, r, st', C, dx, ns, rfl, I, xL, xW, xF, xH, xc, q, hl, e, kk⟩ := h
    obtain ⟨d, rfl, hrun⟩ := runI_inv e
    obtain ⟨env2, h1, h2⟩ := hrun x
    refine ⟨_, (hb cdv A outer s H E hr).pss, ?_⟩
    have hpl : ps.length ≤ N.length := by have := congrArg List.length S.pre; rw [List.length_take] at this; omega
    have hq := q.length
    have lab : ∀ b, b ≠ x → (if b = x then some (Lab.slot 0) else L b) = L b := fun b h => if_neg h
    have I0 : Rel K ct F W (fun b => if b = x then some (Lab.slot 0) else L b) (startI N.length c x ds) st (L2.start N (.ref x :: args)) H := by
      refine ⟨fun b u e => ?_, fun b u e => ?_, I.tp, fun g κ z e => ?_, I.rh, ?_, fun i s e => ?_⟩
      · obtain ⟨g1, g2, g3⟩ := I.fr b u e
        exact ⟨g1, (lab b (by rintro rfl; rw [xF] at e; cases e)).trans g2, g3⟩
      · obtain ⟨g1, g2⟩ := I.hs b u e
        exact ⟨g1, (lab b (by rintro rfl; rw [xW] at e; cases e)).trans g2⟩
      · obtain ⟨v, g1, g2⟩ := I.ob g κ z e
        refine ⟨v, g1, ?_⟩
        have q : (fun b => if (if b = x then some (Lab.slot 0) else L b) = some (.ob g) then H b else none) = fun b => if L b = some (.ob g) then H b else none := by
          funext b
          by_cases hb : b = x
          · subst hb; simp [xL]
          · rw [lab b hb]
        rw [q]; exact g2
      · unfold L2.start startI
        simp only [List.length_append, List.length_map, List.length_cons, List.length_replicate, hq]
      · unfold startI at e
        by_cases hi : i < ds.length + 1
        · rw [List.getElem?_append_left (by simpa using hi)] at e
          cases i with
          | zero =>
            cases e
            refine ⟨?_, if_pos rfl, .obj xH xc (by simp) .nil⟩
            unfold L2.start
            rfl
          | succ i =>
            rw [List.getElem?_cons_succ, List.getElem?_map] at e
            obtain ⟨z, hd, rfl⟩ := Option.map_eq_some_iff.mp e
            obtain ⟨v, hv, hr⟩ := q.get hd
            refine ⟨v, ?_, hr⟩
            unfold L2.start
            rw [List.getElem?_append_left (by rw [List.length_map, List.length_cons]; omega), List.getElem?_map, List.getElem?_cons_succ, hv]
            rfl
        · rw [List.getElem?_append_right (by simpa using hi), List.getElem?_replicate] at e
          split at e
          · cases e; trivial
          · cases e
    refine ⟨F, W, _, _, st, .nx, env2, st', I0, h1, ?_⟩
    intro σ' H' W' L' l I'
    obtain ⟨s1, s2, s3⟩ := I'.sl 0 _ h2
    refine kk H' W' (fun b => match L' b with | some (.slot _) => none | z => z) l ?_ ⟨x, rfl, by simp only [s2], ?_, ?_, s3⟩
    · refine ⟨fun b u e => ?_, fun b u e => ?_, I'.tp, fun g κ z e => ?_, I'.rh, rfl, fun i s e => by simp at e⟩
      · obtain ⟨g1, g2, g3⟩ := I'.fr b u e
        exact ⟨g1, by simp only [g2], g3⟩
      · obtain ⟨g1, g2⟩ := I'.hs b u e
        exact ⟨g1, by simp only [g2]⟩
      · obtain ⟨v, g1, g2⟩ := I'.ob g κ z e
        refine ⟨v, g1, ?_⟩
        have q : (fun b => if (match L' b with | some (.slot _) => none | z => z) = some (Lab.ob g) then H' b else none) = fun b => if L' b = some (.ob g) then H' b else none := by
          funext b
          cases hb : L' b with
          | none => rfl
          | some l => cases l with
            | slot i => simp
            | ob g' => rfl
        rw [q]; exact g2
    · cases q : W'.hs x with
      | none => rfl
      | some u => have := (I'.hs x u q).2; rw [s2] at this; cases this
    · exact xF
end
section
variable {X : Cx} {ct : CT} {x y : Expr} {a b : Sem} {pos p apos : Pos} {c f m : Str} {C : Addr} {ns : List Str} {es : List Expr} {as : SemA}
/-- a class that may be called -/
structure Mkr (P : Program) (w : World) (K : PySem.W.Frag) (mg : Str → Option Value) (base : Heap) (ct : CT) (c : Str) (C : Addr) (nm : Str) (k : Nat) (ps : List Str) (m : Fn) : Prop where
  ex : ∃ f fd, FnOk P w K mg base CX0 k f fd ps (spI K ct c ps.length m) ∧ Mk K C f ∧ Binds K fd ps [] ∧ mg nm = some (.ref C)
def eMake (n : Nat) (m : Fn) (as : SemA) : Sem := fun env st => (as env st).bind fun p => (valsR p.1).bind fun ds => if ds.length + 1 = n then m ds p.2 else none
theorem tE_make {n : Nat} {mf : Fn} {E : XK} {σ : St} {H : Hp} {Q : VK} {K : PySem.W.Frag} (o : Own K ct c C ns) (h : tE K ct (eMake n mf as) σ H Q) : tMake C (spI K ct c n mf) [] E (tA K ct as) σ H Q := by
  obtain ⟨F, W, L, env, st, r, st', I, e, kk⟩ := h
  obtain ⟨⟨rs, st1⟩, h1, e⟩ := bind2 e
  obtain ⟨ds, h2, e⟩ := bind2 e
  have hl : ds.length + 1 = n ∧ mf ds st1 = some (r, st') := by
    dsimp only at e
    split at e
    · exact ⟨by assumption, e⟩
    · cases e
  refine ⟨F, W, L, env, st, rs, st1, I, h1, fun vs H1 W1 L1 l1 I1 qs x dx nx ndx nex => ?_⟩
  obtain ⟨J1, _, _, _⟩ := I1.laid (o := .own x) ndx
  have nx2 : (upd H1 dx (.own x)) x = none := by rw [upd_ne (Ne.symm nex)]; exact nx
  obtain ⟨J2, x1, x2, x3⟩ := J1.laid (o := .ins C dx []) nx2
  obtain ⟨F1, L1', R1, fr, back⟩ := call_core (fun b => decide (b = x)) (fun b hb => by
    have : b = x := of_decide_eq_true hb
    subst this; exact ⟨x1, x2, x3⟩) J2
  obtain ⟨y1, y2⟩ := fr x (decide_eq_true rfl)
  refine ⟨F1, W1, L1', st1, x, vs ++ [], ds, r, st', C, dx, ns, rfl, R1, y2, x2, y1, upd_same, o.at_, ?_, hl.1, hl.2, fun H' W' L' l I' p => ⟨rfl, ?_⟩⟩
  · rw [List.append_nil]; exact qs.vals h2
  · obtain ⟨L2, K1, K2⟩ := back r st' (.ref x) H' W' L' l I' p
    exact kk _ _ _ _ (l1.trans l) K1 K2
theorem se_make (n : Nat) {k : Nat} {ps : List Str} {mf : Fn} {nm : Str} (o : Own X.K ct c C ns) (M : Mkr X.prog X.w X.K X.mg X.base ct c C nm k ps mf) (hr : Room (k + 1) X.A) (has : SA X ct (y :: es) as) (hn : ps.length = n := by rfl) (hg : Gl X nm := by rfl)
    (hdb : (nm == ("__debug__" : Str)) = false := by decide) (he : starEach (y :: es) X.env = (false, eval y X.env) :: starEach es X.env := by rfl) (hpl : (backTo pos (starEach es X.env)).any (·.1) = false := by rfl) :
    SE X ct (.Call (.Name nm p) (y :: es) [] pos) (eMake n mf as) := by
  subst hn
  obtain ⟨g, fd, G, hM, hb, hm⟩ := M.ex
  exact ⟨pe_mono (pe_make hM G hr hg hm hb .nil pass0 has.pa hdb he hpl) fun _ _ _ h => tE_make o h⟩
end

/-! ### a field of one's own self -/
section
variable {X : Cx} {ct : CT} {x y : Expr} {a b : Sem} {pos p apos npos : Pos} {c f m n : Str} {C : Addr} {ns : List Str}
theorem Rel.updMe {K : PySem.W.Frag} {F H : Hp} {W : Wd} {L : Addr → Option Lab} {env : List Kn.Slot} {st : Sto} {σ : St} {ad : Addr} {o : HO} (I : Rel K ct F W L env st σ H) {i : Nat} (hs : σ[i]? = some (some (.ref ad))) (hl : L ad = some (.slot i)) (hn : ∀ xs, H ad ≠ some (.tup xs)) {d' : Kn.D} (c' : Cell K ct W (upd H ad o) ad d') :
    Rel K ct F W L (env.set i (.me ad d')) st σ (upd H ad o) := by
  have J := I.updOw' hs hl hn c'
  refine ⟨J.fr, J.hs, J.tp, J.ob, J.rh, by rw [List.length_set]; exact I.len, fun j s e => ?_⟩
  rcases getset e with ⟨rfl, rfl, hi⟩ | ⟨hj, e⟩
  · exact ⟨hs, hl, c'⟩
  · exact J.sl j s (by rw [List.getElem?_set_ne (Ne.symm hj)]; exact e)
def sFldM (i : Nat) (c : Str) (k : Nat) (a : Sem) : SemS := fun env st => (a env st).bind fun p => match p.1.pin, (env[i]? : Option Kn.Slot) with
  | .sh d, some (.me ad (.obj c' ds)) => if c' = c ∧ k = ds.length then some (.nx, env.set i (.me ad (.obj c' (ds ++ [d]))), p.2) else none
  | _, _ => none
theorem putF_new (f : Str) (v : V) : ∀ fs : List (Str × V), f ∉ fs.map (·.1) → putF f v fs = fs ++ [(f, v)]
  | [], _ => rfl
  | (g, u) :: fs, h => by
    rw [putF, if_neg (fun e => h (by rw [← e]; simp)), putF_new f v fs fun z => h (by rw [List.map_cons]; exact List.mem_cons_of_mem _ z)]
    rfl
theorem ss_fldM (i k : Nat) (o : Own X.K ct c C ns) (ha : SE X ct x a) (hk : ns[k]? = some f := by rfl) (hz : ns.length < 1000 := by decide)
    (hN : X.N[i]? = some n := by rfl) (hv : Vis X.env.scope n := by first | exact Or.inl rfl | exact Or.inr (Or.inl rfl) | exact Or.inr (Or.inr rfl)) (hd : (n == ("__debug__" : Str)) = false := by decide) (hcd : (n == ("__classdict__" : Str)) = false := by decide)
    (hs : swapsWith x (some (.Attribute (.Name n npos) f apos)) pos.line X.env = pure false := by rfl) : SS X ct (.Assign [.Attribute (.Name n npos) f apos] x pos) (sFldM i c k a) := by
  have hvr : PE X (.Name n npos) (tVar i) := pe_var hN hv hd hcd
  refine ⟨ps_mono (ps_fld hvr ha.pe hs) fun D σ H ⟨F, W, L, env, st, oo, env', st', I, e, kk⟩ => ?_⟩
  obtain ⟨⟨r1, st1⟩, h1, e⟩ := bind2 e
  obtain ⟨d, ad, ds, hr1, hc, hlen, rfl, rfl, rfl⟩ : ∃ d ad ds, r1.pin = .sh d ∧ env[i]? = some (.me ad (.obj c ds)) ∧ k = ds.length ∧ oo = .nx ∧ env' = env.set i (.me ad (.obj c (ds ++ [d]))) ∧ st' = st1 := by
    clear kk h1
    dsimp only at e
    split at e
    · rename_i d ad c' ds e1 e2
      by_cases hh : c' = c ∧ k = ds.length
      · rw [if_pos hh] at e
        obtain ⟨hc', h2⟩ := hh
        injection e with e
        injection e with z1 e
        injection e with z2 z3
        exact ⟨d, ad, ds, e1, by rw [e2, hc'], h2, z1.symm, by rw [← z2, hc'], z3.symm⟩
      · rw [if_neg hh] at e; cases e
    · cases e
  refine ⟨F, W, L, env, st, r1, _, I, h1, fun v H1 W1 L1 l1 I1 p1 => ?_⟩
  obtain ⟨W1', m1, J1, q1⟩ := I1.pin p1
  rw [hr1] at q1
  have q1 : Rep X.K ct W1' v d := q1
  obtain ⟨s1, s2, cl⟩ := J1.sl i _ hc
  refine ⟨_, s1, ?_⟩
  cases cl with
  | obj g hcc hn q =>
    rename_i C' dx fs ns'
    rw [o.at_] at hcc; cases hcc
    have hfl : fs.length = ds.length := by have := q.length; rw [List.length_map] at this; exact this
    have hkn : k < ns.length := (List.getElem?_eq_some_iff.mp hk).1
    have fresh : f ∉ fs.map (·.1) := fun z => by
      rw [hn] at z
      obtain ⟨j, hj, ej⟩ := List.getElem_of_mem z
      rw [List.length_take] at hj
      rw [List.getElem_take] at ej
      have h3 : ns[j]? = some f := by rw [List.getElem?_eq_getElem (by omega), ej]
      have := (List.getElem?_inj (by omega) o.nd).mp (h3.trans hk.symm)
      omega
    refine ⟨ad, C, dx, fs, rfl, g, o.cl, o.no f (List.mem_of_getElem? hk), by omega, ?_⟩
    rw [putF_new f v fs fresh]
    refine kk _ _ _ _ (l1.trans m1) (J1.updMe s1 s2 (fun xs z => by rw [g] at z; cases z) (.obj upd_same o.at_ ?_ ?_))
    · rw [List.map_append, hn, List.length_append, List.length_singleton, ← hlen, List.take_succ, hk]; rfl
    · rw [List.map_append]
      exact q.append (.cons q1 .nil)
end
end Kn
namespace Kn
open PySem L2

/-! ### lists of lists of one's own -/
section
variable {K : PySem.W.Frag} {ct : CT} {F H H' : Hp} {W W' : Wd} {L L' : Addr → Option Lab} {env : List Kn.Slot} {st : Sto} {σ : St} {l : Lab}
theorem Rows.at : ∀ {ws : List V} {dss : List (List D)} {j : Nat} {ds : List D}, Rows K ct W H L l ws dss → dss[j]? = some ds → ∃ a vs, ws[j]? = some (.ref a) ∧ H a = some (.lst vs) ∧ L a = some l ∧ RepL K ct W vs ds
  | _, _, 0, _, .cons h1 h2 h3 _ _, e => by cases e; exact ⟨_, _, rfl, h1, h2, h3⟩
  | _, _, j + 1, _, .cons _ _ _ _ r, e => by
    obtain ⟨a, vs, g1, g2⟩ := r.at (j := j) e
    exact ⟨a, vs, g1, g2⟩
theorem Rows.length : ∀ {ws : List V} {dss : List (List D)}, Rows K ct W H L l ws dss → ws.length = dss.length
  | _, _, .nil => rfl
  | _, _, .cons _ _ _ _ r => by rw [List.length_cons, List.length_cons, r.length]
theorem Rows.lab : ∀ {ws : List V} {dss : List (List D)}, Rows K ct W H L l ws dss → ∀ a, V.ref a ∈ ws → L a = some l ∧ ∃ vs, H a = some (.lst vs)
  | _, _, .cons h1 h2 _ _ r, a, h => by
    rcases List.mem_cons.mp h with h | h
    · cases h; exact ⟨h2, _, h1⟩
    · exact r.lab a h
theorem Rows.snoc : ∀ {ws : List V} {dss : List (List D)} {a : Addr} {vs : List V} {ds : List D}, Rows K ct W H L l ws dss → H a = some (.lst vs) → L a = some l → RepL K ct W vs ds → V.ref a ∉ ws → Rows K ct W H L l (ws ++ [.ref a]) (dss ++ [ds])
  | _, _, _, _, _, .nil, h1, h2, h3, _ => .cons h1 h2 h3 (by simp) .nil
  | _, _, a, _, _, .cons g1 g2 g3 g4 r, h1, h2, h3, n => by
    refine .cons g1 g2 g3 (fun z => ?_) (r.snoc h1 h2 h3 fun z => n (List.mem_cons_of_mem _ z))
    rcases List.mem_append.mp z with z | z
    · exact g4 z
    · have := List.mem_singleton.mp z
      exact n (by rw [← this]; exact List.mem_cons_self)
theorem Rows.off : ∀ {ws : List V} {dss : List (List D)} {a : Addr} {o : HO}, Rows K ct W H L l ws dss → V.ref a ∉ ws → Rows K ct W (L2.upd H a o) L l ws dss
  | _, _, _, _, .nil, _ => .nil
  | _, _, a, o, .cons (a := a') g1 g2 g3 g4 r, n => by
    have ne : a' ≠ a := fun z => n (by rw [z]; exact List.mem_cons_self)
    exact .cons (by rw [upd_ne ne]; exact g1) g2 g3 g4 (r.off fun z => n (List.mem_cons_of_mem _ z))
/-- one row is another one -/
theorem Rows.upd : ∀ {ws : List V} {dss : List (List D)} {j : Nat} {a : Addr} {vs : List V} {ds : List D}, Rows K ct W H L l ws dss → ws[j]? = some (.ref a) → RepL K ct W vs ds → Rows K ct W (L2.upd H a (.lst vs)) L l ws (dss.set j ds)
  | _, _, 0, a, vs, ds, .cons (a := a') g1 g2 g3 g4 r, e, q => by
    cases e
    exact .cons upd_same g2 q g4 (r.off g4)
  | _, _, j + 1, a, vs, ds, .cons (a := a') (ws := ws) g1 g2 g3 g4 r, e, q => by
    have e : ws[j]? = some (V.ref a) := e
    have hm := List.mem_of_getElem? e
    have ne : a' ≠ a := fun z => g4 (by rw [z]; exact hm)
    exact .cons (by rw [upd_ne ne]; exact g1) g2 g3 g4 (r.upd (j := j) e q)
/-- a new thing is labelled as a slot's -/
theorem Rel.lab {a : Addr} (I : Rel K ct F W L env st σ H) (i : Nat) (hl : L a = none) (hw : W.hs a = none) (hf : F a = none) : Rel K ct F W (fun b => if b = a then some (.slot i) else L b) env st σ H := by
  have lab : ∀ b, b ≠ a → (if b = a then some (Lab.slot i) else L b) = L b := fun b h => if_neg h
  refine ⟨fun b u e => ?_, fun b u e => ?_, I.tp, fun g κ x e => ?_, I.rh, I.len, fun j s e => (I.sl j s e).mono (.refl W) fun b u hb hu => ⟨hu, ?_⟩⟩
  · have nb : b ≠ a := by rintro rfl; rw [hf] at e; cases e
    obtain ⟨h1, h2, h3⟩ := I.fr b u e
    exact ⟨h1, (lab b nb).trans h2, h3⟩
  · have nb : b ≠ a := by rintro rfl; rw [hw] at e; cases e
    obtain ⟨h1, h2⟩ := I.hs b u e
    exact ⟨h1, (lab b nb).trans h2⟩
  · obtain ⟨v, h1, h2⟩ := I.ob g κ x e
    refine ⟨v, h1, ?_⟩
    have q : (fun b => if (if b = a then some (Lab.slot i) else L b) = some (.ob g) then H b else none) = fun b => if L b = some (.ob g) then H b else none := by
      funext b
      by_cases hb : b = a
      · subst hb; simp [hl]
      · rw [lab b hb]
    rw [q]; exact h2
  · exact (lab b (by rintro rfl; rw [hl] at hb; cases hb)).trans hb
/-- a slot is emptied, its labels taken away -/
theorem Rel.clear (I : Rel K ct F W L env st σ H) (i : Nat) : Rel K ct F W (fun b => if L b = some (.slot i) then none else L b) (env.set i .no) st σ H := by
  refine ⟨fun b u e => ?_, fun b u e => ?_, I.tp, fun g κ x e => ?_, I.rh, by rw [List.length_set]; exact I.len, fun j s e => ?_⟩
  · obtain ⟨h1, h2, h3⟩ := I.fr b u e
    exact ⟨h1, by simp [h2], h3⟩
  · obtain ⟨h1, h2⟩ := I.hs b u e
    exact ⟨h1, by simp [h2]⟩
  · obtain ⟨v, h1, h2⟩ := I.ob g κ x e
    refine ⟨v, h1, ?_⟩
    have q : (fun b => if (if L b = some (Lab.slot i) then none else L b) = some (.ob g) then H b else none) = fun b => if L b = some (.ob g) then H b else none := by
      funext b
      by_cases hb : L b = some (.slot i)
      · simp [hb]
      · simp [hb]
    rw [q]; exact h2
  · rcases getset e with ⟨rfl, rfl, hi⟩ | ⟨hj, e⟩
    · trivial
    · refine (I.sl j s e).mono (.refl W) fun b u hb hu => ⟨hu, ?_⟩
      have : ¬ L b = some (.slot i) := fun z => by rw [hb] at z; cases z; exact hj rfl
      rw [if_neg this]; exact hb
theorem Rel.shareRows : ∀ {ws : List V} {dss : List (List D)} {W : Wd}, Rel K ct F W L env st σ H → (∀ (j : Nat) (a : Addr), ws[j]? = some (V.ref a) → L a = none ∧ F a = none) → (∀ (j : Nat) (ds : List D), dss[j]? = some ds → ∃ a vs, ws[j]? = some (.ref a) ∧ H a = some (.lst vs) ∧ RepL K ct W vs ds) → ws.length = dss.length →
    ∃ W', W.le W' ∧ Rel K ct F W' L env st σ H ∧ RepL K ct W' ws (dss.map .lst)
  | [], [], W, I, _, _, _ => ⟨W, .refl W, I, .nil⟩
  | w :: ws, ds :: dss, W, I, h1, h2, hl => by
    obtain ⟨a, vs, e1, e2, e3⟩ := h2 0 ds rfl
    cases e1
    obtain ⟨g1, g2⟩ := h1 0 a rfl
    have le := I.le_add e2
    have J := I.share e2 g1 g2
    obtain ⟨W', l', I', r⟩ := Rel.shareRows (ws := ws) (dss := dss) J (fun j b e => h1 (j + 1) b e) (fun j ds e => by
      obtain ⟨b, vs, z1, z2, z3⟩ := h2 (j + 1) ds e
      exact ⟨b, vs, z1, z2, z3.mono le⟩) (by simpa using hl)
    exact ⟨W', le.trans l', I', .cons (Rep.lst (l'.1 _ _ (show (W.add a _).hs a = some _ from upd_same)) (e3.mono (le.trans l'))) r⟩
theorem Rel.freeze2 (I : Rel K ct F W L env st σ H) {i : Nat} {dss : List (List D)} (he : env[i]? = some (.o2 dss)) : ∃ W' L', W.le W' ∧ Rel K ct F W' L' (env.set i (.sh (.lst (dss.map .lst)))) st σ H := by
  obtain ⟨a, ws, h1, h2, h3, h4, rows⟩ := I.sl i _ he
  have J := I.clear i
  have fre : ∀ b, L b = some (.slot i) → F b = none := fun b hb => by
    cases q : F b with
    | none => rfl
    | some u => have := (I.fr b u q).2.1; rw [hb] at this; cases this
  obtain ⟨W1, l1, J1, r1⟩ := Rel.shareRows (ws := ws) (dss := dss) J (fun j b e => by
    obtain ⟨g1, _⟩ := rows.lab b (List.mem_of_getElem? e)
    exact ⟨if_pos g1, fre b g1⟩) (fun j ds e => by
    obtain ⟨b, vs, g1, g2, _, g4⟩ := rows.at e
    exact ⟨b, vs, g1, g2, g4⟩) rows.length
  have le := J1.le_add h3
  have J2 := J1.share h3 (if_pos h2) (fre a h2)
  have rp : Rep K ct (W1.add a (.lst ws)) (.ref a) (.lst (dss.map .lst)) := .lst upd_same (r1.mono le)
  refine ⟨_, _, l1.trans le, J2.fr, J2.hs, J2.tp, J2.ob, J2.rh, ?_, fun j s e => ?_⟩
  · have := J2.len
    rw [List.length_set] at this ⊢; exact this
  · rcases getset e with ⟨rfl, rfl, hi⟩ | ⟨hj, e⟩
    · exact ⟨.ref a, h1, rp⟩
    · exact J2.sl j s (by rw [List.getElem?_set_ne (Ne.symm hj)]; exact e)
end
section
variable {X : Cx} {ct : CT} {x y ix : Expr} {a b : Sem} {f : SemS} {pos p apos npos tpos : Pos} {n : Str} {sx : Stmt}
def sFrz2 (i : Nat) (f : SemS) : SemS := fun env st => match (env[i]? : Option Kn.Slot) with
  | some (.o2 dss) => f (env.set i (.sh (.lst (dss.map .lst)))) st
  | _ => f env st
theorem ss_frz2 (i : Nat) (h : SS X ct sx f) : SS X ct sx (sFrz2 i f) := by
  refine ⟨ps_mono h.ps fun D σ H ⟨F, W, L, env, st, o, env', st', I, e, k⟩ => ?_⟩
  unfold sFrz2 at e
  split at e
  · rename_i d he
    obtain ⟨W', L', le, J⟩ := I.freeze2 he
    exact ⟨F, W', L', _, st, o, env', st', J, e, k.mono le⟩
  · exact ⟨F, W, L, env, st, o, env', st', I, e, k⟩
end

/-! ### rows that stand aside in the frame -/
section
variable {K : PySem.W.Frag} {ct : CT} {F F' H H' : Hp} {W W' : Wd} {L L' : Addr → Option Lab} {env : List Kn.Slot} {st : Sto} {σ σ' : St} {l : Lab}
theorem Rows.move : ∀ {ws : List V} {dss : List (List D)} {l' : Lab}, Rows K ct W H L l ws dss → W.le W' → (∀ a o, V.ref a ∈ ws → H a = some o → H' a = some o ∧ L' a = some l') → Rows K ct W' H' L' l' ws dss
  | _, _, _, .nil, _, _ => .nil
  | _, _, _, .cons g1 g2 g3 g4 r, le, h => .cons (h _ _ List.mem_cons_self g1).1 (h _ _ List.mem_cons_self g1).2 (g3.mono le) g4 (r.move le fun a o ha => h a o (List.mem_cons_of_mem _ ha))
theorem upd_eta {F : Hp} {p : Addr} {o : HO} (h : F p = some o) : F = upd F p o := by
  funext b
  by_cases hb : b = p
  · subst hb; rw [upd_same]; exact h
  · rw [upd_ne hb]
theorem Rel.upd_frame {p : Addr} {o o' : HO} (I : Rel K ct F W L env st σ H) (h : F p = some o) (hn : ∀ xs, o ≠ .tup xs) : Rel K ct (upd F p o') W L env st σ (upd H p o') := by
  refine frame_upd (o := o) hn ?_
  rw [← upd_eta h]; exact I
open Classical in
theorem Rel.take2 {ws : List V} {dss : List (List D)} {i : Nat} {m : Addr} (I : Rel K ct F' W L env st σ H) (hF : ∀ b u, F b = some u → F' b = some u ∧ b ≠ m ∧ V.ref b ∉ ws) (hm : (F' m).isSome = true) (hH : H m = some (.lst ws)) (hr : ∀ b, V.ref b ∈ ws → (F' b).isSome = true)
    (hs : σ'[i]? = some (some (.ref m))) (ho : ∀ j : Nat, j ≠ i → σ'[j]? = σ[j]?) (hl : σ'.length = σ.length) (hn : V.ref m ∉ ws) (rows : Rows K ct W H (fun b => if b = m ∨ V.ref b ∈ ws then some (.slot i) else L b) (.slot i) ws dss) :
    Rel K ct F W (fun b => if b = m ∨ V.ref b ∈ ws then some (.slot i) else L b) (env.set i (.o2 dss)) st σ' H := by
  have inF : ∀ b, (b = m ∨ V.ref b ∈ ws) → L b = none ∧ W.hs b = none := fun b hb => by
    have : (F' b).isSome = true := by
      rcases hb with rfl | hb
      · exact hm
      · exact hr b hb
    obtain ⟨u, hu⟩ := Option.isSome_iff_exists.mp this
    exact ⟨(I.fr b u hu).2.1, (I.fr b u hu).2.2⟩
  have lab : ∀ b, ¬ (b = m ∨ V.ref b ∈ ws) → (if b = m ∨ V.ref b ∈ ws then some (Lab.slot i) else L b) = L b := fun b h => if_neg h
  refine ⟨fun b u e => ?_, fun b u e => ?_, I.tp, fun g κ x e => ?_, I.rh, by rw [List.length_set, hl]; exact I.len, fun j s e => ?_⟩
  · obtain ⟨e', n1, n2⟩ := hF b u e
    obtain ⟨h1, h2, h3⟩ := I.fr b u e'
    exact ⟨h1, (lab b fun z => z.elim n1 n2).trans h2, h3⟩
  · obtain ⟨h1, h2⟩ := I.hs b u e
    refine ⟨h1, (lab b fun z => ?_).trans h2⟩
    have := (inF b z).2
    rw [this] at e; cases e
  · obtain ⟨v, h1, h2⟩ := I.ob g κ x e
    refine ⟨v, h1, ?_⟩
    have q : (fun b => if (if b = m ∨ V.ref b ∈ ws then some (Lab.slot i) else L b) = some (.ob g) then H b else none) = fun b => if L b = some (.ob g) then H b else none := by
      funext b
      by_cases hb : b = m ∨ V.ref b ∈ ws
      · rw [if_pos hb]; simp [(inF b hb).1]
      · rw [lab b hb]
    rw [q]; exact h2
  · rcases getset e with ⟨rfl, rfl, hi⟩ | ⟨hj, e⟩
    · exact ⟨m, ws, hs, if_pos (.inl rfl), hH, hn, rows⟩
    · refine ((I.sl j s e).at' (ho j hj)).mono (.refl W) fun b u hb hu => ⟨hu, ?_⟩
      rw [lab b fun z => by rw [(inF b z).1] at hb; cases hb]; exact hb
open Classical in
/-- the rows stand aside -/
theorem Rel.give2 {ws : List V} {i : Nat} {m : Addr} {dss : List (List D)} (I : Rel K ct F W L env st σ H) (hL : L m = some (.slot i)) (hH : H m = some (.lst ws)) (rows : Rows K ct W H L (.slot i) ws dss) :
    Rel K ct (fun b => if b = m ∨ V.ref b ∈ ws then H b else F b) W (fun b => if L b = some (.slot i) then none else L b) (env.set i .no) st σ H ∧ ∀ b u, F b = some u → b ≠ m ∧ V.ref b ∉ ws := by
  have J := I.clear i
  have inL : ∀ b, (b = m ∨ V.ref b ∈ ws) → L b = some (.slot i) := fun b hb => hb.elim (fun z => by rw [z]; exact hL) fun z => (rows.lab b z).1
  have nF : ∀ b u, F b = some u → ¬ (b = m ∨ V.ref b ∈ ws) := fun b u e z => by
    have := (I.fr b u e).2.1
    rw [inL b z] at this; cases this
  refine ⟨⟨fun b u e => ?_, J.hs, J.tp, J.ob, J.rh, J.len, J.sl⟩, fun b u e => ⟨fun z => nF b u e (.inl z), fun z => nF b u e (.inr z)⟩⟩
  by_cases hb : b = m ∨ V.ref b ∈ ws
  · rw [if_pos hb] at e
    refine ⟨e, if_pos (inL b hb), ?_⟩
    cases q : W.hs b with
    | none => rfl
    | some z => have := (I.hs b z q).2; rw [inL b hb] at this; cases this
  · rw [if_neg hb] at e
    exact J.fr b u e
end

/-! ### x[i].append(v) -/
section
variable {X : Cx} {ct : CT} {x y : Expr} {a b : Sem} {as : SemA} {pos cpos apos npos tpos : Pos} {n : Str}
def app2 (dss : List (List D)) (j : Int) (xs : List D) : Option (List (List D)) := match xs with
  | [d] => (ixN dss.length j).bind fun k => (dss[k]?).bind fun ds => if ds.length < sizeLine then some (dss.set k (ds ++ [d])) else none
  | _ => none
def sApp2 (i : Nat) (b : Sem) (as : SemA) : SemS := fun env st => (b env st).bind fun p => (as (env.set i .no) p.2).bind fun q => (valsR q.1).bind fun xs => match p.1.d, (env[i]? : Option Kn.Slot) with
  | .int j, some (.o2 dss) => (app2 dss j xs).map fun dss' => (.nx, env.set i (.o2 dss'), q.2)
  | _, _ => none
theorem app2_inv {dss dss' : List (List D)} {j : Int} {xs : List D} (h : app2 dss j xs = some dss') : ∃ d k ds, xs = [d] ∧ ixN dss.length j = some k ∧ dss[k]? = some ds ∧ ds.length < sizeLine ∧ dss' = dss.set k (ds ++ [d]) := by
  unfold app2 at h
  split at h
  · rename_i d
    obtain ⟨k, h1, h⟩ := bind2 h
    obtain ⟨ds, h2, h⟩ := bind2 h
    obtain ⟨h3, h4⟩ := ifs h
    exact ⟨d, k, ds, rfl, h1, h2, h3, h4⟩
  · cases h
open Classical in
theorem ss_app2 (i : Nat) (hbx : SE X ct y b) (ha : SA X ct [x] as) (hpx : PlainIx y := by exact fun _ _ => rfl)
    (hN : X.N[i]? = some n := by rfl) (hv : Vis X.env.scope n := by first | exact Or.inl rfl | exact Or.inr (Or.inl rfl) | exact Or.inr (Or.inr rfl)) (hd : (n == ("__debug__" : Str)) = false := by decide) (hcd : (n == ("__classdict__" : Str)) = false := by decide)
    (hbase : attributeBase (.Subscript (.Name n npos) y tpos) "append" X.env (eval (.Subscript (.Name n npos) y tpos) X.env) = eval (.Subscript (.Name n npos) y tpos) X.env := by rfl)
    (hfew : ((backTo cpos (starEach [x] X.env)).all (fun x => !x.1) && (backToKw cpos (keywordEach [] X.env)).all (fun x => x.1.isSome)
      && decide (([x] : List Expr).length + ([] : List Keyword).length + (if ([] : List Keyword).isEmpty then 0 else 1) < 30)) = true := by rfl)
    (hline : (apos.endLine == cpos.line) = true := by rfl) (hs : starEach [x] X.env = (false, eval x X.env) :: starEach [] X.env := by rfl) (hplain : (backTo cpos (starEach [] X.env)).any (·.1) = false := by rfl)
    (hsw : swapsWith (.Call (.Attribute (.Subscript (.Name n npos) y tpos) "append" apos) [x] [] cpos) none pos.line X.env = pure false := by rfl) :
    SS X ct (.Expr (.Call (.Attribute (.Subscript (.Name n npos) y tpos) "append" apos) [x] [] cpos) pos) (sApp2 i b as) := by
  refine ⟨ps_mono (ps_expr (pe_bm PySem.F.plainAttrs_list PySem.F.slot_list_append PySem.F.type_list_append mt_append (pe_ix ix_list (pe_var hN hv hd hcd) hbx.pe hpx) ha.pa hbase hfew hline hs hplain) hsw) fun D σ H ⟨F, W, L, env, st, o, env', st', I, e, kk⟩ => ?_⟩
  obtain ⟨⟨r1, st1⟩, h1, e⟩ := bind2 e
  obtain ⟨⟨rs, st2⟩, h2, e⟩ := bind2 e
  obtain ⟨xs, h3, e⟩ := bind2 e
  obtain ⟨j, dss, dss', hj, hc, hap, rfl, rfl, rfl⟩ : ∃ j dss dss', r1.d = .int j ∧ env[i]? = some (.o2 dss) ∧ app2 dss j xs = some dss' ∧ o = .nx ∧ env' = env.set i (.o2 dss') ∧ st' = st2 := by
    clear kk h1 h2
    dsimp only at e
    split at e
    · rename_i j dss e1 e2
      obtain ⟨dss', h4, e⟩ := map2 e
      injection e with z1 e
      injection e with z2 z3
      exact ⟨j, dss, dss', e1, e2, h4, z1.symm, z2.symm, z3.symm⟩
    · cases e
  obtain ⟨d, k, ds, rfl, hk, hds, hz, rfl⟩ := app2_inv hap
  obtain ⟨l, ws, s1, s2, s3, s4, rows⟩ := I.sl i _ hc
  refine ⟨_, s1, F, W, L, env, st, r1, st1, I, h1, fun v H1 W1 L1 l1 I1 p1 => ?_⟩
  obtain ⟨W1', m1, J1, q1⟩ := I1.pin p1
  have q1' := J1.look q1
  rw [R.pin_d, hj] at q1'
  obtain ⟨l', ws', t1, t2, t3, t4, rows1⟩ := J1.sl i _ hc
  rw [s1] at t1; cases t1
  obtain ⟨ra, vs, g1, g2, g3, g4⟩ := rows1.at hds
  have hat : atI ws' j = some (.ref ra) := by
    unfold atI
    rw [rows1.length, hk]; exact g1
  have ram : V.ref ra ∈ ws' := List.mem_of_getElem? g1
  obtain ⟨G1, G2⟩ := J1.give2 t2 t3 rows1
  refine ⟨l, ws', j, .ref ra, rfl, q1'.int, SqL.of t3, hat, .inl ⟨rfl, _, SqL.of g2⟩, _, W1', _, _, st1, rs, _, G1, h2, fun us H2 W2 L2 l2 I2 qs => ?_⟩
  have inF : ∀ b u, (b = l ∨ V.ref b ∈ ws') → H1 b = some u → H2 b = some u := fun b u hb hu => (I2.fr b u (by rw [if_pos hb]; exact hu)).1
  have hra := inF ra _ (.inr ram) g2
  have qv := qs.vals h3
  cases qv with
  | cons qd qn =>
    cases qn
    rename_i w
    refine ⟨ra, vs, w, rfl, rfl, hra, by rw [g4.length]; exact hz, ?_⟩
    have J3 := I2.upd_frame (p := ra) (o := .lst vs) (o' := .lst (vs ++ [w])) (by rw [if_pos (.inr ram)]; exact g2) (fun _ z => nomatch z)
    have nl : l ≠ ra := fun z => t4 (by rw [z]; exact ram)
    have hi : i < env.length := (List.getElem?_eq_some_iff.mp hc).1
    have rows2 : Rows X.K ct W2 (upd H2 ra (.lst (vs ++ [w]))) (fun b => if b = l ∨ V.ref b ∈ ws' then some (.slot i) else L2 b) (.slot i) ws' (dss.set k (ds ++ [d])) := by
      refine Rows.upd (H := H2) (rows1.move l2 fun b u hb hu => ⟨inF b u (.inr hb) hu, if_pos (.inr hb)⟩) g1 ((g4.mono l2).append (.cons qd .nil))
    have J4 := J3.take2 (F := F) (m := l) (ws := ws') (i := i) (σ' := σ) (dss := dss.set k (ds ++ [d])) (fun b u e => by
        obtain ⟨n1, n2⟩ := G2 b u e
        have : b ≠ ra := fun z => n2 (by rw [z]; exact ram)
        exact ⟨by rw [upd_ne this, if_neg (fun z => z.elim n1 n2)]; exact e, n1, n2⟩)
      (by rw [upd_ne nl, if_pos (.inl rfl), t3]; rfl) (by rw [upd_ne nl]; exact inF l _ (.inl rfl) t3)
      (fun b hb => by
        by_cases z : b = ra
        · rw [z, upd_same]; rfl
        · rw [upd_ne z, if_pos (.inr hb)]
          obtain ⟨_, vs', e⟩ := rows1.lab b hb
          rw [e]; rfl)
      s1 (fun _ _ => rfl) rfl t4 rows2
    rw [List.set_set] at J4
    exact kk _ _ _ _ (l1.trans (m1.trans l2)) J4
end

/-! ### x = [[] for .. in ..] -/
section
variable {X : Cx} {ct : CT} {x : Expr} {pos spos py lp : Pos} {n : Str}
def sEmp (i : Nat) (it : SemI) (vs : List Nat) (g : SemG) : SemS := fun env st => (it env st).bind fun p => if vs.all (fun j => (env[j]?.map Slot.okW).getD true) = true ∧ p.1.all (fun d => (g d (wipeE env vs)).isSome) = true ∧ p.1.length ≤ sizeLine ∧ i < env.length then some (.nx, env.set i (.o2 (List.replicate p.1.length [])), p.2) else none
open Classical in
theorem tSm_emp {K : PySem.W.Frag} {i : Nat} {it : SemI} {vs ts : List Nat} {g : SemG} (hts : ∀ j ∈ ts, j ∈ vs) {D : Ends} {σ : St} {H : Hp} (h : tSm K ct (sEmp i it vs g) D σ H) :
    tAsg (tLc (tI K ct it) (tG K ct ts g) (tT K ct eYes) (fun _ H Q => ∀ l, H l = none → Q (.ref l) (upd H l (.lst []))) vs) (gName i) D σ H := by
  obtain ⟨F, W, L, env, st, o, env', st', I, e, k⟩ := h
  obtain ⟨⟨ds, st1⟩, h1, e⟩ := bind2 e
  have okv : (vs.all (fun j => (env[j]?.map Slot.okW).getD true) = true ∧ ds.all (fun d => (g d (wipeE env vs)).isSome) = true ∧ ds.length ≤ sizeLine ∧ i < env.length) ∧ o = .nx ∧ env' = env.set i (.o2 (List.replicate ds.length [])) ∧ st' = st1 := by
    clear k h1
    dsimp only at e
    split at e
    · rename_i hh
      injection e with e
      injection e with z1 e
      injection e with z2 z3
      exact ⟨hh, z1.symm, z2.symm, z3.symm⟩
    · cases e
  obtain ⟨⟨okv, okg, hz, hie⟩, rfl, rfl, rfl⟩ := okv
  have ok : ∀ j : Nat, j ∈ vs → ∀ s, env[j]? = some s → s.okW = true := fun j hj s e => by
    have := List.all_eq_true.mp okv j hj
    rw [e] at this
    exact this
  refine ⟨F, W, L, env, st, ds, _, I, h1, fun J H1 W1 L1 l1 I1 wk p hp => ?_⟩
  obtain ⟨I2, n1, n2, n3⟩ := I1.laid (o := HO.lst []) hp
  have I3 := frame_add I2 (p := p) (o := HO.lst []) upd_same n1 n2
  refine ⟨fun j m H => m = ds.length - j ∧ j ≤ ds.length ∧ ∃ (Fr : Hp) (W2 : Wd) (L2 : Addr → Option Lab) (as : List Addr), W1.le W2 ∧ Rel K ct Fr W2 L2 env st' σ H ∧ Fr p = some (.lst (as.map V.ref)) ∧ as.Nodup ∧ as.length = j ∧ (∀ b ∈ as, Fr b = some (.lst []) ∧ F b = none ∧ b ≠ p) ∧ (∀ b, b ≠ p → b ∉ as → Fr b = F b),
    ⟨_, rfl, Nat.zero_le _, _, W1, _, [], .refl W1, I3, upd_same, by simp, rfl, by simp, fun b hb _ => upd_ne hb⟩, ?_⟩
  rintro j m H ⟨rfl, hj, Fr, W2, L2, as, l2, I4, fp, nd, al, fa, ff⟩
  have wk2 := wk _ W2 L2 env st' σ H j l2 I4
  have wk3 := wk _ W2 L2 (wipeE env vs) st' (wipe σ vs) H j l2 (I4.wiped vs)
  by_cases hlt : j < ds.length
  · obtain ⟨env3, h3⟩ := Option.isSome_iff_exists.mp (List.all_eq_true.mp okg ds[j] (List.getElem_mem hlt))
    obtain ⟨go, yl⟩ := wk3.1 ds[j] (List.getElem?_eq_getElem hlt)
    refine .inr ⟨go, fun H' => j + 1 ≤ ds.length ∧ ∃ (Fr : Hp) (W2 : Wd) (L2 : Addr → Option Lab) (as : List Addr), W1.le W2 ∧ Rel K ct Fr W2 L2 env st' σ H' ∧ Fr p = some (.lst (as.map V.ref)) ∧ as.Nodup ∧ as.length = j + 1 ∧ (∀ b ∈ as, Fr b = some (.lst []) ∧ F b = none ∧ b ≠ p) ∧ (∀ b, b ≠ p → b ∉ as → Fr b = F b), fun H' q => ⟨_, by omega, rfl, q⟩, fun v H' y => ?_⟩
    obtain ⟨W3, L3, l3, I5, r5⟩ := yl v H' y
    refine ⟨_, W3, L3, wipeE env vs, st', _, env3, I5, r5, h3, fun σ3 o1 o2 I6 => ?_⟩
    have hs : ∀ j : Nat, j ∉ vs → σ3[j]? = (wipe σ vs)[j]? := fun j hj => o1.2 j fun z => hj (hts j z)
    have hs' : ∀ j : Nat, j ∉ vs → σ3[j]? = σ[j]? := fun j hj => (hs j hj).trans (wipe_out hj)
    have he : ∀ j : Nat, j ∉ vs → env3[j]? = env[j]? := fun j hj => (o2.2 j fun z => hj (hts j z)).trans (wipeE_out hj)
    refine ⟨wipe_again (by rw [o1.1, wipe_length]) hs, ?_⟩
    refine ⟨_, W3, L3, env3, st', true, st', I6, rfl, fun H6 W6 L6 l6 I7 => ?_⟩
    refine iteT fun q hq => ?_
    have I9 := Rel.back (vs := vs) I4 (l3.trans l6) I7 hs' he ok
    obtain ⟨J1, z1, z2, z3⟩ := I9.laid (o := HO.lst []) hq
    have J2 := frame_add J1 (p := q) (o := HO.lst []) upd_same z1 z2
    have hHp : H6 p = some (.lst (as.map V.ref)) := (I9.fr p _ fp).1
    have qp : q ≠ p := by rintro rfl; rw [hHp] at hq; cases hq
    have qas : q ∉ as := fun hm => by
      have := (I9.fr q _ (fa q hm).1).1
      rw [hq] at this; cases this
    have Fq : F q = none := by rw [← ff q qp qas]; exact z3
    have J3 := J2.upd_frame (p := p) (o := .lst (as.map V.ref)) (o' := .lst (as.map V.ref ++ [.ref q])) (by rw [upd_ne qp.symm]; exact fp) (fun _ z => nomatch z)
    refine ⟨as.map V.ref, by rw [upd_ne qp.symm]; exact hHp, by rw [List.length_map, al]; omega, hlt, _, W6, _, as ++ [q], l2.trans (l3.trans l6), J3, ?_, ?_, by rw [List.length_append, al]; rfl, ?_, ?_⟩
    · rw [upd_same, List.map_append]; rfl
    · exact List.nodup_append.mpr ⟨nd, by simp, fun a ha b hb z => qas (by rw [List.mem_singleton.mp hb] at z; rw [← z]; exact ha)⟩
    · intro b hb
      rcases List.mem_append.mp hb with hb | hb
      · obtain ⟨g1, g2, g3⟩ := fa b hb
        have : b ≠ q := fun z => qas (by rw [← z]; exact hb)
        exact ⟨by rw [upd_ne g3, upd_ne this]; exact g1, g2, g3⟩
      · rw [List.mem_singleton.mp hb]
        exact ⟨by rw [upd_ne qp, upd_same], Fq, qp⟩
    · intro b hb hn
      have : b ≠ q := fun z => hn (by rw [z]; simp)
      rw [upd_ne hb, upd_ne this]
      exact ff b hb fun z => hn (List.mem_append_left _ z)
  · have ej : j = ds.length := by omega
    subst ej
    refine .inl ⟨wk2.2 (by omega), ?_⟩
    have hHp : H p = some (.lst (as.map V.ref)) := (I4.fr p _ fp).1
    have mem : ∀ b, V.ref b ∈ as.map V.ref ↔ b ∈ as := fun b => ⟨fun h => by
      obtain ⟨c, hc, e⟩ := List.mem_map.mp h
      cases e; exact hc, fun h => List.mem_map.mpr ⟨b, h, rfl⟩⟩
    have rows : ∀ (as' : List Addr), as'.Nodup → (∀ b ∈ as', b ∈ as) → Rows K ct W2 H (fun b => if b = p ∨ V.ref b ∈ as.map V.ref then some (.slot i) else L2 b) (.slot i) (as'.map V.ref) (List.replicate as'.length []) := by
      intro as'
      induction as' with
      | nil => intro _ _; exact .nil
      | cons a as' ih =>
        intro nd' hm
        rw [List.nodup_cons] at nd'
        have ha := hm a List.mem_cons_self
        refine .cons (vs := []) (I4.fr a _ (fa a ha).1).1 (if_pos (.inr ((mem a).mpr ha))) .nil (fun z => ?_) (ih nd'.2 fun b hb => hm b (List.mem_cons_of_mem _ hb))
        obtain ⟨c, hc, e⟩ := List.mem_map.mp z
        cases e; exact nd'.1 hc
    have R := rows as nd fun _ h => h
    rw [al] at R
    have hFp : F p = none := n3
    refine k _ _ _ _ (l1.trans l2) (I4.take2 (F := F) (m := p) (i := i) (σ' := σ.set i (some (.ref p))) (fun b u e => ?_) (by rw [fp]; rfl) hHp (fun b hb => by rw [(fa b ((mem b).mp hb)).1]; rfl) ?_ (fun j hj => List.getElem?_set_ne (Ne.symm hj)) List.length_set (fun z => (fa p ((mem p).mp z)).2.2 rfl) R)
    · have b1 : b ≠ p := by rintro rfl; rw [hFp] at e; cases e
      have b2 : b ∉ as := fun z => by rw [(fa b z).2.1] at e; cases e
      exact ⟨by rw [ff b b1 b2]; exact e, b1, fun z => b2 ((mem b).mp z)⟩
    · rw [List.getElem?_set_self (by rw [I4.len]; exact hie)]
theorem ss_emp (i : Nat) {tg : Expr} {scope : Scope} {own : List (Str × Nat)} {it : SemI} {ts : List Nat} {g : SemG} (hc : X.calm = true) (hN : X.N.Nodup) (hi : SI X ct tg x it) (ok : BlkOk X.N X.env.scope scope own)
    (hg : ∀ (s : Shared) (H : Hp) (C : Addr) (cl : List (Str × Addr)) (fp : List Addr), SG (X.blk s H scope (compEnvC scope cl C X.env) fp) ct tg ts g) (hy : X.N[i]? = some n := by rfl) (hyl : X.env.scope.names.lookup n = some .local := by rfl)
    (hsw : swapsWith (.ListComp (.List [] lp) [⟨tg, x, [], 0⟩] scope pos) (some (.Name n py)) spos.line X.env = pure true := by exact sw_true rfl rfl rfl (by decide +kernel)) (hts : ∀ j ∈ ts, j ∈ own.map (·.2) := by decide) (hs : ∀ z, foldedSetIterable x X.env z = pure z := by intro _; rfl) :
    SS X ct (.Assign [.Name n py] (.ListComp (.List [] lp) [⟨tg, x, [], 0⟩] scope pos) spos) (sEmp i it (own.map (·.2)) g) :=
  ⟨ps_mono (ps_setLc (tt := tT X.K ct eYes) (g := tG X.K ct ts g) hc hN hy hyl hsw hi.pi ok (fun s H C cl fp => (hg s H C cl fp).pg) (fun s H C cl fp => sts_nil.pts) (fun s H C cl fp => pe_mono (pe_lst pa_nil) fun _ _ _ h => ⟨Nat.zero_le _, h⟩) hs) fun D σ H h => tSm_emp hts h⟩
end

/-! ### evaluating -/
section
variable {env : List Kn.Slot} {st : Sto} {a b : Sem} {as : SemA} {f : SemS} {c : Str} {ds : List D} {n k i : Nat} {m : Fn} {it : SemI} {vs : List Nat} {g : SemG} {d : D}
@[simp] theorem x_fld : fFld c k (.obj c ds) = ds[k]?.map .sh := if_pos rfl
@[simp] theorem x_meth : eMeth n c m a as env st = (a env st).bind fun p => match p.1.pin with
  | .sh (.obj c' ds) => if c' = c then (as env p.2).bind fun q => (valsR q.1).bind fun es => if es.length + 1 = n then m (.obj c' ds :: es) q.2 else none else none
  | _ => none := rfl
@[simp] theorem x_make : eMake n m as env st = (as env st).bind fun p => (valsR p.1).bind fun ds => if ds.length + 1 = n then m ds p.2 else none := rfl
@[simp] theorem x_fldM : sFldM i c k a env st = (a env st).bind fun p => match p.1.pin, (env[i]? : Option Kn.Slot) with
  | .sh d, some (.me ad (.obj c' ds)) => if c' = c ∧ k = ds.length then some (.nx, env.set i (.me ad (.obj c' (ds ++ [d]))), p.2) else none
  | _, _ => none := rfl
@[simp] theorem x_frz2 : sFrz2 i f env st = match (env[i]? : Option Kn.Slot) with
  | some (.o2 dss) => f (env.set i (.sh (.lst (dss.map .lst)))) st
  | _ => f env st := rfl
@[simp] theorem x_app2 : sApp2 i b as env st = (b env st).bind fun p => (as (env.set i .no) p.2).bind fun q => (valsR q.1).bind fun xs => match p.1.d, (env[i]? : Option Kn.Slot) with
  | .int j, some (.o2 dss) => (app2 dss j xs).map fun dss' => (.nx, env.set i (.o2 dss'), q.2)
  | _, _ => none := rfl
@[simp] theorem x_emp : sEmp i it vs g env st = (it env st).bind fun p => if vs.all (fun j => (env[j]?.map Slot.okW).getD true) = true ∧ p.1.all (fun d => (g d (wipeE env vs)).isSome) = true ∧ p.1.length ≤ sizeLine ∧ i < env.length then some (.nx, env.set i (.o2 (List.replicate p.1.length [])), p.2) else none := rfl
theorem fIn_ints (S : List Int) (x : Int) : fIn (.int x) (.lst (S.map .int)) = some (.sh (.bl (decide (x ∈ S)))) := by
  unfold fIn fInB
  simp only [ok_ints, ok_int, and_self, if_true, any_ints]; rfl
theorem app2_nat {nr : List (List Nat)} {j k : Nat} (h : j < nr.length) (hz : (nr.getD j []).length < 1000) : app2 (nr.map fun l => l.map nI) (j : Int) [.int (k : Nat)] = some ((nr.set j (nr.getD j [] ++ [k])).map fun l => l.map nI) := by
  show ((ixN (nr.map fun l => l.map nI).length (j : Int)).bind _) = _
  rw [List.length_map, ixN_nat h]
  show (((nr.map fun l => l.map nI)[j]?).bind _) = _
  have e : nr[j]? = some (nr.getD j []) := by rw [List.getD_eq_getElem?_getD, List.getElem?_eq_getElem h]; rfl
  rw [List.getElem?_map, e]
  show (if ((nr.getD j []).map nI).length < sizeLine then _ else _) = _
  rw [if_pos (by rw [List.length_map]; exact x_sz2 (by omega)), List.map_set, List.map_append]; rfl
end

theorem gMul_b {i j : Int} (h1 : i.natAbs < 2 ^ 300) (h2 : j.natAbs < 2 ^ 300) : gMul i j = some (i * j) := by
  have : 2 ^ 300 ≤ 2 ^ 400000 := Nat.pow_le_pow_right (by decide) (by decide)
  refine gMul_of ?_ ?_
  · exact Nat.lt_of_lt_of_le h1 this
  · exact Nat.lt_of_lt_of_le h2 this
theorem gPow_s {i j : Int} (h1 : 0 ≤ j ∧ j ≤ 1000) (h2 : i.natAbs ≤ 1000) : gPow i j = some (i ^ j.toNat) := by
  unfold gPow
  exact if_pos ⟨h1.1, by omega, by omega⟩
theorem gDiv_b {i j : Int} (h : 0 < j) (h2 : j < 2 ^ 60) : gDiv i j = some (i / j) := by
  refine gDiv_of h ?_
  have e : (2 : Int) ^ 8000 = ((2 ^ 8000 : Nat) : Int) := (Int.natCast_pow 2 8000).symm
  have : 2 ^ 60 ≤ 2 ^ 8000 := Nat.pow_le_pow_right (by decide) (by decide)
  rw [e]
  generalize 2 ^ 8000 = z at this
  omega
theorem slc4_3 (a b c d : D) : fSlc (.tup [a, b, c, d]) none (some 3) = some (.sh (.tup [a, b, c])) := by
  have e1 : HT.sIx 4 4 (some 3) = 3 := HT.sIx_nat 4 4 3
  have e2 : HT.sIx 4 0 none = 0 := HT.sIx_none ..
  show (if ¬ (HT.sIx 4 0 none = 0 ∧ HT.sIx 4 4 (some 3) = 4) then some (R.sh (.tup (cutG [a, b, c, d] none (some 3)))) else none) = _
  rw [e1, if_pos (by omega)]
  have := cutG_to [a, b, c, d] 3
  rw [show ((3 : Nat) : Int) = 3 from rfl] at this
  rw [this]; rfl
theorem fMinL_some {ns : List Int} (h : ns ≠ []) : ∃ m, fMinL (.lst (ns.map .int)) = some (.sh (.int m)) := by
  cases ns with
  | nil => exact absurd rfl h
  | cons n ns =>
    refine ⟨minI n ns, ?_⟩
    show ((intsL ((n :: ns).map D.int)).bind _) = _
    rw [intsL_map]; rfl
end Kn
namespace Kn
open PySem L2

/-! ### t < u for tuples: the first place that differs decides, what stands behind it may be anything -/
section
open PySem.SeqAt PySem.Spec PyProof.Rows
open MeetsSeq MeetsSeq2 MeetsSeq3 SeqRoads2
inductive Lf (A : Around) (s : Shared) (us ws : Array Value) (k : Bool) : Nat → Prop
  | done {i : Nat} : min us.size ws.size ≤ i → k = decide (us.size < ws.size) → Lf A s us ws k i
  | eq {i : Nat} (h1 : i < us.size) (h2 : i < ws.size) : EqAt A s us[i] ws[i] true → Lf A s us ws k (i + 1) → Lf A s us ws k i
  | lt {i : Nat} (h1 : i < us.size) (h2 : i < ws.size) : EqAt A s us[i] ws[i] false → RcLt A s us[i] ws[i] k → Lf A s us ws k i
theorem tup_ltF (l b : Addr) (us ws : Array Value) (n n2 : Nat) (dd dd2 : Option Addr) (sl sl2 : Array (Option Value)) (k : Bool) :
    Meets (Builtin.«tuple.__lt__» ⟨[.ref l, .ref b], []⟩)
      (fun A R s => s.heap.get? l = some { cls := .type "tuple", dict := dd, data := .seq us n, slots := sl } ∧ s.heap.get? b = some { cls := .type "tuple", dict := dd2, data := .seq ws n2, slots := sl2 } ∧
        Lf A.in1 s us ws k 0 ∧ R (.ok (.ret (.bool k))) s) :=
  .of_wp fun P w A R s0 z => by
    obtain ⟨hp, gg, dr, tk, os⟩ := s0; obtain ⟨hl, hb, hf, hR⟩ := z
    have tt := AutoSeq1.sub_tuple_tuple
    have hZ : (us.toList.zip ws.toList).length = min us.size ws.size := by simp
    wp_walk using AutoSeq1.wpAny_loadPart' hl, AutoSeq1.wpAny_loadPart' hb, wpAny_forIn_list _ (fun rest q s1 => q.1 = none ∧ s1 = ⟨hp, gg, dr, tk, os⟩ ∧ ∃ i, rest = (us.toList.zip ws.toList).drop i ∧ Lf A.in1 ⟨hp, gg, dr, tk, os⟩ us ws k i) _
    case turn =>
      rintro ⟨y, x⟩ rest q s1 ⟨hq, rfl, i, hz, hi⟩
      have hlt : i < (us.toList.zip ws.toList).length := by
        refine Nat.lt_of_not_le fun g => ?_
        rw [List.drop_of_length_le g] at hz; cases hz
      rw [List.drop_eq_getElem_cons hlt] at hz
      injection hz with hyx hrest
      have m1 : i < us.size := by omega
      have m2 : i < ws.size := by omega
      obtain rfl : y = us[i] := by have := congrArg Prod.fst hyx; simpa using this
      obtain rfl : x = ws[i] := by have := congrArg Prod.snd hyx; simpa using this
      cases hi with
      | done g _ => omega
      | eq _ _ he hn =>
        refine wpAny_bind (he P w _ _ ?_)
        wp_walk
        exact ⟨rfl, rfl, i + 1, hrest, hn⟩
      | lt _ _ he hr =>
        have key := hr P w
        refine wpAny_bind (he P w _ _ ?_)
        dsimp only
        generalize richCompare .Lt us[i] ws[i] = rc at key ⊢
        wp_walk
        refine key _ _ ?_
        wp_walk
        exact ⟨_, rfl, hR⟩
    case fin =>
      rintro ⟨b1, b2⟩ s1 ⟨hq, rfl, i, hz, hi⟩
      simp only at hq
      subst hq
      have hge : min us.size ws.size ≤ i := by
        refine Nat.le_of_not_lt fun g => ?_
        rw [List.drop_eq_getElem_cons (by rw [hZ]; exact g)] at hz; cases hz
      cases hi with
      | done _ hk =>
        subst hk
        wp_walk
        exact ⟨_, rfl, by simpa [Builtin.Tuple.tupleCompareSizes] using hR⟩
      | eq h1 h2 _ _ => omega
      | lt h1 h2 _ _ => omega
    case h =>
      exact ⟨rfl, rfl, 0, rfl, hf⟩
theorem rc_ltF {A : Around} {s : Shared} {l b : Addr} {us ws : Array Value} {k : Bool} (hl : s.heap.IsTuple l us) (hb : s.heap.IsTuple b ws) (hu : A.units < cLine) (hf : Lf A.in1 s us ws k 0) : RcLt A s (.ref l) (.ref b) k := fun P w E Q h => by
  obtain ⟨⟨c1, dd, data, sl⟩, ho, hc, n, hd⟩ := id hl
  obtain ⟨⟨c2, dd2, data2, sl2⟩, ho2, hc2, n2, hd2⟩ := id hb
  simp only at hc hd hc2 hd2
  subst hc hd hc2 hd2
  exact richCompare_meets_room (op := .Lt) ⟨_, ho, rfl⟩ ⟨_, ho2, rfl⟩ F.slot_tuple_lt F.entry_tuple_lt (F.args_tuple_lt_2 _ _) (tup_ltF l b us ws n n2 dd dd2 sl sl2 k) ⟨ho, ho2, hf, show Value.bool k ≠ Value.notImplemented ∧ Q (.bool k) s from ⟨(fun x => nomatch x), h⟩⟩ hu
end

section
open PySem.Spec PyProof.Rows
def ltV : List V → List V → Option Bool
  | .int i :: xs, .int j :: ys => if i = j then ltV xs ys else some (decide (i < j))
  | [], [] => some false
  | [], _ :: _ => some true
  | _ :: _, [] => some false
  | _, _ => none
theorem lf_of {A : Around} {s : Shared} {us ws : Array Value} {k : Bool} : ∀ {xs ys : List V} {i : Nat}, ltV xs ys = some k → Vals xs (us.toList.drop i) → Vals ys (ws.toList.drop i) → i ≤ us.size → i ≤ ws.size → Lf A s us ws k i := by
  have len : ∀ {xs : List V} {vs : Array Value} {i : Nat}, Vals xs (vs.toList.drop i) → xs.length = vs.size - i := fun r => by
    have := r.length
    rw [List.length_drop, Array.length_toList] at this; exact this
  have hd : ∀ {a : Int} {xs : List V} {vs : Array Value} {i : Nat}, Vals (.int a :: xs) (vs.toList.drop i) → ∃ (h : i < vs.size) (t : Tok), vs[i] = .int a t ∧ Vals xs (vs.toList.drop (i + 1)) := fun {a xs vs i} r => by
    have hl := len r
    have h : i < vs.size := by simp only [List.length_cons] at hl; omega
    rw [List.drop_eq_getElem_cons (by rw [Array.length_toList]; exact h)] at r
    cases r with
    | cons r1 r2 =>
      obtain ⟨t, ht⟩ := r1
      exact ⟨h, t, by rw [← ht]; simp, r2⟩
  intro xs
  induction xs with
  | nil =>
    intro ys i h r1 r2 i1 i2
    have l1 := len r1
    have l2 := len r2
    cases ys with
    | nil =>
      cases h
      simp only [List.length_nil] at l1 l2
      exact .done (by omega) (by rw [decide_eq_false (by omega)])
    | cons y ys =>
      cases h
      simp only [List.length_nil, List.length_cons] at l1 l2
      exact .done (by omega) (by rw [decide_eq_true (by omega)])
  | cons x xs ih =>
    intro ys i h r1 r2 i1 i2
    cases ys with
    | nil =>
      have l1 := len r1
      have l2 := len r2
      have : k = false := by cases x <;> (cases h; rfl)
      subst this
      simp only [List.length_nil, List.length_cons] at l1 l2
      exact .done (by omega) (by rw [decide_eq_false (by omega)])
    | cons y ys =>
      cases x <;> try (cases h; done)
      cases y <;> try (cases h; done)
      rename_i a c
      obtain ⟨h1, t, e1, q1⟩ := hd r1
      obtain ⟨h2, u, e2, q2⟩ := hd r2
      obtain ⟨e, he, hiff⟩ := HT.eqAt_int A s a t c u
      rw [← e1, ← e2] at he
      have h : (if a = c then ltV xs ys else some (decide (a < c))) = some k := h
      by_cases hac : a = c
      · rw [if_pos hac] at h
        have : e = true := hiff.mpr hac
        subst this
        exact .eq h1 h2 he (ih h q1 q2 h1 h2)
      · rw [if_neg hac] at h
        have : e = false := by cases e with | false => rfl | true => exact absurd (hiff.mp rfl) hac
        subst this
        cases h
        refine .lt h1 h2 he fun P w E Q hq => ?_
        rw [e1, e2]
        exact HT.rcLt_int A s a t c u P w E Q hq
def rLtF (K : PySem.W.Frag) : R2 := fun x y H Q => ∃ a b xs ys k, x = .ref a ∧ y = .ref b ∧ SqT K H a xs ∧ SqT K H b ys ∧ ltV xs ys = some k ∧ Q (.bl k) H
theorem op_ltF {X : Cx} (hu : X.A.units < cLine) : OpR X (compareOp .Lt) (rLtF X.K) := by
  intro pins s σ H x y v u Q I rx ry h
  obtain ⟨a, b, xs, ys, k, rfl, rfl, ha, hb, hk, q⟩ := h
  cases rx
  cases ry
  obtain ⟨its, r1, p1, _⟩ := I.tuple ha
  obtain ⟨its2, r2, p2, _⟩ := I.tuple hb
  exact rc_ltF p1 p2 hu (lf_of hk (by simpa using r1) (by simpa using r2) (Nat.zero_le _) (Nat.zero_le _)) X.prog X.w _ _ ⟨.bl k, H, I, rfl, q⟩
end

section
variable {X : Cx} {ct : CT} {x y : Expr} {a b : Sem} {pos : Pos}
def ltD : List D → List D → Option Bool
  | .int i :: xs, .int j :: ys => if i = j then ltD xs ys else some (decide (i < j))
  | [], [] => some false
  | [], _ :: _ => some true
  | _ :: _, [] => some false
  | _, _ => none
def fLtX : D → D → Option R
  | .int i, .int j => some (.sh (.bl (decide (i < j))))
  | .tup ds, .tup es => (ltD ds es).map fun k => .sh (.bl k)
  | _, _ => none
theorem ltD_rep {K : PySem.W.Frag} {W : Wd} {k : Bool} : ∀ {vs ws : List V} {ds es : List D}, RepL K ct W vs ds → RepL K ct W ws es → ltD ds es = some k → ltV vs ws = some k
  | [], [], [], [], _, _, h => h
  | [], _ :: _, [], _ :: _, _, _, h => h
  | v :: vs, [], d :: ds, [], _, _, h => by
    have h : some false = some k := by cases d <;> exact h
    cases v <;> exact h
  | v :: vs, w :: ws, d :: ds, e :: es, .cons h1 r1, .cons h2 r2, h => by
    cases d <;> try (cases h; done)
    cases e <;> try (cases h; done)
    cases h1
    cases h2
    rename_i i j
    have h : (if i = j then ltD ds es else some (decide (i < j))) = some k := h
    show (if i = j then ltV vs ws else some (decide (i < j))) = some k
    split
    · rename_i c
      rw [if_pos c] at h
      exact ltD_rep r1 r2 h
    · rename_i c
      rw [if_neg c] at h; exact h
theorem os_ltX {K : PySem.W.Frag} : OpS K ct (fun x y H Q => (rI0 fun i j => .bl (decide (i < j))) x y H Q ∨ rLtF K x y H Q) fLtX := by
  intro F W L env st σ H x y d1 d2 r Q I h1 h2 e k
  cases d1 <;> try (cases e; done)
  · rename_i i
    cases d2 <;> try (cases e; done)
    rename_i j
    cases e
    exact .inl ⟨i, j, h1.int, h2.int, k _ H W L (.refl W) I (.bl _)⟩
  · rename_i ds
    cases d2 <;> try (cases e; done)
    rename_i es
    obtain ⟨kb, hk, rfl⟩ := map2 e
    obtain ⟨a, vs, rfl, g1, q1⟩ := h1.tup I
    obtain ⟨b, ws, rfl, g2, q2⟩ := h2.tup I
    exact .inr ⟨a, b, vs, ws, kb, rfl, rfl, SqT.of g1, SqT.of g2, ltD_rep q1 q2 hk, k _ H W L (.refl W) I (.bl _)⟩
theorem se_ltX {k : Nat} (hr : Room k X.A) (ha : SE X ct x a) (hb : SE X ct y b) : SE X ct (.Compare x [.Lt] [y] pos) (e2 fLtX a b) := se_cmp (OpR.or op_lt (op_ltF (Nat.lt_of_succ_lt (hu_of hr)))) os_ltX (nomark _) ha hb
theorem st_ltX {k : Nat} (hr : Room k X.A) (ha : SE X ct x a) (hb : SE X ct y b) : ST X ct (.Compare x [.Lt] [y] pos) (e2 fLtX a b) := st_cmp (OpR.or op_lt (op_ltF (Nat.lt_of_succ_lt (hu_of hr)))) os_ltX (nomark _) ha hb
@[simp] theorem x_ltX1 {i j : Int} : fLtX (.int i) (.int j) = some (.sh (.bl (decide (i < j)))) := rfl
@[simp] theorem x_ltX2 {ds es : List D} : fLtX (.tup ds) (.tup es) = (ltD ds es).map fun k => .sh (.bl k) := rfl
end
theorem app2_d {dss : List (List D)} {j : Nat} {d : D} (h : j < dss.length) (hz : (dss.getD j []).length < 1000) : app2 dss (j : Int) [d] = some (dss.set j (dss.getD j [] ++ [d])) := by
  show ((ixN dss.length (j : Int)).bind _) = _
  rw [ixN_nat h]
  show ((dss[j]?).bind _) = _
  have e : dss[j]? = some (dss.getD j []) := by rw [List.getD_eq_getElem?_getD, List.getElem?_eq_getElem h]; rfl
  rw [e]
  show (if (dss.getD j []).length < sizeLine then _ else _) = _
  rw [if_pos (x_sz2 (by omega))]
end Kn
namespace Kn
open PySem L2
/-! ### typed readings of the functions -/
class En (α : Type) where
  en : α → D
open En
structure Scr where
  l : List Int
structure Tp1 (α : Type) where
  x0 : α
  deriving DecidableEq
structure Tp2 (α β : Type) where
  x0 : α
  x1 : β
  deriving DecidableEq
structure Tp3 (α β γ : Type) where
  x0 : α
  x1 : β
  x2 : γ
  deriving DecidableEq
structure Tp4 (α β γ δ : Type) where
  x0 : α
  x1 : β
  x2 : γ
  x3 : δ
  deriving DecidableEq
structure Tp5 (α β γ δ ε : Type) where
  x0 : α
  x1 : β
  x2 : γ
  x3 : δ
  x4 : ε
  deriving DecidableEq
structure Hl2 (α β : Type) where
  x0 : α
  x1 : β
  deriving DecidableEq
structure Hl3 (α β γ : Type) where
  x0 : α
  x1 : β
  x2 : γ
  deriving DecidableEq
section
variable {α β γ δ ε : Type} [En α] [En β] [En γ] [En δ] [En ε]
instance : En Int := ⟨.int⟩
instance : En Bool := ⟨.bl⟩
instance : En Unit := ⟨fun _ => .non⟩
instance : En Str := ⟨.str⟩
instance : En Scr := ⟨fun s => .scr s.l⟩
instance : En (List α) := ⟨fun l => .lst (l.map en)⟩
instance : En (Option α) := ⟨fun o => match o with | none => .non | some a => en a⟩
instance : En (Tp1 α) := ⟨fun p => .tup [en p.x0]⟩
instance : En (Tp2 α β) := ⟨fun p => .tup [en p.x0, en p.x1]⟩
instance : En (Tp3 α β γ) := ⟨fun p => .tup [en p.x0, en p.x1, en p.x2]⟩
instance : En (Tp4 α β γ δ) := ⟨fun p => .tup [en p.x0, en p.x1, en p.x2, en p.x3]⟩
instance : En (Tp5 α β γ δ ε) := ⟨fun p => .tup [en p.x0, en p.x1, en p.x2, en p.x3, en p.x4]⟩
instance : En (Hl2 α β) := ⟨fun p => .lst [en p.x0, en p.x1]⟩
instance : En (Hl3 α β γ) := ⟨fun p => .lst [en p.x0, en p.x1, en p.x2]⟩
/-- shared, one's own, a name's own -/
inductive Kx where
  | sh | ow | bw (i : Nat) | oo
def Kx.r : Kx → D → R
  | .sh, d => .sh d
  | .ow, d => .ow d
  | .bw i, d => .bw i d
  | .oo, .non => .sh .non
  | .oo, d => .ow d
def Kx.ok : Kx → Bool
  | .bw _ => false
  | .oo => false
  | _ => true
def Kx.slot : Kx → D → Kn.Slot
  | .ow, d => .ow d
  | _, d => .sh d
def Kx.out : Kx → Kx
  | .bw _ => .ow
  | k => k
theorem Kx.rd (k : Kx) (d : D) : (k.r d).d = d := by cases k <;> first | rfl | (cases d <;> rfl)
theorem Kx.outR (k : Kx) (d : D) : (k.r d).outR = k.out.r d := by cases k <;> first | rfl | (cases d <;> rfl)
theorem Kx.pin {k : Kx} (h : k.ok = true) (d : D) : (k.r d).pin = .sh d := by cases k <;> first | rfl | cases h
theorem Kx.sh? {k : Kx} (h : k.ok = true) (d : D) : (k.r d).sh? = some d := by cases k <;> first | rfl | cases h
def Ev (k : Kx) (e : Sem) (env : List Kn.Slot) (st : Sto) (t : Option α) : Prop := e env st = t.map fun a => (k.r (en a), st)
variable {k k1 k2 k3 : Kx} {env env' : List Kn.Slot} {st : Sto} {e a b c : Sem} {i j n : Nat} {x x' : α} {y y' : β} {z : γ} {tx : Option α} {ty : Option β} {tz : Option γ} {as : SemA} {ds : List D}
theorem ev_var (h : env[i]? = some (.sh (en x))) : Ev .sh (eVar i) env st (some x) := by
  show (match env[i]? with | some (.sh d) => some (Kn.R.sh d, st) | some (.ow d) => some (.bw i d, st) | _ => none) = _
  rw [h]; rfl
theorem ev_varo (h : env[i]? = some (.ow (en x))) : Ev (.bw i) (eVar i) env st (some x) := by
  show (match env[i]? with | some (.sh d) => some (Kn.R.sh d, st) | some (.ow d) => some (.bw i d, st) | _ => none) = _
  rw [h]; rfl
theorem ev_int (i : Int) : Ev .sh (eC (.int i)) env st (some i) := rfl
theorem ev_bl (i : Bool) : Ev .sh (eC (.bl i)) env st (some i) := rfl
theorem ev_str (i : Str) : Ev .sh (eC (.str i)) env st (some i) := rfl
theorem ev_non : Ev .sh (eC .non) env st (some (none : Option α)) := rfl
theorem ev_unit : Ev .sh (eC .non) env st (some ()) := rfl
theorem ev_somep (h : Ev k e env st (some x)) : Ev k e env st (some (some x)) := h
theorem ev_somex (h : Ev k e env st tx) : Ev k e env st (tx.bind fun x => some (some x)) := by
  unfold Ev at h ⊢
  rw [h]; cases tx <;> rfl
/-- what may be nothing, taken as a thing -/
theorem ev_getx (h : Ev k e env st (some (some x))) : Ev k e env st (some x) := h
def Op1 (k : Kx) (f : D → Option R) (F : α → Option β) : Prop := ∀ x, f (en x) = (F x).map fun c => k.r (en c)
def Op2 (k : Kx) (f : D → D → Option R) (F : α → β → Option γ) : Prop := ∀ x y, f (en x) (en y) = (F x y).map fun c => k.r (en c)
section
variable {f : D → Option R} {F : α → Option β} {g : D → D → Option R} {G : α → β → Option γ}
theorem ev_1p (h : Op1 k f F) (ha : Ev k1 a env st (some x)) : Ev k (e1 f a) env st (F x) := by
  unfold Ev at ha ⊢
  show ((a env st).bind fun p => (f p.1.d).map fun r => (r, p.2)) = _
  rw [ha]
  show ((f (k1.r (en x)).d).map fun r => (r, st)) = _
  rw [Kx.rd, h x, Option.map_map]; rfl
theorem ev_1x (h : Op1 k f F) (ha : Ev k1 a env st tx) : Ev k (e1 f a) env st (tx.bind F) := by
  cases tx with
  | none =>
    unfold Ev at ha ⊢
    show ((a env st).bind fun p => (f p.1.d).map fun r => (r, p.2)) = _
    rw [ha]; rfl
  | some x => exact ev_1p (F := F) h ha
theorem ev_2pp (h : Op2 k g G) (ha : Ev k1 a env st (some x)) (hb : Ev k2 b env st (some y)) : Ev k (e2 g a b) env st (G x y) := by
  unfold Ev at ha hb ⊢
  show ((a env st).bind fun p => (b env p.2).bind fun q => (g p.1.d q.1.d).map fun r => (r, q.2)) = _
  rw [ha]
  show ((b env st).bind fun q => (g (k1.r (en x)).d q.1.d).map fun r => (r, q.2)) = _
  rw [hb]
  show ((g (k1.r (en x)).d (k2.r (en y)).d).map fun r => (r, st)) = _
  rw [Kx.rd, Kx.rd, h x y, Option.map_map]; rfl
theorem ev_2xx (h : Op2 k g G) (ha : Ev k1 a env st tx) (hb : Ev k2 b env st ty) : Ev k (e2 g a b) env st (tx.bind fun x => ty.bind fun y => G x y) := by
  cases tx with
  | none =>
    unfold Ev at ha ⊢
    show ((a env st).bind fun p => (b env p.2).bind fun q => (g p.1.d q.1.d).map fun r => (r, q.2)) = _
    rw [ha]; rfl
  | some x =>
    cases ty with
    | none =>
      unfold Ev at ha hb ⊢
      show ((a env st).bind fun p => (b env p.2).bind fun q => (g p.1.d q.1.d).map fun r => (r, q.2)) = _
      rw [ha]
      show ((b env st).bind fun q => (g (k1.r (en x)).d q.1.d).map fun r => (r, q.2)) = _
      rw [hb]; rfl
    | some y => exact ev_2pp (G := G) h ha hb
theorem ev_2px (h : Op2 k g G) (ha : Ev k1 a env st (some x)) (hb : Ev k2 b env st ty) : Ev k (e2 g a b) env st (ty.bind fun y => G x y) := ev_2xx h ha hb
theorem ev_2xp (h : Op2 k g G) (ha : Ev k1 a env st tx) (hb : Ev k2 b env st (some y)) : Ev k (e2 g a b) env st (tx.bind fun x => G x y) := ev_2xx h ha hb
end
/-! tests -/
variable {p q : Bool} {tp tq : Option Bool}
theorem ev_notp (ha : Ev .sh a env st (some p)) : Ev .sh (eNot a) env st (some (!p)) := by
  unfold Ev at ha ⊢; unfold eNot; rw [ha]; rfl
theorem ev_notx (ha : Ev .sh a env st tp) : Ev .sh (eNot a) env st (tp.bind fun p => some (!p)) := by
  unfold Ev at ha ⊢; unfold eNot; rw [ha]; cases tp <;> rfl
theorem ev_andxx (ha : Ev .sh a env st tp) (hb : Ev .sh b env st tq) : Ev .sh (eAnd a b) env st (tp.bind fun p => if p = true then tq else some false) := by
  unfold Ev at ha hb ⊢; unfold eAnd; rw [ha]
  cases tp with
  | none => rfl
  | some p => cases p with
    | true => exact hb
    | false => rfl
theorem ev_andpp (ha : Ev .sh a env st (some p)) (hb : Ev .sh b env st (some q)) : Ev .sh (eAnd a b) env st (some (p && q)) := by
  have := ev_andxx ha hb
  cases p <;> exact this
theorem ev_andpx (ha : Ev .sh a env st (some p)) (hb : Ev .sh b env st tq) : Ev .sh (eAnd a b) env st (if p = true then tq else some false) := ev_andxx ha hb
theorem ev_andxp (ha : Ev .sh a env st tp) (hb : Ev .sh b env st (some q)) : Ev .sh (eAnd a b) env st (tp.bind fun p => some (p && q)) := by
  cases tp with
  | none => exact ev_andxx ha hb
  | some p => exact ev_andpp ha hb
theorem ev_orxx (ha : Ev .sh a env st tp) (hb : Ev .sh b env st tq) : Ev .sh (eOr a b) env st (tp.bind fun p => if p = true then some true else tq) := by
  unfold Ev at ha hb ⊢; unfold eOr; rw [ha]
  cases tp with
  | none => rfl
  | some p => cases p with
    | false => exact hb
    | true => rfl
theorem ev_orpp (ha : Ev .sh a env st (some p)) (hb : Ev .sh b env st (some q)) : Ev .sh (eOr a b) env st (some (p || q)) := by
  have := ev_orxx ha hb
  cases p <;> exact this
theorem ev_orpx (ha : Ev .sh a env st (some p)) (hb : Ev .sh b env st tq) : Ev .sh (eOr a b) env st (if p = true then some true else tq) := ev_orxx ha hb
theorem ev_orxp (ha : Ev .sh a env st tp) (hb : Ev .sh b env st (some q)) : Ev .sh (eOr a b) env st (tp.bind fun p => some (p || q)) := by
  cases tp with
  | none => exact ev_orxx ha hb
  | some p => exact ev_orpp ha hb
theorem ev_ifx (hc : Ev .sh c env st tp) (ha : Ev k a env st tx) {tx' : Option α} (hb : Ev k b env st tx') : Ev k (eIf c a b) env st (tp.bind fun p => if p = true then tx else tx') := by
  unfold Ev at hc ha hb ⊢; unfold eIf; rw [hc]
  cases tp with
  | none => rfl
  | some p => cases p with
    | true => exact ha
    | false => exact hb
theorem ev_ifp (hc : Ev .sh c env st (some p)) (ha : Ev k a env st tx) {tx' : Option α} (hb : Ev k b env st tx') : Ev k (eIf c a b) env st (if p = true then tx else tx') := ev_ifx hc ha hb
theorem ev_ifpp (hc : Ev .sh c env st (some p)) (ha : Ev k a env st (some x)) (hb : Ev k b env st (some x')) : Ev k (eIf c a b) env st (some (if p = true then x else x')) := by
  have := ev_ifx hc ha hb
  cases p <;> exact this
/-- a chain i <= j <= k of tests -/
theorem ev_chain {f g : D → D → Option R} {F : α → β → Option Bool} {G : β → γ → Option Bool} (hf : Op2 .sh f F) (hg : Op2 .sh g G) (ha : Ev k1 a env st (some x)) (hb : Ev k2 b env st (some y)) (hc : Ev k3 c env st (some z)) : Ev .sh (eChain f g a b c) env st ((F x y).bind fun p => if p = true then G y z else some false) := by
  unfold Ev at ha hb hc ⊢
  rw [x_chain, ha]
  show ((b env st).bind fun q => (f (k1.r (en x)).d q.1.d).bind fun r => match r with
    | .sh (.bl true) => (c env q.2).bind fun u => (g q.1.d u.1.d).map fun r => (r, u.2)
    | .sh (.bl false) => some (.sh (.bl false), q.2)
    | _ => none) = _
  rw [hb]
  show ((f (k1.r (en x)).d (k2.r (en y)).d).bind fun r => match r with
    | .sh (.bl true) => (c env st).bind fun u => (g (k2.r (en y)).d u.1.d).map fun r => (r, u.2)
    | .sh (.bl false) => some (.sh (.bl false), st)
    | _ => none) = _
  rw [Kx.rd, Kx.rd, hf x y]
  cases F x y with
  | none => rfl
  | some p => cases p with
    | false => rfl
    | true =>
      show ((c env st).bind fun u => (g (en y) u.1.d).map fun r => (r, u.2)) = _
      rw [hc]
      show ((g (en y) (k3.r (en z)).d).map fun r => (r, st)) = _
      rw [Kx.rd, hg y z, Option.map_map]; rfl
theorem ev_chainx {f g : D → D → Option R} {F : α → β → Option Bool} {G : β → γ → Option Bool} (hf : Op2 .sh f F) (hg : Op2 .sh g G) (ha : Ev k1 a env st tx) (hb : Ev k2 b env st ty) (hc : Ev k3 c env st (some z)) : Ev .sh (eChain f g a b c) env st (tx.bind fun x => ty.bind fun y => (F x y).bind fun p => if p = true then G y z else some false) := by
  cases tx with
  | none => unfold Ev at ha ⊢; rw [x_chain, ha]; rfl
  | some x => cases ty with
    | none =>
      unfold Ev at ha hb ⊢; rw [x_chain, ha]
      show ((b env st).bind fun q => _) = _
      rw [hb]; rfl
    | some y => exact ev_chain hf hg ha hb hc
theorem ev_chainpp {f g : D → D → Option R} {F : α → β → Bool} {G : β → γ → Bool} (hf : Op2 .sh f fun x y => some (F x y)) (hg : Op2 .sh g fun x y => some (G x y)) (ha : Ev k1 a env st (some x)) (hb : Ev k2 b env st (some y)) (hc : Ev k3 c env st (some z)) : Ev .sh (eChain f g a b c) env st (some (F x y && G y z)) := by
  have := ev_chain hf hg ha hb hc
  cases h : F x y
  · rw [h] at this; exact this
  · rw [h] at this; exact this
/-! arguments -/
def EvAp (as : SemA) (env : List Kn.Slot) (st : Sto) (ds : List D) : Prop := as env st = some (ds.map .sh, st)
def EvA {μ : Type} (as : SemA) (env : List Kn.Slot) (st : Sto) (t : Option μ) (dec : μ → List D) : Prop := as env st = t.map fun b => ((dec b).map .sh, st)
theorem ea_nil : EvAp aNil env st [] := rfl
theorem ea_p (ha : Ev k a env st (some x)) (hk : k.ok = true) (h : EvAp as env st ds) : EvAp (aCons a as) env st (en x :: ds) := by
  unfold Ev at ha; unfold EvAp at h ⊢; unfold aCons
  rw [ha]
  show ((as env st).map fun q => ((k.r (en x)).pin :: q.1, q.2)) = _
  rw [h, Kx.pin hk]; rfl
theorem ea_xp (ha : Ev k a env st tx) (hk : k.ok = true) (h : EvAp as env st ds) : EvA (aCons a as) env st tx fun x => en x :: ds := by
  cases tx with
  | none => unfold Ev at ha; unfold EvA aCons; rw [ha]; rfl
  | some x => exact ea_p ha hk h
section
variable {μ : Type} {t : Option μ} {dec : μ → List D}
theorem ea_px (ha : Ev k a env st (some x)) (hk : k.ok = true) (h : EvA as env st t dec) : EvA (aCons a as) env st t fun b => en x :: dec b := by
  unfold Ev at ha; unfold EvA at h ⊢; unfold aCons
  rw [ha]
  show ((as env st).map fun q => ((k.r (en x)).pin :: q.1, q.2)) = _
  rw [h, Kx.pin hk]; cases t <;> rfl
theorem ea_xx (ha : Ev k a env st tx) (hk : k.ok = true) (h : EvA as env st t dec) : EvA (aCons a as) env st (tx.bind fun x => t.bind fun b => some (x, b)) fun p => en p.1 :: dec p.2 := by
  cases tx with
  | none => unfold Ev at ha; unfold EvA aCons; rw [ha]; rfl
  | some x =>
    have := ea_px ha hk h
    unfold EvA at this ⊢
    rw [this]; cases t <;> rfl
theorem vals_sh : ∀ ds : List D, valsR (ds.map .sh) = some ds
  | [] => rfl
  | d :: ds => by rw [List.map_cons, x_v1, vals_sh ds]; rfl
theorem ev_callp {m : Fn} (ha : EvAp as env st ds) (h : m ds st = tz.map fun r => (k.r (en r), st)) (hl : ds.length = n) : Ev k (eCall n m as) env st tz := by
  unfold EvAp at ha; unfold Ev eCall
  rw [ha]
  show ((valsR (ds.map .sh)).bind fun ds => if ds.length = n then m ds st else none) = _
  rw [vals_sh]
  show (if ds.length = n then m ds st else none) = _
  rw [if_pos hl, h]
theorem ev_callx {m : Fn} {F : μ → Option γ} (ha : EvA as env st t dec) (h : ∀ b, m (dec b) st = (F b).map fun r => (k.r (en r), st)) (hl : ∀ b, (dec b).length = n) : Ev k (eCall n m as) env st (t.bind F) := by
  cases t with
  | none => unfold EvA at ha; unfold Ev eCall; rw [ha]; rfl
  | some b => exact ev_callp (ds := dec b) ha (h b) (hl b)
theorem ev_makep {m : Fn} (ha : EvAp as env st ds) (h : m ds st = tz.map fun r => (k.r (en r), st)) (hl : ds.length + 1 = n) : Ev k (eMake n m as) env st tz := by
  unfold EvAp at ha; unfold Ev eMake
  rw [ha]
  show ((valsR (ds.map .sh)).bind fun ds => if ds.length + 1 = n then m ds st else none) = _
  rw [vals_sh]
  show (if ds.length + 1 = n then m ds st else none) = _
  rw [if_pos hl, h]
theorem ev_makex {m : Fn} {F : μ → Option γ} (ha : EvA as env st t dec) (h : ∀ b, m (dec b) st = (F b).map fun r => (k.r (en r), st)) (hl : ∀ b, (dec b).length + 1 = n) : Ev k (eMake n m as) env st (t.bind F) := by
  cases t with
  | none => unfold EvA at ha; unfold Ev eMake; rw [ha]; rfl
  | some b => exact ev_makep (ds := dec b) ha (h b) (hl b)
theorem ev_tupp {p : γ} (ha : EvAp as env st ds) (hp : en p = .tup ds) (hl : ds.length ≤ 1000) : Ev .sh (eTup as) env st (some p) := by
  unfold EvAp at ha; unfold Ev eTup
  rw [ha]
  show ((valsR (ds.map .sh)).bind fun ds => if ds.length ≤ sizeLine then some (Kn.R.sh (.tup ds), st) else none) = _
  rw [vals_sh]
  show (if ds.length ≤ sizeLine then some (Kn.R.sh (.tup ds), st) else none) = _
  rw [if_pos (x_sz hl), ← hp]; rfl
theorem ev_tupx {F : μ → γ} (ha : EvA as env st t dec) (hp : ∀ b, en (F b) = .tup (dec b)) (hl : ∀ b, (dec b).length ≤ 1000) : Ev .sh (eTup as) env st (t.bind fun b => some (F b)) := by
  cases t with
  | none => unfold EvA at ha; unfold Ev eTup; rw [ha]; rfl
  | some b => exact ev_tupp (ds := dec b) ha (hp b) (hl b)
theorem ev_lstp {p : γ} (ha : EvAp as env st ds) (hp : en p = .lst ds) (hl : ds.length ≤ 1000) : Ev .ow (eLst as) env st (some p) := by
  unfold EvAp at ha; unfold Ev eLst
  rw [ha]
  show ((valsR (ds.map .sh)).bind fun ds => if ds.length ≤ sizeLine then some (Kn.R.ow (.lst ds), st) else none) = _
  rw [vals_sh]
  show (if ds.length ≤ sizeLine then some (Kn.R.ow (.lst ds), st) else none) = _
  rw [if_pos (x_sz hl), ← hp]; rfl
theorem ev_lstx {F : μ → γ} (ha : EvA as env st t dec) (hp : ∀ b, en (F b) = .lst (dec b)) (hl : ∀ b, (dec b).length ≤ 1000) : Ev .ow (eLst as) env st (t.bind fun b => some (F b)) := by
  cases t with
  | none => unfold EvA at ha; unfold Ev eLst; rw [ha]; rfl
  | some b => exact ev_lstp (ds := dec b) ha (hp b) (hl b)
theorem ev_methp {m : Fn} {cl : Str} {fs : List D} (ha : Ev k1 a env st (some x)) (hk : k1.ok = true) (ho : en x = .obj cl fs) (has : EvAp as env st ds) (h : m (en x :: ds) st = tz.map fun r => (k.r (en r), st)) (hl : ds.length + 1 = n) : Ev k (eMeth n cl m a as) env st tz := by
  unfold Ev at ha; unfold EvAp at has; unfold Ev eMeth
  rw [ha]
  show (match (k1.r (en x)).pin with
    | .sh (.obj c' ds) => if c' = cl then (as env st).bind fun q => (valsR q.1).bind fun es => if es.length + 1 = n then m (.obj c' ds :: es) q.2 else none else none
    | _ => none) = _
  rw [Kx.pin hk, ho]
  show (if cl = cl then (as env st).bind fun q => (valsR q.1).bind fun es => if es.length + 1 = n then m (.obj cl fs :: es) q.2 else none else none) = _
  rw [if_pos rfl, has]
  show ((valsR (ds.map .sh)).bind fun es => if es.length + 1 = n then m (.obj cl fs :: es) st else none) = _
  rw [vals_sh]
  show (if ds.length + 1 = n then m (.obj cl fs :: ds) st else none) = _
  rw [if_pos hl, ← ho, h]
theorem ev_methx {m : Fn} {cl : Str} {fs : List D} {F : μ → Option γ} (ha : Ev k1 a env st (some x)) (hk : k1.ok = true) (ho : en x = .obj cl fs) (has : EvA as env st t dec) (h : ∀ b, m (en x :: dec b) st = (F b).map fun r => (k.r (en r), st)) (hl : ∀ b, (dec b).length + 1 = n) : Ev k (eMeth n cl m a as) env st (t.bind F) := by
  cases t with
  | some b => exact ev_methp (ds := dec b) ha hk ho has (h b) (hl b)
  | none =>
    unfold Ev at ha; unfold EvA at has; unfold Ev eMeth
    rw [ha]
    show (match (k1.r (en x)).pin with
      | .sh (.obj c' ds) => if c' = cl then (as env st).bind fun q => (valsR q.1).bind fun es => if es.length + 1 = n then m (.obj c' ds :: es) q.2 else none else none
      | _ => none) = _
    rw [Kx.pin hk, ho]
    show (if cl = cl then (as env st).bind fun q => (valsR q.1).bind fun es => if es.length + 1 = n then m (.obj cl fs :: es) q.2 else none else none) = _
    rw [if_pos rfl, has]; rfl
end
end
section
/-! calls by what is a name's own -/
class EnH (α : Type) [En α] : Prop where
  nh : ∀ a : α, (En.en a).nh = true
open En
variable {α β γ δ ε : Type} [En α] [En β] [En γ] [En δ] [En ε]
instance : EnH Int := ⟨fun _ => rfl⟩
instance : EnH Bool := ⟨fun _ => rfl⟩
instance : EnH Unit := ⟨fun _ => rfl⟩
instance : EnH Str := ⟨fun _ => rfl⟩
instance : EnH Scr := ⟨fun _ => rfl⟩
instance [EnH α] : EnH (List α) := ⟨fun l => by
  show D.nhL (l.map en) = true
  exact nhL_all fun d hd => by obtain ⟨a, _, rfl⟩ := List.mem_map.mp hd; exact EnH.nh a⟩
instance [EnH α] : EnH (Option α) := ⟨fun o => by cases o with | none => rfl | some a => exact EnH.nh a⟩
instance [EnH α] : EnH (Tp1 α) := ⟨fun p => by show D.nhL [_] = true; simp only [D.nhL, EnH.nh, Bool.and_self]⟩
instance [EnH α] [EnH β] : EnH (Tp2 α β) := ⟨fun p => by show D.nhL [_, _] = true; simp only [D.nhL, EnH.nh, Bool.and_self]⟩
instance [EnH α] [EnH β] [EnH γ] : EnH (Tp3 α β γ) := ⟨fun p => by show D.nhL [_, _, _] = true; simp only [D.nhL, EnH.nh, Bool.and_self]⟩
instance [EnH α] [EnH β] [EnH γ] [EnH δ] : EnH (Tp4 α β γ δ) := ⟨fun p => by show D.nhL [_, _, _, _] = true; simp only [D.nhL, EnH.nh, Bool.and_self]⟩
instance [EnH α] [EnH β] [EnH γ] [EnH δ] [EnH ε] : EnH (Tp5 α β γ δ ε) := ⟨fun p => by show D.nhL [_, _, _, _, _] = true; simp only [D.nhL, EnH.nh, Bool.and_self]⟩
instance [EnH α] [EnH β] : EnH (Hl2 α β) := ⟨fun p => by show D.nhL [_, _] = true; simp only [D.nhL, EnH.nh, Bool.and_self]⟩
class EnI (α : Type) [En α] : Prop where
  imm : ∀ a : α, (En.en a).imm = true
instance : EnI Int := ⟨fun _ => rfl⟩
instance : EnI Bool := ⟨fun _ => rfl⟩
instance : EnI Unit := ⟨fun _ => rfl⟩
instance : EnI Str := ⟨fun _ => rfl⟩
instance [EnI α] : EnI (Option α) := ⟨fun o => by cases o with | none => rfl | some a => exact EnI.imm a⟩
instance [EnI α] [EnI β] : EnI (Tp2 α β) := ⟨fun p => by show D.immL [_, _] = true; simp only [D.immL, EnI.imm, Bool.and_self]⟩
instance [EnI α] [EnI β] [EnI γ] : EnI (Tp3 α β γ) := ⟨fun p => by show D.immL [_, _, _] = true; simp only [D.immL, EnI.imm, Bool.and_self]⟩
instance [EnI α] [EnI β] [EnI γ] [EnI δ] : EnI (Tp4 α β γ δ) := ⟨fun p => by show D.immL [_, _, _, _] = true; simp only [D.immL, EnI.imm, Bool.and_self]⟩
variable {k k1 k2 k3 : Kx} {env env' : List Kn.Slot} {st : Sto} {a : Sem} {i j n : Nat} {x : α} {tz : Option γ} {as : SemA} {ds : List D}
/-- arguments, perhaps names' own -/
def EvB (as : SemA) (env : List Kn.Slot) (st : Sto) (ds : List D) : Prop := ∃ rs, as env st = some (rs, st) ∧ rs.map R.d = ds ∧ D.nhL ds = true
theorem eb_nil : EvB aNil env st [] := ⟨[], rfl, rfl, rfl⟩
theorem eb_p [EnH α] (ha : Ev k a env st (some x)) (h : EvB as env st ds) : EvB (aCons a as) env st (en x :: ds) := by
  obtain ⟨rs, h1, h2, h3⟩ := h
  unfold Ev at ha
  refine ⟨(k.r (en x)).pin :: rs, ?_, ?_, ?_⟩
  · unfold aCons
    rw [ha]
    show ((as env st).map fun q => ((k.r (en x)).pin :: q.1, q.2)) = _
    rw [h1]; rfl
  · rw [List.map_cons, h2, R.pin_d, Kx.rd]
  · rw [D.nhL, h3, EnH.nh x]; rfl
theorem ev_callP [EnI γ] {m : Fn} (ha : EvB as env st ds) (h : ∀ st, m ds st = tz.map fun r => (Kx.sh.r (en r), st)) (hl : ds.length = n) : Ev .sh (eCallP n m as) env st tz := by
  obtain ⟨rs, h1, h2, h3⟩ := ha
  unfold Ev
  rw [x_callp, h1]
  show (if rs.length = n ∧ D.nhL (rs.map R.d) = true then (m (rs.map R.d) []).bind fun q => match q.1 with
    | .sh d => if d.imm = true then some (Kn.R.sh d, st) else none
    | _ => none else none) = _
  rw [h2, if_pos ⟨by rw [← hl, ← h2, List.length_map], h3⟩, h []]
  cases tz with
  | none => rfl
  | some r =>
    show (if (en r).imm = true then some (Kn.R.sh (en r), st) else none) = _
    rw [if_pos (EnI.imm r)]; rfl
end
end Kn
namespace Kn
open PySem L2
/-! ### typed readings: iterations, statements -/
open En
section
variable {α β γ δ σ ρ : Type} [En α] [En β] [En γ]
variable {k k1 k2 k3 : Kx} {env env' : List Kn.Slot} {st : Sto} {e a b c : Sem} {i j n : Nat} {x x' : α} {y : β} {tx : Option α} {ty : Option β} {as : SemA} {ds : List D}
def szG (l : List α) : Option (List α) := if l.length ≤ sizeLine then some l else none
theorem szG_of {l : List α} (h : l.length ≤ 1000) : szG l = some l := if_pos (x_sz h)
/-! comprehensions -/
def EvI (it : SemI) (env : List Kn.Slot) (st : Sto) (t : Option (List α)) : Prop := it env st = t.map fun l => (l.map en, st)
def lcT (c : α → Option Bool) (f : α → Option β) : List α → Option (List β)
  | [] => some []
  | x :: xs => (c x).bind fun b => if b = true then (f x).bind fun y => (lcT c f xs).bind fun l => some (y :: l) else lcT c f xs
theorem lcT_ev {g : SemG} {vs : List Nat} {tc : α → Option Bool} {ta : α → Option β} {en1 : α → List Kn.Slot} (hk : k.ok = true) (hg : ∀ x : α, g (en x) (wipeE env vs) = some (en1 x)) (hc : ∀ x, Ev .sh c (en1 x) st (tc x)) (ha : ∀ x, Ev k a (en1 x) st (ta x)) : ∀ l : List α,
    lcL g c a vs env (l.map en) st = (lcT tc ta l).map fun r => (r.map en, st)
  | [] => rfl
  | x :: xs => by
    have ih := lcT_ev hk hg hc ha xs
    have h1 := hc x
    have h2 := ha x
    unfold Ev at h1 h2
    rw [List.map_cons, lcL, hg x, lcT]
    show ((c (en1 x) st).bind _) = _
    rw [h1]
    cases tc x with
    | none => rfl
    | some p =>
      cases p with
      | false => exact ih
      | true =>
        show ((a (en1 x) st).bind _) = _
        rw [h2]
        cases hx : ta x with
        | none => rfl
        | some y =>
          show ((k.r (en y)).sh?.bind _) = _
          rw [Kx.sh? hk]
          show (lcL g c a vs env (xs.map en) st).map _ = _
          rw [ih]
          cases hl : lcT tc ta xs with
          | none => simp [hl]
          | some l => simp [hl]
theorem ev_lcx {it : SemI} {g : SemG} {vs : List Nat} {t : Option (List α)} {tc : α → Option Bool} {ta : α → Option β} {en1 : α → List Kn.Slot} (hi : EvI it env st t) (hv : vs.all (fun j => (env[j]?.map Slot.okW).getD true) = true) (hg : ∀ x : α, g (en x) (wipeE env vs) = some (en1 x)) (hc : ∀ x, Ev .sh c (en1 x) st (tc x)) (ha : ∀ x, Ev k a (en1 x) st (ta x)) (hk : k.ok = true) :
    Ev .ow (eLc it vs g c a) env st (t.bind fun l => (lcT tc ta l).bind szG) := by
  unfold EvI at hi; unfold Ev
  rw [x_lc, hi]
  cases t with
  | none => rfl
  | some l =>
    show (if vs.all (fun j => (env[j]?.map Slot.okW).getD true) = true then (lcL g c a vs env (l.map en) st).bind fun q => if q.1.length ≤ sizeLine then some (Kn.R.ow (.lst q.1), q.2) else none else none) = _
    rw [if_pos hv, lcT_ev hk hg hc ha l]
    show _ = ((lcT tc ta l).bind szG).map _
    cases lcT tc ta l with
    | none => rfl
    | some r =>
      show (if (r.map en).length ≤ sizeLine then some (Kn.R.ow (.lst (r.map en)), st) else none) = (szG r).map _
      unfold szG
      rw [List.length_map]
      split <;> rfl
theorem lcT_map {F : α → β} : ∀ l : List α, lcT (fun _ => some true) (fun x => some (F x)) l = some (l.map F)
  | [] => rfl
  | x :: xs => by rw [lcT, lcT_map xs]; rfl
theorem lcT_fil {C : α → Bool} {F : α → β} : ∀ l : List α, lcT (fun x => some (C x)) (fun x => some (F x)) l = some ((l.filter C).map F)
  | [] => rfl
  | x :: xs => by
    rw [lcT, lcT_fil xs]
    cases h : C x
    · rw [List.filter_cons_of_neg (by simp [h])]; rfl
    · rw [List.filter_cons_of_pos h]; rfl
theorem ev_yes : Ev .sh eYes env st (some true) := rfl
/-- no test, plain things -/
theorem ev_lcm {it : SemI} {g : SemG} {vs : List Nat} {t : Option (List α)} {F : α → β} {en1 : α → List Kn.Slot} (hi : EvI it env st t) (hv : vs.all (fun j => (env[j]?.map Slot.okW).getD true) = true) (hg : ∀ x : α, g (en x) (wipeE env vs) = some (en1 x)) (ha : ∀ x, Ev k a (en1 x) st (some (F x))) (hk : k.ok = true) :
    Ev .ow (eLc it vs g eYes a) env st (t.bind fun l => szG (l.map F)) := by
  have := ev_lcx hi hv hg (fun _ => ev_yes) ha hk
  simp only [lcT_map, Option.bind_some] at this
  exact this
theorem ev_lcf {it : SemI} {g : SemG} {vs : List Nat} {t : Option (List α)} {C : α → Bool} {F : α → β} {en1 : α → List Kn.Slot} (hi : EvI it env st t) (hv : vs.all (fun j => (env[j]?.map Slot.okW).getD true) = true) (hg : ∀ x : α, g (en x) (wipeE env vs) = some (en1 x)) (hc : ∀ x, Ev .sh c (en1 x) st (some (C x))) (ha : ∀ x, Ev k a (en1 x) st (some (F x))) (hk : k.ok = true) :
    Ev .ow (eLc it vs g c a) env st (t.bind fun l => szG ((l.filter C).map F)) := by
  have := ev_lcx hi hv hg hc ha hk
  simp only [lcT_fil, Option.bind_some] at this
  exact this
/-! what is gone through -/
class EnS (τ : Type) [En τ] (α : outParam Type) [En α] where
  items : τ → List α
  seq : ∀ t : τ, (en t).seq = some ((items t).map en)
instance : EnS (List α) α := ⟨id, fun _ => rfl⟩
instance : EnS Scr Int := ⟨Scr.l, fun _ => rfl⟩
instance : EnS (Tp2 α α) α := ⟨fun p => [p.x0, p.x1], fun _ => rfl⟩
instance : EnS (Tp3 α α α) α := ⟨fun p => [p.x0, p.x1, p.x2], fun _ => rfl⟩
theorem ei_seqp {τ : Type} [En τ] [EnS τ α] {v : τ} (ha : Ev k a env st (some v)) (hk : k.ok = true) : EvI (iSeq a) env st (some (EnS.items v)) := by
  unfold Ev at ha; unfold EvI
  rw [x_iseq, ha]
  show ((k.r (en v)).sh?.bind fun d => d.seq.map fun ds => (ds, st)) = _
  rw [Kx.sh? hk]
  show ((en v).seq.map fun ds => (ds, st)) = _
  rw [EnS.seq v]; rfl
theorem ei_seqx {τ : Type} [En τ] [EnS τ α] {t : Option τ} (ha : Ev k a env st t) (hk : k.ok = true) : EvI (iSeq a) env st (t.bind fun v => some (EnS.items v)) := by
  cases t with
  | none => unfold Ev at ha; unfold EvI; rw [x_iseq, ha]; rfl
  | some v => exact ei_seqp ha hk
theorem ei_lstp {v : List α} (ha : Ev k a env st (some v)) (hk : k.ok = true) : EvI (iSeq a) env st (some v) := ei_seqp ha hk
theorem ei_lstx {t : Option (List α)} (ha : Ev k a env st t) (hk : k.ok = true) : EvI (iSeq a) env st t := by
  cases t with
  | none => unfold Ev at ha; unfold EvI; rw [x_iseq, ha]; rfl
  | some v => exact ei_lstp ha hk
def rngI (lo : Int) (n : Nat) : List Int := (List.range n).map fun (k : Nat) => lo + (k : Int)
theorem rngD_en (lo : Int) (n : Nat) : rngD lo n = (rngI lo n).map en := by unfold rngD rngI; rw [List.map_map]; rfl
open Classical in
noncomputable def rngG (i j : Int) : Option (List Int) := if Rg i ∧ Rg j then some (rngI i (j - i).toNat) else none
theorem rg0 : Rg 0 := .of (by decide)
theorem rngG_of {i j : Int} (h : i.natAbs ≤ 1000000) (h2 : j.natAbs ≤ 1000000) : rngG i j = some (rngI i (j - i).toNat) := by
  unfold rngG
  rw [if_pos]
  exact ⟨.of (by omega), .of (by omega)⟩
theorem ei_rng1p {v : Int} (ha : Ev k a env st (some v)) : EvI (iRng1' a) env st (rngG 0 v) := by
  unfold Ev at ha; unfold EvI
  rw [x_rng1, ha]
  show (match (k.r (.int v)).d with | .int j => if Rg j then some (rngD 0 j.toNat, st) else none | _ => none) = _
  rw [Kx.rd]
  show (if Rg v then some (rngD 0 v.toNat, st) else none) = _
  unfold rngG
  by_cases h : Rg v
  · rw [if_pos h, if_pos ⟨rg0, h⟩, rngD_en, Int.sub_zero]; rfl
  · rw [if_neg h, if_neg fun z => h z.2]; rfl
theorem ei_rng1x {t : Option Int} (ha : Ev k a env st t) : EvI (iRng1' a) env st (t.bind fun v => rngG 0 v) := by
  cases t with
  | none => unfold Ev at ha; unfold EvI; rw [x_rng1, ha]; rfl
  | some v => exact ei_rng1p ha
theorem ei_rng2p {v w : Int} (ha : Ev k1 a env st (some v)) (hb : Ev k2 b env st (some w)) : EvI (iRng2' a b) env st (rngG v w) := by
  unfold Ev at ha hb; unfold EvI
  rw [x_rng2, ha]
  show ((b env st).bind fun q => match (k1.r (.int v)).d, q.1.d with | .int i, .int j => if Rg i ∧ Rg j then some (rngD i (j - i).toNat, q.2) else none | _, _ => none) = _
  rw [hb]
  show (match (k1.r (.int v)).d, (k2.r (.int w)).d with | .int i, .int j => if Rg i ∧ Rg j then some (rngD i (j - i).toNat, st) else none | _, _ => none) = _
  rw [Kx.rd, Kx.rd]
  show (if Rg v ∧ Rg w then some (rngD v (w - v).toNat, st) else none) = _
  unfold rngG
  split
  · rw [rngD_en]; rfl
  · rfl
theorem ei_rng2x {t u : Option Int} (ha : Ev k1 a env st t) (hb : Ev k2 b env st u) : EvI (iRng2' a b) env st (t.bind fun v => u.bind fun w => rngG v w) := by
  cases t with
  | none => unfold Ev at ha; unfold EvI; rw [x_rng2, ha]; rfl
  | some v => cases u with
    | none => unfold Ev at ha hb; unfold EvI; rw [x_rng2, ha]; show ((b env st).bind _) = _; rw [hb]; rfl
    | some w => exact ei_rng2p ha hb
def enumT : Int → List α → List (Tp2 Int α)
  | _, [] => []
  | i, x :: xs => ⟨i, x⟩ :: enumT (i + 1) xs
theorem enumF_en : ∀ (n : Nat) (l : List α), enumF n (l.map en) = (enumT (n : Int) l).map en
  | _, [] => rfl
  | n, x :: xs => by
    have := enumF_en (n + 1) xs
    rw [List.map_cons, enumF, this, enumT, List.map_cons]
    rfl
theorem ei_enum {t : Option (List α)} (ha : Ev k a env st t) (hk : k.ok = true) : EvI (iEnum' a) env st (t.bind fun l => some (enumT 0 l)) := by
  unfold Ev at ha; unfold EvI
  rw [x_enum, ha]
  cases t with
  | none => rfl
  | some l =>
    show ((k.r (.lst (l.map en))).sh?.bind fun d => d.seqL.map fun ds => (enumF 0 ds, st)) = _
    rw [Kx.sh? hk]
    show some (enumF 0 (l.map en), st) = _
    rw [enumF_en 0 l]; rfl
theorem ei_enump {l : List α} (ha : Ev k a env st (some l)) (hk : k.ok = true) : EvI (iEnum' a) env st (some (enumT 0 l)) := ei_enum ha hk
def zipT : List α → List β → List (Tp2 α β)
  | x :: xs, y :: ys => ⟨x, y⟩ :: zipT xs ys
  | _, _ => []
theorem zipD_en : ∀ (l : List α) (m : List β), zipD (l.map en) (m.map en) = (zipT l m).map en
  | [], [] => rfl
  | [], _ :: _ => rfl
  | _ :: _, [] => rfl
  | x :: xs, y :: ys => by
    rw [List.map_cons, List.map_cons, zipD, zipD_en xs ys]; rfl
theorem ei_zip {l : List α} {m : List β} (ha : Ev k1 a env st (some l)) (hk : k1.ok = true) (hb : Ev k2 b env st (some m)) (hk2 : k2.ok = true) : EvI (iZip' a b) env st (some (zipT l m)) := by
  unfold Ev at ha hb; unfold EvI
  rw [x_zip, ha]
  show ((k1.r (.lst (l.map en))).sh?.bind fun d => d.seqL.bind fun ds => (b env st).bind fun q => q.1.sh?.bind fun e => e.seqL.map fun es => (zipD ds es, q.2)) = _
  rw [Kx.sh? hk, hb]
  show ((k2.r (.lst (m.map en))).sh?.bind fun e => e.seqL.map fun es => (zipD (l.map en) es, st)) = _
  rw [Kx.sh? hk2]
  show some (zipD (l.map en) (m.map en), st) = _
  rw [zipD_en]; rfl
theorem ei_revdp {l : List α} (ha : Ev k a env st (some l)) (hk : k.ok = true) : EvI (iRevd a) env st (some l.reverse) := by
  unfold Ev at ha; unfold EvI iRevd
  rw [ha]
  show ((k.r (.lst (l.map en))).sh?.bind _) = _
  rw [Kx.sh? hk]
  show some ((l.map en).reverse, st) = _
  rw [← List.map_reverse]; rfl
/-! statements -/
inductive Ct (ρ σ : Type) where
  | nx (s : σ) | rt (r : ρ)
def Ct.go {ρ σ τ : Type} (c : Ct ρ σ) (f : σ → Option τ) (g : ρ → Option τ) : Option τ := match c with
  | .nx s => f s
  | .rt r => g r
abbrev Outs := Out × List Kn.Slot × Sto
def nrm (fn : Bool) : Outs → Outs
  | (.rt r, _, st) => (.rt r.outR, [], st)
  | (.nx, env, st) => if fn = true then (.rt (.sh .non), [], st) else (.nx, env, st)
  | q => q
def Ru {τ : Type} (fn : Bool) (enc : τ → Outs) (f : SemS) (env : List Kn.Slot) (st : Sto) (t : Option τ) : Prop := (f env st).map (nrm fn) = t.map enc
variable {τ : Type} {fn : Bool} {enc : τ → Outs} {f g h s1 : SemS} {t t1 t2 : Option τ} {z : τ}
theorem ru_of {t' : Option τ} (h : Ru fn enc f env st t') (e : t = t') : Ru fn enc f env st t := by rw [e]; exact h
theorem ru_nil (h : nrm fn (.nx, env, st) = enc z) : Ru fn enc sNil env st (some z) := by
  show some (nrm fn (.nx, env, st)) = some (enc z)
  rw [h]
theorem ru_id (h : Ru fn enc g env st t) : Ru fn enc (sSeq sNil g) env st t := h
theorem seq_assoc (f g h : SemS) : sSeq (sSeq f g) h = sSeq f (sSeq g h) := by
  funext env st
  unfold sSeq
  cases f env st with
  | none => rfl
  | some p =>
    obtain ⟨o, e', st'⟩ := p
    cases o <;> rfl
theorem ru_as (k : Ru fn enc (sSeq f (sSeq g h)) env st t) : Ru fn enc (sSeq (sSeq f g) h) env st t := by rw [seq_assoc]; exact k
theorem ru_setp (ha : Ev k a env st (some x)) (hk : k.ok = true) (hr : Ru fn enc g (env.set i (k.slot (en x))) st t) : Ru fn enc (sSeq (sSet i a) g) env st t := by
  unfold Ev at ha; unfold Ru at hr ⊢
  have : sSeq (sSet i a) g env st = g (env.set i (k.slot (en x))) st := by
    rw [x_seq, x_set, ha]
    cases k <;> first | rfl | cases hk
  rw [this]; exact hr
theorem ru_setx {T : α → Option τ} (ha : Ev k a env st tx) (hk : k.ok = true) (hr : ∀ x, Ru fn enc g (env.set i (k.slot (en x))) st (T x)) : Ru fn enc (sSeq (sSet i a) g) env st (tx.bind T) := by
  cases tx with
  | none => unfold Ev at ha; unfold Ru; rw [x_seq, x_set, ha]; rfl
  | some x => exact ru_setp ha hk (hr x)
theorem ru_exx {T : α → Option τ} (ha : Ev k a env st tx) (hr : ∀ x, Ru fn enc g env st (T x)) : Ru fn enc (sSeq (sEx a) g) env st (tx.bind T) := by
  cases tx with
  | none => unfold Ev at ha; unfold Ru; rw [x_seq, x_ex, ha]; rfl
  | some x =>
    unfold Ev at ha
    have hr := hr x
    unfold Ru at hr ⊢
    have : sSeq (sEx a) g env st = g env st := by rw [x_seq, x_ex, ha]; rfl
    rw [this]; exact hr
theorem ru_asgp {o : SemG} {env1 : List Kn.Slot} (ha : Ev k a env st (some x)) (hk : k.ok = true) (ho : o (en x) env = some env1) (hr : Ru fn enc g env1 st t) : Ru fn enc (sSeq (sAsg a o) g) env st t := by
  unfold Ev at ha; unfold Ru at hr ⊢
  have : sSeq (sAsg a o) g env st = g env1 st := by
    rw [x_seq, x_asg, ha]
    show ((match (k.r (en x)).pin with | .sh d => (o d env).map fun env' => (Out.nx, env', st) | _ => none).bind _) = _
    rw [Kx.pin hk]
    show (((o (en x) env).map fun env' => (Out.nx, env', st)).bind _) = _
    rw [ho]; rfl
  rw [this]; exact hr
theorem ru_asgx {o : SemG} {env1 : α → List Kn.Slot} {T : α → Option τ} (ha : Ev k a env st tx) (hk : k.ok = true) (ho : ∀ x, o (en x) env = some (env1 x)) (hr : ∀ x, Ru fn enc g (env1 x) st (T x)) : Ru fn enc (sSeq (sAsg a o) g) env st (tx.bind T) := by
  cases tx with
  | none => unfold Ev at ha; unfold Ru; rw [x_seq, x_asg, ha]; rfl
  | some x => exact ru_asgp ha hk (ho x) (hr x)
theorem ru_augp {v w : Int} (hv : env[i]? = some (.sh (en v))) (ha : Ev k a env st (some w)) (hr : Ru fn enc g (env.set i (.sh (en (v + w)))) st t) : Ru fn enc (sSeq (sAug i (fI fun i j => some (i + j)) a) g) env st t := by
  unfold Ev at ha; unfold Ru at hr ⊢
  have : sSeq (sAug i (fI fun i j => some (i + j)) a) g env st = g (env.set i (.sh (en (v + w)))) st := by
    rw [x_seq, x_aug, hv]
    show (((a env st).bind _).bind _) = _
    rw [ha]
    show (((fI (fun i j => some (i + j)) (.int v) (k.r (.int w)).d).bind _).bind _) = _
    rw [Kx.rd]; rfl
  rw [this]; exact hr
theorem ru_retp (ha : Ev k a env st (some x)) (he : enc z = (.rt (k.out.r (en x)), [], st)) : Ru fn enc (sSeq (sRet a) g) env st (some z) := by
  unfold Ev at ha; unfold Ru
  rw [x_seq, x_ret, ha]
  show some (nrm fn (.rt (k.r (en x)), env, st)) = some (enc z)
  rw [he]
  show some (Out.rt (k.r (en x)).outR, [], st) = _
  rw [Kx.outR]
theorem ru_retx {F : α → τ} (ha : Ev k a env st tx) (he : ∀ x, enc (F x) = (.rt (k.out.r (en x)), [], st)) : Ru fn enc (sSeq (sRet a) g) env st (tx.bind fun x => some (F x)) := by
  cases tx with
  | none => unfold Ev at ha; unfold Ru; rw [x_seq, x_ret, ha]; rfl
  | some x => exact ru_retp ha (he x)
theorem ru_retN (he : enc z = (.rt (.sh .non), [], st)) : Ru fn enc (sSeq sRetN g) env st (some z) := by
  show some (Out.rt (.sh .non), [], st) = some (enc z)
  rw [he]
theorem ru_never : Ru fn enc (sSeq sNever g) env st none := rfl
theorem ru_ifx {c : Sem} {tp : Option Bool} {T1 T2 : Option τ} (hc : Ev .sh c env st tp) (h1 : Ru fn enc (sSeq f h) env st T1) (h2 : Ru fn enc (sSeq g h) env st T2) : Ru fn enc (sSeq (sIf c f g) h) env st (tp.bind fun p => if p = true then T1 else T2) := by
  unfold Ev at hc; unfold Ru at h1 h2 ⊢
  rw [x_seq, x_if, hc]
  cases tp with
  | none => rfl
  | some p => cases p with
    | true => exact h1
    | false => exact h2
theorem ru_ifp {c : Sem} {p : Bool} {T1 T2 : Option τ} (hc : Ev .sh c env st (some p)) (h1 : Ru fn enc (sSeq f h) env st T1) (h2 : Ru fn enc (sSeq g h) env st T2) : Ru fn enc (sSeq (sIf c f g) h) env st (if p = true then T1 else T2) := ru_ifx hc h1 h2
/-- a statement that goes on with a state -/
def Rn {σ : Type} (E : σ → List Kn.Slot) (f : SemS) (env : List Kn.Slot) (st : Sto) (t : Option σ) : Prop := f env st = t.map fun s => (.nx, E s, st)
theorem rn_of {E : σ → List Kn.Slot} {t : Option σ} (h : Ru false (fun s => (.nx, E s, st)) (sSeq f sNil) env st t) : Rn E f env st t := by
  unfold Ru at h; unfold Rn
  rw [x_seq] at h
  cases hf : f env st with
  | none =>
    rw [hf] at h
    cases t with
    | none => rfl
    | some s => cases h
  | some p =>
    rw [hf] at h
    obtain ⟨o, e', st'⟩ := p
    cases t with
    | none => cases o <;> cases h
    | some s =>
      cases o with
      | nx => exact h
      | rt r => cases h
      | bk => cases h
      | ct => cases h
theorem ru_join {E : σ → List Kn.Slot} {t1 : Option σ} {T : σ → Option τ} (h1 : Rn E f env st t1) (h2 : ∀ s, Ru fn enc g (E s) st (T s)) : Ru fn enc (sSeq f g) env st (t1.bind T) := by
  unfold Rn at h1
  cases t1 with
  | none => unfold Ru; rw [x_seq, h1]; rfl
  | some s =>
    have h2 := h2 s
    unfold Ru at h2 ⊢
    have : sSeq f g env st = g (E s) st := by rw [x_seq, h1]; rfl
    rw [this]; exact h2
end
end Kn
namespace Kn
open PySem L2
/-! ### typed readings: loops, what is forgotten, what is changed -/
open En
section
variable {X : Cx} {ct : CT} {sxs : List Stmt} {f : SemS}
/-- names forgotten ahead of the rest -/
def sKl (js : List Nat) (f : SemS) : SemS := fun env st => f (wipeE env js) st
theorem SlotOk.no' {K : PySem.W.Frag} {W : Wd} {L : Addr → Option Lab} {H : Hp} {σ : St} {i : Nat} : SlotOk K ct W L H σ i .no := trivial
theorem Rel.wipe {K : PySem.W.Frag} {F H : Hp} {W : Wd} {L : Addr → Option Lab} {st : Sto} {σ : St} : ∀ {js : List Nat} {env : List Kn.Slot}, Rel K ct F W L env st σ H → Rel K ct F W L (wipeE env js) st σ H
  | [], _, I => I
  | j :: js, env, I => by
    have J := Rel.wipe (js := js) I
    refine ⟨J.fr, J.hs, J.tp, J.ob, J.rh, by rw [x_wipe1, List.length_set]; exact J.len, fun i s e => ?_⟩
    rw [x_wipe1] at e
    by_cases h : j = i
    · subst h
      rw [List.getElem?_set] at e
      simp only [if_true] at e
      split at e
      · cases e; trivial
      · cases e
    · rw [List.getElem?_set_ne h] at e
      exact J.sl i s e
theorem sb_kl (js : List Nat) (h : SB X ct sxs f) : SB X ct sxs (sKl js f) := by
  refine ⟨pss_mono h.pss fun D σ H ⟨F, W, L, env, st, o, env', st', I, e, k⟩ => ?_⟩
  exact ⟨F, W, L, _, st, o, env', st', I.wipe, e, k⟩
theorem sb_frz (i : Nat) (h : SB X ct sxs f) : SB X ct sxs (sFrz i f) := by
  refine ⟨pss_mono h.pss fun D σ H ⟨F, W, L, env, st, o, env', st', I, e, k⟩ => ?_⟩
  unfold sFrz at e
  split at e
  · rename_i d he
    obtain ⟨W', L', le, J⟩ := I.freeze he
    exact ⟨F, W', L', _, st, o, env', st', J, e, k.mono le⟩
  · exact ⟨F, W, L, env, st, o, env', st', I, e, k⟩
theorem sb_frz2 (i : Nat) (h : SB X ct sxs f) : SB X ct sxs (sFrz2 i f) := by
  refine ⟨pss_mono h.pss fun D σ H ⟨F, W, L, env, st, o, env', st', I, e, k⟩ => ?_⟩
  unfold sFrz2 at e
  split at e
  · rename_i d he
    obtain ⟨W', L', le, J⟩ := I.freeze2 he
    exact ⟨F, W', L', _, st, o, env', st', J, e, k.mono le⟩
  · exact ⟨F, W, L, env, st, o, env', st', I, e, k⟩
/-- what was made and is nobody's is shared -/
def ePin (a : Sem) : Sem := fun env st => (a env st).map fun p => (p.1.pin, p.2)
theorem se_pin {x : Expr} {a : Sem} (h : SE X ct x a) : SE X ct x (ePin a) := by
  refine ⟨pe_mono h.pe fun σ H Q ⟨F, W, L, env, st, r, st', I, e, k⟩ => ?_⟩
  obtain ⟨⟨r1, st1⟩, h1, e⟩ := map2 e
  cases e
  refine ⟨F, W, L, env, st, r1, st1, I, h1, fun v H1 W1 L1 l1 I1 p1 => ?_⟩
  obtain ⟨W', m, J, q⟩ := I1.pin p1
  refine k v H1 W' L1 (l1.trans m) J ?_
  cases r1 with
  | sh d => exact q
  | ow d => exact q
  | bw i d => exact q
end
section
variable {α β γ δ σ ρ τ : Type} [En α] [En β] [En γ]
variable {k k1 k2 k3 : Kx} {env env' : List Kn.Slot} {st : Sto} {e a b c : Sem} {i j n : Nat} {x x' : α} {y : β} {tx : Option α} {ty : Option β} {as : SemA} {ds : List D}
variable {fn : Bool} {enc : τ → Outs} {f g h s1 : SemS} {t t1 t2 : Option τ} {z : τ}
theorem ev_pin {t0 : Option α} (ha : Ev k a env st t0) (hk : k.ok = true) : Ev .sh (ePin a) env st t0 := by
  unfold Ev at ha; unfold Ev ePin
  rw [ha]
  cases t0 with
  | none => rfl
  | some v => show some ((k.r (en v)).pin, st) = _; rw [Kx.pin hk]; rfl
theorem ru_kl {js : List Nat} {env1 : List Kn.Slot} (he : wipeE env js = env1) (hr : Ru fn enc f env1 st t) : Ru fn enc (sKl js f) env st t := by
  unfold Ru sKl; rw [he]; exact hr
theorem ru_frz (he : env[i]? = some (.ow (en x))) (hr : Ru fn enc f (env.set i (.sh (en x))) st t) : Ru fn enc (sFrz i f) env st t := by
  unfold Ru at hr ⊢
  have : sFrz i f env st = f (env.set i (.sh (en x))) st := by rw [x_frz, he]
  rw [this]; exact hr
/-- lists of lists of one's own -/
def o2S (l : List (List α)) : Kn.Slot := .o2 (l.map fun r => r.map en)
theorem ru_frz2 {l : List (List α)} (he : env[i]? = some (o2S l)) (hr : Ru fn enc f (env.set i (.sh (en l))) st t) : Ru fn enc (sFrz2 i f) env st t := by
  unfold Ru at hr ⊢
  have : sFrz2 i f env st = f (env.set i (.sh (en l))) st := by
    unfold sFrz2
    rw [he]
    show f (env.set i (.sh (.lst ((l.map fun r => r.map en).map D.lst)))) st = _
    rw [List.map_map]; rfl
  rw [this]; exact hr
/-! loops -/
def foldT (step : α → σ → Option σ) : List α → σ → Option σ
  | [], s => some s
  | x :: xs, s => (step x s).bind fun s' => foldT step xs s'
theorem foldT_ev {E : σ → List Kn.Slot} {o : SemG} {E1 : α → σ → List Kn.Slot} {step : α → σ → Option σ} (ho : ∀ x s, o (en x) (E s) = some (E1 x s)) (hf : ∀ x s, Ru false (fun s => (.nx, E s, st)) f (E1 x s) st (step x s)) : ∀ (l : List α) (s : σ),
    forL o f (l.map en) (E s) st = (foldT step l s).map fun s => (.nx, E s, st)
  | [], s => rfl
  | x :: xs, s => by
    have h1 := hf x s
    unfold Ru at h1
    rw [List.map_cons, forL, ho x s, foldT]
    show ((f (E1 x s) st).bind _) = _
    cases hs : step x s with
    | none =>
      rw [hs] at h1
      cases hx : f (E1 x s) st with
      | none => rfl
      | some p => rw [hx] at h1; cases h1
    | some s' =>
      rw [hs] at h1
      cases hx : f (E1 x s) st with
      | none => rw [hx] at h1; cases h1
      | some p =>
        rw [hx] at h1
        obtain ⟨q, e1, s1⟩ := p
        cases q with
        | nx =>
          have h1 := Option.some.inj h1
          have h1 : (Out.nx, e1, s1) = (Out.nx, E s', st) := h1
          cases h1
          exact foldT_ev ho hf xs s'
        | rt r => cases h1
        | bk => cases h1
        | ct => cases h1
theorem rn_for {it : SemI} {o : SemG} {E : σ → List Kn.Slot} {E1 : α → σ → List Kn.Slot} {step : α → σ → Option σ} {s0 : σ} {tl : Option (List α)} (hi : EvI it env st tl) (he : env = E s0) (ho : ∀ x s, o (en x) (E s) = some (E1 x s)) (hf : ∀ x s, Ru false (fun s => (.nx, E s, st)) f (E1 x s) st (step x s)) :
    Rn E (sFor it o f) env st (tl.bind fun l => foldT step l s0) := by
  unfold EvI at hi; unfold Rn
  rw [x_for, hi]
  cases tl with
  | none => rfl
  | some l =>
    show forL o f (l.map en) env st = _
    rw [he]
    exact foldT_ev ho hf l s0
theorem rn_forp {it : SemI} {o : SemG} {E : σ → List Kn.Slot} {E1 : α → σ → List Kn.Slot} {step : α → σ → Option σ} {s0 : σ} {l : List α} (hi : EvI it env st (some l)) (he : env = E s0) (ho : ∀ x s, o (en x) (E s) = some (E1 x s)) (hf : ∀ x s, Ru false (fun s => (.nx, E s, st)) f (E1 x s) st (step x s)) :
    Rn E (sFor it o f) env st (foldT step l s0) := rn_for hi he ho hf
/-- a loop that may hand back -/
def forT (step : α → σ → Option (Ct ρ σ)) : List α → σ → Option (Ct ρ σ)
  | [], s => some (.nx s)
  | x :: xs, s => (step x s).bind fun c => c.go (fun s' => forT step xs s') fun r => some (.rt r)
def encC [En ρ] (k : Kx) (E : σ → List Kn.Slot) (st : Sto) : Ct ρ σ → Outs
  | .nx s => (.nx, E s, st)
  | .rt r => (.rt (k.r (en r)), [], st)
theorem forT_ev [En ρ] {E : σ → List Kn.Slot} {o : SemG} {E1 : α → σ → List Kn.Slot} {step : α → σ → Option (Ct ρ σ)} (ho : ∀ x s, o (en x) (E s) = some (E1 x s)) (hf : ∀ x s, Ru false (encC k E st) f (E1 x s) st (step x s)) : ∀ (l : List α) (s : σ),
    (forL o f (l.map en) (E s) st).map (nrm false) = (forT step l s).map (encC k E st)
  | [], s => rfl
  | x :: xs, s => by
    have h1 := hf x s
    unfold Ru at h1
    rw [List.map_cons, forL, ho x s, forT]
    show (((f (E1 x s) st).bind _).map _) = _
    cases hs : step x s with
    | none =>
      rw [hs] at h1
      cases hx : f (E1 x s) st with
      | none => rfl
      | some p => rw [hx] at h1; cases h1
    | some c =>
      rw [hs] at h1
      cases hx : f (E1 x s) st with
      | none => rw [hx] at h1; cases h1
      | some p =>
        rw [hx] at h1
        obtain ⟨q, e1, s1⟩ := p
        have h1 := Option.some.inj h1
        cases c with
        | nx s' =>
          have h1 : nrm false (q, e1, s1) = (Out.nx, E s', st) := h1
          cases q with
          | nx =>
            have h1 : (Out.nx, e1, s1) = (Out.nx, E s', st) := h1
            cases h1
            exact forT_ev ho hf xs s'
          | rt r => cases h1
          | bk => cases h1
          | ct => cases h1
        | rt r =>
          have h1 : nrm false (q, e1, s1) = (Out.rt (k.r (en r)), [], st) := h1
          cases q with
          | nx => cases h1
          | rt r' =>
            show some (nrm false (.rt r', e1, s1)) = _
            rw [h1]; rfl
          | bk => cases h1
          | ct => cases h1
/-- a statement that goes on with a state or hands back -/
def Rc [En ρ] (k : Kx) (E : σ → List Kn.Slot) (f : SemS) (env : List Kn.Slot) (st : Sto) (t : Option (Ct ρ σ)) : Prop := (f env st).map (nrm false) = t.map (encC k E st)
theorem rc_for [En ρ] {it : SemI} {o : SemG} {E : σ → List Kn.Slot} {E1 : α → σ → List Kn.Slot} {step : α → σ → Option (Ct ρ σ)} {s0 : σ} {tl : Option (List α)} (hi : EvI it env st tl) (he : env = E s0) (ho : ∀ x s, o (en x) (E s) = some (E1 x s)) (hf : ∀ x s, Ru false (encC k E st) f (E1 x s) st (step x s)) :
    Rc k E (sFor it o f) env st (tl.bind fun l => forT step l s0) := by
  unfold EvI at hi; unfold Rc
  rw [x_for, hi]
  cases tl with
  | none => rfl
  | some l =>
    show (forL o f (l.map en) env st).map _ = _
    rw [he]
    exact forT_ev ho hf l s0
theorem rc_forp [En ρ] {it : SemI} {o : SemG} {E : σ → List Kn.Slot} {E1 : α → σ → List Kn.Slot} {step : α → σ → Option (Ct ρ σ)} {s0 : σ} {l : List α} (hi : EvI it env st (some l)) (he : env = E s0) (ho : ∀ x s, o (en x) (E s) = some (E1 x s)) (hf : ∀ x s, Ru false (encC k E st) f (E1 x s) st (step x s)) :
    Rc k E (sFor it o f) env st (forT step l s0) := rc_for hi he ho hf
theorem rc_of [En ρ] {E : σ → List Kn.Slot} {t : Option (Ct ρ σ)} (h : Ru false (encC k E st) (sSeq f sNil) env st t) : Rc k E f env st t := by
  unfold Ru at h; unfold Rc
  rw [← h, x_seq]
  cases f env st with
  | none => rfl
  | some p => obtain ⟨o, e', st'⟩ := p; cases o <;> rfl
theorem nrm_rt {fn : Bool} {p : Outs} {r : Kn.R} {st' : Sto} (h : nrm false p = (.rt r, [], st')) : nrm fn p = (.rt r, [], st') ∧ ∃ r0 e0, p = (.rt r0, e0, st') := by
  obtain ⟨o, e, s⟩ := p
  cases o with
  | nx => cases h
  | bk => cases h
  | ct => cases h
  | rt r0 =>
    have h : (Out.rt r0.outR, [], s) = ((.rt r, [], st') : Outs) := h
    have := (Prod.mk.inj (Prod.mk.inj h).2).2
    subst this
    exact ⟨h, r0, e, rfl⟩
theorem nrm_nx {p : Outs} {e1 : List Kn.Slot} {st' : Sto} (h : nrm false p = (.nx, e1, st')) : p = (.nx, e1, st') := by
  obtain ⟨o, e, s⟩ := p
  cases o with
  | nx => exact h
  | bk => cases h
  | ct => cases h
  | rt r0 => cases h
theorem ru_joinc [En ρ] {E : σ → List Kn.Slot} {t1 : Option (Ct ρ σ)} {T : σ → Option τ} {F : ρ → τ} (h1 : Rc k E f env st t1) (hF : ∀ r, enc (F r) = (.rt (k.r (en r)), [], st)) (h2 : ∀ s, Ru fn enc g (E s) st (T s)) : Ru fn enc (sSeq f g) env st (t1.bind fun c => c.go T fun r => some (F r)) := by
  unfold Rc at h1
  unfold Ru
  rw [x_seq]
  cases hf : f env st with
  | none =>
    rw [hf] at h1
    cases t1 with
    | none => rfl
    | some c => cases h1
  | some p =>
    rw [hf] at h1
    cases t1 with
    | none => cases h1
    | some c =>
      have h1 := Option.some.inj h1
      cases c with
      | nx s =>
        have := nrm_nx h1
        subst this
        exact h2 s
      | rt r =>
        obtain ⟨h3, r0, e0, rfl⟩ := nrm_rt (fn := fn) h1
        show some (nrm fn (.rt r0, e0, st)) = some (enc (F r))
        rw [h3, hF]
/-- while -/
def whT (c : σ → Option Bool) (step : σ → Option σ) : Nat → σ → Option σ
  | 0, _ => none
  | n + 1, s => (c s).bind fun b => if b = true then (step s).bind fun s' => whT c step n s' else some s
theorem whT_ev {E : σ → List Kn.Slot} {tc : σ → Option Bool} {step : σ → Option σ} (hc : ∀ s, Ev .sh c (E s) st (tc s)) (hf : ∀ s, Ru false (fun s => (.nx, E s, st)) f (E s) st (step s)) : ∀ (n : Nat) (s : σ),
    whL c f n (E s) st = (whT tc step n s).map fun s => (.nx, E s, st)
  | 0, s => rfl
  | n + 1, s => by
    have h0 := hc s
    have h1 := hf s
    unfold Ev at h0; unfold Ru at h1
    rw [whL, h0, whT]
    cases tc s with
    | none => rfl
    | some b =>
      cases b with
      | false => rfl
      | true =>
        show ((f (E s) st).bind _) = ((step s).bind _).map _
        cases hs : step s with
        | none =>
          rw [hs] at h1
          cases hx : f (E s) st with
          | none => rfl
          | some p => rw [hx] at h1; cases h1
        | some s' =>
          rw [hs] at h1
          cases hx : f (E s) st with
          | none => rw [hx] at h1; cases h1
          | some p =>
            rw [hx] at h1
            have h1 := nrm_nx (Option.some.inj h1)
            subst h1
            exact whT_ev hc hf n s'
theorem rn_whl {E : σ → List Kn.Slot} {tc : σ → Option Bool} {step : σ → Option σ} {s0 : σ} (he : env = E s0) (hc : ∀ s, Ev .sh c (E s) st (tc s)) (hf : ∀ s, Ru false (fun s => (.nx, E s, st)) f (E s) st (step s)) : Rn E (sWhl n c f) env st (whT tc step n s0) := by
  unfold Rn sWhl
  rw [he]
  exact whT_ev hc hf n s0
/-! what is one's own is changed -/
def appG (l : List α) (x : α) : Option (List α) := if l.length < sizeLine then some (l ++ [x]) else none
theorem appG_of {l : List α} {x : α} (h : l.length ≤ 1000) : appG l x = some (l ++ [x]) := if_pos (x_sz2 h)
theorem mutp {m m' : List α} {fm : List D → List D → Option (List D)} {l : List α} (he : env[i]? = some (.ow (en l))) (ha : EvAp as env st ds) (hm : fm ds (l.map en) = some (m'.map en)) (hr : Ru fn enc g (env.set i (.ow (en m'))) st t) : Ru fn enc (sSeq (sMut i fm as) g) env st t := by
  unfold EvAp at ha; unfold Ru at hr ⊢
  have : sSeq (sMut i fm as) g env st = g (env.set i (.ow (en m'))) st := by
    rw [x_seq, x_mut, ha]
    show (((valsR (ds.map .sh)).bind _).bind _) = _
    rw [vals_sh]
    show ((match env[i]? with | some (.ow (.lst es)) => (fm ds es).map fun ds' => (Out.nx, env.set i (.ow (.lst ds')), st) | _ => none).bind _) = _
    rw [he]
    show (((fm ds (l.map en)).map fun ds' => (Out.nx, env.set i (.ow (.lst ds')), st)).bind _) = _
    rw [hm]; rfl
  rw [this]; exact hr
theorem mutn {fm : List D → List D → Option (List D)} {l : List α} (he : env[i]? = some (.ow (en l))) (ha : EvAp as env st ds) (hm : fm ds (l.map en) = none) : Ru fn enc (sSeq (sMut i fm as) g) env st none := by
  unfold EvAp at ha; unfold Ru
  rw [x_seq, x_mut, ha]
  show (((((valsR (ds.map .sh)).bind _).bind _) : Option Outs).map _) = _
  rw [vals_sh]
  show (((match env[i]? with | some (.ow (.lst es)) => (fm ds es).map fun ds' => (Out.nx, env.set i (.ow (.lst ds')), st) | _ => none).bind _ : Option Outs).map _) = _
  rw [he]
  show ((((fm ds (l.map en)).map fun ds' => (Out.nx, env.set i (.ow (.lst ds')), st)).bind _ : Option Outs).map _) = _
  rw [hm]; rfl
theorem ru_mut {fm : List D → List D → Option (List D)} {l : List α} {T : List α → Option τ} {m : Option (List α)} (he : env[i]? = some (.ow (en l))) (ha : EvAp as env st ds) (hm : fm ds (l.map en) = m.map fun m' => m'.map en) (hr : ∀ m', Ru fn enc g (env.set i (.ow (en m'))) st (T m')) : Ru fn enc (sSeq (sMut i fm as) g) env st (m.bind T) := by
  cases m with
  | none => exact mutn he ha hm
  | some m' => exact mutp (m := m') he ha hm (hr m')
theorem app_en (l : List α) (x : α) : fApp [en x] (l.map en) = (appG l x).map fun m' => m'.map en := by
  unfold appG
  rw [x_app, List.length_map]
  split <;> simp
theorem ru_appp {l : List α} {T : List α → Option τ} (he : env[i]? = some (.ow (en l))) (ha : Ev k a env st (some x)) (hk : k.ok = true) (hr : ∀ m', Ru fn enc g (env.set i (.ow (en m'))) st (T m')) : Ru fn enc (sSeq (sMut i fApp (aCons a aNil)) g) env st ((appG l x).bind T) := ru_mut he (ea_p ha hk ea_nil) (app_en l x) hr
theorem ru_appx {l : List α} {T : List α → Option τ} (he : env[i]? = some (.ow (en l))) (ha : Ev k a env st tx) (hk : k.ok = true) (hr : ∀ m', Ru fn enc g (env.set i (.ow (en m'))) st (T m')) : Ru fn enc (sSeq (sMut i fApp (aCons a aNil)) g) env st (tx.bind fun x => (appG l x).bind T) := by
  cases tx with
  | none =>
    have := ea_xp ha hk (ea_nil (env := env) (st := st))
    unfold EvA at this
    unfold Ru
    rw [x_seq, x_mut, this]; rfl
  | some x => exact ru_appp he ha hk hr
theorem ru_clr {l : List α} (he : env[i]? = some (.ow (en l))) (hr : Ru fn enc g (env.set i (.ow (en ([] : List α)))) st t) : Ru fn enc (sSeq (sMut i fClr aNil) g) env st t := mutp (m := l) he ea_nil rfl hr
open Classical in
noncomputable def popT (l : List α) : Option (List α) := if l = [] then none else some l.dropLast
theorem ru_pop {l : List α} {T : List α → Option τ} (he : env[i]? = some (.ow (en l))) (hr : ∀ m', Ru fn enc g (env.set i (.ow (en m'))) st (T m')) : Ru fn enc (sSeq (sMut i fPop aNil) g) env st ((popT l).bind T) := by
  refine ru_mut he ea_nil ?_ hr
  unfold popT
  rw [x_pop]
  cases l with
  | nil => simp
  | cons x l => simp [List.map_dropLast]
structure InsC (n : Nat) (j : Int) : Prop where
  h : n < sizeLine ∧ 0 ≤ j ∧ j < 2 ^ 63
open Classical in
noncomputable def insG (l : List α) (j : Int) (x : α) : Option (List α) := if InsC l.length j then some (l.take j.toNat ++ [x] ++ l.drop j.toNat) else none
theorem insG_of {l : List α} {j : Int} {x : α} (h : l.length ≤ 1000) (h0 : 0 ≤ j) (h1 : j ≤ 2 ^ 40) : insG l j x = some (l.take j.toNat ++ [x] ++ l.drop j.toNat) := if_pos ⟨x_sz2 h, h0, by omega⟩
theorem ins_en {l : List α} {j : Int} : fIns [en j, en x] (l.map en) = (insG l j x).map fun m' => m'.map en := by
  unfold insG
  show (if (l.map en).length < sizeLine ∧ 0 ≤ j ∧ j < 2 ^ 63 then some ((l.map en).take j.toNat ++ [en x] ++ (l.map en).drop j.toNat) else none) = _
  rw [List.length_map]
  by_cases h : l.length < sizeLine ∧ 0 ≤ j ∧ j < 2 ^ 63
  · rw [if_pos h, if_pos ⟨h⟩]; simp
  · rw [if_neg h, if_neg fun q => h q.h]; rfl
theorem ru_insp {l : List α} {j : Int} {T : List α → Option τ} (he : env[i]? = some (.ow (en l))) (hb : Ev k1 b env st (some j)) (hk1 : k1.ok = true) (ha : Ev k a env st (some x)) (hk : k.ok = true) (hr : ∀ m', Ru fn enc g (env.set i (.ow (en m'))) st (T m')) : Ru fn enc (sSeq (sMut i fIns (aCons b (aCons a aNil))) g) env st ((insG l j x).bind T) :=
  ru_mut he (ea_p hb hk1 (ea_p ha hk ea_nil)) ins_en hr
theorem ru_insx {l : List α} {tj : Option Int} {T : List α → Option τ} (he : env[i]? = some (.ow (en l))) (hb : Ev k1 b env st tj) (hk1 : k1.ok = true) (ha : Ev k a env st (some x)) (hk : k.ok = true) (hr : ∀ m', Ru fn enc g (env.set i (.ow (en m'))) st (T m')) : Ru fn enc (sSeq (sMut i fIns (aCons b (aCons a aNil))) g) env st (tj.bind fun j => (insG l j x).bind T) := by
  cases tj with
  | none =>
    have := ea_xp hb hk1 (ea_p ha hk (ea_nil (env := env) (st := st)))
    unfold EvA at this
    unfold Ru
    rw [x_seq, x_mut, this]; rfl
  | some j => exact ru_insp he hb hk1 ha hk hr
def setG (l : List α) (j : Int) (x : α) : Option (List α) := (ixN l.length j).map fun k => l.set k x
theorem setItm_en (l : List α) (j : Int) (x : α) : setItm (.lst (l.map en)) (.int j) (en x) = (setG l j x).map fun m => en m := by
  show ((ixN (l.map en).length j).map fun k => D.lst ((l.map en).set k (en x))) = _
  unfold setG
  rw [List.length_map]
  cases ixN l.length j with
  | none => rfl
  | some k => show some (D.lst ((l.map en).set k (en x))) = _; rw [← List.map_set]; rfl
theorem ru_subxx {l : List α} {tj : Option Int} {T : List α → Option τ} (he : env[i]? = some (.ow (en l))) (ha : Ev k a env st tx) (hk : k.ok = true) (hb : Ev k1 b env st tj) (hr : ∀ m', Ru fn enc g (env.set i (.ow (en m'))) st (T m')) : Ru fn enc (sSeq (sSub i b a) g) env st (tx.bind fun x => tj.bind fun j => (setG l j x).bind T) := by
  unfold Ev at ha hb; unfold Ru
  rw [x_seq, x_sub, ha]
  cases tx with
  | none => rfl
  | some x =>
    show ((((b env st).bind fun q => match (k.r (en x)).pin, env[i]? with | .sh d, some (.ow c) => (setItm c q.1.d d).map fun c' => (Out.nx, env.set i (.ow c'), q.2) | _, _ => none).bind _ : Option Outs).map _) = _
    rw [hb]
    cases tj with
    | none => rfl
    | some j =>
      show (((match (k.r (en x)).pin, env[i]? with | .sh d, some (.ow c) => (setItm c (k1.r (en j)).d d).map fun c' => (Out.nx, env.set i (.ow c'), st) | _, _ => none).bind _ : Option Outs).map _) = _
      rw [Kx.pin hk, he, Kx.rd]
      show ((((setItm (.lst (l.map en)) (.int j) (en x)).map fun c' => (Out.nx, env.set i (.ow c'), st)).bind _ : Option Outs).map _) = _
      rw [setItm_en]
      cases hs : setG l j x with
      | none => simp [hs]
      | some m' =>
        have := hr m'
        unfold Ru at this
        simpa [hs] using this
theorem ru_subpp {l : List α} {j : Int} {T : List α → Option τ} (he : env[i]? = some (.ow (en l))) (ha : Ev k a env st (some x)) (hk : k.ok = true) (hb : Ev k1 b env st (some j)) (hr : ∀ m', Ru fn enc g (env.set i (.ow (en m'))) st (T m')) : Ru fn enc (sSeq (sSub i b a) g) env st ((setG l j x).bind T) := ru_subxx he ha hk hb hr
theorem ru_subxp {l : List α} {j : Int} {T : List α → Option τ} (he : env[i]? = some (.ow (en l))) (ha : Ev k a env st tx) (hk : k.ok = true) (hb : Ev k1 b env st (some j)) (hr : ∀ m', Ru fn enc g (env.set i (.ow (en m'))) st (T m')) : Ru fn enc (sSeq (sSub i b a) g) env st (tx.bind fun x => (setG l j x).bind T) := ru_subxx he ha hk hb hr
theorem ru_subpx {l : List α} {tj : Option Int} {T : List α → Option τ} (he : env[i]? = some (.ow (en l))) (ha : Ev k a env st (some x)) (hk : k.ok = true) (hb : Ev k1 b env st tj) (hr : ∀ m', Ru fn enc g (env.set i (.ow (en m'))) st (T m')) : Ru fn enc (sSeq (sSub i b a) g) env st (tj.bind fun j => (setG l j x).bind T) := ru_subxx he ha hk hb hr
/-! rows of one's own -/
def app2G (l : List (List α)) (j : Int) (x : α) : Option (List (List α)) := (ixN l.length j).bind fun k => (l[k]?).bind fun r => if r.length < sizeLine then some (l.set k (r ++ [x])) else none
theorem app2_en (l : List (List α)) (j : Int) (x : α) : app2 (l.map fun r => r.map en) j [en x] = (app2G l j x).map fun m => m.map fun r => r.map en := by
  unfold app2 app2G
  rw [List.length_map]
  cases ixN l.length j with
  | none => rfl
  | some k =>
    show (((l.map fun r => r.map en)[k]?).bind fun ds => if ds.length < sizeLine then some ((l.map fun r => r.map en).set k (ds ++ [en x])) else none) = _
    rw [List.getElem?_map]
    cases hk : l[k]? with
    | none => simp [hk]
    | some r =>
      simp only [hk, Option.map_some, Option.bind_some, List.length_map]
      split
      · simp [List.map_set]
      · simp
theorem ru_app2 {l : List (List α)} {T : List (List α) → Option τ} {tj : Option Int} (he : env[i]? = some (o2S l)) (hb : Ev k1 b env st tj) (ha : Ev k a (env.set i .no) st tx) (hk : k.ok = true) (hr : ∀ m', Ru fn enc g (env.set i (o2S m')) st (T m')) : Ru fn enc (sSeq (sApp2 i b (aCons a aNil)) g) env st (tj.bind fun j => tx.bind fun x => (app2G l j x).bind T) := by
  unfold Ev at hb
  unfold Ru
  rw [x_seq]
  unfold sApp2
  rw [hb]
  cases tj with
  | none => rfl
  | some j =>
    show ((((aCons a aNil (env.set i .no) st).bind fun q => (valsR q.1).bind fun xs => match (k1.r (en j)).d, (env[i]? : Option Kn.Slot) with | .int j, some (.o2 dss) => (app2 dss j xs).map fun dss' => (Out.nx, env.set i (.o2 dss'), q.2) | _, _ => none).bind _ : Option Outs).map _) = _
    cases tx with
    | none =>
      have := ea_xp ha hk (ea_nil (env := env.set i .no) (st := st))
      unfold EvA at this
      rw [this]; rfl
    | some x =>
      have := ea_p ha hk (ea_nil (env := env.set i .no) (st := st))
      unfold EvAp at this
      rw [this]
      show ((((valsR ([en x].map .sh)).bind fun xs => match (k1.r (en j)).d, (env[i]? : Option Kn.Slot) with | .int j, some (.o2 dss) => (app2 dss j xs).map fun dss' => (Out.nx, env.set i (.o2 dss'), st) | _, _ => none).bind _ : Option Outs).map _) = _
      rw [vals_sh, Kx.rd]
      show (((match en j, (env[i]? : Option Kn.Slot) with | .int j, some (.o2 dss) => (app2 dss j [en x]).map fun dss' => (Out.nx, env.set i (.o2 dss'), st) | _, _ => none).bind _ : Option Outs).map _) = _
      rw [he]
      show ((((app2 (l.map fun r => r.map en) j [en x]).map fun dss' => (Out.nx, env.set i (.o2 dss'), st)).bind _ : Option Outs).map _) = _
      rw [app2_en]
      cases hs : app2G l j x with
      | none => simp [hs]
      | some m' =>
        have := hr m'
        unfold Ru at this
        simpa [hs, o2S] using this
theorem ru_emp {it : SemI} {vs : List Nat} {o : SemG} {tl : Option (List β)} {T : List (List α) → Option τ} (hi : EvI it env st tl) (hv : vs.all (fun j => (env[j]?.map Slot.okW).getD true) = true) (ho : ∀ x : β, (o (en x) (wipeE env vs)).isSome = true) (hil : i < env.length) (hr : ∀ m' : List (List α), Ru fn enc g (env.set i (o2S m')) st (T m')) : Ru fn enc (sSeq (sEmp i it vs o) g) env st (tl.bind fun l => (szG (l.map fun _ => ([] : List α))).bind T) := by
  unfold EvI at hi; unfold Ru
  rw [x_seq]
  unfold sEmp
  rw [hi]
  cases tl with
  | none => rfl
  | some l =>
    have hall : (l.map en).all (fun d => (o d (wipeE env vs)).isSome) = true := by
      rw [List.all_map, List.all_eq_true]; intro x _; exact ho x
    show (((if vs.all (fun j => (env[j]?.map Slot.okW).getD true) = true ∧ (l.map en).all (fun d => (o d (wipeE env vs)).isSome) = true ∧ (l.map en).length ≤ sizeLine ∧ i < env.length then some (Out.nx, env.set i (.o2 (List.replicate (l.map en).length [])), st) else none).bind _ : Option Outs).map _) = (((szG (l.map fun _ => ([] : List α))).bind T).map _)
    unfold szG
    rw [hv, hall, List.length_map, List.length_map]
    by_cases hz : l.length ≤ sizeLine
    · rw [if_pos ⟨rfl, rfl, hz, hil⟩, if_pos hz]
      have := hr (l.map fun _ => ([] : List α))
      unfold Ru o2S at this
      have e : List.replicate l.length ([] : List D) = (l.map fun _ => ([] : List α)).map fun r => r.map en := by
        rw [List.map_map]
        show _ = l.map fun _ => ([] : List D)
        rw [List.map_const']
      rw [e]
      exact this
    · rw [if_neg (fun q => hz q.2.2.1), if_neg hz]; rfl
/-! a def by its body -/
def encF [En ρ] (k : Kx) (st : Sto) : ρ → Outs := fun r => (.rt (k.r (en r)), [], st)
theorem ev_fn [En ρ] {m : Nat} {b : SemS} {t : Option ρ} (h : Ru true (encF k st) b (ds.map .sh ++ List.replicate (m - ds.length) .no) st t) : runB m b ds st = t.map fun r => (k.r (en r), st) := by
  unfold Ru at h
  unfold runB
  cases hb : b (ds.map .sh ++ List.replicate (m - ds.length) .no) st with
  | none =>
    rw [hb] at h
    cases t with
    | none => rfl
    | some r => cases h
  | some p =>
    rw [hb] at h
    cases t with
    | none => cases h
    | some r =>
      have h := Option.some.inj h
      obtain ⟨o, e, s⟩ := p
      cases o with
      | nx =>
        have h : (Out.rt (.sh .non), [], s) = ((.rt (k.r (en r)), [], st) : Outs) := h
        injection h with h1 h2
        injection h2 with h2 h3
        injection h1 with h1
        show some (Kn.R.sh .non, s) = some (k.r (en r), st)
        rw [h1, h3]
      | rt r0 =>
        have h : (Out.rt r0.outR, [], s) = ((.rt (k.r (en r)), [], st) : Outs) := h
        injection h with h1 h2
        injection h2 with h2 h3
        injection h1 with h1
        show some (r0.outR, s) = some (k.r (en r), st)
        rw [h1, h3]
      | bk => cases h
      | ct => cases h
end
end Kn
namespace Kn
open PySem L2
/-! ### typed operations -/
open En
section
variable {α β γ δ ε σ ρ τ : Type} [En α] [En β] [En γ] [En δ] [En ε]
variable {k k1 k2 k3 : Kx} {env env' : List Kn.Slot} {st : Sto} {e a b c : Sem} {i j n : Nat} {x x' : α} {y : β} {tx : Option α} {ty : Option β}
theorem o2_add : Op2 (α := Int) (β := Int) .sh fAdd fun i j => some (i + j) := fun _ _ => rfl
theorem o2_sub : Op2 (α := Int) (β := Int) .sh (fI gSub') fun i j => some (i - j) := fun _ _ => rfl
theorem o2_mul : Op2 (α := Int) (β := Int) .sh fMul fun i j => gMul i j := fun _ _ => rfl
theorem o2_I (g : Int → Int → Option Int) : Op2 (α := Int) (β := Int) .sh (fI g) fun i j => g i j := fun _ _ => rfl
theorem o2_div : Op2 (α := Int) (β := Int) .sh (fI gDiv) fun i j => gDiv i j := o2_I _
theorem o2_mod : Op2 (α := Int) (β := Int) .sh (fI gMod) fun i j => gMod i j := o2_I _
theorem o2_pow : Op2 (α := Int) (β := Int) .sh (fI gPow) fun i j => gPow i j := o2_I _
theorem o2_shl : Op2 (α := Int) (β := Int) .sh (fI gShl) fun i j => gShl i j := o2_I _
theorem o2_shr : Op2 (α := Int) (β := Int) .sh (fI gShr) fun i j => gShr i j := o2_I _
theorem o2_band : Op2 (α := Int) (β := Int) .sh (fI fun i j => some (Builtin.bitAnd i j)) fun i j => some (Builtin.bitAnd i j) := o2_I _
theorem o2_max : Op2 (α := Int) (β := Int) .sh (fI fun i j => some (if j > i then j else i)) fun i j => some (if j > i then j else i) := o2_I _
theorem o2_min : Op2 (α := Int) (β := Int) .sh (fI fun i j => some (if j < i then j else i)) fun i j => some (if j < i then j else i) := o2_I _
theorem o1_neg : Op1 (α := Int) .sh fNeg fun i => some (-i) := fun _ => rfl
theorem o2_C (g : Int → Int → Bool) : Op2 (α := Int) (β := Int) .sh (fC g) fun i j => some (g i j) := fun _ _ => rfl
theorem o2_lt : Op2 (α := Int) (β := Int) .sh fLt fun i j => some (decide (i < j)) := o2_C _
theorem o2_le : Op2 (α := Int) (β := Int) .sh fLe fun i j => some (decide (i ≤ j)) := o2_C _
theorem o2_gt : Op2 (α := Int) (β := Int) .sh fGt fun i j => some (decide (j < i)) := o2_C _
theorem o2_ge : Op2 (α := Int) (β := Int) .sh fGe fun i j => some (decide (j ≤ i)) := o2_C _
/-- division and rest by a small written number -/
theorem ev_divc {v c : Int} (h0 : 0 < c) (h1 : c ≤ 2 ^ 40) (ha : Ev k a env st (some v)) : Ev .sh (e2 (fI gDiv) a (eC (.int c))) env st (some (v / c)) := by
  have := ev_2pp o2_div ha (ev_int c)
  rwa [gDiv_of h0 (Int.lt_of_le_of_lt h1 (by
    have e : (2 : Int) ^ 8000 = ((2 ^ 8000 : Nat) : Int) := (Int.natCast_pow 2 8000).symm
    have : 2 ^ 41 ≤ 2 ^ 8000 := Nat.pow_le_pow_right (by decide) (by decide)
    rw [e]
    generalize 2 ^ 8000 = z at this
    omega))] at this
theorem ev_modc {v c : Int} (h0 : 0 < c) (ha : Ev k a env st (some v)) : Ev .sh (e2 (fI gMod) a (eC (.int c))) env st (some (v % c)) := by
  have := ev_2pp o2_mod ha (ev_int c)
  rwa [show gMod v c = some (v % c) from if_pos h0] at this
theorem ev_divcx {t : Option Int} {c : Int} (h0 : 0 < c) (h1 : c ≤ 2 ^ 40) (ha : Ev k a env st t) : Ev .sh (e2 (fI gDiv) a (eC (.int c))) env st (t.bind fun v => some (v / c)) := by
  cases t with
  | none => unfold Ev at ha ⊢; rw [x_e2, ha]; rfl
  | some v => exact ev_divc h0 h1 ha
theorem ev_modcx {t : Option Int} {c : Int} (h0 : 0 < c) (ha : Ev k a env st t) : Ev .sh (e2 (fI gMod) a (eC (.int c))) env st (t.bind fun v => some (v % c)) := by
  cases t with
  | none => unfold Ev at ha ⊢; rw [x_e2, ha]; rfl
  | some v => exact ev_modc h0 ha
/-- a product by a small written number -/
theorem o1_bool : Op1 (α := Bool) .sh fInt fun p => some (if p = true then (1 : Int) else 0) := fun p => by cases p <;> rfl
theorem o1_int : Op1 (α := Int) .sh fInt fun p => some p := fun _ => rfl
/-! lists -/
def catG (l m : List α) : Option (List α) := if l.length + m.length ≤ sizeLine then some (l ++ m) else none
theorem catG_of {l m : List α} (h : l.length + m.length ≤ 1000) : catG l m = some (l ++ m) := if_pos (x_sz h)
theorem o2_cat : Op2 (α := List α) (β := List α) .ow fAdd fun l m => catG l m := fun l m => by
  show (if (l.map en).length + (m.map en).length ≤ sizeLine then some (Kn.R.ow (.lst (l.map en ++ m.map en))) else none) = (catG l m).map fun c => Kx.ow.r (en c)
  unfold catG
  rw [List.length_map, List.length_map, ← List.map_append]
  split <;> rfl
structure RepC (n : Nat) (k : Int) : Prop where
  h : -(2 ^ 63) ≤ k ∧ k < 2 ^ 63 ∧ n * k.toNat ≤ sizeLine
open Classical in
noncomputable def repG (l : List α) (k : Int) : Option (List α) := if RepC l.length k then some (List.replicate k.toNat l).flatten else none
theorem o2_rep : Op2 (α := List α) (β := Int) .ow fMul fun l k => repG l k := fun l k => by
  show (if -(2 ^ 63) ≤ k ∧ k < 2 ^ 63 ∧ (l.map en).length * k.toNat ≤ sizeLine then some (Kn.R.ow (.lst (List.replicate k.toNat (l.map en)).flatten)) else none) = (repG l k).map fun c => Kx.ow.r (en c)
  unfold repG
  rw [List.length_map]
  by_cases h : -(2 ^ 63) ≤ k ∧ k < 2 ^ 63 ∧ l.length * k.toNat ≤ sizeLine
  · rw [if_pos h, if_pos ⟨h⟩]
    show _ = some (Kn.R.ow (.lst ((List.replicate k.toNat l).flatten.map en)))
    rw [List.map_flatten, List.map_replicate]
  · rw [if_neg h, if_neg fun q => h q.h]; rfl
theorem o1_len : Op1 (α := List α) .sh fLen fun l => some (l.length : Int) := fun l => by
  show some (Kn.R.sh (.int ((l.map en).length : Nat))) = _
  rw [List.length_map]; rfl
theorem o1_lens : Op1 (α := Scr) .sh fLen fun l => some (l.l.length : Int) := fun l => rfl
theorem o1_len2 : Op1 (α := Tp2 α β) .sh fLen fun _ => some (2 : Int) := fun l => rfl
theorem o1_len3 : Op1 (α := Tp3 α β γ) .sh fLen fun _ => some (3 : Int) := fun l => rfl
theorem o1_len4 : Op1 (α := Tp4 α β γ δ) .sh fLen fun _ => some (4 : Int) := fun l => rfl
theorem o1_len5 : Op1 (α := Tp5 α β γ δ ε) .sh fLen fun _ => some (5 : Int) := fun l => rfl
theorem o2_idx : Op2 (α := List α) (β := Int) .sh fIdx fun l i => atI l i := fun l i => by
  show (atI (l.map en) i).map Kn.R.sh = _
  rw [atI_map, Option.map_map]; rfl
theorem o2_idxs : Op2 (α := Scr) (β := Int) .sh fIdx fun l i => atI l.l i := fun l i => rfl
theorem at_en {ds : List D} {i : Int} (h : atI ds i = some (en y)) : (atI ds i).map Kn.R.sh = some (Kn.R.sh (en y)) := by rw [h]; rfl
theorem ev_prj {v : γ} {w : α} {i : Int} (h : fIdx (en w) (.int i) = some (.sh (en v))) (ha : Ev k a env st (some w)) : Ev .sh (e2 fIdx a (eC (.int i))) env st (some v) := by
  unfold Ev at ha ⊢
  rw [x_e2, ha]
  show ((fIdx (k.r (en w)).d (.int i)).map fun r => (r, st)) = _
  rw [Kx.rd, h]; rfl
theorem ev_prjx {F : α → γ} {i : Int} (h : ∀ w, fIdx (en w) (.int i) = some (.sh (en (F w)))) (ha : Ev k a env st tx) : Ev .sh (e2 fIdx a (eC (.int i))) env st (tx.bind fun w => some (F w)) := by
  cases tx with
  | none => unfold Ev at ha ⊢; rw [x_e2, ha]; rfl
  | some w => exact ev_prj (h w) ha
section
variable {w1 : Tp1 α} {w2 : Tp2 α β} {w3 : Tp3 α β γ} {w4 : Tp4 α β γ δ} {w5 : Tp5 α β γ δ ε} {h2 : Hl2 α β} {h3 : Hl3 α β γ}
theorem pj1_0 : fIdx (en w1) (.int 0) = some (.sh (en w1.x0)) := by
  show (atI [en w1.x0] 0).map Kn.R.sh = _
  rw [x_at0]; rfl
theorem pj2_0 : fIdx (en w2) (.int 0) = some (.sh (en w2.x0)) := by
  show (atI [en w2.x0, en w2.x1] 0).map Kn.R.sh = _
  rw [x_at0]; rfl
theorem pj2_1 : fIdx (en w2) (.int 1) = some (.sh (en w2.x1)) := by
  show (atI [en w2.x0, en w2.x1] 1).map Kn.R.sh = _
  rw [x_at1]; rfl
theorem pj3_0 : fIdx (en w3) (.int 0) = some (.sh (en w3.x0)) := by
  show (atI [en w3.x0, en w3.x1, en w3.x2] 0).map Kn.R.sh = _
  rw [x_at0]; rfl
theorem pj3_1 : fIdx (en w3) (.int 1) = some (.sh (en w3.x1)) := by
  show (atI [en w3.x0, en w3.x1, en w3.x2] 1).map Kn.R.sh = _
  rw [x_at1]; rfl
theorem pj3_2 : fIdx (en w3) (.int 2) = some (.sh (en w3.x2)) := by
  show (atI [en w3.x0, en w3.x1, en w3.x2] 2).map Kn.R.sh = _
  rw [x_at2]; rfl
theorem pj4_0 : fIdx (en w4) (.int 0) = some (.sh (en w4.x0)) := by
  show (atI [en w4.x0, en w4.x1, en w4.x2, en w4.x3] 0).map Kn.R.sh = _
  rw [x_at0]; rfl
theorem pj4_1 : fIdx (en w4) (.int 1) = some (.sh (en w4.x1)) := by
  show (atI [en w4.x0, en w4.x1, en w4.x2, en w4.x3] 1).map Kn.R.sh = _
  rw [x_at1]; rfl
theorem pj4_2 : fIdx (en w4) (.int 2) = some (.sh (en w4.x2)) := by
  show (atI [en w4.x0, en w4.x1, en w4.x2, en w4.x3] 2).map Kn.R.sh = _
  rw [x_at2]; rfl
theorem pj4_3 : fIdx (en w4) (.int 3) = some (.sh (en w4.x3)) := by
  show (atI [en w4.x0, en w4.x1, en w4.x2, en w4.x3] 3).map Kn.R.sh = _
  rw [x_at3]; rfl
theorem pj5_0 : fIdx (en w5) (.int 0) = some (.sh (en w5.x0)) := by
  show (atI [en w5.x0, en w5.x1, en w5.x2, en w5.x3, en w5.x4] 0).map Kn.R.sh = _
  rw [x_at0]; rfl
theorem pj5_1 : fIdx (en w5) (.int 1) = some (.sh (en w5.x1)) := by
  show (atI [en w5.x0, en w5.x1, en w5.x2, en w5.x3, en w5.x4] 1).map Kn.R.sh = _
  rw [x_at1]; rfl
theorem pj5_2 : fIdx (en w5) (.int 2) = some (.sh (en w5.x2)) := by
  show (atI [en w5.x0, en w5.x1, en w5.x2, en w5.x3, en w5.x4] 2).map Kn.R.sh = _
  rw [x_at2]; rfl
theorem pj5_3 : fIdx (en w5) (.int 3) = some (.sh (en w5.x3)) := by
  show (atI [en w5.x0, en w5.x1, en w5.x2, en w5.x3, en w5.x4] 3).map Kn.R.sh = _
  rw [x_at3]; rfl
theorem pj5_4 : fIdx (en w5) (.int 4) = some (.sh (en w5.x4)) := by
  show (atI [en w5.x0, en w5.x1, en w5.x2, en w5.x3, en w5.x4] 4).map Kn.R.sh = _
  rw [x_at4]; rfl
theorem qj2_0 : fIdx (en h2) (.int 0) = some (.sh (en h2.x0)) := by
  show (atI [en h2.x0, en h2.x1] 0).map Kn.R.sh = _
  rw [x_at0]; rfl
theorem qj2_1 : fIdx (en h2) (.int 1) = some (.sh (en h2.x1)) := by
  show (atI [en h2.x0, en h2.x1] 1).map Kn.R.sh = _
  rw [x_at1]; rfl
theorem qj3_0 : fIdx (en h3) (.int 0) = some (.sh (en h3.x0)) := by
  show (atI [en h3.x0, en h3.x1, en h3.x2] 0).map Kn.R.sh = _
  rw [x_at0]; rfl
theorem qj3_1 : fIdx (en h3) (.int 1) = some (.sh (en h3.x1)) := by
  show (atI [en h3.x0, en h3.x1, en h3.x2] 1).map Kn.R.sh = _
  rw [x_at1]; rfl
theorem qj3_2 : fIdx (en h3) (.int 2) = some (.sh (en h3.x2)) := by
  show (atI [en h3.x0, en h3.x1, en h3.x2] 2).map Kn.R.sh = _
  rw [x_at2]; rfl
end
/-! slices -/
def EvP (p : SemP) (env : List Kn.Slot) (st : Sto) (t : Option (Option Int)) : Prop := p env st = t.map fun o => (o, st)
theorem ep_no : EvP pNo env st (some none) := rfl
theorem ep_some {t : Option Int} (ha : Ev k a env st t) : EvP (pSome a) env st (t.bind fun v => some (some v)) := by
  unfold Ev at ha; unfold EvP
  rw [x_psome, ha]
  cases t with
  | none => rfl
  | some v =>
    show (match (k.r (.int v)).d with | .int i => some (some i, st) | _ => none) = _
    rw [Kx.rd]; rfl
theorem ep_p {v : Int} (ha : Ev k a env st (some v)) : EvP (pSome a) env st (some (some v)) := ep_some ha
theorem ev_slcx {t : Option (List α)} {lo hi : SemP} {tl th : Option (Option Int)} (ha : Ev k a env st t) (hl : EvP lo env st tl) (hh : EvP hi env st th) : Ev .ow (eSlc a lo hi) env st (t.bind fun l => tl.bind fun u => th.bind fun v => some (cutG l u v)) := by
  unfold Ev at ha; unfold EvP at hl hh; unfold Ev
  rw [x_slc, ha]
  cases t with
  | none => rfl
  | some l =>
    show ((lo env st).bind _) = _
    rw [hl]
    cases tl with
    | none => rfl
    | some u =>
      show ((hi env st).bind _) = _
      rw [hh]
      cases th with
      | none => rfl
      | some v =>
        show ((fSlc (k.r (.lst (l.map en))).d u v).map fun r => (r, st)) = _
        rw [Kx.rd, x_slc1, cutG_map]; rfl
theorem ev_slcp {l : List α} {lo hi : SemP} {u v : Option Int} (ha : Ev k a env st (some l)) (hl : EvP lo env st (some u)) (hh : EvP hi env st (some v)) : Ev .ow (eSlc a lo hi) env st (some (cutG l u v)) := ev_slcx ha hl hh
theorem ev_slcs {l : Scr} {lo hi : SemP} {u v : Option Int} (ha : Ev k a env st (some l)) (hl : EvP lo env st (some u)) (hh : EvP hi env st (some v)) : Ev .ow (eSlc a lo hi) env st (some (cutG l.l u v)) := by
  unfold Ev at ha; unfold EvP at hl hh; unfold Ev
  rw [x_slc, ha]
  show ((lo env st).bind _) = _
  rw [hl]
  show ((hi env st).bind _) = _
  rw [hh]
  show ((fSlc (k.r (.scr l.l)).d u v).map fun r => (r, st)) = _
  rw [Kx.rd]; rfl
theorem ev_slct {v : γ} {w : α} {lo hi : SemP} {u z : Option Int} (h : fSlc (en w) u z = some (.sh (en v))) (ha : Ev k a env st (some w)) (hl : EvP lo env st (some u)) (hh : EvP hi env st (some z)) : Ev .sh (eSlc a lo hi) env st (some v) := by
  unfold Ev at ha; unfold EvP at hl hh; unfold Ev
  rw [x_slc, ha]
  show ((lo env st).bind _) = _
  rw [hl]
  show ((hi env st).bind _) = _
  rw [hh]
  show ((fSlc (k.r (en w)).d u z).map fun r => (r, st)) = _
  rw [Kx.rd, h]; rfl
theorem ev_slctx {F : α → γ} {lo hi : SemP} {u z : Option Int} (h : ∀ w, fSlc (en w) u z = some (.sh (en (F w)))) (ha : Ev k a env st tx) (hl : EvP lo env st (some u)) (hh : EvP hi env st (some z)) : Ev .sh (eSlc a lo hi) env st (tx.bind fun w => some (F w)) := by
  cases tx with
  | none => unfold Ev at ha ⊢; rw [x_slc, ha]; rfl
  | some w => exact ev_slct (h w) ha hl hh
theorem sl4_3 (w : Tp4 α β γ δ) : fSlc (en w) none (some 3) = some (.sh (en (⟨w.x0, w.x1, w.x2⟩ : Tp3 α β γ))) := rfl
theorem sl5_3 (w : Tp5 α β γ δ ε) : fSlc (en w) none (some 3) = some (.sh (en (⟨w.x0, w.x1, w.x2⟩ : Tp3 α β γ))) := rfl
theorem sl5_2 (w : Tp5 α β γ δ ε) : fSlc (en w) none (some 2) = some (.sh (en (⟨w.x0, w.x1⟩ : Tp2 α β))) := rfl
theorem sl3_2 (w : Tp3 α β γ) : fSlc (en w) none (some 2) = some (.sh (en (⟨w.x0, w.x1⟩ : Tp2 α β))) := rfl
theorem o1_list : Op1 (α := List α) .ow fLofs fun l => some l := fun _ => rfl
theorem o1_lists : Op1 (α := Scr) .ow fLofs fun l => some l.l := fun _ => rfl
theorem o1_list2 : Op1 (α := Tp2 α α) .ow fLofs fun l => some [l.x0, l.x1] := fun _ => rfl
theorem o1_list3 : Op1 (α := Tp3 α α α) .ow fLofs fun l => some [l.x0, l.x1, l.x2] := fun _ => rfl
theorem o1_list5 : Op1 (α := Tp5 α α α α α) .ow fLofs fun l => some [l.x0, l.x1, l.x2, l.x3, l.x4] := fun _ => rfl
theorem o1_lrev : Op1 (α := List α) .ow fLrev fun l => some l.reverse := fun l => by
  show some (Kn.R.ow (.lst (l.map en).reverse)) = _
  rw [← List.map_reverse]; rfl
theorem o1_rev : Op1 (α := List α) .ow fRev fun l => some l.reverse := fun l => by
  show some (Kn.R.ow (.lst (l.map en).reverse)) = _
  rw [← List.map_reverse]; rfl
open Classical in
noncomputable def lrgG (j : Int) : Option (List Int) := if Rg j ∧ j ≤ 1000 then some (rngI 0 j.toNat) else none
theorem lrgG_of {j : Int} (h : j.natAbs ≤ 1000) : lrgG j = some (rngI 0 j.toNat) := if_pos ⟨.of (by omega), by omega⟩
theorem ev_lrgp {v : Int} (ha : Ev k a env st (some v)) : Ev .ow (eLrg a) env st (lrgG v) := by
  unfold Ev at ha ⊢; unfold eLrg
  rw [ha]
  show (match (k.r (.int v)).d with | .int j => if Rg j ∧ j ≤ 1000 then some (Kn.R.ow (.lst (rngD 0 j.toNat)), st) else none | _ => none) = _
  rw [Kx.rd]
  show (if Rg v ∧ v ≤ 1000 then some (Kn.R.ow (.lst (rngD 0 v.toNat)), st) else none) = _
  unfold lrgG
  split
  · rw [rngD_en]; rfl
  · rfl
theorem ev_lrgx {t : Option Int} (ha : Ev k a env st t) : Ev .ow (eLrg a) env st (t.bind fun v => lrgG v) := by
  cases t with
  | none => unfold Ev at ha ⊢; unfold eLrg; rw [ha]; rfl
  | some v => exact ev_lrgp ha
/-! all, any, sum, least, greatest -/
theorem o1_all : Op1 (α := List Bool) .sh (fBls fun ns => some (.sh (.bl (ns.all id)))) fun l => some (l.all id) := fun l => by
  show ((blsL (l.map D.bl)).bind _) = _
  rw [blsL_map]; rfl
theorem o1_any : Op1 (α := List Bool) .sh (fBls fun ns => some (.sh (.bl (ns.any id)))) fun l => some (l.any id) := fun l => by
  show ((blsL (l.map D.bl)).bind _) = _
  rw [blsL_map]; rfl
theorem o1_sum : Op1 (α := List Int) .sh (fInts fun ns => some (.sh (.int ns.sum))) fun l => some l.sum := fun l => by
  show ((intsL (l.map D.int)).bind _) = _
  rw [intsL_map]; rfl
def minG : List Int → Option Int
  | [] => none
  | n :: ns => some (minI n ns)
def maxG : List Int → Option Int
  | [] => none
  | n :: ns => some (maxI n ns)
theorem o1_minL : Op1 (α := List Int) .sh fMinL fun l => minG l := fun l => by
  show ((intsL (l.map D.int)).bind _) = _
  rw [intsL_map]; cases l <;> rfl
theorem o1_maxL : Op1 (α := List Int) .sh fMaxL fun l => maxG l := fun l => by
  show ((intsL (l.map D.int)).bind _) = _
  rw [intsL_map]; cases l <;> rfl
/-! None -/
theorem o1_isN : Op1 (α := Option Int) .sh fIsN fun o => some o.isNone := fun o => by cases o <;> rfl
theorem o1_ntN : Op1 (α := Option Int) .sh fNotN fun o => some o.isSome := fun o => by cases o <;> rfl
theorem o1_isNl : Op1 (α := Option (List α)) .sh fIsN fun o => some o.isNone := fun o => by cases o <;> rfl
theorem o1_ntNl : Op1 (α := Option (List α)) .sh fNotN fun o => some o.isSome := fun o => by cases o <;> rfl
theorem o1_isN2 : Op1 (α := Option (Tp2 α β)) .sh fIsN fun o => some o.isNone := fun o => by cases o <;> rfl
theorem o1_ntN2 : Op1 (α := Option (Tp2 α β)) .sh fNotN fun o => some o.isSome := fun o => by cases o <;> rfl
theorem o1_isN4 : Op1 (α := Option (Tp4 α β γ δ)) .sh fIsN fun o => some o.isNone := fun o => by cases o <;> rfl
theorem o1_ntN4 : Op1 (α := Option (Tp4 α β γ δ)) .sh fNotN fun o => some o.isSome := fun o => by cases o <;> rfl
/-! kinds -/
theorem o1_isi_int : Op1 (α := Int) .sh (fIsi "int") fun _ => some true := fun i => x_isi_ii
theorem o1_isi_int_b : Op1 (α := Int) .sh (fIsi "bool") fun _ => some false := fun i => x_isi_bi
theorem o1_isi_bool : Op1 (α := Bool) .sh (fIsi "bool") fun _ => some true := fun i => x_isi_bb
theorem o1_isi_bool_i : Op1 (α := Bool) .sh (fIsi "int") fun _ => some true := fun i => x_isi_ib
theorem o1_isi_list : Op1 (α := List α) .sh (fIsi "list") fun _ => some true := fun i => x_isi_ll
theorem o1_isi_tup2 : Op1 (α := Tp2 α β) .sh (fIsi "tuple") fun _ => some true := fun i => x_isi_tt
theorem o1_isi_tup3 : Op1 (α := Tp3 α β γ) .sh (fIsi "tuple") fun _ => some true := fun i => x_isi_tt
theorem o1_isi_tup4 : Op1 (α := Tp4 α β γ δ) .sh (fIsi "tuple") fun _ => some true := fun i => x_isi_tt
theorem o1_isi_tup5 : Op1 (α := Tp5 α β γ δ ε) .sh (fIsi "tuple") fun _ => some true := fun i => x_isi_tt
theorem kit_none_int : kitB "NoneType" "int" = some false := by decide +kernel
theorem kit_none_bool : kitB "NoneType" "bool" = some false := by decide +kernel
theorem kit_none_list : kitB "NoneType" "list" = some false := by decide +kernel
theorem kit_none_tup : kitB "NoneType" "tuple" = some false := by decide +kernel
theorem o1_isi_opt_int : Op1 (α := Option Int) .sh (fIsi "int") fun o => some o.isSome := fun o => by
  cases o with
  | none => show ((some "NoneType").bind fun t => (kitB t "int").map fun b => Kn.R.sh (.bl b)) = _; rw [Option.bind_some, kit_none_int]; rfl
  | some i => exact x_isi_ii
theorem o1_isi_opt_int_b : Op1 (α := Option Int) .sh (fIsi "bool") fun o => some false := fun o => by
  cases o with
  | none => show ((some "NoneType").bind fun t => (kitB t "bool").map fun b => Kn.R.sh (.bl b)) = _; rw [Option.bind_some, kit_none_bool]; rfl
  | some i => exact x_isi_bi
theorem o1_isi_opt_list : Op1 (α := Option (List α)) .sh (fIsi "list") fun o => some o.isSome := fun o => by
  cases o with
  | none => show ((some "NoneType").bind fun t => (kitB t "list").map fun b => Kn.R.sh (.bl b)) = _; rw [Option.bind_some, kit_none_list]; rfl
  | some i => exact x_isi_ll
theorem o1_isi_opt_tup2 : Op1 (α := Option (Tp2 α β)) .sh (fIsi "tuple") fun o => some o.isSome := fun o => by
  cases o with
  | none => show ((some "NoneType").bind fun t => (kitB t "tuple").map fun b => Kn.R.sh (.bl b)) = _; rw [Option.bind_some, kit_none_tup]; rfl
  | some i => exact x_isi_tt
theorem o1_isi_opt_tup4 : Op1 (α := Option (Tp4 α β γ δ)) .sh (fIsi "tuple") fun o => some o.isSome := fun o => by
  cases o with
  | none => show ((some "NoneType").bind fun t => (kitB t "tuple").map fun b => Kn.R.sh (.bl b)) = _; rw [Option.bind_some, kit_none_tup]; rfl
  | some i => exact x_isi_tt
end
/-! equality -/
class EnE (α : Type) [En α] where
  dep : Nat
  pn : ∀ a : α, (En.en a).Pn dep
  inj : ∀ a b : α, En.en a = En.en b → a = b
section
open En
variable {α β γ δ ε : Type} [En α] [En β] [En γ] [En δ] [En ε] [EnE α] [EnE β] [EnE γ] [EnE δ] [EnE ε]
instance : EnE Int := ⟨0, fun i => Pn_int i, fun a b h => D.int.inj h⟩
theorem map_en_inj : ∀ {l m : List α}, l.map en = m.map en → l = m
  | [], [], _ => rfl
  | [], _ :: _, h => by cases h
  | _ :: _, [], h => by cases h
  | x :: xs, y :: ys, h => by
    rw [List.map_cons, List.map_cons, List.cons.injEq] at h
    rw [EnE.inj _ _ h.1, map_en_inj h.2]
instance : EnE (List α) := ⟨EnE.dep α + 1, fun l => Pn_lst fun d hd => by obtain ⟨a, _, rfl⟩ := List.mem_map.mp hd; exact EnE.pn a, fun a b h => map_en_inj (D.lst.inj h)⟩
class EnN (α : Type) [En α] : Prop where
  nn : ∀ a : α, En.en a ≠ .non
instance : EnN Int := ⟨fun _ h => nomatch h⟩
instance {α : Type} [En α] : EnN (List α) := ⟨fun _ h => nomatch h⟩
instance {α β : Type} [En α] [En β] : EnN (Tp2 α β) := ⟨fun _ h => nomatch h⟩
instance {α β γ : Type} [En α] [En β] [En γ] : EnN (Tp3 α β γ) := ⟨fun _ h => nomatch h⟩
instance {α β γ δ : Type} [En α] [En β] [En γ] [En δ] : EnN (Tp4 α β γ δ) := ⟨fun _ h => nomatch h⟩
instance [EnN α] : EnE (Option α) := ⟨EnE.dep α, fun o => by cases o with | none => exact Pn_non | some a => exact EnE.pn a, fun a b h => by
  cases a with
  | none => cases b with
    | none => rfl
    | some b => exact (EnN.nn b h.symm).elim
  | some a => cases b with
    | none => exact (EnN.nn a h).elim
    | some b => exact congrArg some (EnE.inj a b h)⟩
instance : EnE (Tp2 α β) := ⟨max (EnE.dep α) (EnE.dep β) + 1, fun p => Pn_tup fun d hd => by
    simp only [List.mem_cons, List.not_mem_nil, or_false] at hd
    rcases hd with rfl | rfl
    · exact Pn_mono (EnE.pn _) (by omega)
    · exact Pn_mono (EnE.pn _) (by omega),
  fun a b h => by
    have h := D.tup.inj h
    simp only [List.cons.injEq, and_true] at h
    cases a; cases b
    have e0 := EnE.inj _ _ h.1
    have e1 := EnE.inj _ _ h.2
    dsimp only at e0 e1
    subst e0 e1
    rfl⟩
instance : EnE (Tp3 α β γ) := ⟨EnE.dep α + EnE.dep β + EnE.dep γ + 1, fun p => Pn_tup fun d hd => by
    simp only [List.mem_cons, List.not_mem_nil, or_false] at hd
    rcases hd with rfl | rfl | rfl
    · exact Pn_mono (EnE.pn _) (by omega)
    · exact Pn_mono (EnE.pn _) (by omega)
    · exact Pn_mono (EnE.pn _) (by omega),
  fun a b h => by
    have h := D.tup.inj h
    simp only [List.cons.injEq, and_true] at h
    cases a; cases b
    have e0 := EnE.inj _ _ h.1
    have e1 := EnE.inj _ _ h.2.1
    have e2 := EnE.inj _ _ h.2.2
    dsimp only at e0 e1 e2
    subst e0 e1 e2
    rfl⟩
instance : EnE (Tp4 α β γ δ) := ⟨EnE.dep α + EnE.dep β + EnE.dep γ + EnE.dep δ + 1, fun p => Pn_tup fun d hd => by
    simp only [List.mem_cons, List.not_mem_nil, or_false] at hd
    rcases hd with rfl | rfl | rfl | rfl
    · exact Pn_mono (EnE.pn _) (by omega)
    · exact Pn_mono (EnE.pn _) (by omega)
    · exact Pn_mono (EnE.pn _) (by omega)
    · exact Pn_mono (EnE.pn _) (by omega),
  fun a b h => by
    have h := D.tup.inj h
    simp only [List.cons.injEq, and_true] at h
    cases a; cases b
    have e0 := EnE.inj _ _ h.1
    have e1 := EnE.inj _ _ h.2.1
    have e2 := EnE.inj _ _ h.2.2.1
    have e3 := EnE.inj _ _ h.2.2.2
    dsimp only at e0 e1 e2 e3
    subst e0 e1 e2 e3
    rfl⟩
instance : EnE (Tp5 α β γ δ ε) := ⟨EnE.dep α + EnE.dep β + EnE.dep γ + EnE.dep δ + EnE.dep ε + 1, fun p => Pn_tup fun d hd => by
    simp only [List.mem_cons, List.not_mem_nil, or_false] at hd
    rcases hd with rfl | rfl | rfl | rfl | rfl
    · exact Pn_mono (EnE.pn _) (by omega)
    · exact Pn_mono (EnE.pn _) (by omega)
    · exact Pn_mono (EnE.pn _) (by omega)
    · exact Pn_mono (EnE.pn _) (by omega)
    · exact Pn_mono (EnE.pn _) (by omega),
  fun a b h => by
    have h := D.tup.inj h
    simp only [List.cons.injEq, and_true] at h
    cases a; cases b
    have e0 := EnE.inj _ _ h.1
    have e1 := EnE.inj _ _ h.2.1
    have e2 := EnE.inj _ _ h.2.2.1
    have e3 := EnE.inj _ _ h.2.2.2.1
    have e4 := EnE.inj _ _ h.2.2.2.2
    dsimp only at e0 e1 e2 e3 e4
    subst e0 e1 e2 e3 e4
    rfl⟩
instance : EnE (Hl2 α β) := ⟨max (EnE.dep α) (EnE.dep β) + 1, fun p => Pn_lst fun d hd => by
    simp only [List.mem_cons, List.not_mem_nil, or_false] at hd
    rcases hd with rfl | rfl
    · exact Pn_mono (EnE.pn _) (by omega)
    · exact Pn_mono (EnE.pn _) (by omega),
  fun a b h => by
    have h := D.lst.inj h
    simp only [List.cons.injEq, and_true] at h
    cases a; cases b
    have e0 := EnE.inj _ _ h.1
    have e1 := EnE.inj _ _ h.2
    dsimp only at e0 e1
    subst e0 e1
    rfl⟩
instance : EnE (Hl3 α β γ) := ⟨EnE.dep α + EnE.dep β + EnE.dep γ + 1, fun p => Pn_lst fun d hd => by
    simp only [List.mem_cons, List.not_mem_nil, or_false] at hd
    rcases hd with rfl | rfl | rfl
    · exact Pn_mono (EnE.pn _) (by omega)
    · exact Pn_mono (EnE.pn _) (by omega)
    · exact Pn_mono (EnE.pn _) (by omega),
  fun a b h => by
    have h := D.lst.inj h
    simp only [List.cons.injEq, and_true] at h
    cases a; cases b
    have e0 := EnE.inj _ _ h.1
    have e1 := EnE.inj _ _ h.2.1
    have e2 := EnE.inj _ _ h.2.2
    dsimp only at e0 e1 e2
    subst e0 e1 e2
    rfl⟩
theorem en_eq [DecidableEq α] (a b : α) : (en a).eq (en b) = decide (a = b) := by
  rw [Bool.eq_iff_iff, decide_eq_true_eq]
  exact (eq_pl (EnE.pn a).pl (EnE.pn b).pl).trans ⟨EnE.inj a b, fun h => by rw [h]⟩
theorem en_ok (hd : EnE.dep α ≤ 64) (a : α) : (en a).ok = true := okN_ok (EnE.pn a).ok hd
theorem o2_eq [DecidableEq α] (hd : EnE.dep α ≤ 64) : Op2 (α := α) (β := α) .sh fEq fun a b => some (decide (a = b)) := fun a b => by
  unfold fEq
  rw [en_ok hd a, en_ok hd b, en_eq a b]; rfl
theorem o2_ne [DecidableEq α] (hd : EnE.dep α ≤ 64) : Op2 (α := α) (β := α) .sh fNe fun a b => some (!decide (a = b)) := fun a b => by
  unfold fNe
  rw [en_ok hd a, en_ok hd b, en_eq a b]; rfl
theorem o2_eqb : Op2 (α := Bool) (β := Bool) .sh fEq fun a b => some (decide (a = b)) := fun a b => x_eqb
theorem o2_neb : Op2 (α := Bool) (β := Bool) .sh fNe fun a b => some (!decide (a = b)) := fun a b => x_neb
theorem any_en [DecidableEq α] (l : List α) (x : α) : (l.map en).any (fun z => z.eq (en x)) = decide (x ∈ l) := by
  rw [List.any_map, Bool.eq_iff_iff, List.any_eq_true, decide_eq_true_eq]
  constructor
  · rintro ⟨k, hk, e⟩
    have e : (en k).eq (en x) = true := e
    rw [en_eq] at e
    rw [← of_decide_eq_true e]; exact hk
  · intro h
    exact ⟨x, h, by show (en x).eq (en x) = true; rw [en_eq]; exact decide_eq_true rfl⟩
theorem inB_en [DecidableEq α] (hd : EnE.dep (List α) ≤ 64) (x : α) (l : List α) : fInB (en x) (en l) = some (decide (x ∈ l)) := by
  have h1 : (en x).ok = true := en_ok (Nat.le_trans (Nat.le_succ _) hd) x
  have h2 : (en l).ok = true := en_ok hd l
  show (if (en x).ok = true ∧ (en l).ok = true then some ((l.map en).any fun z => z.eq (en x)) else none) = _
  rw [if_pos ⟨h1, h2⟩, any_en]
theorem o2_in [DecidableEq α] (hd : EnE.dep (List α) ≤ 64) : Op2 (α := α) (β := List α) .sh fIn fun x l => some (decide (x ∈ l)) := fun x l => by
  unfold fIn; rw [inB_en hd]; rfl
theorem o2_nin [DecidableEq α] (hd : EnE.dep (List α) ≤ 64) : Op2 (α := α) (β := List α) .sh fNin fun x l => some (!decide (x ∈ l)) := fun x l => by
  unfold fNin; rw [inB_en hd]; rfl
theorem inB_t2 (x : Int) (w : Tp2 Int Int) : fInB (en x) (en w) = some (decide (w.x0 = x) || decide (w.x1 = x)) := by
  show some ([D.int w.x0, D.int w.x1].any fun z => z.eq (.int x)) = _
  simp [eqv_int]
theorem o2_in2 : Op2 (α := Int) (β := Tp2 Int Int) .sh fIn fun x w => some (decide (w.x0 = x) || decide (w.x1 = x)) := fun x w => by
  unfold fIn; rw [inB_t2]; rfl
theorem o2_nin2 : Op2 (α := Int) (β := Tp2 Int Int) .sh fNin fun x w => some (!(decide (w.x0 = x) || decide (w.x1 = x))) := fun x w => by
  unfold fNin; rw [inB_t2]; rfl
/-- what may be nothing among whole numbers -/
theorem inO_en (o : Option Int) (l : List Int) : fInB (en o) (en l) = some (match o with | none => false | some x => decide (x ∈ l)) := by
  cases o with
  | some x => exact inB_en (by decide) x l
  | none =>
    show (if D.non.ok = true ∧ (en l).ok = true then some ((l.map D.int).any fun z => z.eq .non) else none) = _
    rw [if_pos ⟨rfl, en_ok (by decide) l⟩]
    congr 1
    rw [List.any_map, List.any_eq_false]
    intro i _ h
    have h : PyData.eqv (D.int i).py D.non.py = true := h
    simp [D.py, PyData.eqv] at h
theorem o2_inO : Op2 (α := Option Int) (β := List Int) .sh fIn fun o l => some (match o with | none => false | some x => decide (x ∈ l)) := fun x l => by
  unfold fIn; rw [inO_en]; rfl
theorem o2_ninO : Op2 (α := Option Int) (β := List Int) .sh fNin fun o l => some (!(match o with | none => false | some x => decide (x ∈ l))) := fun x l => by
  unfold fNin; rw [inO_en]; rfl
/-! order of rows -/
abbrev RowT := Tp4 Int Int Int (Option Int)
def ltO : Option Int → Option Int → Option Bool
  | some a, some b => some (decide (a < b))
  | _, _ => none
/-- w < v where they differ in a place of whole numbers -/
def ltR (w v : RowT) : Option Bool := if w.x0 = v.x0 then (if w.x1 = v.x1 then (if w.x2 = v.x2 then ltO w.x3 v.x3 else some (decide (w.x2 < v.x2))) else some (decide (w.x1 < v.x1))) else some (decide (w.x0 < v.x0))
theorem o2_ltR : Op2 (α := RowT) (β := RowT) .sh fLtX ltR := fun w v => by
  obtain ⟨a, b, c, o⟩ := w
  obtain ⟨a', b', c', o'⟩ := v
  show ((ltD [.int a, .int b, .int c, en o] [.int a', .int b', .int c', en o']).map fun k => Kn.R.sh (.bl k)) = _
  unfold ltR
  dsimp only
  by_cases e1 : a = a'
  · by_cases e2 : b = b'
    · by_cases e3 : c = c'
      · subst e1 e2 e3
        cases o with
        | none => cases o' <;> simp [ltD, En.en, ltO]
        | some x => cases o' with
          | none => simp [ltD, En.en, ltO]
          | some y =>
            by_cases e4 : x = y
            · subst e4; simp [ltD, En.en, ltO, Kx.r]
            · simp [ltD, En.en, ltO, e4, Kx.r]
      · simp [ltD, e1, e2, e3, Kx.r, En.en]
    · simp [ltD, e1, e2, Kx.r, En.en]
  · simp [ltD, e1, Kx.r, En.en]
end
end Kn
namespace Kn
open PySem L2
/-! ### typed readings: what may be nothing, continuations, constructors -/
open En
class EnQ (α : Type) [En α] : Prop where
  q : ∀ a : α, fIsN (En.en a) = some (.sh (.bl false)) ∧ fNotN (En.en a) = some (.sh (.bl true))
section
variable {α β γ δ ε : Type} [En α] [En β] [En γ] [En δ] [En ε]
instance : EnQ Int := ⟨fun _ => ⟨rfl, rfl⟩⟩
instance : EnQ Bool := ⟨fun _ => ⟨rfl, rfl⟩⟩
instance : EnQ (List α) := ⟨fun _ => ⟨rfl, rfl⟩⟩
instance : EnQ (Tp2 α β) := ⟨fun _ => ⟨rfl, rfl⟩⟩
instance : EnQ (Tp3 α β γ) := ⟨fun _ => ⟨rfl, rfl⟩⟩
instance : EnQ (Tp4 α β γ δ) := ⟨fun _ => ⟨rfl, rfl⟩⟩
instance : EnQ (Tp5 α β γ δ ε) := ⟨fun _ => ⟨rfl, rfl⟩⟩
end
section
variable {α β γ δ σ ρ τ : Type} [En α] [En β] [En γ]
variable {k k1 k2 k3 : Kx} {env env' : List Kn.Slot} {st : Sto} {e a b c c2 : Sem} {i j n : Nat} {x x' : α} {y : β} {tx : Option α} {ty : Option β} {as : SemA} {ds : List D}
variable {fn : Bool} {enc : τ → Outs} {f g h s1 : SemS} {t t1 t2 : Option τ} {z : τ}
def Op1t (k : Kx) (f : D → Option R) (G : α → β) : Prop := Op1 k f fun x => some (G x)
def Op2t (k : Kx) (f : D → D → Option R) (G : α → β → γ) : Prop := Op2 k f fun x y => some (G x y)
theorem ev_1tp {f : D → Option R} {G : α → β} (h : Op1t k f G) (ha : Ev k1 a env st (some x)) : Ev k (e1 f a) env st (some (G x)) := ev_1p (F := fun x => some (G x)) h ha
theorem ev_1tx {f : D → Option R} {G : α → β} (h : Op1t k f G) (ha : Ev k1 a env st tx) : Ev k (e1 f a) env st (tx.bind fun x => some (G x)) := ev_1x (F := fun x => some (G x)) h ha
theorem ev_2tpp {g : D → D → Option R} {G : α → β → γ} (h : Op2t k g G) (ha : Ev k1 a env st (some x)) (hb : Ev k2 b env st (some y)) : Ev k (e2 g a b) env st (some (G x y)) := ev_2pp (G := fun x y => some (G x y)) h ha hb
theorem ev_2txx {g : D → D → Option R} {G : α → β → γ} (h : Op2t k g G) (ha : Ev k1 a env st tx) (hb : Ev k2 b env st ty) : Ev k (e2 g a b) env st (tx.bind fun x => ty.bind fun y => some (G x y)) := ev_2xx (G := fun x y => some (G x y)) h ha hb
theorem ev_2tpx {g : D → D → Option R} {G : α → β → γ} (h : Op2t k g G) (ha : Ev k1 a env st (some x)) (hb : Ev k2 b env st ty) : Ev k (e2 g a b) env st (ty.bind fun y => some (G x y)) := ev_2xx (G := fun x y => some (G x y)) h ha hb
theorem ev_2txp {g : D → D → Option R} {G : α → β → γ} (h : Op2t k g G) (ha : Ev k1 a env st tx) (hb : Ev k2 b env st (some y)) : Ev k (e2 g a b) env st (tx.bind fun x => some (G x y)) := ev_2xx (G := fun x y => some (G x y)) h ha hb
theorem ru_env (env' : List Kn.Slot) (he : env = env') (hr : Ru fn enc f env' st t) : Ru fn enc f env st t := by rw [he]; exact hr
theorem ru_frzs (he : env[i]? = some (.ow (en x))) (hr : Ru fn enc (sSeq f h) (env.set i (.sh (en x))) st t) : Ru fn enc (sSeq (sFrz i f) h) env st t := by
  have : sSeq (sFrz i f) h env st = sSeq f h (env.set i (.sh (en x))) st := by rw [x_seq, x_frz, he]; rfl
  unfold Ru at hr ⊢; rw [this]; exact hr
theorem ru_kls {js : List Nat} {env1 : List Kn.Slot} (he : wipeE env js = env1) (hr : Ru fn enc (sSeq f h) env1 st t) : Ru fn enc (sSeq (sKl js f) h) env st t := by
  subst he; exact hr
theorem ru_frz2s {l : List (List α)} (he : env[i]? = some (o2S l)) (hr : Ru fn enc (sSeq f h) (env.set i (.sh (en l))) st t) : Ru fn enc (sSeq (sFrz2 i f) h) env st t := by
  have : sSeq (sFrz2 i f) h env st = sSeq f h (env.set i (.sh (en l))) st := by
    rw [x_seq]
    unfold sFrz2
    rw [he]
    show (f (env.set i (.sh (.lst ((l.map fun r => r.map en).map D.lst)))) st).bind _ = _
    rw [List.map_map]; rfl
  unfold Ru at hr ⊢; rw [this]; exact hr
section
variable {o : Option α} {E : Option α → List Kn.Slot} {T0 : Option τ} {T1 : α → Option τ}
theorem isN_en [EnQ α] (o : Option α) : fIsN (en o) = some (.sh (.bl o.isNone)) := by
  cases o with
  | none => rfl
  | some a => exact (EnQ.q a).1
theorem ntN_en [EnQ α] (o : Option α) : fNotN (en o) = some (.sh (.bl o.isSome)) := by
  cases o with
  | none => rfl
  | some a => exact (EnQ.q a).2
theorem o1_isNo [EnQ α] : Op1 (α := Option α) .sh fIsN fun o => some o.isNone := isN_en
theorem o1_ntNo [EnQ α] : Op1 (α := Option α) .sh fNotN fun o => some o.isSome := ntN_en
theorem seq_nil (f : SemS) : sSeq f sNil = f := by
  funext env st
  unfold sSeq
  cases f env st with
  | none => rfl
  | some p =>
    obtain ⟨o, e', st'⟩ := p
    cases o <;> rfl
theorem ru_sn (hr : Ru fn enc f env st t) : Ru fn enc (sSeq f sNil) env st t := by rw [seq_nil]; exact hr
theorem if_t {c : Sem} (hc : Ev .sh c env st (some true)) : sSeq (sIf c f g) h env st = sSeq f h env st := by
  unfold Ev at hc
  rw [x_seq, x_if, hc]; rfl
theorem if_f {c : Sem} (hc : Ev .sh c env st (some false)) : sSeq (sIf c f g) h env st = sSeq g h env st := by
  unfold Ev at hc
  rw [x_seq, x_if, hc]; rfl
theorem ru_ifN [EnQ α] (he : env = E o) (hi : ∀ o, (E o)[i]? = some (.sh (en o))) (h0 : Ru fn enc (sSeq f h) (E none) st T0) (h1 : ∀ a, Ru fn enc (sSeq g h) (E (some a)) st (T1 a)) : Ru fn enc (sSeq (sIf (e1 fIsN (eVar i)) f g) h) env st (o.elim T0 T1) := by
  subst he
  have hv := ev_1p o1_isNo (ev_var (st := st) (hi o))
  unfold Ru
  cases o with
  | none => rw [if_t hv]; exact h0
  | some a => rw [if_f hv]; exact h1 a
theorem ru_ifS [EnQ α] (he : env = E o) (hi : ∀ o, (E o)[i]? = some (.sh (en o))) (h0 : Ru fn enc (sSeq g h) (E none) st T0) (h1 : ∀ a, Ru fn enc (sSeq f h) (E (some a)) st (T1 a)) : Ru fn enc (sSeq (sIf (e1 fNotN (eVar i)) f g) h) env st (o.elim T0 T1) := by
  subst he
  have hv := ev_1p o1_ntNo (ev_var (st := st) (hi o))
  unfold Ru
  cases o with
  | none => rw [if_f hv]; exact h0
  | some a => rw [if_t hv]; exact h1 a
theorem or_f {c1 c2 : Sem} (hc : Ev .sh c1 env st (some false)) : eOr c1 c2 env st = c2 env st := by
  unfold Ev at hc; unfold eOr; rw [hc]; rfl
theorem or_t {c1 c2 : Sem} (hc : Ev .sh c1 env st (some true)) : Ev .sh (eOr c1 c2) env st (some true) := by
  unfold Ev at hc ⊢; unfold eOr; rw [hc]; rfl
theorem and_t {c1 c2 : Sem} (hc : Ev .sh c1 env st (some true)) : eAnd c1 c2 env st = c2 env st := by
  unfold Ev at hc; unfold eAnd; rw [hc]; rfl
theorem and_f {c1 c2 : Sem} (hc : Ev .sh c1 env st (some false)) : Ev .sh (eAnd c1 c2) env st (some false) := by
  unfold Ev at hc ⊢; unfold eAnd; rw [hc]; rfl
theorem if_c {c1 c2 : Sem} (hc : c1 env st = c2 env st) : sSeq (sIf c1 f g) h env st = sSeq (sIf c2 f g) h env st := by
  rw [x_seq, x_seq, x_if, x_if, hc]
theorem ru_ifNor [EnQ α] (he : env = E o) (hi : ∀ o, (E o)[i]? = some (.sh (en o))) (h0 : Ru fn enc (sSeq f h) (E none) st T0) (h1 : ∀ a, Ru fn enc (sSeq (sIf c2 f g) h) (E (some a)) st (T1 a)) : Ru fn enc (sSeq (sIf (eOr (e1 fIsN (eVar i)) c2) f g) h) env st (o.elim T0 T1) := by
  subst he
  have hv := ev_1p o1_isNo (ev_var (st := st) (hi o))
  unfold Ru
  cases o with
  | none => rw [if_t (or_t hv)]; exact h0
  | some a => rw [if_c (or_f hv)]; exact h1 a
theorem ru_ifSand [EnQ α] (he : env = E o) (hi : ∀ o, (E o)[i]? = some (.sh (en o))) (h0 : Ru fn enc (sSeq g h) (E none) st T0) (h1 : ∀ a, Ru fn enc (sSeq (sIf c2 f g) h) (E (some a)) st (T1 a)) : Ru fn enc (sSeq (sIf (eAnd (e1 fNotN (eVar i)) c2) f g) h) env st (o.elim T0 T1) := by
  subst he
  have hv := ev_1p o1_ntNo (ev_var (st := st) (hi o))
  unfold Ru
  cases o with
  | none => rw [if_f (and_f hv)]; exact h0
  | some a => rw [if_c (and_t hv)]; exact h1 a
theorem ru_ifIand {o : Option Int} {E : Option Int → List Kn.Slot} {T0 : Option τ} {T1 : Int → Option τ} {L : List Int} {l : Sem} (he : env = E o) (hi : ∀ o, (E o)[i]? = some (.sh (en o))) (hl : Ev k l env st (some L)) (h0 : Ru fn enc (sSeq g h) (E none) st T0) (h1 : ∀ a, Ru fn enc (sSeq (sIf (eAnd (e2 fIn (eVar i) l) c2) f g) h) (E (some a)) st (T1 a)) : Ru fn enc (sSeq (sIf (eAnd (e2 fIn (eVar i) l) c2) f g) h) env st (o.elim T0 T1) := by
  subst he
  cases o with
  | none =>
    have hv : Ev .sh (e2 fIn (eVar i) l) (E none) st (some false) := ev_2pp (G := fun (o : Option Int) (l : List Int) => some (match o with | none => false | some x => decide (x ∈ l))) o2_inO (ev_var (st := st) (hi none)) hl
    unfold Ru
    rw [if_f (and_f hv)]; exact h0
  | some a => exact h1 a
end
/-- a rule on a thing, on what may be nothing -/
theorem o2_optl {f : D → D → Option R} {F : α → β → Option γ} (h : Op2 k f F) (h0 : ∀ y : β, f .non (en y) = none) : Op2 (α := Option α) k f fun o y => o.bind fun x => F x y := fun o y => by
  cases o with
  | none => exact h0 y
  | some x => exact h x y
theorem o2_optr {f : D → D → Option R} {F : α → β → Option γ} (h : Op2 k f F) (h0 : ∀ x : α, f (en x) .non = none) : Op2 (β := Option β) k f fun x o => o.bind fun y => F x y := fun x o => by
  cases o with
  | none => exact h0 x
  | some y => exact h x y
theorem ev_prjo {F : α → γ} {i : Int} {o : Option α} (h : ∀ w, fIdx (en w) (.int i) = some (.sh (en (F w)))) (ha : Ev k a env st (some o)) : Ev .sh (e2 fIdx a (eC (.int i))) env st (o.bind fun w => some (F w)) := by
  cases o with
  | none =>
    unfold Ev at ha ⊢
    rw [x_e2, ha]
    show ((fIdx (k.r (en (none : Option α))).d (.int i)).map fun r => (r, st)) = _
    rw [Kx.rd]; rfl
  | some w => exact ev_prj (h w) ha
theorem ev_prjox {F : α → γ} {i : Int} {o : Option (Option α)} (h : ∀ w, fIdx (en w) (.int i) = some (.sh (en (F w)))) (ha : Ev k a env st o) : Ev .sh (e2 fIdx a (eC (.int i))) env st (o.bind fun o => o.bind fun w => some (F w)) := by
  cases o with
  | none => unfold Ev at ha ⊢; rw [x_e2, ha]; rfl
  | some w => exact ev_prjo h ha
/-! constructors -/
theorem ru_fldp {cl : Str} {kk : Nat} {ad : Addr} {fs : List D} (he : env[i]? = some (.me ad (.obj cl fs))) (hk : kk = fs.length) (ha : Ev k a env st (some x)) (hok : k.ok = true) (hr : Ru fn enc g (env.set i (.me ad (.obj cl (fs ++ [en x])))) st t) : Ru fn enc (sSeq (sFldM i cl kk a) g) env st t := by
  unfold Ev at ha; unfold Ru at hr ⊢
  have : sSeq (sFldM i cl kk a) g env st = g (env.set i (.me ad (.obj cl (fs ++ [en x])))) st := by
    rw [x_seq]
    unfold sFldM
    rw [ha]
    show ((match (k.r (en x)).pin, (env[i]? : Option Kn.Slot) with
      | .sh d, some (.me ad (.obj c' ds)) => if c' = cl ∧ kk = ds.length then some (Out.nx, env.set i (.me ad (.obj c' (ds ++ [d]))), st) else none
      | _, _ => none).bind _) = _
    rw [Kx.pin hok, he]
    show ((if cl = cl ∧ kk = fs.length then some (Out.nx, env.set i (.me ad (.obj cl (fs ++ [en x]))), st) else none).bind _) = _
    rw [if_pos ⟨rfl, hk⟩]; rfl
  rw [this]; exact hr
theorem ru_fldx {cl : Str} {kk : Nat} {ad : Addr} {fs : List D} {T : α → Option τ} (he : env[i]? = some (.me ad (.obj cl fs))) (hk : kk = fs.length) (ha : Ev k a env st tx) (hok : k.ok = true) (hr : ∀ x, Ru fn enc g (env.set i (.me ad (.obj cl (fs ++ [en x])))) st (T x)) : Ru fn enc (sSeq (sFldM i cl kk a) g) env st (tx.bind T) := by
  cases tx with
  | none => unfold Ev at ha; unfold Ru sFldM; rw [x_seq, ha]; rfl
  | some x => exact ru_fldp he hk ha hok (hr x)
theorem ev_init [En ρ] {m : Nat} {cl : Str} {b : SemS} {t : Option ρ} (E : Addr → ρ → List Kn.Slot) (h : ∀ ad, Ru false (fun o => (.nx, E ad o, st)) b (startI m cl ad ds) st t) (hE : ∀ ad o, (E ad o)[0]? = some (.me ad (en o))) : runI m cl b ds st = t.map fun o => (Kx.ow.r (en o), st) := by
  have h' : ∀ ad, b (startI m cl ad ds) st = t.map fun o => (Out.nx, E ad o, st) := fun ad => by
    have h1 := h ad
    unfold Ru at h1
    cases hb : b (startI m cl ad ds) st with
    | none => rw [hb] at h1; cases t with
      | none => rfl
      | some o => cases h1
    | some p =>
      rw [hb] at h1
      cases t with
      | none => cases h1
      | some o =>
        have := nrm_nx (Option.some.inj h1)
        subst this; rfl
  cases t with
  | none =>
    unfold runI
    rw [h' 0]; rfl
  | some o => exact runI_of fun ad => ⟨_, h' ad, hE ad o⟩
end
end Kn
namespace Kn
open PySem L2
/-! ### is True; dicts by whole numbers, typed -/
open En
section
variable {X : Cx} {ct : CT} {pos : Pos} {x y : Expr} {a b : Sem}
def fIsB : D → D → Option R
  | .bl p, .bl q => some (.sh (.bl (decide (p = q))))
  | _, _ => none
def fNotB : D → D → Option R
  | .bl p, .bl q => some (.sh (.bl (!decide (p = q))))
  | _, _ => none
theorem os_isB {K : PySem.W.Frag} : OpS K ct L2.rIsB fIsB := by
  intro F W L env st σ H x y d1 d2 r Q I h1 h2 e k
  unfold fIsB at e
  split at e <;> cases e
  exact ⟨_, _, h1.bl, h2.bl, k _ H W L (.refl W) I (.bl _)⟩
theorem os_notB {K : PySem.W.Frag} : OpS K ct L2.rNotB fNotB := by
  intro F W L env st σ H x y d1 d2 r Q I h1 h2 e k
  unfold fNotB at e
  split at e <;> cases e
  exact ⟨_, _, h1.bl, h2.bl, k _ H W L (.refl W) I (.bl _)⟩
theorem se_isB (ha : SE X ct x a) (hb : SE X ct y b) : SE X ct (.Compare x [.Is] [y] pos) (e2 fIsB a b) := se_cmp op_isBl os_isB (nomark _) ha hb
theorem st_isB (ha : SE X ct x a) (hb : SE X ct y b) : ST X ct (.Compare x [.Is] [y] pos) (e2 fIsB a b) := st_cmp op_isBl os_isB (nomark _) ha hb
theorem se_notB (ha : SE X ct x a) (hb : SE X ct y b) : SE X ct (.Compare x [.IsNot] [y] pos) (e2 fNotB a b) := se_cmp op_notBl os_notB (nomark _) ha hb
theorem st_notB (ha : SE X ct x a) (hb : SE X ct y b) : ST X ct (.Compare x [.IsNot] [y] pos) (e2 fNotB a b) := st_cmp op_notBl os_notB (nomark _) ha hb
theorem o2_isB : Op2 (α := Bool) (β := Bool) .sh fIsB fun a b => some (decide (a = b)) := fun a b => rfl
theorem o2_notB : Op2 (α := Bool) (β := Bool) .sh fNotB fun a b => some (!decide (a = b)) := fun a b => rfl
end
structure Dc (α : Type) where
  l : List (Int × α)
section
variable {α β γ δ σ ρ τ : Type} [En α] [En β] [En γ]
instance : En (Dc α) := ⟨fun d => .dic (d.l.map fun p => (Sum.inl p.1, en p.2))⟩
variable {k k1 k2 k3 : Kx} {env env' : List Kn.Slot} {st : Sto} {e a b c : Sem} {i j n : Nat} {x x' : α} {y : β} {tx : Option α} {ty : Option β} {as : SemA} {ds : List D}
variable {fn : Bool} {enc : τ → Outs} {f g h s1 : SemS} {t t1 t2 : Option τ} {z : τ}
theorem ev_dnew : Ev .ow eDnew env st (some (⟨[]⟩ : Dc α)) := rfl
def putL (l : List (Int × α)) (j : Int) (x : α) : List (Int × α) := if j ∈ l.map (·.1) then l.map fun p => if p.1 = j then (p.1, x) else p else l ++ [(j, x)]
def putG (d : Dc α) (j : Int) (x : α) : Option (Dc α) := if d.l.length < sizeLine then some ⟨putL d.l j x⟩ else none
theorem valD_dc (j : Int) : ∀ l : List (Int × α), (valD (l.map fun p => ((Sum.inl p.1 : Key), en p.2)) (Sum.inl j)).isSome = decide (j ∈ l.map (·.1))
  | [] => rfl
  | p :: l => by
    have ih := valD_dc j l
    unfold valD at ih ⊢
    rw [List.map_cons, List.find?_cons]
    by_cases h : p.1 = j
    · subst h; simp
    · have h2 : ¬ ((Sum.inl p.1 : Key) = Sum.inl j) := fun q => h (Sum.inl.inj q)
      simp only [h2, decide_false]
      rw [ih]
      have h3 : ¬ (j = p.1) := fun q => h q.symm
      simp [h3]
theorem putD_dc (l : List (Int × α)) (j : Int) (x : α) : putD (l.map fun p => ((Sum.inl p.1 : Key), en p.2)) (Sum.inl j) (en x) = (putL l j x).map fun p => ((Sum.inl p.1 : Key), en p.2) := by
  unfold putD putL
  rw [valD_dc]
  by_cases h : j ∈ l.map (·.1)
  · rw [if_pos (decide_eq_true h), if_pos h, List.map_map, List.map_map]
    refine List.map_congr_left fun p _ => ?_
    show (if (Sum.inl p.1 : Key) = Sum.inl j then ((Sum.inl p.1 : Key), en x) else ((Sum.inl p.1 : Key), en p.2)) = _
    by_cases q : p.1 = j
    · simp [q]
    · have q2 : ¬ ((Sum.inl p.1 : Key) = Sum.inl j) := fun z => q (Sum.inl.inj z)
      simp [q, q2]
  · rw [if_neg (by simp only [decide_eq_true_eq]; exact h), if_neg h, List.map_append]; rfl
theorem setItm_dc (d : Dc α) (j : Int) (x : α) : setItm (en d) (.int j) (en x) = (putG d j x).map fun m => en m := by
  show (if (d.l.map fun p => ((Sum.inl p.1 : Key), en p.2)).length < sizeLine then some (D.dic (putD (d.l.map fun p => ((Sum.inl p.1 : Key), en p.2)) (Sum.inl j) (en x))) else none) = _
  unfold putG
  rw [List.length_map, putD_dc]
  split <;> rfl
theorem ru_subd {d : Dc α} {tj : Option Int} {T : Dc α → Option τ} (he : env[i]? = some (.ow (en d))) (ha : Ev k a env st tx) (hk : k.ok = true) (hb : Ev k1 b env st tj) (hr : ∀ m', Ru fn enc g (env.set i (.ow (en m'))) st (T m')) : Ru fn enc (sSeq (sSub i b a) g) env st (tx.bind fun x => tj.bind fun j => (putG d j x).bind T) := by
  unfold Ev at ha hb; unfold Ru
  rw [x_seq, x_sub, ha]
  cases tx with
  | none => rfl
  | some x =>
    show ((((b env st).bind fun q => match (k.r (en x)).pin, env[i]? with | .sh d, some (.ow c) => (setItm c q.1.d d).map fun c' => (Out.nx, env.set i (.ow c'), q.2) | _, _ => none).bind _ : Option Outs).map _) = _
    rw [hb]
    cases tj with
    | none => rfl
    | some j =>
      show (((match (k.r (en x)).pin, env[i]? with | .sh d, some (.ow c) => (setItm c (k1.r (en j)).d d).map fun c' => (Out.nx, env.set i (.ow c'), st) | _, _ => none).bind _ : Option Outs).map _) = _
      rw [Kx.pin hk, he, Kx.rd]
      show ((((setItm (en d) (.int j) (en x)).map fun c' => (Out.nx, env.set i (.ow c'), st)).bind _ : Option Outs).map _) = _
      rw [setItm_dc]
      cases hs : putG d j x with
      | none => simp [hs]
      | some m' =>
        have := hr m'
        unfold Ru at this
        simpa [hs] using this
theorem o1_lend : Op1 (α := Dc α) .sh fLen fun d => some (d.l.length : Int) := fun d => by
  show some (Kn.R.sh (.int ((d.l.map fun p => ((Sum.inl p.1 : Key), en p.2)).length : Nat))) = _
  rw [List.length_map]; rfl
theorem o2_ind : Op2 (α := Int) (β := Dc α) .sh fIn fun j d => some (decide (j ∈ d.l.map (·.1))) := fun j d => by
  show some (Kn.R.sh (.bl (valD (d.l.map fun p => ((Sum.inl p.1 : Key), en p.2)) (Sum.inl j)).isSome)) = _
  rw [valD_dc]; rfl
theorem o2_nind : Op2 (α := Int) (β := Dc α) .sh fNin fun j d => some (!decide (j ∈ d.l.map (·.1))) := fun j d => by
  show some (Kn.R.sh (.bl (!(valD (d.l.map fun p => ((Sum.inl p.1 : Key), en p.2)) (Sum.inl j)).isSome))) = _
  rw [valD_dc]; rfl
end
/-! calls by what is a name's own, some arguments not plain -/
section
open En
variable {α β γ : Type} [En α] [En β] [En γ] {μ : Type}
variable {k k1 k2 k3 : Kx} {env : List Kn.Slot} {st : Sto} {a : Sem} {n : Nat} {x : α} {tx : Option α} {as : SemA} {ds : List D} {t : Option μ} {dec : μ → List D}
def EvBx (as : SemA) (env : List Kn.Slot) (st : Sto) (t : Option μ) (dec : μ → List D) : Prop := match t with
  | none => as env st = none
  | some b => EvB as env st (dec b)
theorem eb_none (ha : Ev k a env st (none : Option α)) : aCons a as env st = none := by
  unfold Ev at ha; unfold aCons; rw [ha]; rfl
theorem eb_xp [EnH α] (ha : Ev k a env st tx) (h : EvB as env st ds) : EvBx (aCons a as) env st tx fun x => en x :: ds := by
  cases tx with
  | none => exact eb_none ha
  | some x => exact eb_p ha h
theorem eb_px [EnH α] (ha : Ev k a env st (some x)) (h : EvBx as env st t dec) : EvBx (aCons a as) env st t fun b => en x :: dec b := by
  cases t with
  | none =>
    have h : as env st = none := h
    show aCons a as env st = none
    unfold Ev at ha; unfold aCons; rw [ha]
    show (as env st).map _ = none
    rw [h]; rfl
  | some b => exact eb_p ha h
theorem eb_xx [EnH α] (ha : Ev k a env st tx) (h : EvBx as env st t dec) : EvBx (aCons a as) env st (tx.bind fun x => t.bind fun b => some (x, b)) fun p => en p.1 :: dec p.2 := by
  cases tx with
  | none => exact eb_none ha
  | some x =>
    have := eb_px ha h
    cases t with
    | none => exact this
    | some b => exact this
theorem ev_callPx [EnI γ] {m : Fn} {F : μ → Option γ} (ha : EvBx as env st t dec) (h : ∀ b st, m (dec b) st = (F b).map fun r => (Kx.sh.r (en r), st)) (hl : ∀ b, (dec b).length = n) : Ev .sh (eCallP n m as) env st (t.bind F) := by
  cases t with
  | none =>
    have ha : as env st = none := ha
    unfold Ev; rw [x_callp, ha]; rfl
  | some b => exact ev_callP (ds := dec b) ha (h b) (hl b)
end
end Kn
namespace Kn
open PySem L2
/-! ### the lesser of two tuples -/
section
open PySem.SeqAt PySem.Spec PyProof.Rows
section
variable {prog : Program} {w : World} {A : Around} {R : Result → Shared → Prop} {I S : Addr} {fp wr : List Addr} {P : Nat → Value → Prop} {St : Nat → Heap → Prop}
abbrev bestO (vs : Array Value) (c : Nat) : Obj := { cls := .type "list", dict := none, data := .seq vs c, slots := #[] }
theorem mn_name : (toString "min" ++ toString ".loop" : String) = "min.loop" := by decide
/-- nothing is left -/
theorem mn_done (W : Walks prog w A.in1 I fp wr 2 P St) (hSf : S ∉ fp) {s : Shared} {vb : Value} {c : Nat} (hst : St 2 s.heap) (hS : s.heap.get? S = some (bestO #[vb, vb] c))
    (hR : ∀ h' tk, (∀ b o, b ∉ wr → b ≠ S → s.heap.get? b = some o → h'.get? b = some o) → R (.ok (.ret vb)) { s with heap := h', toks := tk }) :
    codeAny (model prog w) A (.builtin "min.loop" ⟨[.ref I, .none, .ref S], []⟩) R s := by
  have hSw : S ∉ wr := fun h => hSf (W.sub _ h)
  apply codeAny_builtin F.entry_min_loop
  rw [Around.under_plainId F.plain_min_loop]
  show wpAny _ A.in1 (seqItems? (.ref S) >>= _) _ _ _
  apply wpAny_bind; apply wpAny_seqItems hS rfl
  show wpAny _ A.in1 (tryCatch (pyNext (.ref I)) _ >>= _) _ _ _
  apply wpAny_bind; apply wpAny_tryCatch
  refine W.done s _ _ hst fun h1 tk1 k1 => ?_
  have hS1 := k1 S _ hSw hS
  show wpAny _ A.in1 (updateSeq S (fun _ => #[]) >>= _) _ _ _
  apply wpAny_bind
  refine wpAny_updateSeq hS1 rfl ?_
  apply wpAny_bind; apply wpAny_letGo; apply wpAny_pure
  exact hR _ _ fun b o hb hbS e => (Heap.get?_update_other _ _ (Ne.symm hbS)).trans (k1 b o hb e)
/-- the second one is looked at -/
theorem mn_second (W : Walks prog w A.in1 I fp wr 2 P St) (hSf : S ∉ fp) {s : Shared} {vb vc : Value} {c : Nat} {k : Bool} (hst : St 1 s.heap) (hP : ∀ v, P 1 v → v = vc) (hS : s.heap.get? S = some (bestO #[vb, vb] c))
    (hc : ∀ (s' : Shared) (Q : Value → Shared → Prop) (E : Value → Shared → Prop), (∀ b o, b ∉ wr → b ≠ S → s.heap.get? b = some o → s'.heap.get? b = some o) → Q (.bool k) s' → wpAny (model prog w) A.in1 (richCompare .Lt vc vb) Q E s')
    (hR : ∀ h' tk, (∀ b o, b ∉ wr → b ≠ S → s.heap.get? b = some o → h'.get? b = some o) → R (.ok (.ret (if k = true then vc else vb))) { s with heap := h', toks := tk }) :
    codeAny (model prog w) A (.builtin "min.loop" ⟨[.ref I, .none, .ref S], []⟩) R s := by
  have hSw : S ∉ wr := fun h => hSf (W.sub _ h)
  apply codeAny_builtin F.entry_min_loop
  rw [Around.under_plainId F.plain_min_loop]
  show wpAny _ A.in1 (seqItems? (.ref S) >>= _) _ _ _
  apply wpAny_bind; apply wpAny_seqItems hS rfl
  show wpAny _ A.in1 (tryCatch (pyNext (.ref I)) _ >>= _) _ _ _
  apply wpAny_bind; apply wpAny_tryCatch
  refine W.item 1 s _ _ (by decide) hst fun v h1 tk1 hv st1 k1 => ?_
  cases hP v hv
  have hS1 := k1 S _ hSw hS
  show wpAny _ A.in1 (tryCatch (holding [vc, vc] (richCompare .Lt vc vb >>= _)) _ >>= _) _ _ _
  apply wpAny_bind; apply wpAny_tryCatch; apply wpAny_holding; apply wpAny_bind
  refine hc _ _ _ (fun b o hb _ e => k1 b o hb e) ?_
  apply wpAny_bind; apply wpAny_holding; apply wpAny_truthy_bool
  apply wpAny_bind; apply wpAny_letGo; apply wpAny_pure
  cases k with
  | true =>
    rw [if_pos rfl] at hR ⊢
    apply wpAny_bind
    refine wpAny_updateSeq hS1 rfl ?_
    apply wpAny_bind; apply wpAny_letGo
    rw [mn_name]
    apply wpAny_pure
    refine ⟨plainId_quiet F.plain_min_loop _, mn_done W hSf (W.frame _ _ _ st1 fun b hb o e => (Heap.get?_update_other _ _ (fun h : S = b => hSf (by rw [h]; exact hb))).trans e) (Heap.get?_update_self _ hS1 rfl) fun h2 tk2 k2 => ?_⟩
    exact hR h2 tk2 fun b o hb hbS e => k2 b o hb hbS ((Heap.get?_update_other _ _ (Ne.symm hbS)).trans (k1 b o hb e))
  | false =>
    rw [if_neg Bool.false_ne_true] at hR ⊢
    apply wpAny_bind; apply wpAny_letGo
    rw [mn_name]
    apply wpAny_pure
    refine ⟨plainId_quiet F.plain_min_loop _, mn_done W hSf st1 hS1 fun h2 tk2 k2 => ?_⟩
    exact hR h2 tk2 fun b o hb hbS e => k2 b o hb hbS (k1 b o hb e)
/-- the first one is taken -/
theorem mn_first (W : Walks prog w A.in1 I fp wr 2 P St) (hSf : S ∉ fp) {s : Shared} {vb vc : Value} {c : Nat} {k : Bool} (hst : St 0 s.heap) (h0 : ∀ v, P 0 v → v = vb) (hP : ∀ v, P 1 v → v = vc) (hS : s.heap.get? S = some (bestO #[] c))
    (hc : ∀ (s' : Shared) (Q : Value → Shared → Prop) (E : Value → Shared → Prop), (∀ b o, b ∉ wr → b ≠ S → s.heap.get? b = some o → s'.heap.get? b = some o) → Q (.bool k) s' → wpAny (model prog w) A.in1 (richCompare .Lt vc vb) Q E s')
    (hR : ∀ h' tk, (∀ b o, b ∉ wr → b ≠ S → s.heap.get? b = some o → h'.get? b = some o) → R (.ok (.ret (if k = true then vc else vb))) { s with heap := h', toks := tk }) :
    codeAny (model prog w) A (.builtin "min.loop" ⟨[.ref I, .none, .ref S], []⟩) R s := by
  have hSw : S ∉ wr := fun h => hSf (W.sub _ h)
  apply codeAny_builtin F.entry_min_loop
  rw [Around.under_plainId F.plain_min_loop]
  show wpAny _ A.in1 (seqItems? (.ref S) >>= _) _ _ _
  apply wpAny_bind; apply wpAny_seqItems hS rfl
  show wpAny _ A.in1 (tryCatch (pyNext (.ref I)) _ >>= _) _ _ _
  apply wpAny_bind; apply wpAny_tryCatch
  refine W.item 0 s _ _ (by decide) hst fun v h1 tk1 hv st1 k1 => ?_
  cases h0 v hv
  have hS1 := k1 S _ hSw hS
  show wpAny _ A.in1 (updateSeq S (fun _ => #[vb, vb]) >>= _) _ _ _
  apply wpAny_bind
  refine wpAny_updateSeq hS1 rfl ?_
  rw [mn_name]
  apply wpAny_pure
  have kk : ∀ b o, b ∉ wr → b ≠ S → s.heap.get? b = some o → (h1.update S (Obj.mapSeq fun _ => #[vb, vb])).get? b = some o := fun b o hb hbS e => (Heap.get?_update_other _ _ (Ne.symm hbS)).trans (k1 b o hb e)
  refine ⟨plainId_quiet F.plain_min_loop _, mn_second (vb := vb) (vc := vc) (k := k) W hSf (W.frame _ _ _ st1 fun b hb o e => (Heap.get?_update_other _ _ (fun h : S = b => hSf (by rw [h]; exact hb))).trans e) hP (Heap.get?_update_self _ hS1 rfl) (fun s' Q E q => ?_) fun h2 tk2 k2 => ?_⟩
  · exact hc s' Q E fun b o hb hbS e => q b o hb hbS (kk b o hb hbS e)
  · exact hR h2 tk2 fun b o hb hbS e => k2 b o hb hbS (kk b o hb hbS e)
end
theorem min_two_tup {prog : Program} {w : World} {A : Around} {E : Value → Shared → Prop} {s : Shared} {Q : Value → Shared → Prop} {va vb : Value} {k : Bool} (hh : A.handled = none)
    (hc : ∀ (s' : Shared) (Q : Value → Shared → Prop) (E : Value → Shared → Prop), (∀ b o, s.heap.get? b = some o → s'.heap.get? b = some o) → Q (.bool k) s' → wpAny (model prog w) A.in1 (richCompare .Lt vb va) Q E s')
    (h : ∀ h' tk, (∀ b o, s.heap.get? b = some o → h'.get? b = some o) → Q (if k = true then vb else va) { s with heap := h', toks := tk }) :
    wpAny (model prog w) A (call (.builtin "min") [va, vb]) Q E s := by
  have hT : (s.heap.push { cls := .type "tuple", data := .seq #[va, vb] }).IsTuple s.heap.objs.size #[va, vb] := ⟨_, Heap.get?_push_size _ rfl, rfl, 0, rfl⟩
  have z1 : (s.heap.push { cls := .type "tuple", data := .seq #[va, vb] }).objs.size = s.heap.objs.size + 1 := Heap.size_push ..
  apply call_function_tree F.kind_min F.plain_min F.entry_min (F.args_min2 _ _)
  show wpAny _ A.in1 (Builtin.Builtins.bindParams "min" ["key", "default"] 0 ⟨[], []⟩ >>= _) _ _ _
  apply wpAny_bind; apply wpAny_of_eq (show Builtin.Builtins.bindParams "min" ["key", "default"] 0 ⟨[], []⟩ = pure [none, none] from rfl)
  show wpAny _ A.in1 (newTuple [va, vb] >>= _) _ _ _
  apply wpAny_bind; refine wpAny_newObj_type ?_
  apply wpAny_bind; refine wpAny_pyIter_tuple hT ?_
  apply wpAny_bind; refine wpAny_newObj_type ?_
  rw [mn_name]
  apply wpAny_pure
  refine ⟨plainId_quiet F.plain_min_loop _, ?_⟩
  generalize hs1 : s.heap.push { cls := .type "tuple", data := .seq #[va, vb] } = h1 at hT z1 ⊢
  have z2 : (h1.push { cls := .type "tuple_iterator", data := .fields #[.ref s.heap.objs.size, .int 0 0] }).objs.size = h1.objs.size + 1 := Heap.size_push ..
  have it : (h1.push { cls := .type "tuple_iterator", data := .fields #[.ref s.heap.objs.size, .int 0 0] }).IsTupleIter h1.objs.size s.heap.objs.size 0 := ⟨_, Heap.get?_push_size _ rfl, rfl, rfl⟩
  have it2 := hT.push { cls := .type "tuple_iterator", data := .fields #[.ref s.heap.objs.size, .int 0 0] }
  have k2 : ∀ b o, s.heap.get? b = some o → (h1.push { cls := .type "tuple_iterator", data := .fields #[.ref s.heap.objs.size, .int 0 0] }).get? b = some o := fun b o e => Heap.get?_push_of_some _ (by rw [← hs1]; exact Heap.get?_push_of_some _ e)
  generalize h1.push { cls := .type "tuple_iterator", data := .fields #[.ref s.heap.objs.size, .int 0 0] } = h2 at z2 it it2 k2 ⊢
  have W := Walks.tuple (prog := prog) (w := w) (A := A.in1) hh h1.objs.size s.heap.objs.size (Nat.ne_of_lt (by omega)) #[va, vb]
  have lt : ∀ b o, s.heap.get? b = some o → b < s.heap.objs.size := fun b o e => Heap.lt_size e
  have old : ∀ (h' : Heap), (∀ b o, b ∉ [h1.objs.size] → b ≠ h2.objs.size → (h2.push { cls := .type "list", data := .seq #[] }).get? b = some o → h'.get? b = some o) → ∀ b o, s.heap.get? b = some o → h'.get? b = some o := fun h' kk b o e => by
    have := lt b o e
    exact kk b o (fun hm => Nat.ne_of_lt (Nat.lt_of_lt_of_le this (by omega)) (List.mem_singleton.mp hm)) (Nat.ne_of_lt (Nat.lt_of_lt_of_le this (by omega))) (Heap.get?_push_of_some _ (k2 b o e))
  refine mn_first (k := k) (vb := va) (vc := vb) W (fun hm => by
    rcases List.mem_cons.mp hm with q | hm
    · exact Nat.ne_of_gt (show h1.objs.size < h2.objs.size by omega) q
    · exact Nat.ne_of_gt (show s.heap.objs.size < h2.objs.size by omega) (List.mem_singleton.mp hm)) ⟨it.at fun o e => Heap.get?_push_of_some _ e, it2.push _⟩ (fun v hv => ?_) (fun v hv => ?_) (Heap.get?_push_size _ rfl) (fun s' Q E q => hc s' Q E (old s'.heap q)) fun h' tk kk => h h' tk (old h' kk)
  · have hv : (#[va, vb] : Array Value)[0]? = some v := hv
    simpa using hv.symm
  · have hv : (#[va, vb] : Array Value)[1]? = some v := hv
    simpa using hv.symm
end
section
open PySem.Spec PyProof.Rows
def rMinT (K : PySem.W.Frag) : List V → Hp → VK → Prop := fun vs H Q => ∃ a b xs ys k, vs = [.ref a, .ref b] ∧ SqT K H a xs ∧ SqT K H b ys ∧ ltV ys xs = some k ∧ Q (.ref (if k = true then b else a)) H
theorem call_minT {X : Cx} (hc : X.calm = true) (hu : X.A.units + 1 < cLine) : CallR X (.builtin "min") (rMinT X.K) := by
  intro pins s σ H xs us Q I r h
  obtain ⟨a, b, us1, ws1, k, rfl, ha, hb, hk, q⟩ := h
  obtain ⟨u, w', rfl, ru, rw'⟩ := vals2 r
  cases ru
  cases rw'
  obtain ⟨its, r1, p1, _⟩ := I.tuple ha
  obtain ⟨its2, r2, p2, _⟩ := I.tuple hb
  refine min_two_tup (k := k) (I.ok.hd hc) (fun s' Q' E' keep hq => ?_) fun h' tk keep => ?_
  · have t1 : s'.heap.IsTuple a its.toArray := let ⟨o, z1, z2, n, z3⟩ := p1; ⟨o, keep a o z1, z2, n, z3⟩
    have t2 : s'.heap.IsTuple b its2.toArray := let ⟨o, z1, z2, n, z3⟩ := p2; ⟨o, keep b o z1, z2, n, z3⟩
    exact rc_ltF (A := X.A.in1) t2 t1 hu (lf_of hk (by simpa using r2) (by simpa using r1) (Nat.zero_le _) (Nat.zero_le _)) X.prog X.w E' Q' hq
  · refine ⟨.ref (if k = true then b else a), H, I.kept keep, ?_, q⟩
    cases k <;> rfl
end
section
variable {X : Cx} {ct : CT} {x y : Expr} {a b : Sem} {pos p : Pos}
/-- the lesser of two tuples -/
def fMinT : D → D → Option R
  | .tup ds, .tup es => (ltD es ds).map fun k => if k = true then .sh (.tup es) else .sh (.tup ds)
  | _, _ => none
theorem RdH.tupR {K : PySem.W.Frag} {W : Wd} {H : Hp} {v : V} {ds : List D} (h : RdH K ct W H v (.tup ds)) : Rep K ct W v (.tup ds) := by
  rcases h with h | ⟨a, rfl, c⟩
  · exact h
  · cases c
theorem os_minT {K : PySem.W.Frag} : OpS K ct (fun x y H Q => rMinT K [x, y] H Q) fMinT := by
  intro F W L env st σ H x y d1 d2 r Q I h1 h2 e k
  cases d1 <;> try (cases e; done)
  cases d2 <;> try (cases e; done)
  rename_i ds es
  obtain ⟨kb, hk, rfl⟩ := map2 e
  obtain ⟨a, vs, rfl, g1, q1⟩ := h1.tup I
  obtain ⟨b, ws, rfl, g2, q2⟩ := h2.tup I
  refine ⟨a, b, vs, ws, kb, rfl, SqT.of g1, SqT.of g2, ltD_rep q2 q1 hk, ?_⟩
  cases kb with
  | true => exact k _ H W L (.refl W) I h2.tupR
  | false => exact k _ H W L (.refl W) I h1.tupR
theorem se_minT {k : Nat} (hr : Room k X.A) (hc : X.calm = true) (hg : Gl X "min") (hm : X.mg "min" = none) (ha : SE X ct x a) (hb : SE X ct y b) (he : starEach [x, y] X.env = (false, eval x X.env) :: starEach [y] X.env := by rfl) (he2 : starEach [y] X.env = (false, eval y X.env) :: starEach [] X.env := by rfl) (hpl : (backTo pos (starEach [y] X.env)).any (·.1) = false := by rfl) :
    SE X ct (.Call (.Name "min" p) [x, y] [] pos) (e2 fMinT a b) := se_b2 (call_minT hc (hu_of hr)) os_minT hg hm (by decide +kernel) ha hb (by decide) (by decide) he he2 hpl
open En in
theorem o2_minR : Op2 (α := RowT) (β := RowT) .sh fMinT fun w v => (ltR v w).bind fun k => some (if k = true then v else w) := fun w v => by
  have h : fLtX (en v) (en w) = (ltR v w).map fun k => Kx.sh.r (en k) := o2_ltR v w
  have h : (ltD [.int v.x0, .int v.x1, .int v.x2, en v.x3] [.int w.x0, .int w.x1, .int w.x2, en w.x3]).map (fun k => Kn.R.sh (.bl k)) = (ltR v w).map fun k => Kn.R.sh (.bl k) := h
  show (ltD [.int v.x0, .int v.x1, .int v.x2, en v.x3] [.int w.x0, .int w.x1, .int w.x2, en w.x3]).map (fun k => if k = true then Kn.R.sh (en v) else Kn.R.sh (en w)) = ((ltR v w).bind fun k => some (if k = true then v else w)).map fun c => Kx.sh.r (en c)
  cases h1 : ltD [.int v.x0, .int v.x1, .int v.x2, en v.x3] [.int w.x0, .int w.x1, .int w.x2, en w.x3] with
  | none =>
    rw [h1] at h
    cases h2 : ltR v w with
    | none => rfl
    | some b => rw [h2] at h; cases h
  | some a =>
    rw [h1] at h
    cases h2 : ltR v w with
    | none => rw [h2] at h; cases h
    | some b =>
      rw [h2] at h
      have : a = b := by
        have := Option.some.inj h
        injection this with this
        injection this
      subst this
      cases a <;> rfl
end
end Kn
namespace Kn
open PySem L2
/-! ### a set of a list's ints, sorted -/
section
open PySem.Spec PyProof.Rows
section
variable {prog : Program} {w : World} {A : Around} {R : Result → Shared → Prop} {I S : Addr} {fp wr : List Addr} {G : Array GenState → Array GenState → Prop} {n : Nat} {P : Nat → Value → Prop} {St : Nat → Shared → Prop}
theorem st_loop (W : WalksS prog w A.in1 I fp wr G n P St) (hSf : S ∉ fp) {val : Nat → Int} (hval : ∀ i v, P i v → ∃ t, v = .int (val i) t) (hb : n + 1 < scanBound) : ∀ (m i : Nat) (s : Shared) (T : Int → Bool) (c : Nat), i + m = n → St i s → SetR w s.heap S T c → c ≤ i →
    (∀ s' T' c', Moved (S :: wr) G s s' → SetR w s'.heap S T' c' → c' ≤ n → (∀ k, T' k = true ↔ T k = true ∨ ∃ j, i ≤ j ∧ j < n ∧ val j = k) → R (.ok (.ret .none)) s') →
    codeAny (model prog w) A (.builtin "set.update.loop" ⟨[.ref S, .ref I], []⟩) R s := fun m => by
  have out : S ∉ wr := fun h => hSf (W.sub _ h)
  have wide : ∀ b ∈ wr, b ∈ S :: wr := fun b h => .tail _ h
  induction m with
  | zero =>
    intro i s T c e st r _ hR
    obtain rfl : i = n := e
    apply codeAny_builtin F.entry_set_update_loop
    rw [Around.under_plainId F.plain_set_update_loop]
    show wpAny (model prog w) _ (pyNext (.ref I) >>= _) _ _ _
    apply wpAny_bind
    refine W.done s _ _ st fun s1 mv => ?_
    show wpAny _ _ (ret .none) _ _ _
    exact wpAny_pure (hR s1 T c (mv.mono wide) (r.at (mv.heap S · out)) (by omega) fun k => ⟨.inl, fun h => h.elim id fun ⟨j, a, b, _⟩ => by omega⟩)
  | succ m ih =>
    intro i s T c e st r hc hR
    apply codeAny_builtin F.entry_set_update_loop
    rw [Around.under_plainId F.plain_set_update_loop]
    show wpAny (model prog w) _ (pyNext (.ref I) >>= _) _ _ _
    apply wpAny_bind
    refine W.item i s _ _ (by omega) st fun v s1 pv st1 mv => ?_
    obtain ⟨tk, rfl⟩ := hval i v pv
    have r1 : SetR w s1.heap S T c := r.at (mv.heap S · out)
    show wpAny _ A.in1 (holding [Value.int (val i) tk] (setAdd S (.int (val i) tk)) >>= _) _ _ _
    apply wpAny_bind; apply wpAny_holding
    unfold setAdd
    apply wpAny_holding; apply wpAny_bind
    apply (intKind prog w).pyHash (intKind_is prog w (val i) tk)
    refine setR_add_hashed (s := { s1 with toks := s1.toks + 1 }) r1 (by omega) fun h2 sb r2 => ?_
    apply wpAny_pure
    refine ⟨plainId_quiet F.plain_set_update_loop _, ih (i + 1) _ _ _ (by omega) (W.frame _ s1 _ _ st1 (Nat.le_succ _) fun b hb o q => (sb.2 b fun z : b = S => hSf (z ▸ hb)).trans q) r2 (by split <;> omega) fun s3 T3 c3 mv3 r3 l3 h3 => ?_⟩
    refine hR s3 T3 c3 (.trans W.gtrans ((mv.mono wide).then_heap (Nat.le_succ _) fun b o hb q => (sb.2 b fun z : b = S => hb (z ▸ .head _)).trans q) mv3) r3 l3 fun k => (h3 k).trans ?_
    rw [Bool.or_eq_true, decide_eq_true_eq]
    constructor
    · rintro ((h | h) | ⟨j, a, b, d⟩)
      · exact .inl h
      · exact .inr ⟨i, Nat.le_refl _, by omega, h.symm⟩
      · exact .inr ⟨j, by omega, b, d⟩
    · rintro (h | ⟨j, a, b, d⟩)
      · exact .inl (.inl h)
      · by_cases z : j = i
        · exact .inl (.inr (by rw [← z]; exact d.symm))
        · exact .inr ⟨j, by omega, b, d⟩
end
section
variable {w : World} {prog : Program} {A : Around} {s : Shared} {E : Value → Shared → Prop}
abbrev stO (w : World) : Obj := { cls := .type "set", dict := none, data := .set #[] 0 (.fresh 0 0 (!w.params.followText "set-order")) }
theorem st_make (a : Value) {Q : Value → Shared → Prop} (h : Q (.ref s.heap.objs.size) { s with heap := s.heap.push (stO w) }) :
    codeAny (model prog w) A (.call (.builtin "set.__new__") ⟨[.type "set", a], []⟩) (wants Q E) s := by
  apply codeAny_of_tree
  show wpAny _ A.in1 (checkBuiltinCall "set.__new__" ⟨[.type "set", a], []⟩ >>= fun _ => again (.builtin "set.__new__" ⟨[.type "set", a], []⟩)) _ _ _
  apply wpAny_bind
  apply wpAny_of_eq (F.newCall_set_1 a)
  apply wpAny_pure
  refine ⟨plainId_quiet F.plain_set_new _, codeAny_builtin F.entry_set_new ?_⟩
  rw [Around.under_plainId F.plain_set_new]
  unfold Builtin.«set.__new__»; unfold Builtin.Frozenset.newClass
  have self := sub_set_self
  cases s
  dsimp only
  wp_walk
  apply wpAny_askSetting; apply wpAny_pure
  dsimp only
  rw [newObj]
  apply wpAny_bind; apply wpAny_alloc; apply wpAny_pure
  exact wpAny_pure h
theorem call_setI {l : Addr} {vs : Array Value} {ns : List Int} {Q : Value → Shared → Prop} (hh : A.handled = none) (hl : s.heap.IsList l vs) (hi : IntsAre vs.toList ns) (hb : vs.size + 1 < scanBound)
    (hQ : ∀ h' tk T c, SetR w h' s.heap.objs.size T c → c ≤ vs.size → (∀ k, T k = true ↔ k ∈ ns) → (∀ b o, b < s.heap.objs.size → s.heap.get? b = some o → h'.get? b = some o) → Q (.ref s.heap.objs.size) { s with heap := h', toks := tk }) : wpAny (model prog w) A (call (.type "set") [.ref l]) Q E s := by
  obtain ⟨cc, tt, hmro⟩ := F.called_set.mro
  have m1 := F.called_set.made
  have m2 := F.called_set.sub
  apply wpAny_call
  apply codeAny_of_tree
  show wpAny _ _ (callAny (.type "set") _) _ _ s
  apply wpAny_pure
  refine ⟨Code.quiet_builtin _ (by decide +kernel), codeAny_builtin F.entry_type_call ?_⟩
  rw [Around.under_plain (weight_type_call_type "set" [Value.ref l] []) rfl]
  have m3 := F.called_set.notType
  have m4 := F.called_set.canCreate
  have m5 := F.typeCall_set_1 (Value.ref l)
  repeat any_goals first | assumption | wp_step
  apply codeAny_mono (st_make (Value.ref l) (Q := fun u s1 => u = .ref s.heap.objs.size ∧ s1 = { s with heap := s.heap.push (stO w) }) ⟨rfl, rfl⟩)
  intro r s1 hr
  cases r with
  | error e => exact hr
  | ok fl =>
    cases fl with
    | ret u =>
      obtain ⟨rfl, rfl⟩ := hr
      have g0 : (s.heap.push (stO w)).get? s.heap.objs.size = some (stO w) := Heap.get?_push_size _ rfl
      have ty : Shared.TypeIs { s with heap := s.heap.push (stO w) } (.ref s.heap.objs.size) "set" := ⟨_, g0, rfl⟩
      have m6 := F.called_set.init.lookup
      have m7 := F.called_set.init.bind (.ref s.heap.objs.size)
      repeat any_goals first | assumption | wp_step
      apply codeAny_mono (codeAny_call_builtin (R := wants (fun r s2 => r = .none ∧ ∃ h' tk T c, s2 = { s with heap := h', toks := tk } ∧ SetR w h' s.heap.objs.size T c ∧ c ≤ vs.size ∧ (∀ k, T k = true ↔ k ∈ ns) ∧ ∀ b o, b < s.heap.objs.size → s.heap.get? b = some o → h'.get? b = some o) E) F.called_set.init.plain F.entry_set_init (check_set_init_1 ty ?_))
      · intro r2 s2 hr2
        cases r2 with
        | error e => exact hr2
        | ok fl2 =>
          cases fl2 with
          | ret z =>
            obtain ⟨rfl, h', tk, T, c, rfl, a1, a2, a3, a4⟩ := hr2
            repeat any_goals first | assumption | wp_step
            exact hQ h' tk T c a1 a2 a3 a4
          | _ => exact hr2.elim
      · obtain ⟨⟨oc, od, oo, os⟩, g1, c1, nl, d1⟩ := hl
        dsimp only at c1 d1
        subst c1 d1
        have g2 : (s.heap.push (stO w)).get? l = some { cls := .type "list", dict := od, data := .seq vs nl, slots := os } := Heap.get?_push_of_some _ g1
        have n1 := F.sub_list_set
        have n2 := F.sub_list_frozenset
        have n3 : (Value.type "list" == Value.type "dict") = false := by decide
        have isl : (s.heap.push (stO w)).IsList l vs := ⟨_, g2, rfl, nl, rfl⟩
        unfold Builtin.«set.__init__»; unfold noKeywords; unfold Builtin.Frozenset.updateFrom
        generalize hit : pyIter = it
        wp_walk
        subst hit
        apply wpAny_pyIter_list isl
        apply wpAny_bind; apply wpAny_runValue
        have lt := Heap.lt_size g1
        have no : A.in1.in1.in1.handled = none := by simp [hh]
        have sz : (s.heap.push (stO w)).objs.size = s.heap.objs.size + 1 := Heap.size_push _ _
        have dif : l ≠ (s.heap.push (stO w)).objs.size := by rw [sz]; exact Nat.ne_of_lt (Nat.lt_succ_of_lt lt)
        refine st_loop ((Walks.list no _ l dif vs).toS) (S := s.heap.objs.size) (by
          rw [sz]; simp only [List.mem_cons, List.not_mem_nil, or_false, not_or]; exact ⟨Nat.ne_of_lt (Nat.lt_succ_self _), Nat.ne_of_gt lt⟩) (val := fun i => ns.getD i 0) (fun i v hv => IntsAre.int_at hi i v (by rw [Array.getElem?_toList]; exact hv)) hb vs.size 0 _ _ 0 (Nat.zero_add _) ⟨⟨_, Heap.get?_push_size _ rfl, rfl, rfl⟩, isl.push _⟩ ((setR_fresh w).at fun o e => Heap.get?_push_of_some _ e) (Nat.le_refl _) fun s3 T c mv r3 l3 h3 => ?_
        have q1 := mv.gens
        have q2 := mv.drawn
        have q3 := mv.os
        have q4 := mv.heap
        cases s3
        dsimp only at q1 q2 q3 q4 r3
        subst q1 q2 q3
        apply wpAny_pure
        show wpAny _ _ (ret .none) _ _ _
        apply wpAny_pure
        refine ⟨rfl, _, _, T, c, rfl, r3, l3, fun k => (h3 k).trans ?_, fun b o hlt e => q4 b o (by
          rw [sz]; simp only [List.mem_cons, List.not_mem_nil, or_false, not_or]; exact ⟨Nat.ne_of_lt hlt, Nat.ne_of_lt (Nat.lt_succ_of_lt hlt)⟩) (Heap.get?_push_of_some _ (Heap.get?_push_of_some _ e))⟩
        have el : vs.size = ns.length := by rw [← Array.length_toList]; exact IntsAre.length hi
        constructor
        · rintro (h | ⟨j, _, b, d⟩)
          · cases h
          · rw [← d]
            show ns.getD j 0 ∈ ns
            rw [List.getD_eq_getElem?_getD, List.getElem?_eq_getElem (by omega)]
            exact List.getElem_mem _
        · intro h
          obtain ⟨j, b, d⟩ := List.getElem_of_mem h
          refine .inr ⟨j, Nat.zero_le _, by omega, ?_⟩
          show ns.getD j 0 = k
          rw [List.getD_eq_getElem?_getD, List.getElem?_eq_getElem b, ← d]; rfl
    | _ => exact hr.elim
end
end
section
open PySem.Spec PyProof.Rows
def rSetI (K : PySem.W.Frag) (w : World) : List V → Hp → VK → Prop := fun vs H Q => ∃ (a : Addr) (ns : List Int), vs = [.ref a] ∧ SqL K H a (ns.map V.int) ∧ ns.length < 60 ∧ ∀ (p : Addr) (T : Int → Bool) (c : Nat), c ≤ ns.length → (∀ k, T k = true ↔ k ∈ ns) → H p = none → Q (.ref p) (upd H p (SetO w p T c))
theorem cr_setI {X : Cx} (hc : X.calm = true) : CallR X (.type "set") (rSetI X.K X.w) := by
  intro pins s σ H vs us Q I rv0 h
  obtain ⟨a, ns, rfl, hs, hn, q⟩ := h
  obtain ⟨its, rv, p1, hz⟩ := I.list hs
  rw [Vals.ref1 rv0]
  have el : its.toArray.size = ns.length := by rw [List.size_toArray, ← rv.length, List.length_map]
  refine call_setI (I.ok.hd hc) p1.isList (by simpa using rv.ints) (by rw [el]; unfold scanBound; omega) fun h' tk T c R hc2 hT keep => ?_
  exact ⟨.ref _, upd H s.heap.objs.size (SetO X.w s.heap.objs.size T c), I.laid (t' := tk) (fun b u e => keep b u (Heap.lt_size e) e) (Nat.le_refl _) (setO_new R), rfl, q _ T c (by rw [el] at hc2; exact hc2) hT (I.hok.fresh (Nat.le_refl _))⟩
/-- a number into rising numbers -/
def insS (k : Int) : List Int → List Int
  | [] => [k]
  | x :: l => if k < x then k :: x :: l else if k = x then x :: l else x :: insS k l
def srtS (l : List Int) : List Int := l.foldr insS []
theorem insS_mem (k y : Int) : ∀ l : List Int, y ∈ insS k l ↔ y = k ∨ y ∈ l
  | [] => by simp [insS]
  | x :: l => by
    unfold insS
    split
    · rw [List.mem_cons]
    · split
      · rename_i e; subst e; simp
      · rw [List.mem_cons, insS_mem k y l, List.mem_cons]
        constructor
        · rintro (h | h | h)
          · exact .inr (.inl h)
          · exact .inl h
          · exact .inr (.inr h)
        · rintro (h | h | h)
          · exact .inr (.inl h)
          · exact .inl h
          · exact .inr (.inr h)
theorem insS_up (k : Int) : ∀ l : List Int, l.Pairwise (· < ·) → (insS k l).Pairwise (· < ·)
  | [], _ => by simp [insS]
  | x :: l, h => by
    have ⟨h1, h2⟩ := List.pairwise_cons.mp h
    unfold insS
    split
    · rename_i c
      refine List.pairwise_cons.mpr ⟨fun y hy => ?_, h⟩
      rcases List.mem_cons.mp hy with z | z
      · rw [z]; exact c
      · exact Int.lt_trans c (h1 y z)
    · rename_i c
      split
      · exact h
      · rename_i d
        refine List.pairwise_cons.mpr ⟨fun y hy => ?_, insS_up k l h2⟩
        rcases (insS_mem k y l).mp hy with z | z
        · omega
        · exact h1 y z
theorem srtS_up : ∀ l : List Int, (srtS l).Pairwise (· < ·)
  | [] => .nil
  | x :: l => insS_up x _ (srtS_up l)
theorem srtS_mem (y : Int) : ∀ l : List Int, y ∈ srtS l ↔ y ∈ l
  | [] => Iff.rfl
  | x :: l => (insS_mem x y _).trans (by rw [List.mem_cons]; exact or_congr Iff.rfl (srtS_mem y l))
theorem up_eq : ∀ l m : List Int, l.Pairwise (· < ·) → m.Pairwise (· < ·) → (∀ k, k ∈ l ↔ k ∈ m) → l = m
  | [], [], _, _, _ => rfl
  | [], y :: m, _, _, h => absurd ((h y).mpr List.mem_cons_self) List.not_mem_nil
  | x :: l, [], _, _, h => absurd ((h x).mp List.mem_cons_self) List.not_mem_nil
  | x :: l, y :: m, a, b, h => by
    obtain ⟨a1, a2⟩ := List.pairwise_cons.mp a
    obtain ⟨b1, b2⟩ := List.pairwise_cons.mp b
    have e : x = y := by
      rcases List.mem_cons.mp ((h x).mp List.mem_cons_self) with z | z
      · exact z
      · rcases List.mem_cons.mp ((h y).mpr List.mem_cons_self) with u | u
        · exact u.symm
        · have := b1 x z; have := a1 y u; omega
    subst e
    rw [up_eq l m a2 b2 fun k => ⟨fun q => ?_, fun q => ?_⟩]
    · rcases List.mem_cons.mp ((h k).mp (List.mem_cons_of_mem _ q)) with z | z
      · have := a1 k q; omega
      · exact z
    · rcases List.mem_cons.mp ((h k).mpr (List.mem_cons_of_mem _ q)) with z | z
      · have := b1 k q; omega
      · exact z
def fSrtSet : D → Option R := fInts fun ns => if ns.length < 60 then some (.ow (.lst ((srtS ns).map D.int))) else none
section
variable {X : Cx} {ct : CT} {x : Expr} {a : Sem} {pos p p2 pos2 : Pos}
theorem us_srtSet {K : PySem.W.Frag} {w : World} : UnS K ct (fun v H Q => rSetI K w [v] H fun u H2 => rSortedSet w [u] H2 Q) fSrtSet := by
  intro F W L env st σ H v d r Q I h e k
  obtain ⟨a, ns, rfl, h1, e2⟩ := fInts_out I h e
  obtain ⟨c, e2⟩ := ifs e2
  subst e2
  refine ⟨a, ns, rfl, SqL.of h1, c, fun p1 T n hn hT f1 => ?_⟩
  obtain ⟨I2, _⟩ := I.laid (o := SetO w p1 T n) f1
  refine ⟨p1, T, n, rfl, upd_same, by omega, fun ms q up hm _ f2 => ?_⟩
  obtain rfl : ms = srtS ns := up_eq _ _ up (srtS_up ns) fun z => (hm z).trans ((hT z).trans (srtS_mem z ns).symm)
  exact fresh_out I2 f2 (.lst upd_same (RepL.of_ints _)) fun v' H' W' L' l' => k v' H' W' L' l'
theorem se_srtSet (hc : X.calm = true) (hg : Gl X "sorted") (hm : X.mg "sorted" = none) (hg2 : Gl X "set") (hm2 : X.mg "set" = none) (ha : SE X ct x a) (s1 : starEach [x] X.env = (false, eval x X.env) :: starEach [] X.env := by rfl)
    (s2 : starEach [.Call (.Name "set" p2) [x] [] pos2] X.env = (false, eval (.Call (.Name "set" p2) [x] [] pos2) X.env) :: starEach [] X.env := by rfl) (h1 : (backTo pos2 (starEach [] X.env)).any (·.1) = false := by rfl) (h2 : (backTo pos (starEach [] X.env)).any (·.1) = false := by rfl) :
    SE X ct (.Call (.Name "sorted" p) [.Call (.Name "set" p2) [x] [] pos2] [] pos) (e1 fSrtSet a) :=
  ⟨pe_mono (pe_callB (cr_sortedSet hc) hg hm (by decide +kernel) (pa_cons (pe_callTy (cr_setI hc) hg2 hm2 (by decide +kernel) (pa_cons ha.pe pa_nil s1) (by decide) (by decide) s1 h1) pa_nil s2) (by decide) (by decide) s2 h2) fun _ _ _ h => tE_e1 us_srtSet h⟩
end
end
section
open En
def srtG (l : List Int) : Option (List Int) := if l.length < 60 then some (srtS l) else none
theorem o1_srtSet : Op1 (α := List Int) .ow fSrtSet fun l => srtG l := fun l => by
  unfold srtG
  show fInts _ (.lst (l.map fun n => D.int n)) = _
  unfold fInts
  dsimp only
  rw [intsL_map]
  show (if l.length < 60 then some (R.ow (.lst ((srtS l).map D.int))) else none) = _
  split <;> rfl
end
end Kn
namespace Kn
open PySem L2
/-! ### list(range(a, b)) -/
section
variable {X : Cx} {ct : CT} {x y : Expr} {a b : Sem} {pos p p2 pos2 : Pos}
noncomputable def fLrg2 : D → D → Option R
  | .int i, .int j => if Rg i ∧ Rg j ∧ j - i ≤ 1000 then some (.ow (.lst (rngD i (j - i).toNat))) else none
  | _, _ => none
theorem rgV_rep2 {K : PySem.W.Frag} {W : Wd} (i j : Int) : RepL K ct W (rgV i j) (rngD i (j - i).toNat) := by
  unfold rngD rgV
  have : ∀ l : List Nat, RepL K ct W (l.map fun k => V.int (i + (k : Nat))) (l.map fun k => D.int (i + (k : Nat))) := fun l => by
    induction l with
    | nil => exact .nil
    | cons k l ih => exact .cons (.int _) ih
  exact this (List.range (j - i).toNat)
theorem os_lrg2 {K : PySem.W.Frag} : OpS K ct (fun v u H Q => ∃ i j, v = .int i ∧ u = .int j ∧ RgOk i j ∧ ∀ q, H q = none → Q (.ref q) (upd H q (.lst (rgV i j)))) fLrg2 := by
  intro F W L env st σ H v u d1 d2 r Q I h1 h2 e k
  cases d1 <;> try (cases e; done)
  cases d2 <;> try (cases e; done)
  rename_i i j
  obtain ⟨c, e⟩ := ifs e
  subst e
  refine ⟨i, j, h1.int, h2.int, ⟨c.1.1, c.1.2, c.2.1.1, c.2.1.2, by have := c.2.2; omega⟩, fun q hq => fresh_out I hq (.lst upd_same (rgV_rep2 i j)) fun v' H' W' L' l' => k v' H' W' L' l'⟩
theorem se_lrg2 (hc : X.calm = true) (hg : Gl X "list") (hm : X.mg "list" = none) (hg2 : Gl X "range") (hm2 : X.mg "range" = none) (ha : SE X ct x a) (hb : SE X ct y b) (s1 : starEach [x, y] X.env = (false, eval x X.env) :: starEach [y] X.env := by rfl) (s3 : starEach [y] X.env = (false, eval y X.env) :: starEach [] X.env := by rfl) (hp : (backTo pos2 (starEach [y] X.env)).any (·.1) = false := by rfl)
    (s2 : starEach [.Call (.Name "range" p2) [x, y] [] pos2] X.env = (false, eval (.Call (.Name "range" p2) [x, y] [] pos2) X.env) :: starEach [] X.env := by rfl) :
    SE X ct (.Call (.Name "list" p) [.Call (.Name "range" p2) [x, y] [] pos2] [] pos) (e2 fLrg2 a b) :=
  ⟨pe_mono (pe_listRg hc hg hm (prg_2 hg2 hm2 ha.pe hb.pe s1 s3 hp) s2) fun _ _ _ h => tE_e2 os_lrg2 h⟩
end
section
open En
open Classical in
noncomputable def lrg2G (i j : Int) : Option (List Int) := if Rg i ∧ Rg j ∧ j - i ≤ 1000 then some (rngI i (j - i).toNat) else none
theorem lrg2G_of {i j : Int} (h : i.natAbs ≤ 100000) (h2 : j.natAbs ≤ 100000) (h3 : j - i ≤ 1000) : lrg2G i j = some (rngI i (j - i).toNat) := if_pos ⟨.of (by omega), .of (by omega), h3⟩
theorem o2_lrg2 : Op2 (α := Int) (β := Int) .ow fLrg2 fun i j => lrg2G i j := fun i j => by
  show (if Rg i ∧ Rg j ∧ j - i ≤ 1000 then some (Kn.R.ow (.lst (rngD i (j - i).toNat))) else none) = _
  show _ = (lrg2G i j).map fun c => Kx.ow.r (en c)
  by_cases c : Rg i ∧ Rg j ∧ j - i ≤ 1000
  · rw [if_pos c, show lrg2G i j = some (rngI i (j - i).toNat) from if_pos c, rngD_en]; rfl
  · rw [if_neg c, show lrg2G i j = none from if_neg c]; rfl
end
end Kn
namespace Kn
open PySem L2
/-! ### x.append(y), x rows of one's own, y a name's own list -/
section
variable {X : Cx} {ct : CT} {pos cpos apos npos npos2 : Pos} {n n2 : Str}
def sAppO (i j : Nat) : SemS := fun env st => match (env[i]? : Option Kn.Slot), (env[j]? : Option Kn.Slot) with
  | some (.o2 dss), some (.ow (.lst ds)) => if i ≠ j ∧ dss.length < sizeLine then some (.nx, (env.set j .no).set i (.o2 (dss ++ [ds])), st) else none
  | _, _ => none
open Classical in
theorem Rel.byside {K : PySem.W.Frag} {F H : Hp} {W : Wd} {L : Addr → Option Lab} {env : List Kn.Slot} {st : Sto} {σ : St} {a : Addr} (I : Rel K ct F W L env st σ H) (hl : L a = none) (hw : W.hs a = none) : Rel K ct (fun b => if b = a then H b else F b) W L env st σ H := by
  refine ⟨fun b u e => ?_, I.hs, I.tp, I.ob, I.rh, I.len, I.sl⟩
  by_cases z : b = a
  · rw [if_pos z] at e
    rw [z] at e ⊢
    exact ⟨e, hl, hw⟩
  · rw [if_neg z] at e
    exact I.fr b u e
open Classical in
theorem Rel.joinRow {K : PySem.W.Frag} {F H : Hp} {W : Wd} {L : Addr → Option Lab} {env : List Kn.Slot} {st : Sto} {σ : St} {i j : Nat} (I : Rel K ct F W L env st σ H) (ne : i ≠ j) {dss : List (List D)} {ds : List D} {l aj : Addr} {ws vs : List V}
    (s1 : σ[i]? = some (some (.ref l))) (s2 : L l = some (.slot i)) (s3 : H l = some (.lst ws)) (s4 : V.ref l ∉ ws) (rows : Rows K ct W H L (.slot i) ws dss) (t2 : L aj = some (.slot j)) (t3 : H aj = some (.lst vs)) (q : RepL K ct W vs ds) :
    ∃ L', Rel K ct F W L' ((env.set j .no).set i (.o2 (dss ++ [ds]))) st σ (upd H l (.lst (ws ++ [.ref aj]))) := by
  have C := I.clear j
  have sl : (Lab.slot i) ≠ .slot j := fun z => ne (by injection z)
  have nl : l ≠ aj := fun z => by rw [z, t2] at s2; exact sl (Option.some.inj s2).symm
  have naw : V.ref aj ∉ ws := fun z => by
    have := (rows.lab aj z).1
    rw [t2] at this; exact sl (Option.some.inj this).symm
  have hs : W.hs aj = none := by
    cases w : W.hs aj with
    | none => rfl
    | some u => have := (I.hs aj u w).2; rw [t2] at this; cases this
  have fr : F aj = none := by
    cases w : F aj with
    | none => rfl
    | some u => have := (I.fr aj u w).2.1; rw [t2] at this; cases this
  have cl : ∀ b, L b = some (.slot i) → (if L b = some (.slot j) then none else L b) = some (.slot i) := fun b h => by
    rw [h, if_neg fun z => sl (Option.some.inj z)]
  have ca : (if L aj = some (.slot j) then none else L aj) = none := if_pos t2
  obtain ⟨G1, G2⟩ := C.give2 (cl l s2) s3 (rows.move (.refl W) fun a o hm ho => ⟨ho, cl a (rows.lab a hm).1⟩)
  have G3 := G1.byside (a := aj) (by
    show (if (if L aj = some (.slot j) then none else L aj) = some (.slot i) then none else if L aj = some (.slot j) then none else L aj) = none
    rw [ca]; rfl) hs
  have J3 := G3.upd_frame (p := l) (o := .lst ws) (o' := .lst (ws ++ [.ref aj])) (by
    show (if l = aj then H l else if l = l ∨ V.ref l ∈ ws then H l else F l) = _
    rw [if_neg nl, if_pos (.inl rfl)]; exact s3) (fun _ z => nomatch z)
  have J4 := J3.take2 (F := F) (m := l) (ws := ws ++ [.ref aj]) (i := i) (σ' := σ) (dss := dss ++ [ds]) (fun b u e => by
      obtain ⟨n1, n2⟩ := G2 b u e
      have n3 : b ≠ aj := fun z => by rw [z, fr] at e; cases e
      refine ⟨?_, n1, fun z => ?_⟩
      · rw [upd_ne n1]
        show (if b = aj then H b else if b = l ∨ V.ref b ∈ ws then H b else F b) = _
        rw [if_neg n3, if_neg fun z => z.elim n1 n2]; exact e
      · rcases List.mem_append.mp z with z | z
        · exact n2 z
        · exact n3 (by have := List.mem_singleton.mp z; injection this))
    (by rw [upd_same]; rfl) upd_same
    (fun b hb => by
      by_cases z : b = l
      · rw [z, upd_same]; rfl
      · rw [upd_ne z]
        show (if b = aj then H b else if b = l ∨ V.ref b ∈ ws then H b else F b).isSome = true
        by_cases z2 : b = aj
        · rw [if_pos z2, z2, t3]; rfl
        · have hb : V.ref b ∈ ws := by
            rcases List.mem_append.mp hb with y | y
            · exact y
            · exact absurd (by have := List.mem_singleton.mp y; injection this) z2
          rw [if_neg z2, if_pos (.inr hb)]
          obtain ⟨_, vs', e⟩ := rows.lab b hb
          rw [e]; rfl)
    s1 (fun _ _ => rfl) rfl (fun z => by
      rcases List.mem_append.mp z with y | y
      · exact s4 y
      · exact nl (by have := List.mem_singleton.mp y; injection this))
    ((rows.move (.refl W) fun a o hm ho => ⟨by
      rw [upd_ne fun z : a = l => s4 (by rw [← z]; exact hm)]; exact ho, if_pos (.inr (List.mem_append_left _ hm))⟩).snoc (by rw [upd_ne nl.symm]; exact t3) (if_pos (.inr (List.mem_append_right _ (List.mem_singleton.mpr rfl)))) q naw)
  rw [List.set_set] at J4
  exact ⟨_, J4⟩
theorem ss_appO (i j : Nat) (hN : X.N[i]? = some n := by rfl) (hv : Vis X.env.scope n := by first | exact Or.inl rfl | exact Or.inr (Or.inl rfl) | exact Or.inr (Or.inr rfl)) (hd : (n == ("__debug__" : Str)) = false := by decide) (hcd : (n == ("__classdict__" : Str)) = false := by decide)
    (hN2 : X.N[j]? = some n2 := by rfl) (hv2 : Vis X.env.scope n2 := by first | exact Or.inl rfl | exact Or.inr (Or.inl rfl) | exact Or.inr (Or.inr rfl)) (hd2 : (n2 == ("__debug__" : Str)) = false := by decide) (hcd2 : (n2 == ("__classdict__" : Str)) = false := by decide)
    (hbase : attributeBase (.Name n npos) "append" X.env (eval (.Name n npos) X.env) = eval (.Name n npos) X.env := by rfl)
    (hfew : ((backTo cpos (starEach [.Name n2 npos2] X.env)).all (fun x => !x.1) && (backToKw cpos (keywordEach [] X.env)).all (fun x => x.1.isSome)
      && decide (([.Name n2 npos2] : List Expr).length + ([] : List Keyword).length + (if ([] : List Keyword).isEmpty then 0 else 1) < 30)) = true := by rfl)
    (hline : (apos.endLine == cpos.line) = true := by rfl) (hs : starEach [.Name n2 npos2] X.env = (false, eval (.Name n2 npos2) X.env) :: starEach [] X.env := by rfl) (hplain : (backTo cpos (starEach [] X.env)).any (·.1) = false := by rfl)
    (hsw : swapsWith (.Call (.Attribute (.Name n npos) "append" apos) [.Name n2 npos2] [] cpos) none pos.line X.env = pure false := by rfl) :
    SS X ct (.Expr (.Call (.Attribute (.Name n npos) "append" apos) [.Name n2 npos2] [] cpos) pos) (sAppO i j) := by
  refine ⟨ps_mono (ps_expr (pe_bm PySem.F.plainAttrs_list PySem.F.slot_list_append PySem.F.type_list_append mt_append (pe_var hN hv hd hcd) (pa_cons (pe_var hN2 hv2 hd2 hcd2) pa_nil hs) hbase hfew hline hs hplain) hsw) fun D σ H ⟨F, W, L, env, st, o, env', st', I, e, kk⟩ => ?_⟩
  obtain ⟨dss, ds, e1, e2, ⟨ne, hz⟩, rfl, rfl, rfl⟩ : ∃ dss ds, env[i]? = some (.o2 dss) ∧ env[j]? = some (.ow (.lst ds)) ∧ (i ≠ j ∧ dss.length < sizeLine) ∧ o = .nx ∧ env' = (env.set j .no).set i (.o2 (dss ++ [ds])) ∧ st' = st := by
    clear kk
    unfold sAppO at e
    split at e
    · rename_i dss ds e1 e2
      obtain ⟨c, e⟩ := ifs e
      injection e with z1 e
      injection e with z2 z3
      exact ⟨dss, ds, e1, e2, c, z1, z2, z3⟩
    · cases e
  obtain ⟨l, ws, s1, s2, s3, s4, rows⟩ := I.sl i _ e1
  obtain ⟨aj, t1, t2, c⟩ := I.sl j _ e2
  cases c with
  | lst t3 q =>
    obtain ⟨L', J⟩ := I.joinRow ne s1 s2 s3 s4 rows t2 t3 q
    exact ⟨_, s1, .inl ⟨rfl, _, SqL.of s3⟩, _, t1, l, ws, _, rfl, rfl, s3, by rw [rows.length]; exact hz, kk _ _ _ _ (.refl W) J⟩
end
section
variable {X : Cx} {ct : CT} {sxs : List Stmt} {f : SemS}
/-- an own list that is empty is rows of one's own -/
def sOwn2 (i : Nat) (f : SemS) : SemS := fun env st => match (env[i]? : Option Kn.Slot) with
  | some (.ow (.lst [])) => f (env.set i (.o2 [])) st
  | _ => f env st
theorem Rel.open2 {K : PySem.W.Frag} {F H : Hp} {W : Wd} {L : Addr → Option Lab} {env : List Kn.Slot} {st : Sto} {σ : St} {i : Nat} (I : Rel K ct F W L env st σ H) (he : env[i]? = some (.ow (.lst []))) : Rel K ct F W L (env.set i (.o2 [])) st σ H := by
  refine ⟨I.fr, I.hs, I.tp, I.ob, I.rh, by rw [List.length_set]; exact I.len, fun j s e => ?_⟩
  rcases getset e with ⟨rfl, rfl, _⟩ | ⟨_, e⟩
  · obtain ⟨a, h1, h2, c⟩ := I.sl j _ he
    cases c with
    | lst g q =>
      cases q
      exact ⟨a, [], h1, h2, g, List.not_mem_nil, .nil⟩
  · exact I.sl j s e
theorem sb_own2 (i : Nat) (h : SB X ct sxs f) : SB X ct sxs (sOwn2 i f) := by
  refine ⟨pss_mono h.pss fun D σ H ⟨F, W, L, env, st, o, env', st', I, e, k⟩ => ?_⟩
  unfold sOwn2 at e
  split at e
  · rename_i he
    exact ⟨F, W, L, _, st, o, env', st', I.open2 he, e, k⟩
  · exact ⟨F, W, L, env, st, o, env', st', I, e, k⟩
end
section
open En
variable {α τ : Type} [En α] {env : List Kn.Slot} {st : Sto} {fn : Bool} {enc : τ → Outs} {f g : SemS} {t : Option τ} {i j : Nat}
theorem ru_own2 (he : env[i]? = some (.ow (en ([] : List (List α))))) (hr : Ru fn enc f (env.set i (o2S ([] : List (List α)))) st t) : Ru fn enc (sOwn2 i f) env st t := by
  unfold Ru at hr ⊢
  have : sOwn2 i f env st = f (env.set i (o2S ([] : List (List α)))) st := by
    unfold sOwn2
    rw [he]; rfl
  rw [this]; exact hr
def app2S (l : List (List α)) (r : List α) : Option (List (List α)) := if l.length < sizeLine then some (l ++ [r]) else none
theorem ru_appO {l : List (List α)} {r : List α} {T : List (List α) → Option τ} (ne : i ≠ j) (he : env[i]? = some (o2S l)) (he2 : env[j]? = some (.ow (en r))) (hr : ∀ m', Ru fn enc g ((env.set j .no).set i (o2S m')) st (T m')) : Ru fn enc (sSeq (sAppO i j) g) env st ((app2S l r).bind T) := by
  unfold Ru
  rw [x_seq]
  have e : sAppO i j env st = (app2S l r).map fun m' => (.nx, (env.set j .no).set i (o2S m'), st) := by
    unfold sAppO app2S o2S at *
    rw [he, he2]
    show (if i ≠ j ∧ (l.map fun r => r.map en).length < sizeLine then some (Out.nx, (env.set j .no).set i (.o2 ((l.map fun r => r.map en) ++ [r.map en])), st) else none) = _
    rw [List.length_map]
    by_cases c : l.length < sizeLine
    · rw [if_pos ⟨ne, c⟩, if_pos c]
      show _ = some (Out.nx, (env.set j .no).set i (.o2 ((l ++ [r]).map fun r => r.map en)), st)
      rw [List.map_append]; rfl
    · rw [if_neg fun z => c z.2, if_neg c]; rfl
  rw [e]
  cases h : app2S l r with
  | none => rfl
  | some m' =>
    have := hr m'
    unfold Ru at this
    exact this
end
end Kn
namespace Kn
open PySem L2
/-! ### typed readings: a list of one's own, or nothing -/
open En
section
variable {α β γ σ ρ τ : Type} [En α] [En β] [En γ]
variable {k k1 k2 k3 : Kx} {env env' : List Kn.Slot} {st : Sto} {e a b c : Sem} {i j n : Nat} {x x' : α} {y : β} {tx : Option α} {ty : Option β} {as : SemA} {ds : List D}
variable {fn : Bool} {enc : τ → Outs} {f g h s1 : SemS} {t t1 t2 : Option τ} {z : τ}
theorem ev_pino {o : Option (Option (List α))} (ha : Ev .oo a env st o) : Ev .sh (ePin a) env st o := by
  unfold Ev at ha; unfold Ev ePin
  rw [ha]
  cases o with
  | none => rfl
  | some v => cases v <;> rfl
/-- nothing, or a list of one's own -/
theorem ru_seto {o : Option (Option (List α))} {T0 : Option τ} {T1 : List α → Option τ} (ha : Ev .oo a env st o) (h0 : Ru fn enc g (env.set i (.sh .non)) st T0) (h1 : ∀ l : List α, Ru fn enc g (env.set i (.ow (en l))) st (T1 l)) : Ru fn enc (sSeq (sSet i a) g) env st (o.bind fun o => o.elim T0 T1) := by
  unfold Ev at ha
  cases o with
  | none => unfold Ru; rw [x_seq, x_set, ha]; rfl
  | some v =>
    cases v with
    | none =>
      unfold Ru at h0 ⊢
      have : sSeq (sSet i a) g env st = g (env.set i (.sh .non)) st := by rw [x_seq, x_set, ha]; rfl
      rw [this]; exact h0
    | some l =>
      have h1 := h1 l
      unfold Ru at h1 ⊢
      have : sSeq (sSet i a) g env st = g (env.set i (.ow (en l))) st := by rw [x_seq, x_set, ha]; rfl
      rw [this]; exact h1
/-- nothing, or a thing, both shared -/
theorem ru_setos {o : Option (Option α)} {T0 : Option τ} {T1 : α → Option τ} (ha : Ev .sh a env st o) (h0 : Ru fn enc g (env.set i (.sh .non)) st T0) (h1 : ∀ l : α, Ru fn enc g (env.set i (.sh (en l))) st (T1 l)) : Ru fn enc (sSeq (sSet i a) g) env st (o.bind fun o => o.elim T0 T1) := by
  unfold Ev at ha
  cases o with
  | none => unfold Ru; rw [x_seq, x_set, ha]; rfl
  | some v =>
    cases v with
    | none =>
      unfold Ru at h0 ⊢
      have : sSeq (sSet i a) g env st = g (env.set i (.sh .non)) st := by rw [x_seq, x_set, ha]; rfl
      rw [this]; exact h0
    | some l =>
      have h1 := h1 l
      unfold Ru at h1 ⊢
      have : sSeq (sSet i a) g env st = g (env.set i (.sh (en l))) st := by rw [x_seq, x_set, ha]; rfl
      rw [this]; exact h1
theorem ru_stuckm {f : List D → List D → Option (List D)} {d : D} (he : env[i]? = some (.sh d)) : Ru fn enc (sSeq (sMut i f as) g) env st (none : Option τ) := by
  unfold Ru
  rw [x_seq, x_mut]
  cases as env st with
  | none => rfl
  | some p =>
    show ((((valsR p.1).bind fun xs => match env[i]? with | some (.ow (.lst ds)) => (f xs ds).map fun ds' => (Out.nx, env.set i (.ow (.lst ds')), p.2) | _ => none).bind _ : Option Outs).map _) = none
    cases valsR p.1 with
    | none => rfl
    | some xs =>
      show (((match env[i]? with | some (.ow (.lst ds)) => (f xs ds).map fun ds' => (Out.nx, env.set i (.ow (.lst ds')), p.2) | _ => none).bind _ : Option Outs).map _) = none
      rw [he]; rfl
theorem ev_stuck1 {f : D → Option R} (h : f (en x) = none) (ha : Ev k1 a env st (some x)) : Ev k (e1 f a) env st (none : Option β) := by
  unfold Ev at ha ⊢
  show ((a env st).bind fun p => (f p.1.d).map fun r => (r, p.2)) = _
  rw [ha]
  show ((f (k1.r (en x)).d).map fun r => (r, st)) = _
  rw [Kx.rd, h]; rfl
theorem o1_isNoL : Op1 (α := List α) .sh fIsN fun _ => some false := fun _ => rfl
theorem o1_ntNoL : Op1 (α := List α) .sh fNotN fun _ => some true := fun _ => rfl
/-- a test that asks whether there is nothing -/
theorem ru_ifG {c : Sem} {o : Option α} {E : Option α → List Kn.Slot} {T0 : Option τ} {T1 : α → Option τ} (he : env = E o) (c0 : Ev .sh c (E none) st (some true)) (c1 : ∀ a, Ev .sh c (E (some a)) st (some false)) (h0 : Ru fn enc (sSeq f h) (E none) st T0) (h1 : ∀ a, Ru fn enc (sSeq g h) (E (some a)) st (T1 a)) : Ru fn enc (sSeq (sIf c f g) h) env st (o.elim T0 T1) := by
  subst he
  unfold Ru
  cases o with
  | none => rw [if_t c0]; exact h0
  | some a => rw [if_f (c1 a)]; exact h1 a
end
end Kn
namespace Kn
open PySem L2
/-! ### sorted whole numbers; dicts of one item; items that may be nothing -/
/-- a number into numbers in order -/
def insI (k : Int) : List Int → List Int
  | [] => [k]
  | x :: l => if k ≤ x then k :: x :: l else x :: insI k l
def srtI (l : List Int) : List Int := l.foldr insI []
theorem insI_perm (k : Int) : ∀ l : List Int, (insI k l).Perm (k :: l)
  | [] => List.Perm.refl _
  | x :: l => by
    unfold insI
    split
    · exact List.Perm.refl _
    · exact ((insI_perm k l).cons x).trans (List.Perm.swap k x l)
theorem srtI_perm : ∀ l : List Int, (srtI l).Perm l
  | [] => List.Perm.refl _
  | x :: l => (insI_perm x (srtI l)).trans ((srtI_perm l).cons x)
theorem insI_up (k : Int) : ∀ l : List Int, l.Pairwise (· ≤ ·) → (insI k l).Pairwise (· ≤ ·)
  | [], _ => by simp [insI]
  | x :: l, h => by
    have ⟨h1, h2⟩ := List.pairwise_cons.mp h
    unfold insI
    split
    · rename_i c
      refine List.pairwise_cons.mpr ⟨fun y hy => ?_, h⟩
      rcases List.mem_cons.mp hy with z | z
      · rw [z]; exact c
      · exact Int.le_trans c (h1 y z)
    · rename_i c
      refine List.pairwise_cons.mpr ⟨fun y hy => ?_, insI_up k l h2⟩
      rcases List.mem_cons.mp ((insI_perm k l).mem_iff.mp hy) with z | z
      · omega
      · exact h1 y z
theorem srtI_up : ∀ l : List Int, (srtI l).Pairwise (· ≤ ·)
  | [] => .nil
  | x :: l => insI_up x _ (srtI_up l)
theorem srt_uniq : ∀ l m : List Int, l.Perm m → l.Pairwise (· ≤ ·) → m.Pairwise (· ≤ ·) → l = m
  | [], m, p, _, _ => (List.nil_perm.mp p).symm
  | x :: l, [], p, _, _ => absurd p.symm.nil_eq (by simp)
  | x :: l, y :: m, p, a, b => by
    obtain ⟨a1, a2⟩ := List.pairwise_cons.mp a
    obtain ⟨b1, b2⟩ := List.pairwise_cons.mp b
    have e : x = y := by
      rcases List.mem_cons.mp (p.mem_iff.mp (List.mem_cons_self (a := x) (l := l))) with z | z
      · exact z
      · rcases List.mem_cons.mp (p.mem_iff.mpr (List.mem_cons_self (a := y) (l := m))) with u | u
        · exact u.symm
        · have := b1 x z; have := a1 y u; omega
    subst e
    rw [srt_uniq l m ((List.perm_cons x).mp p) a2 b2]
def fSrtI : D → Option R := fInts fun ns => if ns.length < 1000 then some (.ow (.lst ((srtI ns).map D.int))) else none
section
variable {X : Cx} {ct : CT} {x : Expr} {a : Sem} {pos p : Pos}
theorem us_srtI {K : PySem.W.Frag} : UnS K ct (fun v H Q => rSortedI K [v] H Q) fSrtI := by
  intro F W L env st σ H v d r Q I h e k
  obtain ⟨a, ns, rfl, h1, e2⟩ := fInts_out I h e
  obtain ⟨c, e2⟩ := ifs e2
  subst e2
  refine ⟨a, ns, rfl, SqL.of h1, fun ms q pm up f2 => ?_⟩
  obtain rfl : ms = srtI ns := srt_uniq _ _ (pm.trans (srtI_perm ns).symm) up (srtI_up ns)
  exact fresh_out I f2 (.lst upd_same (RepL.of_ints _)) fun v' H' W' L' l' => k v' H' W' L' l'
theorem se_srtI (hc : X.calm = true) (hg : Gl X "sorted") (hm : X.mg "sorted" = none) (ha : SE X ct x a) (s1 : starEach [x] X.env = (false, eval x X.env) :: starEach [] X.env := by rfl)
    (h2 : (backTo pos (starEach [] X.env)).any (·.1) = false := by rfl) :
    SE X ct (.Call (.Name "sorted" p) [x] [] pos) (e1 fSrtI a) :=
  ⟨pe_mono (pe_callB cr_sortedI hg hm (by decide +kernel) (pa_cons ha.pe pa_nil s1) (by decide) (by decide) s1 h2) fun _ _ _ h => tE_e1 us_srtI h⟩
end
open En
section
variable {α β γ σ ρ τ : Type} [En α] [En β] [En γ]
variable {k k1 k2 k3 : Kx} {env env' : List Kn.Slot} {st : Sto} {e a b c : Sem} {i j n : Nat} {x x' : α} {y : β} {tx : Option α} {ty : Option β} {as : SemA} {ds : List D}
variable {fn : Bool} {enc : τ → Outs} {f g h s1 : SemS} {t t1 t2 : Option τ} {z : τ}
def srtIG (l : List Int) : Option (List Int) := if l.length < 1000 then some (srtI l) else none
theorem o1_srtI : Op1 (α := List Int) .ow fSrtI fun l => srtIG l := fun l => by
  unfold srtIG
  show fInts _ (.lst (l.map fun n => D.int n)) = _
  unfold fInts
  dsimp only
  rw [intsL_map]
  show (if l.length < 1000 then some (Kn.R.ow (.lst ((srtI l).map D.int))) else none) = _
  split <;> rfl
theorem ev_d1 {v : Int} (ha : Ev k1 a env st (some v)) (hk1 : k1.ok = true) (hb : Ev k2 b env st (some x)) (hk2 : k2.ok = true) : Ev .ow (eD1 a b) env st (some (⟨[(v, x)]⟩ : Dc α)) := by
  unfold Ev at ha hb ⊢
  rw [x_d1e, ha]
  show ((b env st).bind fun q => match (k1.r (en v)).pin, q.1.pin with
    | .sh d, .sh d' => d.key.map fun ky => (Kn.R.ow (.dic [(ky, d')]), q.2)
    | _, _ => none) = _
  rw [hb]
  show (match (k1.r (en v)).pin, (k2.r (en x)).pin with
    | .sh d, .sh d' => d.key.map fun ky => (Kn.R.ow (.dic [(ky, d')]), st)
    | _, _ => none) = _
  rw [Kx.pin hk1, Kx.pin hk2]; rfl
def getG (d : Dc α) (j : Int) : Option α := (d.l.find? fun p => decide (p.1 = j)).map (·.2)
theorem valD_get (j : Int) : ∀ l : List (Int × α), valD (l.map fun p => ((Sum.inl p.1 : Key), en p.2)) (Sum.inl j) = ((l.find? fun p => decide (p.1 = j)).map (·.2)).map en
  | [] => rfl
  | p :: l => by
    have ih := valD_get j l
    unfold valD at ih ⊢
    rw [List.map_cons, List.find?_cons, List.find?_cons]
    by_cases h : p.1 = j
    · subst h; simp
    · have h2 : ¬ ((Sum.inl p.1 : Key) = Sum.inl j) := fun q => h (Sum.inl.inj q)
      simp only [h2, h, decide_false]
      exact ih
theorem o2_idxd : Op2 (α := Dc α) (β := Int) .sh fIdx fun d j => getG d j := fun d j => by
  show (valD (d.l.map fun p => ((Sum.inl p.1 : Key), en p.2)) (Sum.inl j)).map Kn.R.sh = _
  rw [valD_get]
  show Option.map Kn.R.sh (Option.map en (getG d j)) = Option.map (fun c => Kx.sh.r (en c)) (getG d j)
  cases getG d j <;> rfl
/-- a tuple that may be nothing, taken apart -/
theorem ru_asgox {o : SemG} {env1 : α → List Kn.Slot} {T : α → Option τ} {tx : Option (Option α)} (ha : Ev k a env st tx) (hk : k.ok = true) (hN : o .non env = none) (ho : ∀ x, o (en x) env = some (env1 x)) (hr : ∀ x, Ru fn enc g (env1 x) st (T x)) : Ru fn enc (sSeq (sAsg a o) g) env st (tx.bind fun o => o.bind T) := by
  cases tx with
  | none => unfold Ev at ha; unfold Ru; rw [x_seq, x_asg, ha]; rfl
  | some v =>
    cases v with
    | some x => exact ru_asgp (x := x) ha hk (ho x) (hr x)
    | none =>
      unfold Ev at ha; unfold Ru
      rw [x_seq, x_asg, ha]
      show (((match (k.r (en (none : Option α))).pin with | .sh d => (o d env).map fun env' => (Out.nx, env', st) | _ => none).bind _ : Option Outs).map _) = _
      rw [Kx.pin hk]
      show ((((o .non env).map fun env' => (Out.nx, env', st)).bind _ : Option Outs).map _) = _
      rw [hN]; rfl
end
end Kn
namespace Kn
open PySem L2
/-! ### things that many hold: cells of the store -/
open Classical in
/-- one list, dict or instance -/
def kC : Kd := ⟨fun K ct W F v d => ∃ a, v = .ref a ∧ Cell K ct W F a d, fun ⟨a, e, c⟩ l => ⟨a, e, c.mono l fun _ h => h⟩⟩
open Classical in
noncomputable def lookS (st : Sto) (g : Nat) : Option D := (st[g]?).bind fun p => if p.1 = kC then some p.2 else none
theorem lookS_some {st : Sto} {g : Nat} {d : D} (h : lookS st g = some d) : st[g]? = some (kC, d) := by
  unfold lookS at h
  obtain ⟨⟨κ, c⟩, h1, h2⟩ := bind2 h
  dsimp only at h2
  split at h2
  · rename_i e; cases h2; rw [h1, e]
  · cases h2
theorem lookS_of {st : Sto} {g : Nat} {d : D} (h : st[g]? = some (kC, d)) : lookS st g = some d := by
  unfold lookS; rw [h]; exact if_pos rfl
section
variable {K : PySem.W.Frag} {ct : CT} {F H H' : Hp} {W W' : Wd} {L L' : Addr → Option Lab} {env : List Kn.Slot} {st : Sto} {σ : St} {v : V} {d d' : Kn.D} {r : R} {a p : Addr} {o : HO} {g : Nat}
theorem Rel.cell (I : Rel K ct F W L env st σ H) (h : Rep K ct W v (.hnd g)) (e : lookS st g = some d) : ∃ a, v = .ref a ∧ L a = some (.ob g) ∧ Cell K ct W H a d := by
  obtain ⟨v', h1, a, rfl, c⟩ := I.ob g _ _ (lookS_some e)
  cases h with
  | hnd h2 =>
    rw [h1] at h2; cases h2
    obtain ⟨o, ho⟩ := c.there
    have hl : L a = some (.ob g) := by
      by_cases q : L a = some (.ob g)
      · exact q
      · rw [if_neg q] at ho; cases ho
    exact ⟨a, rfl, hl, c.mono (.refl W) fun o h => by rwa [if_pos hl] at h⟩
/-- a cell is written -/
theorem Rel.updOb (I : Rel K ct F W L env st σ H) (hr : W.rho g = some (.ref a)) (hg : lookS st g = some d) (hl : L a = some (.ob g)) (hn : ∀ xs, H a ≠ some (.tup xs)) (c' : Cell K ct W (upd H a o) a d') :
    Rel K ct F W L env (st.set g (kC, d')) σ (upd H a o) := by
  have hlt : g < st.length := (List.getElem?_eq_some_iff.mp (lookS_some hg)).1
  have ne : ∀ b, L b ≠ some (.ob g) → (upd H a o) b = H b := fun b h => upd_ne (by rintro rfl; exact h hl)
  refine ⟨fun b u e => ?_, fun b u e => ?_, fun b vs e => ?_, fun g' κ x e => ?_, fun g' v e => by rw [List.length_set]; exact I.rh g' v e, I.len, fun j s e => ?_⟩
  · obtain ⟨h1, h2, h3⟩ := I.fr b u e
    exact ⟨by rw [ne b (by rw [h2]; exact fun z => nomatch z)]; exact h1, h2, h3⟩
  · obtain ⟨h1, h2⟩ := I.hs b u e
    exact ⟨by rw [ne b (by rw [h2]; exact fun z => nomatch z)]; exact h1, h2⟩
  · rw [upd_ne (by rintro rfl; exact hn _ (I.tp _ _ e))]
    exact I.tp b vs e
  · by_cases hgg : g = g'
    · subst hgg
      rw [List.getElem?_set_self hlt] at e
      cases e
      refine ⟨.ref a, hr, a, rfl, ?_⟩
      exact c'.mono (.refl W) fun o h => by rw [if_pos hl]; exact h
    · rw [List.getElem?_set_ne hgg] at e
      obtain ⟨v, h1, h2⟩ := I.ob g' κ x e
      refine ⟨v, h1, ?_⟩
      have q : (fun b => if L b = some (.ob g') then (upd H a o) b else none) = fun b => if L b = some (.ob g') then H b else none := by
        funext b
        by_cases hb : L b = some (.ob g')
        · rw [if_pos hb, if_pos hb, ne b (by rw [hb]; intro z; cases z; exact hgg rfl)]
        · rw [if_neg hb, if_neg hb]
      rw [q]; exact h2
  · exact (I.sl j s e).mono (.refl W) fun b u hb hu => ⟨by rw [ne b (by rw [hb]; exact fun z => nomatch z)]; exact hu, hb⟩
/-- what was just made is laid into the store -/
theorem Rel.store (I : Rel K ct F W L env st σ H) (h : RepR K ct F W L H env σ v (.ow d)) : ∃ W' L', W.le W' ∧ Rel K ct F W' L' env (st ++ [(kC, d)]) σ H ∧ Rep K ct W' v (.hnd st.length) := by
  obtain ⟨a, rfl, hl, hw, hf, c⟩ := h
  have fresh : W.rho st.length = none := by
    cases q : W.rho st.length with
    | none => rfl
    | some v => have := I.rh _ _ q; omega
  have le : W.le ⟨W.hs, W.tp, fun g => if g = st.length then some (.ref a) else W.rho g⟩ := ⟨fun _ _ h => h, fun _ _ h => h, fun g v h => by
    show (if g = st.length then some (V.ref a) else W.rho g) = some v
    rw [if_neg (by rintro rfl; rw [fresh] at h; cases h)]; exact h⟩
  have lab : ∀ b, b ≠ a → (if b = a then some (Lab.ob st.length) else L b) = L b := fun b h => if_neg h
  refine ⟨⟨W.hs, W.tp, fun g => if g = st.length then some (.ref a) else W.rho g⟩, fun b => if b = a then some (.ob st.length) else L b, le, ⟨fun b u e => ?_, fun b u e => ?_, I.tp, fun g κ x e => ?_, fun g v e => ?_, I.len, fun j s e => ?_⟩, .hnd (if_pos rfl)⟩
  · obtain ⟨h1, h2, h3⟩ := I.fr b u e
    exact ⟨h1, (lab b (by rintro rfl; rw [hf] at e; cases e)).trans h2, h3⟩
  · obtain ⟨h1, h2⟩ := I.hs b u e
    exact ⟨h1, (lab b (by rintro rfl; rw [hw] at e; cases e)).trans h2⟩
  · by_cases hg : g < st.length
    · rw [List.getElem?_append_left hg] at e
      obtain ⟨v, h1, h2⟩ := I.ob g κ x e
      refine ⟨v, le.rho _ _ h1, ?_⟩
      have q : (fun b => if (if b = a then some (Lab.ob st.length) else L b) = some (.ob g) then H b else none) = fun b => if L b = some (.ob g) then H b else none := by
        funext b
        by_cases hb : b = a
        · subst hb
          rw [if_pos rfl, hl, if_neg (by intro z; cases z; omega), if_neg (fun z => nomatch z)]
        · rw [if_neg hb]
      rw [q]; exact κ.mono h2 le
    · rw [List.getElem?_append_right (by omega)] at e
      have hz : g - st.length = 0 := by
        cases q : g - st.length with
        | zero => rfl
        | succ n => rw [q] at e; cases e
      rw [hz] at e
      cases e
      have : g = st.length := by omega
      subst this
      refine ⟨.ref a, if_pos rfl, a, rfl, c.mono le fun o h => ?_⟩
      show (if (if a = a then some (Lab.ob st.length) else L a) = some (Lab.ob st.length) then H a else none) = some o
      rw [if_pos (if_pos rfl)]; exact h
  · show g < (st ++ [(kC, d)]).length
    rw [List.length_append]
    have e : (if g = st.length then some (V.ref a) else W.rho g) = some v := e
    by_cases q : g = st.length
    · simp; omega
    · rw [if_neg q] at e
      have := I.rh g v e
      simp; omega
  · exact (I.sl j s e).mono le fun b u hb hu => ⟨hu, (lab b (by rintro rfl; rw [hl] at hb; cases hb)).trans hb⟩
end
/-! reading: at the thing itself, or through a handle -/
abbrev Dr := Sto → R → Option D
def dI : Dr := fun _ r => some r.d
open En in
open Classical in
/-- what is behind a handle, if it reads as a τ -/
noncomputable def dH (τ : Type) [En τ] : Dr := fun st r => match r with
  | .sh (.hnd g) => (lookS st g).bind fun c => if ∃ x : τ, c = en x then some c else none
  | _ => none
structure DrOk (δ : Dr) : Prop where
  ok : ∀ {K ct F W L env st σ H v r d}, Rel K ct F W L env st σ H → RdR K ct W env σ v r → δ st r = some d → RdH K ct W H v d
theorem dI_ok : DrOk dI := ⟨fun I h e => by cases e; exact I.look h⟩
open En in
theorem dH_inv {τ : Type} [En τ] {st : Sto} {r : R} {d : D} (e : dH τ st r = some d) : ∃ g, r = .sh (.hnd g) ∧ lookS st g = some d ∧ ∃ x : τ, d = en x := by
  unfold dH at e
  split at e
  · rename_i g
    obtain ⟨c, h1, h2⟩ := bind2 e
    split at h2
    · rename_i h3
      cases h2
      exact ⟨g, rfl, h1, h3⟩
    · cases h2
  · cases e
theorem dH_ok (τ : Type) [En τ] : DrOk (dH τ) := ⟨fun I h e => by
  obtain ⟨g, rfl, h1, _⟩ := dH_inv e
  obtain ⟨a, rfl, _, c⟩ := I.cell h h1
  exact .inr ⟨a, rfl, c⟩⟩
section
variable {X : Cx} {ct : CT} {pos : Pos} {x y : Expr} {a b c h ix e : Sem} {δ δ1 δ2 : Dr}
def e1s (δ : Dr) (f : D → Option R) (a : Sem) : Sem := fun env st => (a env st).bind fun p => (δ p.2 p.1.pin).bind fun d => (f d).map fun r => (r, p.2)
def e2s (δ1 δ2 : Dr) (f : D → D → Option R) (a b : Sem) : Sem := fun env st => (a env st).bind fun p => (b env p.2).bind fun q => (δ1 q.2 p.1.pin).bind fun d1 => (δ2 q.2 q.1.pin).bind fun d2 => (f d1 d2).map fun r => (r, q.2)
theorem tE_e2s {K : PySem.W.Frag} {rr : R2} {f : D → D → Option R} (o1 : DrOk δ1) (o2 : DrOk δ2) (os : OpS K ct rr f) {σ : St} {H : Hp} {Q : VK} (hh : tE K ct (e2s δ1 δ2 f a b) σ H Q) : tOp rr (tE K ct a) (tE K ct b) σ H Q := by
  obtain ⟨F, W, L, env, st, r, st', I, e, k⟩ := hh
  obtain ⟨⟨r1, st1⟩, h1, e⟩ := bind2 e
  obtain ⟨⟨r2, st2⟩, h2, e⟩ := bind2 e
  obtain ⟨d1, g1, e⟩ := bind2 e
  obtain ⟨d2, g2, e⟩ := bind2 e
  obtain ⟨r3, h3, e⟩ := map2 e
  cases e
  refine ⟨F, W, L, env, st, r1, st1, I, h1, fun x H1 W1 L1 l1 I1 p1 => ?_⟩
  obtain ⟨W1', m1, J1, q1⟩ := I1.pin p1
  refine ⟨F, W1', L1, env, st1, r2, st2, J1, h2, fun y H2 W2 L2 l2 I2 p2 => ?_⟩
  obtain ⟨W2', m2, J2, q2⟩ := I2.pin p2
  have q1' := o1.ok J2 (q1.mono (l2.trans m2)) g1
  have q2' := o2.ok J2 q2 g2
  exact os F W2' L2 env st2 σ H2 x y _ _ _ Q J2 q1' q2' h3 fun v H' W' L' l' I' p' => k v H' W' L' (l1.trans (m1.trans (l2.trans (m2.trans l')))) I' p'
theorem tE_e1s {K : PySem.W.Frag} {rr : V → Hp → VK → Prop} {f : D → Option R} (o1 : DrOk δ) (os : UnS K ct rr f) {σ : St} {H : Hp} {Q : VK} (hh : tE K ct (e1s δ f a) σ H Q) : tUn rr (tE K ct a) σ H Q := by
  obtain ⟨F, W, L, env, st, r, st', I, e, k⟩ := hh
  obtain ⟨⟨r1, st1⟩, h1, e⟩ := bind2 e
  obtain ⟨d, g, e⟩ := bind2 e
  obtain ⟨r3, h3, e⟩ := map2 e
  cases e
  refine ⟨F, W, L, env, st, r1, st1, I, h1, fun x H1 W1 L1 l1 I1 p1 => ?_⟩
  obtain ⟨W1', m1, J1, q1⟩ := I1.pin p1
  exact os F W1' L1 env st1 σ H1 x _ _ Q J1 (o1.ok J1 q1 g) h3 fun v H' W' L' l' I' p' => k v H' W' L' (l1.trans (m1.trans l')) I' p'
theorem se_idxs (o1 : DrOk δ1) (o2 : DrOk δ2) {k : Nat} (hr : Room k X.A) (ha : SE X ct x a) (hb : SE X ct y b) (hs : PlainIx y := by exact fun _ _ => rfl) : SE X ct (.Subscript x y pos) (e2s δ1 δ2 fIdx a b) :=
  ⟨pe_mono (pe_ix (IxR.or (ix_dict (hu_of hr)) ix_seq) ha.pe hb.pe hs) fun _ _ _ h => tE_e2s o1 o2 os_idx h⟩
theorem se_cmps {op : CmpOp} {rr : R2} {f : D → D → Option R} (o1 : DrOk δ1) (o2 : DrOk δ2) (ho : OpR X (compareOp op) rr) (os : OpS X.K ct rr f) (hm : behindInMarks op y = false) (ha : SE X ct x a) (hb : SE X ct y b) : SE X ct (.Compare x [op] [y] pos) (e2s δ1 δ2 f a b) :=
  ⟨pe_mono (pe_cmpR ho ha.pe hb.pe hm) fun _ _ _ h => tE_e2s o1 o2 os h⟩
theorem st_cmps {op : CmpOp} {rr : R2} {f : D → D → Option R} (o1 : DrOk δ1) (o2 : DrOk δ2) (ho : OpR X (compareOp op) rr) (os : OpS X.K ct rr f) (hm : behindInMarks op y = false) (ha : SE X ct x a) (hb : SE X ct y b) : ST X ct (.Compare x [op] [y] pos) (e2s δ1 δ2 f a b) :=
  ⟨pt_mono (pt_cmpR ho ha.pe hb.pe hm) fun _ _ _ h => tE_e2s o1 o2 os (tT_tE h)⟩
theorem se_eqs {k : Nat} (o1 : DrOk δ1) (o2 : DrOk δ2) (hr : Room k X.A) (ha : SE X ct x a) (hb : SE X ct y b) : SE X ct (.Compare x [.Eq] [y] pos) (e2s δ1 δ2 fEq a b) := se_cmps o1 o2 (op_eqD hr.units) os_eq (nomark _) ha hb
theorem st_eqs {k : Nat} (o1 : DrOk δ1) (o2 : DrOk δ2) (hr : Room k X.A) (ha : SE X ct x a) (hb : SE X ct y b) : ST X ct (.Compare x [.Eq] [y] pos) (e2s δ1 δ2 fEq a b) := st_cmps o1 o2 (op_eqD hr.units) os_eq (nomark _) ha hb
theorem se_nes {k : Nat} (o1 : DrOk δ1) (o2 : DrOk δ2) (hr : Room k X.A) (ha : SE X ct x a) (hb : SE X ct y b) : SE X ct (.Compare x [.NotEq] [y] pos) (e2s δ1 δ2 fNe a b) := se_cmps o1 o2 (op_neD hr.units) os_ne (nomark _) ha hb
theorem st_nes {k : Nat} (o1 : DrOk δ1) (o2 : DrOk δ2) (hr : Room k X.A) (ha : SE X ct x a) (hb : SE X ct y b) : ST X ct (.Compare x [.NotEq] [y] pos) (e2s δ1 δ2 fNe a b) := st_cmps o1 o2 (op_neD hr.units) os_ne (nomark _) ha hb
theorem se_ins {k : Nat} (o1 : DrOk δ1) (o2 : DrOk δ2) (hr : Room k X.A) (ha : SE X ct x a) (hb : SE X ct y b) (hm : behindInMarks .In y = false := by with_unfolding_all rfl) : SE X ct (.Compare x [.In] [y] pos) (e2s δ1 δ2 fIn a b) := se_cmps o1 o2 (op_inA hr) (os_in false) hm ha hb
theorem st_ins {k : Nat} (o1 : DrOk δ1) (o2 : DrOk δ2) (hr : Room k X.A) (ha : SE X ct x a) (hb : SE X ct y b) (hm : behindInMarks .In y = false := by with_unfolding_all rfl) : ST X ct (.Compare x [.In] [y] pos) (e2s δ1 δ2 fIn a b) := st_cmps o1 o2 (op_inA hr) (os_in false) hm ha hb
theorem se_nins {k : Nat} (o1 : DrOk δ1) (o2 : DrOk δ2) (hr : Room k X.A) (ha : SE X ct x a) (hb : SE X ct y b) (hm : behindInMarks .NotIn y = false := by with_unfolding_all rfl) : SE X ct (.Compare x [.NotIn] [y] pos) (e2s δ1 δ2 fNin a b) := se_cmps o1 o2 (op_ninA hr) (os_in true) hm ha hb
theorem st_nins {k : Nat} (o1 : DrOk δ1) (o2 : DrOk δ2) (hr : Room k X.A) (ha : SE X ct x a) (hb : SE X ct y b) (hm : behindInMarks .NotIn y = false := by with_unfolding_all rfl) : ST X ct (.Compare x [.NotIn] [y] pos) (e2s δ1 δ2 fNin a b) := st_cmps o1 o2 (op_ninA hr) (os_in true) hm ha hb
theorem us_fld {K : PySem.W.Frag} {c f : Str} {C : Addr} {ns : List Str} (k : Nat) (o : Own K ct c C ns) (hk : ns[k]? = some f) : UnS K ct (fun v H Q => ∃ a C' dx fs w, v = .ref a ∧ H a = some (.ins C' dx fs) ∧ C' = C ∧ fs.lookup f = some w ∧ Q w H) (fFld c k) := by
  intro F W L env st σ H v d r Q I h e kk
  obtain ⟨ds, d, rfl, hd, rfl⟩ := fFld_inv e
  obtain ⟨a, C', dx, fs, ns', rfl, g, hc, hn, q⟩ := h.obj I
  rw [o.at_] at hc; cases hc
  obtain ⟨v, hv, hr⟩ := q.get hd
  exact ⟨a, _, dx, fs, v, rfl, g, rfl, look_fld o.nd hn hk hv, kk v _ _ _ (.refl W) I hr⟩
theorem se_flds {c f : Str} {C : Addr} {ns : List Str} (o1 : DrOk δ) (k : Nat) (o : Own X.K ct c C ns) (ha : SE X ct x a) (hk : ns[k]? = some f := by rfl) (hb : attributeBase x f X.env (eval x X.env) = eval x X.env := by rfl) : SE X ct (.Attribute x f pos) (e1s δ (fFld c k) a) := by
  refine ⟨pe_mono (pe_fld ha.pe hb) fun σ H Q h => ?_⟩
  obtain ⟨F, W, L, env, st, r1, st1, I, h1, k1⟩ := tE_e1s o1 (us_fld k o hk) h
  refine ⟨F, W, L, env, st, r1, st1, I, h1, fun v H1 W1 L1 l1 I1 p1 => ?_⟩
  obtain ⟨a, C', dx, fs, w, e1, e2, e3, e4, e5⟩ := k1 v H1 W1 L1 l1 I1 p1
  subst e3
  exact ⟨a, _, dx, fs, w, e1, e2, o.cl, o.no f (List.mem_of_getElem? hk), e4, e5⟩
theorem se_b1s {id : String} {n : Str} {rr : List V → Hp → VK → Prop} {f : D → Option R} {p : Pos} (o1 : DrOk δ) (hc : CallR X (.builtin id) rr) (os : UnS X.K ct (fun x H Q => rr [x] H Q) f) (hg : Gl X n) (hm : X.mg n = none) (hv : bootBuiltins n = some (.builtin id)) (ha : SE X ct x a)
    (hn : n ≠ "__name__" := by decide) (hdb : (n == ("__debug__" : Str)) = false := by decide) (he : starEach [x] X.env = (false, eval x X.env) :: starEach [] X.env := by rfl) (hpl : (backTo pos (starEach [] X.env)).any (·.1) = false := by rfl) : SE X ct (.Call (.Name n p) [x] [] pos) (e1s δ f a) :=
  ⟨pe_mono (pe_callB hc hg hm hv (pa_cons ha.pe pa_nil he) hn hdb he hpl) fun _ _ _ h => tE_e1s o1 os h⟩
theorem se_t1s {T : String} {n : Str} {rr : List V → Hp → VK → Prop} {f : D → Option R} {p : Pos} (o1 : DrOk δ) (hc : CallR X (.type T) rr) (os : UnS X.K ct (fun x H Q => rr [x] H Q) f) (hg : Gl X n) (hm : X.mg n = none) (hv : bootBuiltins n = some (.type T)) (ha : SE X ct x a)
    (hn : n ≠ "__name__" := by decide) (hdb : (n == ("__debug__" : Str)) = false := by decide) (he : starEach [x] X.env = (false, eval x X.env) :: starEach [] X.env := by rfl) (hpl : (backTo pos (starEach [] X.env)).any (·.1) = false := by rfl) : SE X ct (.Call (.Name n p) [x] [] pos) (e1s δ f a) :=
  ⟨pe_mono (pe_callTy hc hg hm hv (pa_cons ha.pe pa_nil he) hn hdb he hpl) fun _ _ _ h => tE_e1s o1 os h⟩
theorem se_lens (o1 : DrOk δ) {p : Pos} (hg : Gl X "len") (hm : X.mg "len" = none) (ha : SE X ct x a) (he : starEach [x] X.env = (false, eval x X.env) :: starEach [] X.env := by rfl) (hpl : (backTo pos (starEach [] X.env)).any (·.1) = false := by rfl) :
    SE X ct (.Call (.Name "len" p) [x] [] pos) (e1s δ fLen a) := se_b1s o1 (CallR.or call_len_seq (CallR.or call_lenD call_len_str)) us_len hg hm PySem.boot_len ha (by decide) (by decide) he hpl
theorem us_lofs {K : PySem.W.Frag} : UnS K ct (fun x H Q => ∃ (a : Addr) (vs : List V), [x] = [V.ref a] ∧ (SqL K H a vs ∨ SqT K H a vs) ∧ ∀ p, H p = none → Q (.ref p) (upd H p (.lst vs))) fLofs := by
  intro F W L env st σ H x d r Q I h e k
  unfold fLofs at e
  split at e
  · cases e
    obtain ⟨a, vs, rfl, g, q⟩ := h.list I
    exact ⟨a, vs, rfl, .inl (SqL.of g), fun p hp => fresh_out I hp (.lst upd_same q) k⟩
  · rename_i ns
    cases e
    obtain ⟨a, vs, rfl, g, q⟩ := h.seqL (ds := ns.map D.int) rfl I
    exact ⟨a, vs, rfl, .inl g, fun p hp => fresh_out I hp (.lst upd_same q) k⟩
  · cases e
    obtain ⟨a, vs, rfl, g, q⟩ := h.tup I
    exact ⟨a, vs, rfl, .inr (SqT.of g), fun p hp => fresh_out I hp (.lst upd_same q) k⟩
  · cases e
theorem se_lists (o1 : DrOk δ) {p : Pos} (hg : Gl X "list") (hm : X.mg "list" = none) (ha : SE X ct x a) (he : starEach [x] X.env = (false, eval x X.env) :: starEach [] X.env := by rfl) (hpl : (backTo pos (starEach [] X.env)).any (·.1) = false := by rfl) :
    SE X ct (.Call (.Name "list" p) [x] [] pos) (e1s δ fLofs a) := se_t1s o1 call_list_of us_lofs hg hm PyProof.Rows.boot_list ha (by decide) (by decide) he hpl
/-- a thing just made is laid into the store -/
def eNew (a : Sem) : Sem := fun env st => (a env st).bind fun p => match p.1 with
  | .ow d => some (.sh (.hnd p.2.length), p.2 ++ [(kC, d)])
  | _ => none
theorem se_new (ha : SE X ct x a) : SE X ct x (eNew a) := by
  refine ⟨pe_mono ha.pe fun σ H Q ⟨F, W, L, env, st, r, st', I, e, k⟩ => ?_⟩
  obtain ⟨⟨r1, st1⟩, h1, e⟩ := bind2 e
  dsimp only at e
  split at e
  · rename_i d
    cases e
    refine ⟨F, W, L, env, st, _, st1, I, h1, fun v H1 W1 L1 l1 I1 p1 => ?_⟩
    obtain ⟨W', L', l2, I2, q⟩ := I1.store p1
    exact k v H1 W' L' (l1.trans l2) I2 q
  · cases e
/-! a field of one's self while it is made -/
def eFldMe (i : Nat) (c : Str) (k : Nat) : Sem := fun env st => match (env[i]? : Option Kn.Slot) with
  | some (.me _ (.obj c' ds)) => if c' = c then ds[k]?.map fun d => (.sh d, st) else none
  | _ => none
theorem se_fldMe {c f n : Str} {C : Addr} {ns : List Str} {npos : Pos} (i k : Nat) (o : Own X.K ct c C ns) (hk : ns[k]? = some f := by rfl)
    (hN : X.N[i]? = some n := by rfl) (hv : Vis X.env.scope n := by first | exact Or.inl rfl | exact Or.inr (Or.inl rfl) | exact Or.inr (Or.inr rfl)) (hd : (n == ("__debug__" : Str)) = false := by decide) (hcd : (n == ("__classdict__" : Str)) = false := by decide)
    (hb : attributeBase (.Name n npos) f X.env (eval (.Name n npos) X.env) = eval (.Name n npos) X.env := by rfl) : SE X ct (.Attribute (.Name n npos) f pos) (eFldMe i c k) := by
  refine ⟨pe_mono (pe_fld (pe_var (i := i) hN hv hd hcd) hb) fun σ H Q ⟨F, W, L, env, st, r, st', I, e, kk⟩ => ?_⟩
  obtain ⟨ad, ds, d, he, hd, rfl, rfl⟩ : ∃ ad ds d, (env[i]? : Option Kn.Slot) = some (.me ad (.obj c ds)) ∧ ds[k]? = some d ∧ r = .sh d ∧ st' = st := by
    unfold eFldMe at e
    split at e
    · rename_i ad c' ds e1
      split at e
      · rename_i ec
        obtain ⟨d, h1, h2⟩ := map2 e
        cases h2
        exact ⟨ad, ds, d, by rw [e1, ec], h1, rfl, rfl⟩
      · cases e
    · cases e
  obtain ⟨s1, s2, cl⟩ := I.sl i _ he
  refine ⟨_, s1, ?_⟩
  cases cl with
  | obj g hcc hn q =>
    rename_i C' dx fs ns'
    rw [o.at_] at hcc; cases hcc
    have hfl : fs.length = ds.length := by have := q.length; rw [List.length_map] at this; exact this
    obtain ⟨v, hv, hr⟩ := q.get hd
    exact ⟨ad, C, dx, fs, v, rfl, g, o.cl, o.no f (List.mem_of_getElem? hk), look_fld o.nd (by rw [hfl]; exact hn) hk hv, kk v _ _ _ (.refl W) I hr⟩
/-! writing through a handle -/
structure DrH (δ : Dr) : Prop where
  ok : ∀ {st : Sto} {g : Nat} {c : D}, δ st (.sh (.hnd g)) = some c → lookS st g = some c
theorem dH_h (τ : Type) [En τ] : DrH (dH τ) := ⟨fun e => by
  obtain ⟨g', h1, h2, _⟩ := dH_inv e
  cases h1; exact h2⟩
def R.hnd? : R → Option Nat
  | .sh (.hnd g) => some g
  | _ => none
theorem R.hnd_eq {r : R} {g : Nat} (h : r.hnd? = some g) : r = .sh (.hnd g) := by
  unfold R.hnd? at h
  split at h
  · cases h; rfl
  · cases h
def R.val? : R → Option D
  | .sh d => some d
  | _ => none
theorem R.val_eq {r : R} {d : D} (h : r.val? = some d) : r = .sh d := by
  unfold R.val? at h
  split at h
  · cases h; rfl
  · cases h
/-- x[i] = v, x behind a handle -/
noncomputable def sSubH (δ : Dr) (h ix e : Sem) : SemS := fun env st => (e env st).bind fun p => (h env p.2).bind fun q => (ix env q.2).bind fun u => p.1.pin.val?.bind fun d => q.1.pin.hnd?.bind fun g => (δ u.2 (.sh (.hnd g))).bind fun c => (setItm c u.1.d d).map fun c' => (.nx, env, u.2.set g (kC, c'))
theorem ss_subH {z : Expr} {tpos : Pos} (oh : DrH δ) {k : Nat} (hr : Room k X.A) (hh : SE X ct z h) (hix : SE X ct y ix) (he : SE X ct x e)
    (ha : ∀ v, assign (.Subscript z y tpos) X.env v = (do
      let ov ← holding [v] (eval z X.env)
      let iv ← holding [v, ov] (eval y X.env)
      standAt tpos
      holding [v, ov, iv] (setItem ov iv v)
      release [v, ov, iv] []) := by intro _; rfl)
    (hs : swapsWithSole [.Subscript z y tpos] x pos.line X.env = pure false := by rfl) (hw : swappedStores [.Subscript z y tpos] x X.env = pure none := by rfl)
    (h1 : (assignEach [.Subscript z y tpos] X.env).map (·.2) = [assign (.Subscript z y tpos) X.env] := by rfl)
    (hsd : swapsWith x (some (.Subscript z y tpos)) pos.line X.env = pure false := by rfl) : SS X ct (.Assign [.Subscript z y tpos] x pos) (sSubH δ h ix e) := by
  refine ⟨ps_mono (ps_or (ps_asg he.pe (pg_sub hh.pe hix.pe set_list ha) hs hw h1) (ps_dput (hu_of hr) hh.pe hix.pe he.pe hsd)) fun D σ H ⟨F, W, L, env, st, o, env', st', I, e, k⟩ => ?_⟩
  obtain ⟨⟨r1, st1⟩, h1, e⟩ := bind2 e
  obtain ⟨⟨r2, st2⟩, h2, e⟩ := bind2 e
  obtain ⟨⟨r3, st3⟩, h3, e⟩ := bind2 e
  obtain ⟨d, hr1, e⟩ := bind2 e
  obtain ⟨g, hr2, e⟩ := bind2 e
  obtain ⟨c, hc, e⟩ := bind2 e
  obtain ⟨c', hset, e⟩ := map2 e
  cases e
  have hr1 := R.val_eq hr1
  have hr2 := R.hnd_eq hr2
  have hc := oh.ok hc
  cases c with
  | lst ds =>
    refine .inl ⟨F, W, L, env, st, r1, st1, I, h1, fun v H1 W1 L1 l1 I1 p1 => ?_⟩
    obtain ⟨W1', m1, J1, q1⟩ := I1.pin p1
    rw [show r1.pin = _ from hr1] at q1
    refine ⟨F, W1', L1, env, st1, r2, st2, J1, h2, fun ov H2 W2 L2 l2 I2 p2 => ?_⟩
    obtain ⟨W2', m2, J2, q2⟩ := I2.pin p2
    rw [show r2.pin = _ from hr2] at q2
    refine ⟨F, W2', L2, env, st2, r3, st3, J2, h3, fun w H3 W3 L3 l3 I3 p3 => ?_⟩
    obtain ⟨W3', m3, J3, q3⟩ := I3.pin p3
    have q3' := J3.look q3
    rw [R.pin_d] at q3'
    have qo : Rep X.K ct W3' ov (.hnd g) := Rep.mono (l3.trans m3) q2
    have hset : setItm (.lst ds) r3.d d = some c' := hset
    cases hr3 : r3.d <;> rw [hr3] at hset q3' <;> try (cases hset; done)
    obtain ⟨j, e1, rfl⟩ := map2 hset
    obtain ⟨a, rfl, hl, cl⟩ := J3.cell qo hc
    cases qo with
    | hnd hrho =>
      cases cl with
      | lst g2 q4 =>
        refine ⟨a, _, _, j, rfl, q3'.int, g2, by rw [q4.length]; exact e1, ?_⟩
        exact k _ _ _ _ (l1.trans (m1.trans (l2.trans (m2.trans (l3.trans m3))))) (J3.updOb hrho hc hl (fun xs z => by rw [g2] at z; cases z) (.lst upd_same (q4.set j (Rep.mono (l2.trans (m2.trans (l3.trans m3))) q1))))
  | dic kds =>
    refine .inr ⟨F, W, L, env, st, r1, st1, I, h1, fun v H1 W1 L1 l1 I1 p1 => ?_⟩
    obtain ⟨W1', m1, J1, q1⟩ := I1.pin p1
    rw [show r1.pin = _ from hr1] at q1
    refine ⟨F, W1', L1, env, st1, r2, st2, J1, h2, fun ov H2 W2 L2 l2 I2 p2 => ?_⟩
    obtain ⟨W2', m2, J2, q2⟩ := I2.pin p2
    rw [show r2.pin = _ from hr2] at q2
    refine ⟨F, W2', L2, env, st2, r3, st3, J2, h3, fun w H3 W3 L3 l3 I3 p3 => ?_⟩
    obtain ⟨W3', m3, J3, q3⟩ := I3.pin p3
    have q3' := J3.look q3
    rw [R.pin_d] at q3'
    have qo : Rep X.K ct W3' ov (.hnd g) := Rep.mono (l3.trans m3) q2
    have hset : setItm (.dic kds) r3.d d = some c' := hset
    obtain ⟨ky, ek, hset⟩ := bind2 hset
    obtain ⟨cz, rfl⟩ := ifs hset
    obtain ⟨a, rfl, hl, cl⟩ := J3.cell qo hc
    cases qo with
    | hnd hrho =>
      cases cl with
      | dic g2 n2 q4 =>
        rename_i kvs2
        have hlen : kvs2.length = kds.length := by
          have := congrArg List.length n2
          rw [List.length_map, List.length_map] at this
          exact this
        refine ⟨a, _, rfl, by rw [Kn.D.key_v q3' ek]; exact DPut.k g2 (by rw [hlen]; exact cz), ?_⟩
        obtain ⟨z1, z2⟩ := put_rep (k := ky) (Rep.mono (l2.trans (m2.trans (l3.trans m3))) q1) n2 q4
        exact k _ _ _ _ (l1.trans (m1.trans (l2.trans (m2.trans (l3.trans m3))))) (J3.updOb hrho hc hl (fun xs z => by rw [g2] at z; cases z) (.dic upd_same z1 z2))
  | _ => cases hset
def D.lst? : D → Option (List D)
  | .lst ds => some ds
  | _ => none
theorem D.lst_eq {d : D} {ds : List D} (h : d.lst? = some ds) : d = .lst ds := by
  unfold D.lst? at h
  split at h
  · cases h; rfl
  · cases h
/-- x.m(..), x a list behind a handle -/
noncomputable def sMutH (δ : Dr) (h : Sem) (f : List D → List D → Option (List D)) (as : SemA) : SemS := fun env st => (h env st).bind fun p => (as env p.2).bind fun q => (valsR q.1).bind fun xs => p.1.pin.hnd?.bind fun g => (δ p.2 (.sh (.hnd g))).bind fun c0 => c0.lst?.bind fun _ => (δ q.2 (.sh (.hnd g))).bind fun c => c.lst?.bind fun ds => (f xs ds).map fun ds' => (.nx, env, q.2.set g (kC, .lst ds'))
theorem tSm_mutH {K : PySem.W.Frag} {as : SemA} {rr : V → List V → Hp → VK → Prop} {f : List D → List D → Option (List D)} (oh : DrH δ) (ms : MuS rr f) {D : Ends} {σ : St} {H : Hp} (hh : tSm K ct (sMutH δ h f as) D σ H) :
    tE K ct h σ H fun x H1 => (∃ l vs, x = .ref l ∧ H1 l = some (.lst vs)) ∧ tA K ct as σ H1 fun ws H2 => rr x ws H2 fun _ H3 => D.nx σ H3 := by
  obtain ⟨F, W, L, env, st, o, env', st', I, e, k⟩ := hh
  obtain ⟨⟨r1, st1⟩, h1, e⟩ := bind2 e
  obtain ⟨⟨rs, st2⟩, h2, e⟩ := bind2 e
  obtain ⟨xs, hxs, e⟩ := bind2 e
  obtain ⟨g, hr1, e⟩ := bind2 e
  obtain ⟨c0, hc0, e⟩ := bind2 e
  obtain ⟨ds0, hd0, e⟩ := bind2 e
  obtain ⟨c, hc, e⟩ := bind2 e
  obtain ⟨ds, hd, e⟩ := bind2 e
  obtain ⟨ds', hf, e⟩ := map2 e
  cases e
  have hr1 := R.hnd_eq hr1
  have hc0 := oh.ok hc0
  have hc := oh.ok hc
  rw [Kn.D.lst_eq hd0] at hc0
  rw [Kn.D.lst_eq hd] at hc
  refine ⟨F, W, L, env, st, r1, st1, I, h1, fun x H1 W1 L1 l1 I1 p1 => ?_⟩
  obtain ⟨W1', m1, J1, q1⟩ := I1.pin p1
  rw [show r1.pin = _ from hr1] at q1
  have q1 : Rep K ct W1' x (.hnd g) := q1
  obtain ⟨a, rfl, hl, cl⟩ := J1.cell q1 hc0
  refine ⟨?_, F, W1', L1, env, st1, rs, st2, J1, h2, fun ws H2 W2 L2 l2 I2 qs => ?_⟩
  · cases cl with
    | lst g2 q4 => exact ⟨a, _, rfl, g2⟩
  · have qo : Rep K ct W2 (.ref a) (.hnd g) := Rep.mono l2 q1
    obtain ⟨a', ea, hl', cl'⟩ := I2.cell qo hc
    cases ea
    cases qo with
    | hnd hrho =>
      cases cl' with
      | lst g3 q5 =>
        refine ms _ _ _ _ _ _ _ _ _ _ _ g3 q5 (qs.vals hxs) hf fun v vs' q' => ?_
        exact k _ _ _ _ (l1.trans (m1.trans l2)) (I2.updOb hrho hc hl' (fun xs z => by rw [g3] at z; cases z) (.lst upd_same q'))
end
end Kn
namespace Kn
open PySem L2
/-! ### methods of things that many hold -/
section
variable {X : Cx} {ct : CT} {pos p apos : Pos} {x y z : Expr} {es : List Expr} {a b c h ix e : Sem} {as : SemA} {δ δ1 δ2 : Dr}
theorem ss_mutH1 {id : String} {name : Str} {rr : V → List V → Hp → VK → Prop} {f : List D → List D → Option (List D)} {apos cpos : Pos} (oh : DrH δ) (slot : PySem.Slot "list" name id) (hty : typeOf (.builtin id) = pure (.type "method_descriptor")) (hm : MtR X id rr) (ms : MuS rr f) (hh : SE X ct z h) (ha : SA X ct (x :: es) as)
    (hbase : attributeBase z name X.env (eval z X.env) = eval z X.env := by rfl)
    (hfew : ((backTo cpos (starEach (x :: es) X.env)).all (fun x => !x.1) && (backToKw cpos (keywordEach [] X.env)).all (fun x => x.1.isSome)
      && decide ((x :: es).length + ([] : List Keyword).length + (if ([] : List Keyword).isEmpty then 0 else 1) < 30)) = true := by rfl)
    (hline : (apos.endLine == cpos.line) = true := by rfl) (hs : starEach (x :: es) X.env = (false, eval x X.env) :: starEach es X.env := by rfl) (hplain : (backTo cpos (starEach es X.env)).any (·.1) = false := by rfl)
    (hsw : swapsWith (.Call (.Attribute z name apos) (x :: es) [] cpos) none pos.line X.env = pure false := by rfl) :
    SS X ct (.Expr (.Call (.Attribute z name apos) (x :: es) [] cpos) pos) (sMutH δ h f as) := by
  refine ⟨ps_mono (ps_expr (pe_bm PySem.F.plainAttrs_list slot hty hm hh.pe ha.pa hbase hfew hline hs hplain) hsw) fun D σ H hq => ?_⟩
  obtain ⟨F, W, L, env, st, r1, st1, I, h1, k1⟩ := tSm_mutH oh ms hq
  refine ⟨F, W, L, env, st, r1, st1, I, h1, fun v H1 W1 L1 l1 I1 p1 => ?_⟩
  obtain ⟨⟨l, vs, rfl, g⟩, t⟩ := k1 v H1 W1 L1 l1 I1 p1
  exact ⟨.inl ⟨rfl, _, SqL.of g⟩, t⟩
theorem ss_mutH0 {id : String} {name : Str} {rr : V → List V → Hp → VK → Prop} {f : List D → List D → Option (List D)} {apos cpos : Pos} (oh : DrH δ) (slot : PySem.Slot "list" name id) (hty : typeOf (.builtin id) = pure (.type "method_descriptor")) (hm : MtR X id rr) (ms : MuS rr f) (hh : SE X ct z h)
    (hbase : attributeBase z name X.env (eval z X.env) = eval z X.env := by rfl)
    (hline : (apos.endLine == cpos.line) = true := by rfl)
    (hsw : swapsWith (.Call (.Attribute z name apos) [] [] cpos) none pos.line X.env = pure false := by rfl) :
    SS X ct (.Expr (.Call (.Attribute z name apos) [] [] cpos) pos) (sMutH δ h f aNil) := by
  refine ⟨ps_mono (ps_expr (pe_bm0 PySem.F.plainAttrs_list slot hty hm hh.pe hbase hline) hsw) fun D σ H hq => ?_⟩
  obtain ⟨F, W, L, env, st, r1, st1, I, h1, k1⟩ := tSm_mutH oh ms hq
  refine ⟨F, W, L, env, st, r1, st1, I, h1, fun v H1 W1 L1 l1 I1 p1 => ?_⟩
  obtain ⟨⟨l, vs, rfl, g⟩, t⟩ := k1 v H1 W1 L1 l1 I1 p1
  refine ⟨.inl ⟨rfl, _, SqL.of g⟩, ?_⟩
  exact ss_mut0.sa_nil_use t
def D.fds (c : Str) : D → Option (List D)
  | .obj c' ds => if c' = c then some ds else none
  | _ => none
theorem D.fds_eq {c : Str} {d : D} {ds : List D} (h : d.fds c = some ds) : d = .obj c ds := by
  unfold D.fds at h
  split at h
  · obtain ⟨rfl, rfl⟩ := ifs h; rfl
  · cases h
/-- o.f = v, o behind a handle -/
noncomputable def sFldH (δ : Dr) (c : Str) (k : Nat) (h e : Sem) : SemS := fun env st => (e env st).bind fun p => (h env p.2).bind fun q => p.1.pin.val?.bind fun d => q.1.pin.hnd?.bind fun g => (δ q.2 (.sh (.hnd g))).bind fun u => (u.fds c).bind fun ds => if k < ds.length then some (.nx, env, q.2.set g (kC, .obj c (ds.set k d))) else none
theorem putF_old (f : Str) (v : V) : ∀ (fs : List (Str × V)) (k : Nat), (fs.map (·.1)).Nodup → (fs.map (·.1))[k]? = some f → (putF f v fs).map (·.1) = fs.map (·.1) ∧ (putF f v fs).map (·.2) = (fs.map (·.2)).set k v
  | [], k, _, h => by simp at h
  | (g, u) :: fs, 0, _, h => by
    have e : g = f := by simpa using h
    rw [putF, if_pos e]
    exact ⟨by rw [List.map_cons, List.map_cons, e], rfl⟩
  | (g, u) :: fs, k + 1, nd, h => by
    have nd2 := List.nodup_cons.mp nd
    have h : (fs.map (·.1))[k]? = some f := by simpa using h
    have ne : ¬ g = f := fun e => nd2.1 (by rw [e]; exact List.mem_of_getElem? h)
    obtain ⟨i1, i2⟩ := putF_old f v fs k nd2.2 h
    rw [putF, if_neg ne]
    exact ⟨by rw [List.map_cons, List.map_cons, i1], by rw [List.map_cons, List.map_cons, i2]; rfl⟩
theorem ss_fldH {c f : Str} {C : Addr} {ns : List Str} (oh : DrH δ) (k : Nat) (o : Own X.K ct c C ns) (hh : SE X ct z h) (he : SE X ct x e) (hk : ns[k]? = some f := by rfl) (hz : ns.length < 1000 := by decide)
    (hs : swapsWith x (some (.Attribute z f apos)) pos.line X.env = pure false := by rfl) : SS X ct (.Assign [.Attribute z f apos] x pos) (sFldH δ c k h e) := by
  refine ⟨ps_mono (ps_fld hh.pe he.pe hs) fun D σ H ⟨F, W, L, env, st, oo, env', st', I, e, kk⟩ => ?_⟩
  obtain ⟨⟨r1, st1⟩, h1, e⟩ := bind2 e
  obtain ⟨⟨r2, st2⟩, h2, e⟩ := bind2 e
  obtain ⟨d, hr1, e⟩ := bind2 e
  obtain ⟨g, hr2, e⟩ := bind2 e
  obtain ⟨u, hu, e⟩ := bind2 e
  have hr1 := R.val_eq hr1
  have hr2 := R.hnd_eq hr2
  have hu := oh.ok hu
  obtain ⟨ds, hds, e2⟩ := bind2 e
  clear e
  have eu := Kn.D.fds_eq hds
  subst eu
  obtain ⟨hkd, e3⟩ := ifs e2
  clear e2
  cases e3
  refine ⟨F, W, L, env, st, r1, st1, I, h1, fun v H1 W1 L1 l1 I1 p1 => ?_⟩
  obtain ⟨W1', m1, J1, q1⟩ := I1.pin p1
  rw [show r1.pin = _ from hr1] at q1
  refine ⟨F, W1', L1, env, st1, r2, st2, J1, h2, fun ov H2 W2 L2 l2 I2 p2 => ?_⟩
  obtain ⟨W2', m2, J2, q2⟩ := I2.pin p2
  rw [show r2.pin = _ from hr2] at q2
  have q2 : Rep X.K ct W2' ov (.hnd g) := q2
  obtain ⟨ad, rfl, hl, cl⟩ := J2.cell q2 hu
  cases q2 with
  | hnd hrho =>
    cases cl with
    | obj g1 hcc hn q =>
      rename_i C' dx fs ns'
      rw [o.at_] at hcc; cases hcc
      have hfl : fs.length = ds.length := by have := q.length; rw [List.length_map] at this; exact this
      have hkn : k < ns.length := (List.getElem?_eq_some_iff.mp hk).1
      have nd : (fs.map (·.1)).Nodup := by rw [hn]; exact o.nd.sublist (List.take_sublist _ _)
      have hat : (fs.map (·.1))[k]? = some f := by rw [hn, List.getElem?_take, if_pos hkd]; exact hk
      obtain ⟨p3, p4⟩ := putF_old f v fs k nd hat
      have hle : ds.length ≤ ns.length := by
        have := congrArg List.length hn
        rw [List.length_map, List.length_take] at this
        omega
      refine ⟨ad, C, dx, fs, rfl, g1, o.cl, o.no f (List.mem_of_getElem? hk), by omega, ?_⟩
      refine kk _ _ _ _ (l1.trans (m1.trans (l2.trans m2))) (J2.updOb hrho hu hl (fun xs z => by rw [g1] at z; cases z) (.obj upd_same o.at_ ?_ ?_))
      · rw [p3, hn, List.length_set]
      · rw [p4]
        exact q.set k (Rep.mono (l2.trans m2) q1)
/-! o.m(..), o behind a handle -/
noncomputable def eMethH (δ : Dr) (n : Nat) (c : Str) (m : Fn) (a : Sem) (as : SemA) : Sem := fun env st => (a env st).bind fun p => p.1.pin.hnd?.bind fun g => (δ p.2 (.sh (.hnd g))).bind fun u => (u.fds c).bind fun _ => (as env p.2).bind fun q => (valsR q.1).bind fun es => if es.length + 1 = n then m (.hnd g :: es) q.2 else none
theorem eMethH_inv (oh : DrH δ) {c : Str} {n : Nat} {mf : Fn} {env : List Kn.Slot} {st st' : Sto} {r : R} (e : eMethH δ n c mf a as env st = some (r, st')) : ∃ r1 st1 g ds rs st2 es', a env st = some (r1, st1) ∧ r1.pin = .sh (.hnd g) ∧ lookS st1 g = some (.obj c ds) ∧ as env st1 = some (rs, st2) ∧ valsR rs = some es' ∧ es'.length + 1 = n ∧ mf (.hnd g :: es') st2 = some (r, st') := by
  obtain ⟨⟨r1, st1⟩, h1, e⟩ := bind2 e
  obtain ⟨g, hr, e⟩ := bind2 e
  obtain ⟨u, hu, e⟩ := bind2 e
  obtain ⟨ds, hds, e⟩ := bind2 e
  obtain ⟨⟨rs, st2⟩, h2, e⟩ := bind2 e
  obtain ⟨es', h3, e⟩ := bind2 e
  dsimp only at e
  split at e
  · rename_i hl
    exact ⟨r1, st1, g, ds, rs, st2, es', h1, R.hnd_eq hr, by rw [oh.ok hu, Kn.D.fds_eq hds], h2, h3, hl, e⟩
  · cases e
theorem tE_methH (oh : DrH δ) {c m : Str} {C : Addr} {ns : List Str} {n : Nat} {mf : Fn} {E : XK} {σ : St} {H : Hp} {Q : VK} {K : PySem.W.Frag} (o : Own K ct c C ns) (hm : m ∉ ns) (hh : tE K ct (eMethH δ n c mf a as) σ H Q) : tMeth C m (spD K ct n mf) [] E (tE K ct a) (tA K ct as) σ H Q := by
  obtain ⟨F, W, L, env, st, r, st', I, e, kk⟩ := hh
  obtain ⟨r1, st1, g, ds, rs, st2, es', h1, hp, hu, h2, h3, hl, h4⟩ := eMethH_inv oh e
  refine ⟨F, W, L, env, st, r1, st1, I, h1, fun v H1 W1 L1 l1 I1 p1 => ?_⟩
  obtain ⟨W1', m1, J1, q1⟩ := I1.pin p1
  rw [hp] at q1
  have q1 : Rep K ct W1' v (.hnd g) := q1
  obtain ⟨a0, rfl, hla, cl⟩ := J1.cell q1 hu
  obtain ⟨a, C', dx, fs, ns', ea, g1, hc, hn, q⟩ := Kn.RdH.obj (H := H1) (.inr ⟨a0, rfl, cl⟩) J1
  cases ea
  rw [o.at_] at hc; cases hc
  refine ⟨a0, dx, fs, rfl, g1, look_none hn hm, F, W1', L1, env, st1, rs, st2, J1, h2, fun vs H2 W2 L2 l2 I2 qs => ?_⟩
  show spD K ct n mf (V.ref a0 :: (vs ++ [])) H2 Q E
  rw [List.append_nil]
  exact call_out I2 (.cons (q1.mono l2) (qs.vals h3)) (by simpa using hl) h4 fun v H' W' L' l' => kk v H' W' L' (l1.trans (m1.trans (l2.trans l')))
theorem se_methH (oh : DrH δ) {c m : Str} {C : Addr} {ns : List Str} (n : Nat) {k : Nat} {ps : List Str} {mf : Fn} {pl : PySem.Sem Bool} (o : Own X.K ct c C ns) (M : Mcl X.prog X.w X.K X.mg X.base ct C m k ps mf) (hr : Room k X.A) (ha : SE X ct x a) (has : SA X ct (y :: es) as) (hn : ps.length = n := by rfl) (hm : m ∉ ns := by decide +kernel)
    (he : starEach (y :: es) X.env = (false, eval y X.env) :: starEach es X.env := by rfl) (hpl : (backTo pos (starEach es X.env)).any (·.1) = false := by rfl)
    (ht : eval (.Call (.Attribute x m apos) (y :: es) [] pos) X.env = (do
      let u ← eval x X.env
      standAt apos.atName
      let (g, us) ← holding [u] (getMethod u m pl)
      callWith pos g us (backTo pos (starEach (y :: es) X.env)) (backToKw pos (keywordEach [] X.env))) := by rfl) :
    SE X ct (.Call (.Attribute x m apos) (y :: es) [] pos) (eMethH δ n c mf a as) := by
  subst hn
  obtain ⟨g, fd, G, hM, hb⟩ := M.ex
  exact ⟨pe_mono (pe_meth ha.pe o.cl hM G hr hb .nil pass0 has.pa he hpl ht) fun _ _ _ h => tE_methH oh o hm h⟩
theorem tMeth_nil {C : Addr} {m : Str} {sp : Sp} {E : XK} {ta : TE} {K : PySem.W.Frag} {σ : St} {H : Hp} {Q : VK} (hmono : ∀ σ H Q Q', (∀ v H, Q v H → Q' v H) → ta σ H Q → ta σ H Q') (hh : tMeth C m sp [] E ta (tA K ct aNil) σ H Q) : tMeth C m sp [] E ta tNil σ H Q := by
  refine hmono _ _ _ _ (fun x H1 q => ?_) hh
  obtain ⟨a, dx, fs, e1, e2, e3, t⟩ := q
  exact ⟨a, dx, fs, e1, e2, e3, ss_mut0.sa_nil_use t⟩
theorem tE_imp {K : PySem.W.Frag} {a : Sem} (σ : St) (H : Hp) (Q Q' : VK) (hq : ∀ v H, Q v H → Q' v H) (h : tE K ct a σ H Q) : tE K ct a σ H Q' := by
  obtain ⟨F, W, L, env, st, r, st', I, e, k⟩ := h
  exact ⟨F, W, L, env, st, r, st', I, e, fun v H' W' L' l I' p => hq _ _ (k v H' W' L' l I' p)⟩
theorem se_methH0 (oh : DrH δ) {c m : Str} {C : Addr} {ns : List Str} (n : Nat) {k : Nat} {ps : List Str} {mf : Fn} {pl : PySem.Sem Bool} (o : Own X.K ct c C ns) (M : Mcl X.prog X.w X.K X.mg X.base ct C m k ps mf) (hr : Room k X.A) (ha : SE X ct x a) (hn : ps.length = n := by rfl) (hm : m ∉ ns := by decide +kernel)
    (ht : eval (.Call (.Attribute x m apos) [] [] pos) X.env = (do
      let u ← eval x X.env
      standAt apos.atName
      let (g, us) ← holding [u] (getMethod u m pl)
      callWith pos g us (backTo pos (starEach [] X.env)) (backToKw pos (keywordEach [] X.env))) := by rfl) :
    SE X ct (.Call (.Attribute x m apos) [] [] pos) (eMethH δ n c mf a aNil) := by
  subst hn
  obtain ⟨g, fd, G, hM, hb⟩ := M.ex
  exact ⟨pe_mono (pe_meth0 ha.pe o.cl hM G hr hb .nil pass0 ht) fun _ _ _ h => tMeth_nil tE_imp (tE_methH oh o hm h)⟩
theorem tMake_nil {C : Addr} {sp : Sp} {E : XK} {K : PySem.W.Frag} {σ : St} {H : Hp} {Q : VK} (h : tMake C sp [] E (tA K ct aNil) σ H Q) : tMake C sp [] E tNil σ H Q := ss_mut0.sa_nil_use h
theorem se_make0 {c : Str} {C : Addr} {ns : List Str} (n : Nat) {k : Nat} {ps : List Str} {mf : Fn} {nm : Str} (o : Own X.K ct c C ns) (M : Mkr X.prog X.w X.K X.mg X.base ct c C nm k ps mf) (hr : Room (k + 1) X.A) (hn : ps.length = n := by rfl) (hg : Gl X nm := by rfl)
    (hdb : (nm == ("__debug__" : Str)) = false := by decide) :
    SE X ct (.Call (.Name nm p) [] [] pos) (eMake n mf aNil) := by
  subst hn
  obtain ⟨g, fd, G, hM, hb, hm⟩ := M.ex
  exact ⟨pe_mono (pe_make0 hM G hr hg hm hb .nil pass0 hdb) fun _ _ _ h => tMake_nil (tE_make o h)⟩
end
end Kn
namespace Kn
open PySem L2
/-! ### going through a thing that many hold -/
abbrev SemIs := List Slot → Sto → Option ((List D × (Sto → Prop)) × Sto)
section
variable (K : PySem.W.Frag) (ct : CT)
def WkS (J : It) (W0 : Wd) (ds : List D) (G : Sto → Prop) : Prop := ∀ F W L env st σ H (i : Nat), W0.le W → Rel K ct F W L env st σ H → G st →
  (∀ d, ds[i]? = some d → J.go i H ∧ ∀ x H', J.yld i H x H' → ∃ W' L', W.le W' ∧ Rel K ct F W' L' env st σ H' ∧ Rep K ct W' x d) ∧ (ds.length ≤ i → J.stop i H)
def tIs (e : SemIs) : TI := fun σ H R => ∃ F W L env st ds G st', Rel K ct F W L env st σ H ∧ e env st = some ((ds, G), st') ∧
  ∀ J H' W' L', W.le W' → Rel K ct F W' L' env st' σ H' → WkS K ct J W' ds G → R J H'
end
structure SIs (X : Cx) (ct : CT) (tg x : Expr) (e : SemIs) : Prop where
  pi : PI X tg x (tIs X.K ct e)
theorem ifG {α : Type} {c : Prop} {d : Decidable c} {t : Option α} {w : α} (h : (if c then t else none) = some w) : c ∧ t = some w := by
  split at h
  · exact ⟨by assumption, h⟩
  · cases h
open Classical in
noncomputable def forLS (G : Sto → Prop) (g : SemG) (f : SemS) : List D → List Slot → Sto → Option (Out × List Slot × Sto)
  | [], env, st => if G st then some (.nx, env, st) else none
  | d :: ds, env, st => if G st then (g d env).bind fun env1 => (f env1 st).bind fun q => match q with
    | (.nx, env', st') => forLS G g f ds env' st'
    | (.ct, env', st') => forLS G g f ds env' st'
    | (.bk, env', st') => some (.nx, env', st')
    | (.rt r, env', st') => some (.rt r, env', st') else none
noncomputable def sForS (it : SemIs) (g : SemG) (f : SemS) : SemS := fun env st => (it env st).bind fun p => forLS p.1.2 g f p.1.1 env p.2
open Classical in
noncomputable def lcLS (G : Sto → Prop) (g : SemG) (c a : Sem) (vs : List Nat) (env : List Slot) : List D → Sto → Option (List D × Sto)
  | [], st => if G st then some ([], st) else none
  | d :: ds, st => if G st then (g d (wipeE env vs)).bind fun env1 => (c env1 st).bind fun p => p.1.tr.bind fun k => if k = true then (a env1 p.2).bind fun q => q.1.sh?.bind fun e => (lcLS G g c a vs env ds q.2).map fun r => (e :: r.1, r.2)
    else lcLS G g c a vs env ds p.2 else none
noncomputable def eLcS (it : SemIs) (vs : List Nat) (g : SemG) (c a : Sem) : Sem := fun env st => (it env st).bind fun p => if vs.all (fun j => (env[j]?.map Slot.okW).getD true) = true then (lcLS p.1.2 g c a vs env p.1.1 p.2).bind fun q => if q.1.length ≤ sizeLine then some (.ow (.lst q.1), q.2) else none else none
section
variable {X : Cx} {ct : CT} {pos p apos : Pos} {x y z : Expr} {es : List Expr} {a b c h ix e : Sem} {f : SemS} {as : SemA} {δ δ1 δ2 : Dr} {tg : Expr}
theorem ss_forS {tg : Expr} {ts : List Nat} {g : SemG} {it : SemIs} {s1 : List Stmt} (hp : PassesOwn (model X.prog X.w) X.A X.env X.xe) (hc : X.calm = true) (hi : SIs X ct tg x it) (hg : SG X ct tg ts g) (hf : SB X ct s1 f) (hs : ∀ z, foldedSetIterable x X.env z = pure z := by intro _; rfl) :
    SS X ct (.For tg x s1 [] pos) (sForS it g f) := by
  refine ⟨ps_mono (ps_for hp hc hi.pi hg.pg hf.pss hs) fun D σ H ⟨F, W, L, env, st, o, env', st', I, e, k⟩ => ?_⟩
  obtain ⟨⟨⟨ds, G⟩, st1⟩, h1, e⟩ := bind2 e
  refine ⟨F, W, L, env, st, ds, G, st1, I, h1, fun J H1 W1 L1 l1 I1 wk => ?_⟩
  refine ⟨fun i m σ H => m = ds.length - i ∧ i ≤ ds.length ∧ ∃ W2 L2 env2 st2, W1.le W2 ∧ Rel X.K ct F W2 L2 env2 st2 σ H ∧ forLS G g f (ds.drop i) env2 st2 = some (o, env', st'), ⟨_, rfl, Nat.zero_le _, W1, L1, env, st1, .refl W1, I1, e⟩, ?_⟩
  rintro i m σ H ⟨rfl, hi, W2, L2, env2, st2, l2, I2, e2⟩
  by_cases hlt : i < ds.length
  · rw [List.drop_eq_getElem_cons hlt] at e2
    obtain ⟨hG, e2⟩ := ifG e2
    have wk2 := wk F W2 L2 env2 st2 σ H i l2 I2 hG
    obtain ⟨env3, h3, e2⟩ := bind2 e2
    obtain ⟨⟨o4, env4, st4⟩, h4, e2⟩ := bind2 e2
    obtain ⟨go, yl⟩ := wk2.1 ds[i] (List.getElem?_eq_getElem hlt)
    refine .inr ⟨go, fun σ' H' => i + 1 ≤ ds.length ∧ ∃ W2 L2 env2 st2, W1.le W2 ∧ Rel X.K ct F W2 L2 env2 st2 σ' H' ∧ forLS G g f (ds.drop (i + 1)) env2 st2 = some (o, env', st'), fun σ' H' q => ⟨_, by omega, rfl, q⟩, fun v H' y => ?_⟩
    obtain ⟨W3, L3, l3, I3, r3⟩ := yl v H' y
    refine ⟨F, W3, L3, env2, st2, _, env3, I3, r3, h3, fun σ3 _ _ I3' => ?_⟩
    refine ⟨F, W3, L3, env3, st2, o4, env4, st4, I3', h4, ?_⟩
    have ll := l2.trans l3
    cases o4 with
    | nx => exact fun σ' H' W5 L5 l5 I5 => ⟨hlt, W5, L5, env4, st4, ll.trans l5, I5, e2⟩
    | ct => exact fun σ' H' W5 L5 l5 I5 => ⟨hlt, W5, L5, env4, st4, ll.trans l5, I5, e2⟩
    | bk => cases e2; exact fun σ' H' W5 L5 l5 I5 => k _ _ _ _ (l1.trans (ll.trans l5)) I5
    | rt r => cases e2; exact fun v σ' H' W5 L5 l5 I5 => k v _ _ _ _ (l1.trans (ll.trans l5)) I5
  · have ei : i = ds.length := by omega
    rw [ei, List.drop_length] at e2
    obtain ⟨hG, e2⟩ := ifG e2
    have wk2 := wk F W2 L2 env2 st2 σ H i l2 I2 hG
    cases e2
    exact .inl ⟨wk2.2 (by omega), k _ _ _ _ (l1.trans l2) I2⟩
theorem tE_lcS {K : PySem.W.Frag} {it : SemIs} {vs ts : List Nat} {g : SemG} (hts : ∀ j ∈ ts, j ∈ vs) {σ : St} {H : Hp} {Q : VK} (h : tE K ct (eLcS it vs g c a) σ H Q) : tLc (tIs K ct it) (tG K ct ts g) (tT K ct c) (tE K ct a) vs σ H Q := by
  obtain ⟨F, W, L, env, st, r, st', I, e, k⟩ := h
  obtain ⟨⟨⟨ds, G⟩, st1⟩, h1, e⟩ := bind2 e
  have okv : vs.all (fun j => (env[j]?.map Slot.okW).getD true) = true ∧ ((lcLS G g c a vs env ds st1).bind fun q => if q.1.length ≤ sizeLine then some (R.ow (.lst q.1), q.2) else none) = some (r, st') := by
    dsimp only at e
    split at e
    · exact ⟨by assumption, e⟩
    · cases e
  obtain ⟨okv, e⟩ := okv
  obtain ⟨⟨out, st2⟩, h2, e⟩ := bind2 e
  obtain ⟨hz, e⟩ := ifs e
  cases e
  have hz : out.length ≤ sizeLine := hz
  have ok : ∀ j : Nat, j ∈ vs → ∀ s, env[j]? = some s → s.okW = true := fun j hj s e => by
    have := List.all_eq_true.mp okv j hj
    rw [e] at this
    exact this
  refine ⟨F, W, L, env, st, ds, G, st1, I, h1, fun J H1 W1 L1 l1 I1 wk p hp => ?_⟩
  -- the new list at p
  obtain ⟨I2, n1, n2, n3⟩ := I1.laid (o := HO.lst []) hp
  have I3 := frame_add I2 (p := p) (o := HO.lst []) upd_same n1 n2
  refine ⟨fun i m H => m = ds.length - i ∧ i ≤ ds.length ∧ ∃ W2 L2 st5 acc accd rest, W1.le W2 ∧ Rel K ct (upd F p (.lst acc)) W2 L2 env st5 σ H ∧ RepL K ct W2 acc accd ∧ lcLS G g c a vs env (ds.drop i) st5 = some (rest, st2) ∧ accd ++ rest = out,
    ⟨_, rfl, Nat.zero_le _, W1, _, st1, [], [], out, .refl W1, I3, .nil, h2, rfl⟩, ?_⟩
  rintro i m H ⟨rfl, hi, W2, L2, st3, acc, accd, rest, l2, I4, ra, e2, eo⟩
  by_cases hlt : i < ds.length
  · rw [List.drop_eq_getElem_cons hlt] at e2
    obtain ⟨hG, e2⟩ := ifG e2
    have wk3 := wk _ W2 L2 (wipeE env vs) st3 (wipe σ vs) H i l2 (I4.wiped vs) hG
    obtain ⟨env3, h3, e2⟩ := bind2 e2
    obtain ⟨⟨r4, st4⟩, h4, e2⟩ := bind2 e2
    obtain ⟨kb, hkb, e2⟩ := bind2 e2
    have hkb := R.tr_eq hkb
    rw [show r4 = _ from hkb] at h4
    obtain ⟨go, yl⟩ := wk3.1 ds[i] (List.getElem?_eq_getElem hlt)
    refine .inr ⟨go, fun H' => i + 1 ≤ ds.length ∧ ∃ W2 L2 st5 acc accd rest, W1.le W2 ∧ Rel K ct (upd F p (.lst acc)) W2 L2 env st5 σ H' ∧ RepL K ct W2 acc accd ∧ lcLS G g c a vs env (ds.drop (i + 1)) st5 = some (rest, st2) ∧ accd ++ rest = out, fun H' q => ⟨_, by omega, rfl, q⟩, fun v H' y => ?_⟩
    obtain ⟨W3, L3, l3, I5, r5⟩ := yl v H' y
    refine ⟨_, W3, L3, wipeE env vs, st3, _, env3, I5, r5, h3, fun σ3 o1 o2 I6 => ?_⟩
    have hs : ∀ j : Nat, j ∉ vs → σ3[j]? = (wipe σ vs)[j]? := fun j hj => o1.2 j fun z => hj (hts j z)
    have hs' : ∀ j : Nat, j ∉ vs → σ3[j]? = σ[j]? := fun j hj => (hs j hj).trans (wipe_out hj)
    have he : ∀ j : Nat, j ∉ vs → env3[j]? = env[j]? := fun j hj => (o2.2 j fun z => hj (hts j z)).trans (wipeE_out hj)
    refine ⟨wipe_again (by rw [o1.1, wipe_length]) hs, ?_⟩
    refine ⟨_, W3, L3, env3, st3, kb, st4, I6, h4, fun H6 W6 L6 l6 I7 => ?_⟩
    have ll := l2.trans (l3.trans l6)
    cases kb with
    | true =>
      refine iteT ?_
      have e2 : ((a env3 st4).bind fun q => q.1.sh?.bind fun e => (lcLS G g c a vs env (ds.drop (i + 1)) q.2).map fun r => (e :: r.1, r.2)) = some (rest, st2) := e2
      obtain ⟨⟨r7, st7⟩, h7, e2⟩ := bind2 e2
      obtain ⟨d7, h8, e2⟩ := bind2 e2
      obtain ⟨⟨rest', st8⟩, h9, e2⟩ := map2 e2
      cases e2
      refine ⟨_, W6, L6, env3, st4, r7, st7, I7, h7, fun v7 H7 W7 L7 l7 I8 p8 => ?_⟩
      obtain ⟨W8, m8, J8, q8⟩ := I8.pin p8
      rw [R.sh_pin h8] at q8
      have le := l3.trans (l6.trans (l7.trans m8))
      have hacc : H7 p = some (.lst acc) := (J8.fr p _ upd_same).1
      have I9 := Rel.back (vs := vs) I4 le J8 hs' he ok
      refine ⟨acc, hacc, ?_, hlt, W8, L7, st7, acc ++ [v7], accd ++ [d7], rest', l2.trans le, frame_upd (o := HO.lst acc) (fun xs z => nomatch z) I9, (ra.mono le).append (.cons q8 .nil), h9, ?_⟩
      · rw [ra.length]
        have := congrArg List.length eo
        rw [List.length_append, List.length_cons] at this
        omega
      · rw [← eo, List.append_assoc]; rfl
    | false =>
      refine iteF ?_
      have e2 : lcLS G g c a vs env (ds.drop (i + 1)) st4 = some (rest, st2) := e2
      have I9 := Rel.back (vs := vs) I4 (l3.trans l6) I7 hs' he ok
      exact ⟨hlt, W6, L6, st4, acc, accd, rest, ll, I9, ra.mono (l3.trans l6), e2, eo⟩
  · have ei : i = ds.length := by omega
    rw [ei, List.drop_length] at e2
    obtain ⟨hG, e2⟩ := ifG e2
    have wk2 := wk _ W2 L2 env st3 σ H i l2 I4 hG
    cases e2
    rw [List.append_nil] at eo
    subst eo
    refine .inl ⟨wk2.2 (by omega), ?_⟩
    obtain ⟨f1, f2, f3⟩ := I4.fr p _ upd_same
    exact k _ _ _ _ (l1.trans l2) (frame_sub I4 n3) ⟨p, rfl, f2, f3, n3, .lst f1 ra⟩
theorem se_lcS {tg : Expr} {ifs : List Expr} {scope : Scope} {own : List (Str × Nat)} {it : SemIs} {ts : List Nat} {g : SemG} (hc : X.calm = true) (hN : X.N.Nodup) (hi : SIs X ct tg x it) (ok : BlkOk X.N X.env.scope scope own)
    (hg : ∀ (s : Shared) (H : Hp) (C : Addr) (cl : List (Str × Addr)) (fp : List Addr), SG (X.blk s H scope (compEnvC scope cl C X.env) fp) ct tg ts g) (ht : ∀ (s : Shared) (H : Hp) (C : Addr) (cl : List (Str × Addr)) (fp : List Addr), STs (X.blk s H scope (compEnvC scope cl C X.env) fp) ct ifs c)
    (he : ∀ (s : Shared) (H : Hp) (C : Addr) (cl : List (Str × Addr)) (fp : List Addr), SE (X.blk s H scope (compEnvC scope cl C X.env) fp) ct y a) (hts : ∀ j ∈ ts, j ∈ own.map (·.2) := by decide) (hs : ∀ z, foldedSetIterable x X.env z = pure z := by intro _; rfl) :
    SE X ct (.ListComp y [⟨tg, x, ifs, 0⟩] scope pos) (eLcS it (own.map (·.2)) g c a) :=
  ⟨pe_mono (pe_lc (te := tE X.K ct a) (tt := tT X.K ct c) (g := tG X.K ct ts g) hc hN hi.pi ok (fun s H C cl fp => (hg s H C cl fp).pg) (fun s H C cl fp => (ht s H C cl fp).pts) (fun s H C cl fp => (he s H C cl fp).pe) hs) fun _ _ _ h => tE_lcS hts h⟩
theorem ss_setLcS (i : Nat) {n : Str} {py spos : Pos} {tg : Expr} {ifs : List Expr} {scope : Scope} {own : List (Str × Nat)} {it : SemIs} {ts : List Nat} {g : SemG} (hc : X.calm = true) (hN : X.N.Nodup) (hi : SIs X ct tg x it) (ok : BlkOk X.N X.env.scope scope own)
    (hg : ∀ (s : Shared) (H : Hp) (C : Addr) (cl : List (Str × Addr)) (fp : List Addr), SG (X.blk s H scope (compEnvC scope cl C X.env) fp) ct tg ts g) (ht : ∀ (s : Shared) (H : Hp) (C : Addr) (cl : List (Str × Addr)) (fp : List Addr), STs (X.blk s H scope (compEnvC scope cl C X.env) fp) ct ifs c)
    (he : ∀ (s : Shared) (H : Hp) (C : Addr) (cl : List (Str × Addr)) (fp : List Addr), SE (X.blk s H scope (compEnvC scope cl C X.env) fp) ct y a) (hy : X.N[i]? = some n := by rfl) (hyl : X.env.scope.names.lookup n = some .local := by rfl)
    (hsw : swapsWith (.ListComp y [⟨tg, x, ifs, 0⟩] scope pos) (some (.Name n py)) spos.line X.env = pure true := by exact sw_true rfl rfl rfl (by decide +kernel)) (hts : ∀ j ∈ ts, j ∈ own.map (·.2) := by decide) (hs : ∀ z, foldedSetIterable x X.env z = pure z := by intro _; rfl) :
    SS X ct (.Assign [.Name n py] (.ListComp y [⟨tg, x, ifs, 0⟩] scope pos) spos) (sSet i (eLcS it (own.map (·.2)) g c a)) := by
  refine ⟨ps_mono (ps_setLc (te := tE X.K ct a) (tt := tT X.K ct c) (g := tG X.K ct ts g) hc hN hy hyl hsw hi.pi ok (fun s H C cl fp => (hg s H C cl fp).pg) (fun s H C cl fp => (ht s H C cl fp).pts) (fun s H C cl fp => (he s H C cl fp).pe) hs) fun D σ H h => ?_⟩
  exact tE_lcS hts (tSm_set h)
/-! lists behind handles -/
noncomputable def iSeqH (δ : Dr) (a : Sem) : SemIs := fun env st => (a env st).bind fun p => p.1.pin.hnd?.bind fun g => (δ p.2 (.sh (.hnd g))).bind fun c => c.lst?.map fun ds => ((ds, fun st => lookS st g = some (.lst ds)), p.2)
noncomputable def iEnumH (δ : Dr) (a : Sem) : SemIs := fun env st => (a env st).bind fun p => p.1.pin.hnd?.bind fun g => (δ p.2 (.sh (.hnd g))).bind fun c => c.lst?.map fun ds => ((enumF 0 ds, fun st => lookS st g = some (.lst ds)), p.2)
theorem cell_list {K : PySem.W.Frag} {F H : Hp} {W : Wd} {L : Addr → Option Lab} {env : List Kn.Slot} {st : Sto} {σ : St} {v : V} {g : Nat} {ds : List Kn.D} (I : Rel K ct F W L env st σ H) (h : Rep K ct W v (.hnd g)) (e : lookS st g = some (.lst ds)) : ∃ a vs, v = .ref a ∧ SqL K H a vs ∧ RepL K ct W vs ds := by
  obtain ⟨a, rfl, _, c⟩ := I.cell h e
  cases c with
  | lst g q => exact ⟨a, _, rfl, SqL.of g, q⟩
theorem wk_listH {K : PySem.W.Frag} {W0 : Wd} {l : Addr} {g : Nat} {ds : List Kn.D} (h : Rep K ct W0 (.ref l) (.hnd g)) : WkS K ct (Itl K l) W0 ds fun st => lookS st g = some (.lst ds) := by
  intro F W L env st σ H i le I hG
  obtain ⟨a, vs, e, hs, r⟩ := cell_list I (Rep.mono le h) hG
  cases e
  refine ⟨fun d hd => ?_, fun hi => ⟨vs, hs, by rw [r.length]; exact hi⟩⟩
  obtain ⟨v, hv, hr⟩ := r.get hd
  exact ⟨⟨vs, v, hs, hv⟩, fun x H' ⟨e, y⟩ => by
    subst e
    have e2 := y vs hs
    rw [hv] at e2; cases e2
    exact ⟨W, L, .refl W, I, hr⟩⟩
theorem wk_enumH {K : PySem.W.Frag} {W0 : Wd} {l : Addr} {g : Nat} {ds : List Kn.D} (h : Rep K ct W0 (.ref l) (.hnd g)) : WkS K ct (Ite K l) W0 (enumF 0 ds) fun st => lookS st g = some (.lst ds) := by
  intro F W L env st σ H i le I hG
  obtain ⟨a, vs, e, hs, r⟩ := cell_list I (Rep.mono le h) hG
  cases e
  refine ⟨fun d hd => ?_, fun hi => ⟨vs, hs, by rw [r.length]; rw [enumF_len] at hi; exact hi⟩⟩
  obtain ⟨e, he, rfl⟩ := enumF_get 0 ds i d hd
  obtain ⟨v, hv, hr⟩ := r.get he
  refine ⟨⟨vs, v, hs, hv⟩, fun x H' ⟨T, w, e1, e2, e3, e4⟩ => ?_⟩
  subst e1 e3
  have e5 := e4 vs hs
  rw [hv] at e5; cases e5
  rw [Nat.zero_add]
  exact tup_new I e2 (.cons (.int _) (.cons hr .nil))
theorem pi_monoS {t t' : TI} (h : PI X tg x t) (k : ∀ σ H R, t' σ H R → t σ H R) : PI X tg x t' := ⟨fun pins s σ H R I q => h.run pins s σ H R I (k σ H R q)⟩
theorem si_seqH (oh : DrH δ) (ha : SE X ct x a) : SIs X ct tg x (iSeqH δ a) := by
  refine ⟨pi_monoS (pi_list ha.pe) fun σ H RR ⟨F, W, L, env, st, ds, G, st', I, e, k⟩ => ?_⟩
  obtain ⟨⟨r1, st1⟩, h1, e⟩ := bind2 e
  obtain ⟨g, hr, e⟩ := bind2 e
  obtain ⟨c, hc, e⟩ := bind2 e
  obtain ⟨ds', hd, e⟩ := map2 e
  cases e
  have hc := oh.ok hc
  rw [Kn.D.lst_eq hd] at hc
  refine ⟨F, W, L, env, st, r1, _, I, h1, fun v H1 W1 L1 l1 I1 p1 => ?_⟩
  obtain ⟨W1', m1, J1, q1⟩ := I1.pin p1
  rw [show r1.pin = _ from R.hnd_eq hr] at q1
  have q1 : Rep X.K ct W1' v (.hnd g) := q1
  obtain ⟨l, vs, rfl, hs, q⟩ := cell_list J1 q1 hc
  exact ⟨l, rfl, ⟨vs, hs⟩, k _ H1 W1' L1 (l1.trans m1) J1 (wk_listH q1)⟩
theorem si_enumH {p tpos : Pos} {elts : List Expr} {kk : Nat} (oh : DrH δ) (hg : Gl X "enumerate") (hm : X.mg "enumerate" = none) (ha : SE X ct x a) (he : starEach [x] X.env = (false, eval x X.env) :: starEach [] X.env := by rfl) (hs : starEach [x] X.env = [(false, eval x X.env)] := by rfl) :
    SIs X ct (.Tuple elts kk tpos) (.Call (.Name "enumerate" p) [x] [] pos) (iEnumH δ a) := by
  refine ⟨pi_monoS (pi_enum hg hm (pa_cons ha.pe pa_nil he) hs) fun σ H RR ⟨F, W, L, env, st, ds, G, st', I, e, k⟩ => ?_⟩
  obtain ⟨⟨r1, st1⟩, h1, e⟩ := bind2 e
  obtain ⟨g, hr, e⟩ := bind2 e
  obtain ⟨c, hc, e⟩ := bind2 e
  obtain ⟨ds', hd, e⟩ := map2 e
  cases e
  have hc := oh.ok hc
  rw [Kn.D.lst_eq hd] at hc
  refine ⟨F, W, L, env, st, r1, _, I, h1, fun v H1 W1 L1 l1 I1 p1 => ?_⟩
  obtain ⟨W1', m1, J1, q1⟩ := I1.pin p1
  rw [show r1.pin = _ from R.hnd_eq hr] at q1
  have q1 : Rep X.K ct W1' v (.hnd g) := q1
  obtain ⟨l, vs, rfl, hs, q⟩ := cell_list J1 q1 hc
  exact ⟨l, vs, rfl, hs, k _ _ _ _ (l1.trans m1) J1 (wk_enumH q1)⟩
end
end Kn
namespace Kn
open PySem L2
/-! ### typed readings: the store -/
open En
structure Hd (τ : Type) where
  g : Nat
  deriving DecidableEq
section
variable {α β γ δ σ ρ τ μ : Type} [En α] [En β] [En γ]
instance {τ : Type} : En (Hd τ) := ⟨fun h => .hnd h.g⟩
open Classical in
noncomputable def getS [En α] (st : Sto) (g : Nat) : Option α := if h : ∃ x : α, lookS st g = some (en x) then some (choose h) else none
noncomputable def putS (st : Sto) (g : Nat) (x : α) : Sto := st.set g (kC, en x)
noncomputable def newS (st : Sto) (x : α) : Hd α × Sto := (⟨st.length⟩, st ++ [(kC, en x)])
theorem getS_look {st : Sto} {g : Nat} {x : α} (h : getS st g = some x) : lookS st g = some (en x) := by
  unfold getS at h
  split at h
  · rename_i q
    cases h
    exact Classical.choose_spec q
  · cases h
theorem dH_get (st : Sto) (g : Nat) : dH α st (.sh (.hnd g)) = (getS (α := α) st g).map en := by
  show ((lookS st g).bind fun c => _) = _
  unfold getS
  by_cases h : ∃ x : α, lookS st g = some (en x)
  · rw [dif_pos h]
    have e := Classical.choose_spec h
    generalize Classical.choose h = c0 at e
    rw [e]
    exact if_pos ⟨_, rfl⟩
  · rw [dif_neg h]
    cases q : lookS st g with
    | none => rfl
    | some c =>
      exact if_neg fun ⟨x, e⟩ => h ⟨x, by rw [q, e]⟩
variable {k k1 k2 k3 : Kx} {env env' : List Kn.Slot} {st : Sto} {e a b c h ix : Sem} {i j n : Nat} {x x' : α} {y : β} {tx : Option α} {ty : Option β} {as : SemA} {ds : List D}
variable {fn : Bool} {enc : τ → Outs} {f g s1 : SemS} {t t1 t2 : Option τ} {z : τ}
/-! reading through a handle -/
theorem x_e1s {δ : Dr} {f : D → Option R} : e1s δ f a env st = (a env st).bind fun p => (δ p.2 p.1.pin).bind fun d => (f d).map fun r => (r, p.2) := rfl
theorem x_e2s {δ1 δ2 : Dr} {f : D → D → Option R} : e2s δ1 δ2 f a b env st = (a env st).bind fun p => (b env p.2).bind fun q => (δ1 q.2 p.1.pin).bind fun d1 => (δ2 q.2 q.1.pin).bind fun d2 => (f d1 d2).map fun r => (r, q.2) := rfl
theorem dI_pin (k : Kx) (d : D) (st : Sto) : dI st (k.r d).pin = some d := by
  show some (k.r d).pin.d = _
  rw [R.pin_d, Kx.rd]
theorem ev_1h {f : D → Option R} {F : α → Option β} {tx : Option (Hd α)} (hf : Op1 k f F) (ha : Ev .sh a env st tx) : Ev k (e1s (dH α) f a) env st (tx.bind fun x => (getS st x.g).bind F) := by
  unfold Ev at ha ⊢
  rw [x_e1s, ha]
  cases tx with
  | none => rfl
  | some x =>
    show ((dH α st (.sh (.hnd x.g))).bind fun d => (f d).map fun r => (r, st)) = ((getS st x.g).bind F).map _
    rw [dH_get]
    cases getS (α := α) st x.g with
    | none => rfl
    | some u => show ((f (en u)).map fun r => (r, st)) = (F u).map _; rw [hf u, Option.map_map]; rfl
theorem ev_2hi {g : D → D → Option R} {G : α → β → Option γ} {tx : Option (Hd α)} (hg : Op2 k g G) (ha : Ev .sh a env st tx) (hb : Ev k2 b env st ty) : Ev k (e2s (dH α) dI g a b) env st (tx.bind fun x => ty.bind fun y => (getS st x.g).bind fun u => G u y) := by
  unfold Ev at ha hb ⊢
  rw [x_e2s, ha]
  cases tx with
  | none => rfl
  | some x =>
    show ((b env st).bind _) = _
    rw [hb]
    cases ty with
    | none => rfl
    | some y =>
      show ((dH α st (.sh (.hnd x.g))).bind fun d1 => (dI st (k2.r (en y)).pin).bind fun d2 => (g d1 d2).map fun r => (r, st)) = ((getS st x.g).bind fun u => G u y).map _
      rw [dH_get, dI_pin]
      cases getS (α := α) st x.g with
      | none => rfl
      | some u => show ((g (en u) (en y)).map fun r => (r, st)) = (G u y).map _; rw [hg u y, Option.map_map]; rfl
theorem ev_2ih {g : D → D → Option R} {G : α → β → Option γ} {ty : Option (Hd β)} (hg : Op2 k g G) (ha : Ev k1 a env st tx) (hb : Ev .sh b env st ty) : Ev k (e2s dI (dH β) g a b) env st (tx.bind fun x => ty.bind fun y => (getS st y.g).bind fun u => G x u) := by
  unfold Ev at ha hb ⊢
  rw [x_e2s, ha]
  cases tx with
  | none => rfl
  | some x =>
    show ((b env st).bind _) = _
    rw [hb]
    cases ty with
    | none => rfl
    | some y =>
      show ((dI st (k1.r (en x)).pin).bind fun d1 => (dH β st (.sh (.hnd y.g))).bind fun d2 => (g d1 d2).map fun r => (r, st)) = ((getS st y.g).bind fun u => G x u).map _
      rw [dH_get, dI_pin]
      cases getS (α := β) st y.g with
      | none => rfl
      | some u => show ((g (en x) (en u)).map fun r => (r, st)) = (G x u).map _; rw [hg x u, Option.map_map]; rfl
/-! what changes the store -/
def Evx (k : Kx) (e : Sem) (env : List Kn.Slot) (st : Sto) (t : Option (α × Sto)) : Prop := e env st = t.map fun p => (k.r (en p.1), p.2)
theorem evx_of (ha : Ev k e env st tx) : Evx k e env st (tx.bind fun x => some (x, st)) := by
  unfold Ev at ha; unfold Evx
  rw [ha]; cases tx <;> rfl
theorem evx_ofp (ha : Ev k e env st (some x)) : Evx k e env st (some (x, st)) := ha
theorem evx_new (ha : Ev .ow a env st tx) : Evx .sh (eNew a) env st (tx.bind fun x => some (newS st x)) := by
  unfold Ev at ha; unfold Evx
  show ((a env st).bind fun p => match p.1 with | .ow d => some (Kn.R.sh (.hnd p.2.length), p.2 ++ [(kC, d)]) | _ => none) = _
  rw [ha]; cases tx <;> rfl
theorem evx_newX {t : Option (α × Sto)} (ha : Evx .ow a env st t) : Evx .sh (eNew a) env st (t.bind fun p => some (newS p.2 p.1)) := by
  unfold Evx at ha; unfold Evx
  show ((a env st).bind fun p => match p.1 with | .ow d => some (Kn.R.sh (.hnd p.2.length), p.2 ++ [(kC, d)]) | _ => none) = _
  rw [ha]; cases t <;> rfl
def EvAX (as : SemA) (env : List Kn.Slot) (st : Sto) (t : Option (μ × Sto)) (dec : μ → List D) : Prop := as env st = t.map fun b => ((dec b.1).map .sh, b.2)
theorem eax_nil : EvAX aNil env st (some ((), st)) fun _ => [] := rfl
theorem eax_of (h : EvAp as env st ds) : EvAX as env st (some ((), st)) fun _ => ds := h
theorem eax_ofx {t : Option μ} {dec : μ → List D} (h : EvA as env st t dec) : EvAX as env st (t.bind fun b => some (b, st)) dec := by
  unfold EvA at h; unfold EvAX
  rw [h]; cases t <;> rfl
theorem eax_cons {t : Option (α × Sto)} {u : Sto → Option (μ × Sto)} {dec : μ → List D} (ha : Evx k a env st t) (hk : k.ok = true) (hs : ∀ st1, EvAX as env st1 (u st1) dec) : EvAX (aCons a as) env st (t.bind fun p => (u p.2).bind fun q => some ((p.1, q.1), q.2)) fun b => en b.1 :: dec b.2 := by
  unfold Evx at ha; unfold EvAX aCons
  rw [ha]
  cases t with
  | none => rfl
  | some p =>
    have hs := hs p.2
    unfold EvAX at hs
    show ((as env p.2).map fun q => ((k.r (en p.1)).pin :: q.1, q.2)) = _
    rw [hs, Kx.pin hk]
    show _ = ((u p.2).bind fun q => some ((p.1, q.1), q.2)).map _
    cases u p.2 <;> rfl
theorem eax_p {t : Option (μ × Sto)} {dec : μ → List D} (ha : Ev k a env st (some x)) (hk : k.ok = true) (h : EvAX as env st t dec) : EvAX (aCons a as) env st t fun b => en x :: dec b := by
  unfold Ev at ha; unfold EvAX at h ⊢; unfold aCons
  rw [ha]
  show ((as env st).map fun q => ((k.r (en x)).pin :: q.1, q.2)) = _
  rw [h, Kx.pin hk]; cases t <;> rfl
section
variable {t : Option (μ × Sto)} {dec : μ → List D} {m : Fn}
theorem evx_callX {F : μ → Sto → Option (γ × Sto)} (ha : EvAX as env st t dec) (h : ∀ b st1, m (dec b) st1 = (F b st1).map fun p => (k.r (en p.1), p.2)) (hl : ∀ b, (dec b).length = n) : Evx k (eCall n m as) env st (t.bind fun b => F b.1 b.2) := by
  unfold EvAX at ha; unfold Evx eCall
  rw [ha]
  cases t with
  | none => rfl
  | some b =>
    show ((valsR ((dec b.1).map .sh)).bind fun ds => if ds.length = n then m ds b.2 else none) = _
    rw [vals_sh]
    show (if (dec b.1).length = n then m (dec b.1) b.2 else none) = _
    rw [if_pos (hl b.1), h]; rfl
theorem evx_makeX {F : μ → Sto → Option (γ × Sto)} (ha : EvAX as env st t dec) (h : ∀ b st1, m (dec b) st1 = (F b st1).map fun p => (k.r (en p.1), p.2)) (hl : ∀ b, (dec b).length + 1 = n) : Evx k (eMake n m as) env st (t.bind fun b => F b.1 b.2) := by
  unfold EvAX at ha; unfold Evx eMake
  rw [ha]
  cases t with
  | none => rfl
  | some b =>
    show ((valsR ((dec b.1).map .sh)).bind fun ds => if ds.length + 1 = n then m ds b.2 else none) = _
    rw [vals_sh]
    show (if (dec b.1).length + 1 = n then m (dec b.1) b.2 else none) = _
    rw [if_pos (hl b.1), h]; rfl
theorem evx_lstX {F : μ → γ} (ha : EvAX as env st t dec) (hp : ∀ b, en (F b) = .lst (dec b)) (hl : ∀ b, (dec b).length ≤ 1000) : Evx .ow (eLst as) env st (t.bind fun b => some (F b.1, b.2)) := by
  unfold EvAX at ha; unfold Evx eLst
  rw [ha]
  cases t with
  | none => rfl
  | some b =>
    show ((valsR ((dec b.1).map .sh)).bind fun ds => if ds.length ≤ sizeLine then some (Kn.R.ow (.lst ds), b.2) else none) = _
    rw [vals_sh]
    show (if (dec b.1).length ≤ sizeLine then some (Kn.R.ow (.lst (dec b.1)), b.2) else none) = _
    rw [if_pos (x_sz (hl b.1)), ← hp]; rfl
theorem evx_tupX {F : μ → γ} (ha : EvAX as env st t dec) (hp : ∀ b, en (F b) = .tup (dec b)) (hl : ∀ b, (dec b).length ≤ 1000) : Evx .sh (eTup as) env st (t.bind fun b => some (F b.1, b.2)) := by
  unfold EvAX at ha; unfold Evx eTup
  rw [ha]
  cases t with
  | none => rfl
  | some b =>
    show ((valsR ((dec b.1).map .sh)).bind fun ds => if ds.length ≤ sizeLine then some (Kn.R.sh (.tup ds), b.2) else none) = _
    rw [vals_sh]
    show (if (dec b.1).length ≤ sizeLine then some (Kn.R.sh (.tup (dec b.1)), b.2) else none) = _
    rw [if_pos (x_sz (hl b.1)), ← hp]; rfl
theorem x_methH {δ : Dr} {c : Str} : eMethH δ n c m a as env st = (a env st).bind fun p => p.1.pin.hnd?.bind fun g => (δ p.2 (.sh (.hnd g))).bind fun u => (u.fds c).bind fun _ => (as env p.2).bind fun q => (valsR q.1).bind fun es => if es.length + 1 = n then m (.hnd g :: es) q.2 else none := rfl
/-- a method that changes the store -/
theorem evx_methX {c : Str} {fs : α → List D} {tx : Option (Hd α)} {F : Hd α → μ → Sto → Option (γ × Sto)} (ha : Ev .sh a env st tx) (ho : ∀ o : α, en o = .obj c (fs o)) (has : EvAX as env st t dec) (hm : ∀ x b st1, m (en x :: dec b) st1 = (F x b st1).map fun p => (k.r (en p.1), p.2)) (hl : ∀ b, (dec b).length + 1 = n) : Evx k (eMethH (dH α) n c m a as) env st (tx.bind fun x => (getS (α := α) st x.g).bind fun _ => t.bind fun b => F x b.1 b.2) := by
  unfold Ev at ha; unfold EvAX at has; unfold Evx
  rw [x_methH, ha]
  cases tx with
  | none => rfl
  | some x =>
    show ((dH α st (.sh (.hnd x.g))).bind fun u => (u.fds c).bind fun _ => (as env st).bind fun q => (valsR q.1).bind fun es => if es.length + 1 = n then m (.hnd x.g :: es) q.2 else none) = _
    rw [dH_get]
    cases q : getS (α := α) st x.g with
    | none => simp [q]
    | some u =>
      show (((en u).fds c).bind fun _ => (as env st).bind fun q => (valsR q.1).bind fun es => if es.length + 1 = n then m (.hnd x.g :: es) q.2 else none) = _
      rw [ho u, show (D.obj c (fs u)).fds c = some (fs u) from if_pos rfl]
      show ((as env st).bind fun q => (valsR q.1).bind fun es => if es.length + 1 = n then m (.hnd x.g :: es) q.2 else none) = _
      rw [has]
      cases t with
      | none => simp [q]
      | some b =>
        show ((valsR ((dec b.1).map .sh)).bind fun es => if es.length + 1 = n then m (.hnd x.g :: es) b.2 else none) = _
        rw [vals_sh]
        show (if (dec b.1).length + 1 = n then m (en x :: dec b.1) b.2 else none) = _
        rw [if_pos (hl b.1), hm]
        simp [q]
end
/-- a method that only reads -/
theorem ev_methH {m : Fn} {t : Option μ} {dec : μ → List D} {c : Str} {fs : α → List D} {tx : Option (Hd α)} {F : Hd α → μ → Option γ} (ha : Ev .sh a env st tx) (ho : ∀ o : α, en o = .obj c (fs o)) (has : EvA as env st t dec) (hm : ∀ x b, m (en x :: dec b) st = (F x b).map fun r => (k.r (en r), st)) (hl : ∀ b, (dec b).length + 1 = n) : Ev k (eMethH (dH α) n c m a as) env st (tx.bind fun x => (getS (α := α) st x.g).bind fun _ => t.bind fun b => F x b) := by
  unfold Ev at ha ⊢; unfold EvA at has
  rw [x_methH, ha]
  cases tx with
  | none => rfl
  | some x =>
    show ((dH α st (.sh (.hnd x.g))).bind fun u => (u.fds c).bind fun _ => (as env st).bind fun q => (valsR q.1).bind fun es => if es.length + 1 = n then m (.hnd x.g :: es) q.2 else none) = _
    rw [dH_get]
    cases q : getS (α := α) st x.g with
    | none => simp [q]
    | some u =>
      show (((en u).fds c).bind fun _ => (as env st).bind fun q => (valsR q.1).bind fun es => if es.length + 1 = n then m (.hnd x.g :: es) q.2 else none) = _
      rw [ho u, show (D.obj c (fs u)).fds c = some (fs u) from if_pos rfl]
      show ((as env st).bind fun q => (valsR q.1).bind fun es => if es.length + 1 = n then m (.hnd x.g :: es) q.2 else none) = _
      rw [has]
      cases t with
      | none => simp [q]
      | some b =>
        show ((valsR ((dec b).map .sh)).bind fun es => if es.length + 1 = n then m (.hnd x.g :: es) st else none) = _
        rw [vals_sh]
        show (if (dec b).length + 1 = n then m (en x :: dec b) st else none) = _
        rw [if_pos (hl b), hm]
        simp [q]
theorem ea_ofp (h : EvAp as env st ds) : EvA as env st (some ()) fun _ => ds := h
/-! operations on what changed the store -/
theorem evx_1 {f : D → Option R} {F : α → Option β} {t : Option (α × Sto)} (hf : Op1 k f F) (ha : Evx k1 a env st t) : Evx k (e1 f a) env st (t.bind fun p => (F p.1).bind fun c => some (c, p.2)) := by
  unfold Evx at ha ⊢
  show ((a env st).bind fun p => (f p.1.d).map fun r => (r, p.2)) = _
  rw [ha]
  cases t with
  | none => rfl
  | some p =>
    show ((f (k1.r (en p.1)).d).map fun r => (r, p.2)) = ((F p.1).bind fun c => some (c, p.2)).map _
    rw [Kx.rd, hf p.1]
    cases F p.1 <;> rfl
theorem evx_2 {g : D → D → Option R} {G : α → β → Option γ} {t : Option (α × Sto)} {u : Sto → Option (β × Sto)} (hg : Op2 k g G) (ha : Evx k1 a env st t) (hb : ∀ st1, Evx k2 b env st1 (u st1)) : Evx k (e2 g a b) env st (t.bind fun p => (u p.2).bind fun q => (G p.1 q.1).bind fun c => some (c, q.2)) := by
  unfold Evx at ha ⊢
  show ((a env st).bind fun p => (b env p.2).bind fun q => (g p.1.d q.1.d).map fun r => (r, q.2)) = _
  rw [ha]
  cases t with
  | none => rfl
  | some p =>
    have hb := hb p.2
    unfold Evx at hb
    show ((b env p.2).bind fun q => (g (k1.r (en p.1)).d q.1.d).map fun r => (r, q.2)) = _
    rw [hb]
    show ((Option.map (fun p => (k2.r (en p.1), p.2)) (u p.2)).bind _) = ((u p.2).bind _).map _
    cases u p.2 with
    | none => rfl
    | some q =>
      show ((g (k1.r (en p.1)).d (k2.r (en q.1)).d).map fun r => (r, q.2)) = ((G p.1 q.1).bind fun c => some (c, q.2)).map _
      rw [Kx.rd, Kx.rd, hg p.1 q.1]
      cases G p.1 q.1 <;> rfl
theorem evx_not {t : Option (Bool × Sto)} (ha : Evx .sh a env st t) : Evx .sh (eNot a) env st (t.bind fun p => some (!p.1, p.2)) := by
  unfold Evx at ha ⊢; unfold eNot; rw [ha]; cases t <;> rfl
theorem evx_and {t : Option (Bool × Sto)} {u : Sto → Option (Bool × Sto)} (ha : Evx .sh a env st t) (hb : ∀ st1, Evx .sh b env st1 (u st1)) : Evx .sh (eAnd a b) env st (t.bind fun p => if p.1 = true then u p.2 else some (false, p.2)) := by
  unfold Evx at ha ⊢; unfold eAnd; rw [ha]
  cases t with
  | none => rfl
  | some p =>
    obtain ⟨v, st1⟩ := p
    cases v with
    | true => exact hb st1
    | false => rfl
theorem evx_or {t : Option (Bool × Sto)} {u : Sto → Option (Bool × Sto)} (ha : Evx .sh a env st t) (hb : ∀ st1, Evx .sh b env st1 (u st1)) : Evx .sh (eOr a b) env st (t.bind fun p => if p.1 = true then some (true, p.2) else u p.2) := by
  unfold Evx at ha ⊢; unfold eOr; rw [ha]
  cases t with
  | none => rfl
  | some p =>
    obtain ⟨v, st1⟩ := p
    cases v with
    | false => exact hb st1
    | true => rfl
theorem evx_pin {t : Option (α × Sto)} (ha : Evx k a env st t) (hk : k.ok = true) : Evx .sh (ePin a) env st t := by
  unfold Evx at ha; unfold Evx ePin
  rw [ha]
  cases t with
  | none => rfl
  | some v => show some ((k.r (en v.1)).pin, v.2) = _; rw [Kx.pin hk]; rfl
theorem evx_some {t : Option (α × Sto)} (ha : Evx k a env st t) : Evx k a env st (t.bind fun p => some (some p.1, p.2)) := by
  unfold Evx at ha ⊢
  rw [ha]; cases t <;> rfl
/-! comprehensions that change the store -/
def lcX (c : α → Sto → Option (Bool × Sto)) (f : α → Sto → Option (β × Sto)) : List α → Sto → Option (List β × Sto)
  | [], st => some ([], st)
  | x :: xs, st => (c x st).bind fun b => if b.1 = true then (f x b.2).bind fun y => (lcX c f xs y.2).bind fun l => some (y.1 :: l.1, l.2) else lcX c f xs b.2
def szX (p : List α × Sto) : Option (List α × Sto) := if p.1.length ≤ sizeLine then some p else none
theorem lcX_ev {g : SemG} {vs : List Nat} {tc : α → Sto → Option (Bool × Sto)} {ta : α → Sto → Option (β × Sto)} {en1 : α → List Kn.Slot} (hk : k.ok = true) (hg : ∀ x : α, g (en x) (wipeE env vs) = some (en1 x)) (hc : ∀ x st, Evx .sh c (en1 x) st (tc x st)) (ha : ∀ x st, Evx k a (en1 x) st (ta x st)) : ∀ (l : List α) (st : Sto),
    lcL g c a vs env (l.map en) st = (lcX tc ta l st).map fun r => (r.1.map en, r.2)
  | [], st => rfl
  | x :: xs, st => by
    have h1 := hc x st
    unfold Evx at h1
    rw [List.map_cons, lcL, hg x, lcX]
    show ((c (en1 x) st).bind _) = _
    rw [h1]
    cases tc x st with
    | none => rfl
    | some p =>
      obtain ⟨p, st1⟩ := p
      cases p with
      | false => exact lcX_ev hk hg hc ha xs st1
      | true =>
        have h2 := ha x st1
        unfold Evx at h2
        show ((a (en1 x) st1).bind _) = ((ta x st1).bind _).map _
        rw [h2]
        cases hx : ta x st1 with
        | none => rfl
        | some y =>
          show ((k.r (en y.1)).sh?.bind _) = _
          rw [Kx.sh? hk]
          show (lcL g c a vs env (xs.map en) y.2).map _ = _
          rw [lcX_ev hk hg hc ha xs y.2]
          cases hl : lcX tc ta xs y.2 with
          | none => simp [hl]
          | some l => simp [hl]
theorem evx_lc {it : SemI} {g : SemG} {vs : List Nat} {t : Option (List α)} {tc : α → Sto → Option (Bool × Sto)} {ta : α → Sto → Option (β × Sto)} {en1 : α → List Kn.Slot} (hi : EvI it env st t) (hv : vs.all (fun j => (env[j]?.map Slot.okW).getD true) = true) (hg : ∀ x : α, g (en x) (wipeE env vs) = some (en1 x)) (hc : ∀ x st, Evx .sh c (en1 x) st (tc x st)) (ha : ∀ x st, Evx k a (en1 x) st (ta x st)) (hk : k.ok = true) :
    Evx .ow (eLc it vs g c a) env st (t.bind fun l => (lcX tc ta l st).bind szX) := by
  unfold EvI at hi; unfold Evx
  rw [x_lc, hi]
  cases t with
  | none => rfl
  | some l =>
    show (if vs.all (fun j => (env[j]?.map Slot.okW).getD true) = true then (lcL g c a vs env (l.map en) st).bind fun q => if q.1.length ≤ sizeLine then some (Kn.R.ow (.lst q.1), q.2) else none else none) = _
    rw [if_pos hv, lcX_ev hk hg hc ha l]
    show _ = ((lcX tc ta l st).bind szX).map _
    cases lcX tc ta l st with
    | none => rfl
    | some r =>
      show (if (r.1.map en).length ≤ sizeLine then some (Kn.R.ow (.lst (r.1.map en)), r.2) else none) = (szX r).map _
      unfold szX
      rw [List.length_map]
      split <;> rfl
/-! going through a list behind a handle, nothing changed -/
def EvIs (it : SemIs) (env : List Kn.Slot) (st : Sto) (t : Option (List α)) : Prop := ∃ G : List α → Sto → Prop, (∀ l, t = some l → G l st) ∧ it env st = t.map fun l => ((l.map en, G l), st)
theorem lcS_ev {G : Sto → Prop} {g : SemG} {vs : List Nat} {tc : α → Option Bool} {ta : α → Option β} {en1 : α → List Kn.Slot} (hG : G st) (hk : k.ok = true) (hg : ∀ x : α, g (en x) (wipeE env vs) = some (en1 x)) (hc : ∀ x, Ev .sh c (en1 x) st (tc x)) (ha : ∀ x, Ev k a (en1 x) st (ta x)) : ∀ l : List α,
    lcLS G g c a vs env (l.map en) st = (lcT tc ta l).map fun r => (r.map en, st)
  | [] => if_pos hG
  | x :: xs => by
    have ih := lcS_ev hG hk hg hc ha xs
    have h1 := hc x
    have h2 := ha x
    unfold Ev at h1 h2
    rw [List.map_cons, lcLS, if_pos hG, hg x, lcT]
    show ((c (en1 x) st).bind _) = _
    rw [h1]
    cases tc x with
    | none => rfl
    | some p =>
      cases p with
      | false => exact ih
      | true =>
        show ((a (en1 x) st).bind _) = _
        rw [h2]
        cases hx : ta x with
        | none => rfl
        | some y =>
          show ((k.r (en y)).sh?.bind _) = _
          rw [Kx.sh? hk]
          show (lcLS G g c a vs env (xs.map en) st).map _ = _
          rw [ih]
          cases hl : lcT tc ta xs with
          | none => simp [hl]
          | some l => simp [hl]
theorem ev_lcs {it : SemIs} {g : SemG} {vs : List Nat} {t : Option (List α)} {tc : α → Option Bool} {ta : α → Option β} {en1 : α → List Kn.Slot} (hi : EvIs it env st t) (hv : vs.all (fun j => (env[j]?.map Slot.okW).getD true) = true) (hg : ∀ x : α, g (en x) (wipeE env vs) = some (en1 x)) (hc : ∀ x, Ev .sh c (en1 x) st (tc x)) (ha : ∀ x, Ev k a (en1 x) st (ta x)) (hk : k.ok = true) :
    Ev .ow (eLcS it vs g c a) env st (t.bind fun l => (lcT tc ta l).bind szG) := by
  obtain ⟨G, hG, hi⟩ := hi
  unfold Ev eLcS
  rw [hi]
  cases t with
  | none => rfl
  | some l =>
    show (if vs.all (fun j => (env[j]?.map Slot.okW).getD true) = true then (lcLS (G l) g c a vs env (l.map en) st).bind fun q => if q.1.length ≤ sizeLine then some (Kn.R.ow (.lst q.1), q.2) else none else none) = _
    rw [if_pos hv, lcS_ev (hG l rfl) hk hg hc ha l]
    show _ = ((lcT tc ta l).bind szG).map _
    cases lcT tc ta l with
    | none => rfl
    | some r =>
      show (if (r.map en).length ≤ sizeLine then some (Kn.R.ow (.lst (r.map en)), st) else none) = (szG r).map _
      unfold szG
      rw [List.length_map]
      split <;> rfl
theorem eis_seq {tx : Option (Hd (List α))} (ha : Ev .sh a env st tx) : EvIs (α := α) (iSeqH (dH (List α)) a) env st (tx.bind fun x => getS (α := List α) st x.g) := by
  unfold Ev at ha
  cases tx with
  | none =>
    refine ⟨fun _ _ => True, fun _ _ => trivial, ?_⟩
    unfold iSeqH
    rw [ha]; rfl
  | some x =>
    refine ⟨fun (l : List α) s => lookS s x.g = some (.lst (l.map en)), fun l e => getS_look e, ?_⟩
    unfold iSeqH
    rw [ha]
    show ((dH (List α) st (.sh (.hnd x.g))).bind fun c => c.lst?.map fun ds => ((ds, fun st => lookS st x.g = some (.lst ds)), st)) = _
    rw [dH_get]
    show _ = (getS (α := List α) st x.g).map _
    cases getS (α := List α) st x.g <;> rfl
theorem eis_enum {tx : Option (Hd (List α))} (ha : Ev .sh a env st tx) : EvIs (iEnumH (dH (List α)) a) env st (tx.bind fun x => (getS (α := List α) st x.g).bind fun l => some (enumT 0 l)) := by
  unfold Ev at ha
  cases tx with
  | none =>
    refine ⟨fun _ _ => True, fun _ _ => trivial, ?_⟩
    unfold iEnumH
    rw [ha]; rfl
  | some x =>
    cases q : getS (α := List α) st x.g with
    | none =>
      refine ⟨fun _ _ => True, fun _ _ => trivial, ?_⟩
      unfold iEnumH
      rw [ha]
      show ((dH (List α) st (.sh (.hnd x.g))).bind fun c => _) = _
      rw [dH_get, q]
      simp [q]
    | some l =>
      refine ⟨fun _ s => lookS s x.g = some (.lst (l.map en)), fun _ _ => getS_look q, ?_⟩
      unfold iEnumH
      rw [ha]
      show ((dH (List α) st (.sh (.hnd x.g))).bind fun c => _) = _
      rw [dH_get, q]
      have := enumF_en 0 l
      simp only [Option.bind_some, q, Option.map_some]
      show some ((enumF 0 (l.map en), _), st) = _
      rw [this]; rfl
end
end Kn
namespace Kn
open PySem L2
/-! ### typed readings: statements that change the store -/
open En
section
variable {α β γ δ σ ρ τ μ : Type} [En α] [En β] [En γ]
variable {k k1 k2 k3 : Kx} {env env' : List Kn.Slot} {st : Sto} {e a b c h ix : Sem} {i j n : Nat} {x x' : α} {y : β} {tx : Option α} {ty : Option β} {as : SemA} {ds : List D}
variable {fn : Bool} {enc : τ → Outs} {f g s1 : SemS} {t1 t2 : Option τ} {z : τ}
theorem ru_setX {t : Option (α × Sto)} {T : α → Sto → Option τ} (ha : Evx k a env st t) (hk : k.ok = true) (hr : ∀ x st1, Ru fn enc g (env.set i (k.slot (en x))) st1 (T x st1)) : Ru fn enc (sSeq (sSet i a) g) env st (t.bind fun p => T p.1 p.2) := by
  unfold Evx at ha
  cases t with
  | none => unfold Ru; rw [x_seq, x_set, ha]; rfl
  | some p =>
    have hr := hr p.1 p.2
    unfold Ru at hr ⊢
    have : sSeq (sSet i a) g env st = g (env.set i (k.slot (en p.1))) p.2 := by
      rw [x_seq, x_set, ha]
      cases k <;> first | rfl | cases hk
    rw [this]; exact hr
theorem ru_exX {t : Option (α × Sto)} {T : α → Sto → Option τ} (ha : Evx k a env st t) (hr : ∀ x st1, Ru fn enc g env st1 (T x st1)) : Ru fn enc (sSeq (sEx a) g) env st (t.bind fun p => T p.1 p.2) := by
  unfold Evx at ha
  cases t with
  | none => unfold Ru; rw [x_seq, x_ex, ha]; rfl
  | some p =>
    have hr := hr p.1 p.2
    unfold Ru at hr ⊢
    have : sSeq (sEx a) g env st = g env p.2 := by rw [x_seq, x_ex, ha]; rfl
    rw [this]; exact hr
theorem ru_asgX {o : SemG} {env1 : α → List Kn.Slot} {t : Option (α × Sto)} {T : α → Sto → Option τ} (ha : Evx k a env st t) (hk : k.ok = true) (ho : ∀ x, o (en x) env = some (env1 x)) (hr : ∀ x st1, Ru fn enc g (env1 x) st1 (T x st1)) : Ru fn enc (sSeq (sAsg a o) g) env st (t.bind fun p => T p.1 p.2) := by
  unfold Evx at ha
  cases t with
  | none => unfold Ru; rw [x_seq, x_asg, ha]; rfl
  | some p =>
    have hr := hr p.1 p.2
    unfold Ru at hr ⊢
    have : sSeq (sAsg a o) g env st = g (env1 p.1) p.2 := by
      rw [x_seq, x_asg, ha]
      show ((match (k.r (en p.1)).pin with | .sh d => (o d env).map fun env' => (Out.nx, env', p.2) | _ => none).bind _) = _
      rw [Kx.pin hk]
      show (((o (en p.1) env).map fun env' => (Out.nx, env', p.2)).bind _) = _
      rw [ho]; rfl
    rw [this]; exact hr
theorem ru_ifX {c : Sem} {t : Option (Bool × Sto)} {T1 T2 : Sto → Option τ} (hc : Evx .sh c env st t) (h1 : ∀ st1, Ru fn enc (sSeq f s1) env st1 (T1 st1)) (h2 : ∀ st1, Ru fn enc (sSeq g s1) env st1 (T2 st1)) : Ru fn enc (sSeq (sIf c f g) s1) env st (t.bind fun p => if p.1 = true then T1 p.2 else T2 p.2) := by
  unfold Evx at hc
  cases t with
  | none => unfold Ru; rw [x_seq, x_if, hc]; rfl
  | some p =>
    obtain ⟨v, st1⟩ := p
    have h1 := h1 st1
    have h2 := h2 st1
    unfold Ru at h1 h2 ⊢
    rw [x_seq, x_if, hc]
    cases v with
    | true => exact h1
    | false => exact h2
theorem ru_retX {t : Option (α × Sto)} {F : α → Sto → τ} (ha : Evx k a env st t) (he : ∀ x st1, enc (F x st1) = (.rt (k.out.r (en x)), [], st1)) : Ru fn enc (sSeq (sRet a) g) env st (t.bind fun p => some (F p.1 p.2)) := by
  unfold Evx at ha
  cases t with
  | none => unfold Ru; rw [x_seq, x_ret, ha]; rfl
  | some p =>
    unfold Ru
    rw [x_seq, x_ret, ha]
    show some (nrm fn (.rt (k.r (en p.1)), env, p.2)) = some (enc (F p.1 p.2))
    rw [he]
    show some (Out.rt (k.r (en p.1)).outR, [], p.2) = _
    rw [Kx.outR]
theorem ru_fldX {cl : Str} {kk : Nat} {ad : Addr} {fs : List D} {t : Option (α × Sto)} {T : α → Sto → Option τ} (he : env[i]? = some (.me ad (.obj cl fs))) (hk : kk = fs.length) (ha : Evx k a env st t) (hok : k.ok = true) (hr : ∀ x st1, Ru fn enc g (env.set i (.me ad (.obj cl (fs ++ [en x])))) st1 (T x st1)) : Ru fn enc (sSeq (sFldM i cl kk a) g) env st (t.bind fun p => T p.1 p.2) := by
  unfold Evx at ha
  cases t with
  | none => unfold Ru sFldM; rw [x_seq, ha]; rfl
  | some p =>
    have hr := hr p.1 p.2
    unfold Ru at hr ⊢
    have : sSeq (sFldM i cl kk a) g env st = g (env.set i (.me ad (.obj cl (fs ++ [en p.1])))) p.2 := by
      rw [x_seq]
      unfold sFldM
      rw [ha]
      show ((match (k.r (en p.1)).pin, (env[i]? : Option Kn.Slot) with
        | .sh d, some (.me ad (.obj c' ds)) => if c' = cl ∧ kk = ds.length then some (Out.nx, env.set i (.me ad (.obj c' (ds ++ [d]))), p.2) else none
        | _, _ => none).bind _) = _
      rw [Kx.pin hok, he]
      show ((if cl = cl ∧ kk = fs.length then some (Out.nx, env.set i (.me ad (.obj cl (fs ++ [en p.1]))), p.2) else none).bind _) = _
      rw [if_pos ⟨rfl, hk⟩]; rfl
    rw [this]; exact hr
/-- a field of one's self while it is made, read -/
theorem ev_fldMe {cl : Str} {kk : Nat} {ad : Addr} {fs : List D} (he : env[i]? = some (.me ad (.obj cl fs))) (hx : fs[kk]? = some (en x)) : Ev .sh (eFldMe i cl kk) env st (some x) := by
  unfold Ev eFldMe
  rw [he]
  show (if cl = cl then fs[kk]?.map fun d => (Kn.R.sh d, st) else none) = _
  rw [if_pos rfl, hx]; rfl
/-! a statement that goes on with a state and a store -/
def encN (E : σ → List Kn.Slot) : σ × Sto → Outs := fun p => (.nx, E p.1, p.2)
def RnX (E : σ → List Kn.Slot) (f : SemS) (env : List Kn.Slot) (st : Sto) (t : Option (σ × Sto)) : Prop := f env st = t.map (encN E)
theorem rnx_of {E : σ → List Kn.Slot} {t : Option (σ × Sto)} (h : Ru false (encN E) (sSeq f sNil) env st t) : RnX E f env st t := by
  unfold Ru at h; unfold RnX
  rw [seq_nil] at h
  cases hf : f env st with
  | none =>
    rw [hf] at h
    cases t with
    | none => rfl
    | some s => cases h
  | some p =>
    rw [hf] at h
    cases t with
    | none => cases h
    | some s =>
      have := nrm_nx (Option.some.inj h)
      rw [this]; rfl
theorem ru_joinX {E : σ → List Kn.Slot} {t1 : Option (σ × Sto)} {T : σ → Sto → Option τ} (h1 : RnX E f env st t1) (h2 : ∀ s st1, Ru fn enc g (E s) st1 (T s st1)) : Ru fn enc (sSeq f g) env st (t1.bind fun p => T p.1 p.2) := by
  unfold RnX at h1
  cases t1 with
  | none => unfold Ru; rw [x_seq, h1]; rfl
  | some p =>
    have h2 := h2 p.1 p.2
    unfold Ru at h2 ⊢
    have : sSeq f g env st = g (E p.1) p.2 := by rw [x_seq, h1]; rfl
    rw [this]; exact h2
theorem forX_ev {E : σ → List Kn.Slot} {o : SemG} {E1 : α → σ → List Kn.Slot} {step : α → σ → Sto → Option (σ × Sto)} (ho : ∀ x s, o (en x) (E s) = some (E1 x s)) (hf : ∀ x s st, Ru false (encN E) f (E1 x s) st (step x s st)) : ∀ (l : List α) (s : σ) (st : Sto),
    forL o f (l.map en) (E s) st = (foldT (fun x p => step x p.1 p.2) l (s, st)).map (encN E)
  | [], s, st => rfl
  | x :: xs, s, st => by
    have h1 := hf x s st
    unfold Ru at h1
    rw [List.map_cons, forL, ho x s, foldT]
    show ((f (E1 x s) st).bind _) = _
    cases hs : step x s st with
    | none =>
      rw [hs] at h1
      cases hx : f (E1 x s) st with
      | none => rfl
      | some p => rw [hx] at h1; cases h1
    | some s' =>
      rw [hs] at h1
      cases hx : f (E1 x s) st with
      | none => rw [hx] at h1; cases h1
      | some p =>
        rw [hx] at h1
        have h1 := nrm_nx (Option.some.inj h1)
        subst h1
        exact forX_ev ho hf xs s'.1 s'.2
theorem rnx_for {it : SemI} {o : SemG} {E : σ → List Kn.Slot} {E1 : α → σ → List Kn.Slot} {step : α → σ → Sto → Option (σ × Sto)} {s0 : σ} {tl : Option (List α)} (hi : EvI it env st tl) (he : env = E s0) (ho : ∀ x s, o (en x) (E s) = some (E1 x s)) (hf : ∀ x s st, Ru false (encN E) f (E1 x s) st (step x s st)) :
    RnX E (sFor it o f) env st (tl.bind fun l => foldT (fun x p => step x p.1 p.2) l (s0, st)) := by
  unfold EvI at hi; unfold RnX
  rw [x_for, hi]
  cases tl with
  | none => rfl
  | some l =>
    show forL o f (l.map en) env st = _
    rw [he]
    exact forX_ev ho hf l s0 st
/-- a loop that may hand back -/
def encCX [En ρ] (k : Kx) (E : σ → List Kn.Slot) : Ct (ρ × Sto) (σ × Sto) → Outs
  | .nx p => (.nx, E p.1, p.2)
  | .rt r => (.rt (k.r (en r.1)), [], r.2)
theorem forTX_ev [En ρ] {E : σ → List Kn.Slot} {o : SemG} {E1 : α → σ → List Kn.Slot} {step : α → σ → Sto → Option (Ct (ρ × Sto) (σ × Sto))} (ho : ∀ x s, o (en x) (E s) = some (E1 x s)) (hf : ∀ x s st, Ru false (encCX k E) f (E1 x s) st (step x s st)) : ∀ (l : List α) (s : σ) (st : Sto),
    (forL o f (l.map en) (E s) st).map (nrm false) = (forT (fun x p => step x p.1 p.2) l (s, st)).map (encCX k E)
  | [], s, st => rfl
  | x :: xs, s, st => by
    have h1 := hf x s st
    unfold Ru at h1
    rw [List.map_cons, forL, ho x s, forT]
    show (((f (E1 x s) st).bind _).map _) = _
    cases hs : step x s st with
    | none =>
      rw [hs] at h1
      cases hx : f (E1 x s) st with
      | none => rfl
      | some p => rw [hx] at h1; cases h1
    | some c =>
      rw [hs] at h1
      cases hx : f (E1 x s) st with
      | none => rw [hx] at h1; cases h1
      | some p =>
        rw [hx] at h1
        cases c with
        | nx s' =>
          have h1 := nrm_nx (Option.some.inj h1)
          subst h1
          exact forTX_ev ho hf xs s'.1 s'.2
        | rt r =>
          obtain ⟨h3, r0, e0, rfl⟩ := nrm_rt (fn := false) (Option.some.inj h1)
          show some (nrm false (.rt r0, e0, r.2)) = _
          rw [h3]; rfl
def RcX [En ρ] (k : Kx) (E : σ → List Kn.Slot) (f : SemS) (env : List Kn.Slot) (st : Sto) (t : Option (Ct (ρ × Sto) (σ × Sto))) : Prop := (f env st).map (nrm false) = t.map (encCX k E)
theorem rcx_for [En ρ] {it : SemI} {o : SemG} {E : σ → List Kn.Slot} {E1 : α → σ → List Kn.Slot} {step : α → σ → Sto → Option (Ct (ρ × Sto) (σ × Sto))} {s0 : σ} {tl : Option (List α)} (hi : EvI it env st tl) (he : env = E s0) (ho : ∀ x s, o (en x) (E s) = some (E1 x s)) (hf : ∀ x s st, Ru false (encCX k E) f (E1 x s) st (step x s st)) :
    RcX k E (sFor it o f) env st (tl.bind fun l => forT (fun x p => step x p.1 p.2) l (s0, st)) := by
  unfold EvI at hi; unfold RcX
  rw [x_for, hi]
  cases tl with
  | none => rfl
  | some l =>
    show (forL o f (l.map en) env st).map _ = _
    rw [he]
    exact forTX_ev ho hf l s0 st
theorem rcx_of [En ρ] {E : σ → List Kn.Slot} {t : Option (Ct (ρ × Sto) (σ × Sto))} (h : Ru false (encCX k E) (sSeq f sNil) env st t) : RcX k E f env st t := by
  unfold Ru at h; unfold RcX
  rw [seq_nil] at h
  exact h
theorem ru_joincX [En ρ] {E : σ → List Kn.Slot} {t1 : Option (Ct (ρ × Sto) (σ × Sto))} {T : σ → Sto → Option τ} {F : ρ × Sto → τ} (h1 : RcX k E f env st t1) (hF : ∀ r, enc (F r) = (.rt (k.r (en r.1)), [], r.2)) (h2 : ∀ s st1, Ru fn enc g (E s) st1 (T s st1)) : Ru fn enc (sSeq f g) env st (t1.bind fun c => c.go (fun p => T p.1 p.2) fun r => some (F r)) := by
  unfold RcX at h1
  unfold Ru
  rw [x_seq]
  cases hf : f env st with
  | none =>
    rw [hf] at h1
    cases t1 with
    | none => rfl
    | some c => cases h1
  | some p =>
    rw [hf] at h1
    cases t1 with
    | none => cases h1
    | some c =>
      have h1 := Option.some.inj h1
      cases c with
      | nx s =>
        have := nrm_nx h1
        subst this
        exact h2 s.1 s.2
      | rt r =>
        obtain ⟨h3, r0, e0, rfl⟩ := nrm_rt (fn := fn) h1
        show some (nrm fn (.rt r0, e0, r.2)) = some (enc (F r))
        rw [h3, hF]
/-! defs -/
def encFS [En ρ] (k : Kx) : ρ × Sto → Outs := fun p => (.rt (k.r (en p.1)), [], p.2)
theorem ev_fnS [En ρ] {m : Nat} {b : SemS} {t : Option (ρ × Sto)} (h : Ru true (encFS k) b (ds.map .sh ++ List.replicate (m - ds.length) .no) st t) : runB m b ds st = t.map fun p => (k.r (en p.1), p.2) := by
  unfold Ru at h
  unfold runB
  cases hb : b (ds.map .sh ++ List.replicate (m - ds.length) .no) st with
  | none =>
    rw [hb] at h
    cases t with
    | none => rfl
    | some r => cases h
  | some p =>
    rw [hb] at h
    cases t with
    | none => cases h
    | some r =>
      have h := Option.some.inj h
      obtain ⟨o, e, s⟩ := p
      cases o with
      | nx =>
        have h : (Out.rt (.sh .non), [], s) = ((.rt (k.r (en r.1)), [], r.2) : Outs) := h
        injection h with h1 h2
        injection h2 with h2 h3
        injection h1 with h1
        show some (Kn.R.sh .non, s) = some (k.r (en r.1), r.2)
        rw [h1, h3]
      | rt r0 =>
        have h : (Out.rt r0.outR, [], s) = ((.rt (k.r (en r.1)), [], r.2) : Outs) := h
        injection h with h1 h2
        injection h2 with h2 h3
        injection h1 with h1
        show some (r0.outR, s) = some (k.r (en r.1), r.2)
        rw [h1, h3]
      | bk => cases h
      | ct => cases h
theorem ev_initS [En ρ] {m : Nat} {cl : Str} {b : SemS} {t : Option (ρ × Sto)} (E : Addr → ρ → List Kn.Slot) (h : ∀ ad, Ru false (encN (E ad)) b (startI m cl ad ds) st t) (hE : ∀ ad o, (E ad o)[0]? = some (.me ad (en o))) : runI m cl b ds st = t.map fun p => (Kx.ow.r (en p.1), p.2) := by
  have h' : ∀ ad, b (startI m cl ad ds) st = t.map fun p => (Out.nx, E ad p.1, p.2) := fun ad => by
    have h1 := h ad
    unfold Ru at h1
    cases hb : b (startI m cl ad ds) st with
    | none => rw [hb] at h1; cases t with
      | none => rfl
      | some o => cases h1
    | some p =>
      rw [hb] at h1
      cases t with
      | none => cases h1
      | some o =>
        have := nrm_nx (Option.some.inj h1)
        subst this; rfl
  cases t with
  | none =>
    unfold runI
    rw [h' 0]; rfl
  | some o => exact runI_of fun ad => ⟨_, h' ad, hE ad o.1⟩
/-! writing through a handle -/
theorem x_subH {δ : Dr} {env : List Kn.Slot} : sSubH δ h ix e env st = (e env st).bind fun p => (h env p.2).bind fun q => (ix env q.2).bind fun u => p.1.pin.val?.bind fun d => q.1.pin.hnd?.bind fun g => (δ u.2 (.sh (.hnd g))).bind fun c => (setItm c u.1.d d).map fun c' => (.nx, env, u.2.set g (kC, c')) := rfl
noncomputable def subS (st : Sto) (y : Hd (List α)) (j : Int) (x : α) : Option Sto := (getS st y.g).bind fun l => (setG l j x).bind fun l' => some (putS (α := List α) st y.g l')
theorem setItm_G (l : List α) (j : Int) (x : α) : setItm (en l) (.int j) (en x) = (setG l j x).map fun l' => en l' := by
  show ((ixN (l.map en).length j).map fun i => D.lst ((l.map en).set i (en x))) = _
  unfold setG
  rw [List.length_map]
  cases ixN l.length j with
  | none => rfl
  | some i => show some (D.lst ((l.map en).set i (en x))) = some (en (l.set i x)); rw [← List.map_set]; rfl
theorem ru_subH {th : Option (Hd (List α))} {tj : Option Int} {T : Sto → Option τ} (he : Ev k e env st tx) (hk : k.ok = true) (hh : Ev .sh h env st th) (hj : Ev k1 ix env st tj) (hr : ∀ st1, Ru fn enc g env st1 (T st1)) : Ru fn enc (sSeq (sSubH (dH (List α)) h ix e) g) env st (tx.bind fun x => th.bind fun y => tj.bind fun j => (subS st y j x).bind T) := by
  unfold Ev at he hh hj
  unfold Ru
  rw [x_seq, x_subH, he]
  cases tx with
  | none => rfl
  | some x =>
    show ((((h env st).bind _).bind _ : Option Outs).map _) = _
    rw [hh]
    cases th with
    | none => rfl
    | some y =>
      show ((((ix env st).bind _).bind _ : Option Outs).map _) = _
      rw [hj]
      cases tj with
      | none => rfl
      | some j =>
        show (((((k.r (en x)).pin.val?.bind fun d => (some y.g).bind fun g => (dH (List α) st (.sh (.hnd g))).bind fun c => (setItm c (k1.r (en j)).d d).map fun c' => (Out.nx, env, st.set g (kC, c')))).bind _ : Option Outs).map _) = _
        rw [Kx.pin hk, Kx.rd]
        show ((((dH (List α) st (.sh (.hnd y.g))).bind fun c => (setItm c (en j) (en x)).map fun c' => (Out.nx, env, st.set y.g (kC, c'))).bind _ : Option Outs).map _) = _
        rw [dH_get]
        simp only [Option.bind_some]
        unfold subS
        cases getS (α := List α) st y.g with
        | none => rfl
        | some l =>
          show ((((setItm (en l) (.int j) (en x)).map fun c' => (Out.nx, env, st.set y.g (kC, c'))).bind _ : Option Outs).map _) = _
          rw [setItm_G]
          simp only [Option.bind_some]
          cases setG l j x with
          | none => rfl
          | some l' => exact hr _
theorem x_mutH {δ : Dr} {fm : List D → List D → Option (List D)} : sMutH δ h fm as env st = (h env st).bind fun p => (as env p.2).bind fun q => (valsR q.1).bind fun xs => p.1.pin.hnd?.bind fun g => (δ p.2 (.sh (.hnd g))).bind fun c0 => c0.lst?.bind fun _ => (δ q.2 (.sh (.hnd g))).bind fun c => c.lst?.bind fun ds => (fm xs ds).map fun ds' => (.nx, env, q.2.set g (kC, .lst ds')) := rfl
/-- what a method makes of a list behind a handle -/
noncomputable def mutS (st : Sto) (y : Hd (List α)) (F : List α → Option (List α)) : Option Sto := (getS st y.g).bind fun l => (F l).bind fun l' => some (putS (α := List α) st y.g l')
theorem ru_mutHX {th : Option (Hd (List α))} {t : Option (μ × Sto)} {dec : μ → List D} {fm : List D → List D → Option (List D)} {F : μ → List α → Option (List α)} {T : Sto → Option τ} (hh : Ev .sh h env st th) (has : EvAX as env st t dec) (hm : ∀ b l, fm (dec b) (l.map en) = (F b l).map fun l' => l'.map en) (hr : ∀ st1, Ru fn enc g env st1 (T st1)) : Ru fn enc (sSeq (sMutH (dH (List α)) h fm as) g) env st (th.bind fun y => t.bind fun b => (getS (α := List α) st y.g).bind fun _ => (mutS b.2 y (F b.1)).bind T) := by
  unfold Ev at hh; unfold EvAX at has
  unfold Ru
  rw [x_seq, x_mutH, hh]
  cases th with
  | none => rfl
  | some y =>
    show ((((as env st).bind _).bind _ : Option Outs).map _) = _
    rw [has]
    cases t with
    | none => rfl
    | some b =>
      show (((((valsR ((dec b.1).map .sh)).bind _).bind _) : Option Outs).map _) = _
      rw [vals_sh]
      show (((((some y.g).bind fun g => (dH (List α) st (.sh (.hnd g))).bind fun c0 => c0.lst?.bind fun _ => (dH (List α) b.2 (.sh (.hnd g))).bind fun c => c.lst?.bind fun ds => (fm (dec b.1) ds).map fun ds' => (Out.nx, env, b.2.set g (kC, .lst ds'))).bind _) : Option Outs).map _) = _
      simp only [Option.bind_some]
      rw [dH_get, dH_get]
      unfold mutS
      cases getS (α := List α) st y.g with
      | none => rfl
      | some l0 =>
        simp only [Option.map_some, Option.bind_some]
        show (((((getS (α := List α) b.2 y.g).map en).bind fun c => c.lst?.bind fun ds => (fm (dec b.1) ds).map fun ds' => (Out.nx, env, b.2.set y.g (kC, .lst ds'))).bind _ : Option Outs).map _) = _
        cases getS (α := List α) b.2 y.g with
        | none => rfl
        | some l =>
          simp only [Option.map_some, Option.bind_some]
          show ((((fm (dec b.1) (l.map en)).map fun ds' => (Out.nx, env, b.2.set y.g (kC, .lst ds'))).bind _ : Option Outs).map _) = _
          rw [hm]
          cases F b.1 l with
          | none => rfl
          | some l' => exact hr _
theorem ru_appHX {th : Option (Hd (List α))} {t : Option (α × Sto)} {T : Sto → Option τ} (hh : Ev .sh h env st th) (ha : Evx k a env st t) (hk : k.ok = true) (hr : ∀ st1, Ru fn enc g env st1 (T st1)) : Ru fn enc (sSeq (sMutH (dH (List α)) h fApp (aCons a aNil)) g) env st (th.bind fun y => (t.bind fun p => (some ((), p.2) : Option (Unit × Sto)).bind fun q => some ((p.1, q.1), q.2)).bind fun b => (getS (α := List α) st y.g).bind fun _ => (mutS b.2 y fun l => appG l b.1.1).bind T) :=
  ru_mutHX (F := fun b l => appG l b.1) hh (eax_cons ha hk fun st1 => eax_nil) (fun b l => app_en l b.1) hr
theorem ru_appH {th : Option (Hd (List α))} {T : Sto → Option τ} (hh : Ev .sh h env st th) (ha : Ev k a env st tx) (hk : k.ok = true) (hr : ∀ st1, Ru fn enc g env st1 (T st1)) : Ru fn enc (sSeq (sMutH (dH (List α)) h fApp (aCons a aNil)) g) env st (th.bind fun y => tx.bind fun x => (mutS st y fun l => appG l x).bind T) := by
  have := ru_mutHX (F := fun b l => appG l b) (dec := fun x => [en x]) hh (eax_ofx (ea_xp ha hk ea_nil)) (fun b l => app_en l b) hr
  unfold Ru at this ⊢
  rw [this]
  cases th with
  | none => rfl
  | some y =>
    cases tx with
    | none => rfl
    | some x =>
      simp only [Option.bind_some]
      unfold mutS
      cases getS (α := List α) st y.g <;> rfl
theorem ru_clrH {th : Option (Hd (List α))} {T : Sto → Option τ} (hh : Ev .sh h env st th) (hr : ∀ st1, Ru fn enc g env st1 (T st1)) : Ru fn enc (sSeq (sMutH (dH (List α)) h fClr aNil) g) env st (th.bind fun y => (mutS st y fun _ => some []).bind T) := by
  have := ru_mutHX (fm := fClr) (F := fun _ _ => some []) hh eax_nil (fun _ _ => rfl) hr
  unfold Ru at this ⊢
  rw [this]
  cases th with
  | none => rfl
  | some y =>
    simp only [Option.bind_some]
    unfold mutS
    cases getS (α := List α) st y.g <;> rfl
theorem x_fldH {δ : Dr} {c : Str} {kk : Nat} : sFldH δ c kk h e env st = (e env st).bind fun p => (h env p.2).bind fun q => p.1.pin.val?.bind fun d => q.1.pin.hnd?.bind fun g => (δ q.2 (.sh (.hnd g))).bind fun u => (u.fds c).bind fun ds => if kk < ds.length then some (.nx, env, q.2.set g (kC, .obj c (ds.set kk d))) else none := rfl
noncomputable def fldS (st : Sto) (y : Hd α) (F : α → α) : Option Sto := (getS st y.g).bind fun o => some (putS st y.g (F o))
/-- a field is written anew; the thing may change the store -/
theorem ru_fldHX {c : Str} {kk : Nat} {fs : α → List D} {th : Sto → Option (Hd α)} {t : Option (β × Sto)} {F : β → α → α} {T : Sto → Option τ} (he : Evx k e env st t) (hk : k.ok = true) (hh : ∀ st1, Ev .sh h env st1 (th st1)) (ho : ∀ o : α, en o = .obj c (fs o)) (hkk : ∀ o, kk < (fs o).length) (hF : ∀ x o, (fs o).set kk (en x) = fs (F x o)) (hr : ∀ st1, Ru fn enc g env st1 (T st1)) : Ru fn enc (sSeq (sFldH (dH α) c kk h e) g) env st (t.bind fun p => (th p.2).bind fun y => (fldS p.2 y (F p.1)).bind T) := by
  unfold Evx at he
  unfold Ru
  rw [x_seq, x_fldH, he]
  cases t with
  | none => rfl
  | some p =>
    have hh := hh p.2
    unfold Ev at hh
    show ((((h env p.2).bind _).bind _ : Option Outs).map _) = ((th p.2).bind _).map _
    rw [hh]
    cases th p.2 with
    | none => rfl
    | some y =>
      show (((((k.r (en p.1)).pin.val?.bind fun d => (some y.g).bind fun g => (dH α p.2 (.sh (.hnd g))).bind fun u => (u.fds c).bind fun ds => if kk < ds.length then some (Out.nx, env, p.2.set g (kC, .obj c (ds.set kk d))) else none)).bind _ : Option Outs).map _) = _
      rw [Kx.pin hk]
      show ((((dH α p.2 (.sh (.hnd y.g))).bind fun u => (u.fds c).bind fun ds => if kk < ds.length then some (Out.nx, env, p.2.set y.g (kC, .obj c (ds.set kk (en p.1)))) else none).bind _ : Option Outs).map _) = _
      rw [dH_get]
      simp only [Option.bind_some]
      unfold fldS
      cases getS (α := α) p.2 y.g with
      | none => rfl
      | some o =>
        simp only [Option.map_some, Option.bind_some]
        rw [ho o, show (D.obj c (fs o)).fds c = some (fs o) from if_pos rfl]
        show (((if kk < (fs o).length then some (Out.nx, env, p.2.set y.g (kC, .obj c ((fs o).set kk (en p.1)))) else none).bind _ : Option Outs).map _) = _
        rw [if_pos (hkk o), hF, ← ho]
        exact hr _
end
end Kn
namespace Kn
open PySem L2
/-! ### typed readings: the store, once more -/
open En
section
variable {X : Cx} {ct : CT} {pos p : Pos} {x : Expr} {a : Sem} {δ : Dr}
theorem us_any {K : PySem.W.Frag} : UnS K ct (fun x H Q => ∃ (a : Addr) (ns : List Bool), [x] = [V.ref a] ∧ SqL K H a (ns.map V.bl) ∧ Q (.bl (ns.any id)) H) (fBls fun ns => some (.sh (.bl (ns.any id)))) := by
  intro F W L env st σ H x d r Q I h e k
  obtain ⟨a, ns, rfl, h1, e⟩ := fBls_out I h e
  cases e
  exact ⟨a, ns, rfl, SqL.of h1, k _ H W L (.refl W) I (.bl _)⟩
theorem se_anys (o1 : DrOk δ) (hc : X.calm = true) (hg : Gl X "any") (hm : X.mg "any" = none) (ha : SE X ct x a) (he : starEach [x] X.env = (false, eval x X.env) :: starEach [] X.env := by rfl) (hpl : (backTo pos (starEach [] X.env)).any (·.1) = false := by rfl) :
    SE X ct (.Call (.Name "any" p) [x] [] pos) (e1s δ (fBls fun ns => some (.sh (.bl (ns.any id)))) a) := se_b1s o1 (cr_any hc) us_any hg hm (by decide +kernel) ha (by decide) (by decide) he hpl
end
section
variable {α β γ δ σ ρ τ μ : Type} [En α] [En β] [En γ]
variable {k k1 k2 k3 : Kx} {env env' : List Kn.Slot} {st : Sto} {e a b c h ix : Sem} {i j n : Nat} {x x' : α} {y : β} {tx : Option α} {ty : Option β} {as : SemA} {ds : List D}
theorem evx_2p {g : D → D → Option R} {G : α → β → Option γ} {u : Option (β × Sto)} (hg : Op2 k g G) (ha : Ev k1 a env st tx) (hb : Evx k2 b env st u) : Evx k (e2 g a b) env st (tx.bind fun x => u.bind fun q => (G x q.1).bind fun c => some (c, q.2)) := by
  unfold Ev at ha; unfold Evx at hb ⊢
  show ((a env st).bind fun p => (b env p.2).bind fun q => (g p.1.d q.1.d).map fun r => (r, q.2)) = _
  rw [ha]
  cases tx with
  | none => rfl
  | some x =>
    show ((b env st).bind fun q => (g (k1.r (en x)).d q.1.d).map fun r => (r, q.2)) = _
    rw [hb]
    cases u with
    | none => rfl
    | some q =>
      show ((g (k1.r (en x)).d (k2.r (en q.1)).d).map fun r => (r, q.2)) = ((G x q.1).bind fun c => some (c, q.2)).map _
      rw [Kx.rd, Kx.rd, hg x q.1]
      cases G x q.1 <;> rfl
theorem evx_andp {tp : Option Bool} {u : Option (Bool × Sto)} (ha : Ev .sh a env st tp) (hb : Evx .sh b env st u) : Evx .sh (eAnd a b) env st (tp.bind fun p => if p = true then u else some (false, st)) := by
  unfold Ev at ha; unfold Evx at hb ⊢; unfold eAnd; rw [ha]
  cases tp with
  | none => rfl
  | some v => cases v with
    | true => exact hb
    | false => rfl
theorem evx_orp {tp : Option Bool} {u : Option (Bool × Sto)} (ha : Ev .sh a env st tp) (hb : Evx .sh b env st u) : Evx .sh (eOr a b) env st (tp.bind fun p => if p = true then some (true, st) else u) := by
  unfold Ev at ha; unfold Evx at hb ⊢; unfold eOr; rw [ha]
  cases tp with
  | none => rfl
  | some v => cases v with
    | false => exact hb
    | true => rfl
theorem eax_x {u : Option (μ × Sto)} {dec : μ → List D} (ha : Ev k a env st tx) (hk : k.ok = true) (hs : EvAX as env st u dec) : EvAX (aCons a as) env st (tx.bind fun x => u.bind fun q => some ((x, q.1), q.2)) fun b => en b.1 :: dec b.2 := by
  unfold Ev at ha; unfold EvAX at hs ⊢; unfold aCons
  rw [ha]
  cases tx with
  | none => rfl
  | some x =>
    show ((as env st).map fun q => ((k.r (en x)).pin :: q.1, q.2)) = _
    rw [hs, Kx.pin hk]
    show _ = (u.bind fun q => some ((x, q.1), q.2)).map _
    cases u <;> rfl
theorem rd_X {m : Fn} {t : Option α} (h : m ds st = t.map fun r => (k.r (en r), st)) : m ds st = (t.bind fun r => some (r, st)).map fun p => (k.r (en p.1), p.2) := by
  rw [h]; cases t <;> rfl
section
variable {t : Option (μ × Sto)} {dec : μ → List D} {m : Fn}
/-- a method of a shared thing, that changes the store -/
theorem evx_methO {cl : Str} {fs : List D} {F : μ → Sto → Option (γ × Sto)} (ha : Ev k1 a env st (some x)) (hk : k1.ok = true) (ho : en x = .obj cl fs) (has : EvAX as env st t dec) (h : ∀ b st1, m (en x :: dec b) st1 = (F b st1).map fun p => (k.r (en p.1), p.2)) (hl : ∀ b, (dec b).length + 1 = n) : Evx k (eMeth n cl m a as) env st (t.bind fun b => F b.1 b.2) := by
  unfold Ev at ha; unfold EvAX at has; unfold Evx
  rw [x_meth, ha]
  show (match (k1.r (en x)).pin with
    | .sh (.obj c' ds) => if c' = cl then (as env st).bind fun q => (valsR q.1).bind fun es => if es.length + 1 = n then m (.obj c' ds :: es) q.2 else none else none
    | _ => none) = _
  rw [Kx.pin hk, ho]
  show (if cl = cl then (as env st).bind fun q => (valsR q.1).bind fun es => if es.length + 1 = n then m (.obj cl fs :: es) q.2 else none else none) = _
  rw [if_pos rfl, has]
  cases t with
  | none => rfl
  | some b =>
    show ((valsR ((dec b.1).map .sh)).bind fun es => if es.length + 1 = n then m (.obj cl fs :: es) b.2 else none) = _
    rw [vals_sh]
    show (if (dec b.1).length + 1 = n then m (.obj cl fs :: dec b.1) b.2 else none) = _
    rw [if_pos (hl b.1), ← ho, h]; rfl
/-- the thing not plain -/
theorem evx_methOx {cl : Str} {fs : α → List D} {F : α → μ → Sto → Option (γ × Sto)} (ha : Ev k1 a env st tx) (hk : k1.ok = true) (ho : ∀ x : α, en x = .obj cl (fs x)) (has : EvAX as env st t dec) (h : ∀ x b st1, m (en x :: dec b) st1 = (F x b st1).map fun p => (k.r (en p.1), p.2)) (hl : ∀ b, (dec b).length + 1 = n) : Evx k (eMeth n cl m a as) env st (tx.bind fun x => t.bind fun b => F x b.1 b.2) := by
  cases tx with
  | none => unfold Ev at ha; unfold Evx; rw [x_meth, ha]; rfl
  | some x => exact evx_methO ha hk (ho x) has (h x) hl
theorem ev_methOx {cl : Str} {fs : α → List D} {t : Option μ} {F : α → μ → Option γ} (ha : Ev k1 a env st tx) (hk : k1.ok = true) (ho : ∀ x : α, en x = .obj cl (fs x)) (has : EvA as env st t dec) (h : ∀ x b, m (en x :: dec b) st = (F x b).map fun r => (k.r (en r), st)) (hl : ∀ b, (dec b).length + 1 = n) : Ev k (eMeth n cl m a as) env st (tx.bind fun x => t.bind fun b => F x b) := by
  cases tx with
  | none => unfold Ev at ha ⊢; rw [x_meth, ha]; rfl
  | some x =>
    show Ev k _ env st (t.bind fun b => F x b)
    exact ev_methx ha hk (ho x) has (h x) hl
end
/-- a chain of tests, the last thing not plain -/
theorem ev_chainz {f g : D → D → Option R} {F : α → β → Bool} {G : β → γ → Bool} {tz : Option γ} (hf : Op2 .sh f fun x y => some (F x y)) (hg : Op2 .sh g fun x y => some (G x y)) (ha : Ev k1 a env st (some x)) (hb : Ev k2 b env st (some y)) (hc : Ev k3 c env st tz) : Ev .sh (eChain f g a b c) env st (if F x y = true then tz.bind fun z => some (G y z) else some false) := by
  unfold Ev at ha hb hc ⊢
  rw [x_chain, ha]
  show ((b env st).bind fun q => (f (k1.r (en x)).d q.1.d).bind fun r => match r with
    | .sh (.bl true) => (c env q.2).bind fun u => (g q.1.d u.1.d).map fun r => (r, u.2)
    | .sh (.bl false) => some (.sh (.bl false), q.2)
    | _ => none) = _
  rw [hb]
  show ((f (k1.r (en x)).d (k2.r (en y)).d).bind fun r => match r with
    | .sh (.bl true) => (c env st).bind fun u => (g (k2.r (en y)).d u.1.d).map fun r => (r, u.2)
    | .sh (.bl false) => some (.sh (.bl false), st)
    | _ => none) = _
  rw [Kx.rd, Kx.rd, hf x y]
  show ((some (Kn.R.sh (.bl (F x y)))).bind fun r => match r with
    | .sh (.bl true) => (c env st).bind fun u => (g (en y) u.1.d).map fun r => (r, u.2)
    | .sh (.bl false) => some (.sh (.bl false), st)
    | _ => none) = _
  cases F x y with
  | false => rfl
  | true =>
    show ((c env st).bind fun u => (g (en y) u.1.d).map fun r => (r, u.2)) = _
    rw [hc]
    cases tz with
    | none => rfl
    | some z =>
      show ((g (en y) (k3.r (en z)).d).map fun r => (r, st)) = _
      rw [Kx.rd, hg y z]; rfl
/-! truths in lists -/
theorem ok_bls (l : List Bool) : (D.lst (l.map D.bl)).ok = true := okN_ok (okN_lst (k := 0) fun d hd => by
  obtain ⟨b, _, rfl⟩ := List.mem_map.mp hd
  exact ⟨rfl, Nat.le_refl _⟩) (by decide)
theorem inB_bl (x : Bool) (l : List Bool) : fInB (en x) (en l) = some (decide (x ∈ l)) := by
  show (if (D.bl x).ok = true ∧ (D.lst (l.map D.bl)).ok = true then some ((l.map D.bl).any fun z => z.eq (.bl x)) else none) = _
  rw [if_pos ⟨rfl, ok_bls l⟩]
  congr 1
  rw [List.any_map, Bool.eq_iff_iff, List.any_eq_true, decide_eq_true_eq]
  constructor
  · rintro ⟨k, hk, e⟩
    have e : (D.bl k).eq (.bl x) = true := e
    rw [eq_bl] at e
    rw [← of_decide_eq_true e]; exact hk
  · intro h
    exact ⟨x, h, by show (D.bl x).eq (.bl x) = true; rw [eq_bl]; simp⟩
theorem o2_inb : Op2 (α := Bool) (β := List Bool) .sh fIn fun x l => some (decide (x ∈ l)) := fun x l => by
  unfold fIn; rw [inB_bl]; rfl
theorem o2_ninb : Op2 (α := Bool) (β := List Bool) .sh fNin fun x l => some (!decide (x ∈ l)) := fun x l => by
  unfold fNin; rw [inB_bl]; rfl
end
end Kn
namespace Kn
open PySem L2
/-! ### tables over a thing that many hold -/
section
variable {X : Cx} {ct : CT} {x : Expr} {pos spos py lp : Pos} {n : Str}
open Classical in
noncomputable def sEmpS (i : Nat) (it : SemIs) (vs : List Nat) (g : SemG) : SemS := fun env st => (it env st).bind fun p => if vs.all (fun j => (env[j]?.map Slot.okW).getD true) = true ∧ p.1.1.all (fun d => (g d (wipeE env vs)).isSome) = true ∧ p.1.1.length ≤ sizeLine ∧ i < env.length ∧ p.1.2 p.2 then some (.nx, env.set i (.o2 (List.replicate p.1.1.length [])), p.2) else none
theorem tSm_empS {K : PySem.W.Frag} {i : Nat} {it : SemIs} {vs ts : List Nat} {g : SemG} (hts : ∀ j ∈ ts, j ∈ vs) {D : Ends} {σ : St} {H : Hp} (h : tSm K ct (sEmpS i it vs g) D σ H) :
    tAsg (tLc (tIs K ct it) (tG K ct ts g) (tT K ct eYes) (fun _ H Q => ∀ l, H l = none → Q (.ref l) (upd H l (.lst []))) vs) (gName i) D σ H := by
  obtain ⟨F, W, L, env, st, o, env', st', I, e, k⟩ := h
  obtain ⟨⟨⟨ds, G⟩, st1⟩, h1, e⟩ := bind2 e
  have okv : (vs.all (fun j => (env[j]?.map Slot.okW).getD true) = true ∧ ds.all (fun d => (g d (wipeE env vs)).isSome) = true ∧ ds.length ≤ sizeLine ∧ i < env.length ∧ G st1) ∧ o = .nx ∧ env' = env.set i (.o2 (List.replicate ds.length [])) ∧ st' = st1 := by
    clear k h1
    dsimp only at e
    split at e
    · rename_i hh
      injection e with e
      injection e with z1 e
      injection e with z2 z3
      exact ⟨hh, z1.symm, z2.symm, z3.symm⟩
    · cases e
  obtain ⟨⟨okv, okg, hz, hie, hG⟩, rfl, rfl, rfl⟩ := okv
  have ok : ∀ j : Nat, j ∈ vs → ∀ s, env[j]? = some s → s.okW = true := fun j hj s e => by
    have := List.all_eq_true.mp okv j hj
    rw [e] at this
    exact this
  refine ⟨F, W, L, env, st, ds, G, _, I, h1, fun J H1 W1 L1 l1 I1 wk p hp => ?_⟩
  obtain ⟨I2, n1, n2, n3⟩ := I1.laid (o := HO.lst []) hp
  have I3 := frame_add I2 (p := p) (o := HO.lst []) upd_same n1 n2
  refine ⟨fun j m H => m = ds.length - j ∧ j ≤ ds.length ∧ ∃ (Fr : Hp) (W2 : Wd) (L2 : Addr → Option Lab) (as : List Addr), W1.le W2 ∧ Rel K ct Fr W2 L2 env st' σ H ∧ Fr p = some (.lst (as.map V.ref)) ∧ as.Nodup ∧ as.length = j ∧ (∀ b ∈ as, Fr b = some (.lst []) ∧ F b = none ∧ b ≠ p) ∧ (∀ b, b ≠ p → b ∉ as → Fr b = F b),
    ⟨_, rfl, Nat.zero_le _, _, W1, _, [], .refl W1, I3, upd_same, by simp, rfl, by simp, fun b hb _ => upd_ne hb⟩, ?_⟩
  rintro j m H ⟨rfl, hj, Fr, W2, L2, as, l2, I4, fp, nd, al, fa, ff⟩
  have wk2 := wk _ W2 L2 env st' σ H j l2 I4 hG
  have wk3 := wk _ W2 L2 (wipeE env vs) st' (wipe σ vs) H j l2 (I4.wiped vs) hG
  by_cases hlt : j < ds.length
  · obtain ⟨env3, h3⟩ := Option.isSome_iff_exists.mp (List.all_eq_true.mp okg ds[j] (List.getElem_mem hlt))
    obtain ⟨go, yl⟩ := wk3.1 ds[j] (List.getElem?_eq_getElem hlt)
    refine .inr ⟨go, fun H' => j + 1 ≤ ds.length ∧ ∃ (Fr : Hp) (W2 : Wd) (L2 : Addr → Option Lab) (as : List Addr), W1.le W2 ∧ Rel K ct Fr W2 L2 env st' σ H' ∧ Fr p = some (.lst (as.map V.ref)) ∧ as.Nodup ∧ as.length = j + 1 ∧ (∀ b ∈ as, Fr b = some (.lst []) ∧ F b = none ∧ b ≠ p) ∧ (∀ b, b ≠ p → b ∉ as → Fr b = F b), fun H' q => ⟨_, by omega, rfl, q⟩, fun v H' y => ?_⟩
    obtain ⟨W3, L3, l3, I5, r5⟩ := yl v H' y
    refine ⟨_, W3, L3, wipeE env vs, st', _, env3, I5, r5, h3, fun σ3 o1 o2 I6 => ?_⟩
    have hs : ∀ j : Nat, j ∉ vs → σ3[j]? = (wipe σ vs)[j]? := fun j hj => o1.2 j fun z => hj (hts j z)
    have hs' : ∀ j : Nat, j ∉ vs → σ3[j]? = σ[j]? := fun j hj => (hs j hj).trans (wipe_out hj)
    have he : ∀ j : Nat, j ∉ vs → env3[j]? = env[j]? := fun j hj => (o2.2 j fun z => hj (hts j z)).trans (wipeE_out hj)
    refine ⟨wipe_again (by rw [o1.1, wipe_length]) hs, ?_⟩
    refine ⟨_, W3, L3, env3, st', true, st', I6, rfl, fun H6 W6 L6 l6 I7 => ?_⟩
    refine iteT fun q hq => ?_
    have I9 := Rel.back (vs := vs) I4 (l3.trans l6) I7 hs' he ok
    obtain ⟨J1, z1, z2, z3⟩ := I9.laid (o := HO.lst []) hq
    have J2 := frame_add J1 (p := q) (o := HO.lst []) upd_same z1 z2
    have hHp : H6 p = some (.lst (as.map V.ref)) := (I9.fr p _ fp).1
    have qp : q ≠ p := by rintro rfl; rw [hHp] at hq; cases hq
    have qas : q ∉ as := fun hm => by
      have := (I9.fr q _ (fa q hm).1).1
      rw [hq] at this; cases this
    have Fq : F q = none := by rw [← ff q qp qas]; exact z3
    have J3 := J2.upd_frame (p := p) (o := .lst (as.map V.ref)) (o' := .lst (as.map V.ref ++ [.ref q])) (by rw [upd_ne qp.symm]; exact fp) (fun _ z => nomatch z)
    refine ⟨as.map V.ref, by rw [upd_ne qp.symm]; exact hHp, by rw [List.length_map, al]; omega, hlt, _, W6, _, as ++ [q], l2.trans (l3.trans l6), J3, ?_, ?_, by rw [List.length_append, al]; rfl, ?_, ?_⟩
    · rw [upd_same, List.map_append]; rfl
    · exact List.nodup_append.mpr ⟨nd, by simp, fun a ha b hb z => qas (by rw [List.mem_singleton.mp hb] at z; rw [← z]; exact ha)⟩
    · intro b hb
      rcases List.mem_append.mp hb with hb | hb
      · obtain ⟨g1, g2, g3⟩ := fa b hb
        have : b ≠ q := fun z => qas (by rw [← z]; exact hb)
        exact ⟨by rw [upd_ne g3, upd_ne this]; exact g1, g2, g3⟩
      · rw [List.mem_singleton.mp hb]
        exact ⟨by rw [upd_ne qp, upd_same], Fq, qp⟩
    · intro b hb hn
      have : b ≠ q := fun z => hn (by rw [z]; simp)
      rw [upd_ne hb, upd_ne this]
      exact ff b hb fun z => hn (List.mem_append_left _ z)
  · have ej : j = ds.length := by omega
    subst ej
    refine .inl ⟨wk2.2 (by omega), ?_⟩
    have hHp : H p = some (.lst (as.map V.ref)) := (I4.fr p _ fp).1
    have mem : ∀ b, V.ref b ∈ as.map V.ref ↔ b ∈ as := fun b => ⟨fun h => by
      obtain ⟨c, hc, e⟩ := List.mem_map.mp h
      cases e; exact hc, fun h => List.mem_map.mpr ⟨b, h, rfl⟩⟩
    have rows : ∀ (as' : List Addr), as'.Nodup → (∀ b ∈ as', b ∈ as) → Rows K ct W2 H (fun b => if b = p ∨ V.ref b ∈ as.map V.ref then some (.slot i) else L2 b) (.slot i) (as'.map V.ref) (List.replicate as'.length []) := by
      intro as'
      induction as' with
      | nil => intro _ _; exact .nil
      | cons a as' ih =>
        intro nd' hm
        rw [List.nodup_cons] at nd'
        have ha := hm a List.mem_cons_self
        refine .cons (vs := []) (I4.fr a _ (fa a ha).1).1 (if_pos (.inr ((mem a).mpr ha))) .nil (fun z => ?_) (ih nd'.2 fun b hb => hm b (List.mem_cons_of_mem _ hb))
        obtain ⟨c, hc, e⟩ := List.mem_map.mp z
        cases e; exact nd'.1 hc
    have R := rows as nd fun _ h => h
    rw [al] at R
    have hFp : F p = none := n3
    refine k _ _ _ _ (l1.trans l2) (I4.take2 (F := F) (m := p) (i := i) (σ' := σ.set i (some (.ref p))) (fun b u e => ?_) (by rw [fp]; rfl) hHp (fun b hb => by rw [(fa b ((mem b).mp hb)).1]; rfl) ?_ (fun j hj => List.getElem?_set_ne (Ne.symm hj)) List.length_set (fun z => (fa p ((mem p).mp z)).2.2 rfl) R)
    · have b1 : b ≠ p := by rintro rfl; rw [hFp] at e; cases e
      have b2 : b ∉ as := fun z => by rw [(fa b z).2.1] at e; cases e
      exact ⟨by rw [ff b b1 b2]; exact e, b1, fun z => b2 ((mem b).mp z)⟩
    · rw [List.getElem?_set_self (by rw [I4.len]; exact hie)]
theorem ss_empS (i : Nat) {tg : Expr} {scope : Scope} {own : List (Str × Nat)} {it : SemIs} {ts : List Nat} {g : SemG} (hc : X.calm = true) (hN : X.N.Nodup) (hi : SIs X ct tg x it) (ok : BlkOk X.N X.env.scope scope own)
    (hg : ∀ (s : Shared) (H : Hp) (C : Addr) (cl : List (Str × Addr)) (fp : List Addr), SG (X.blk s H scope (compEnvC scope cl C X.env) fp) ct tg ts g) (hy : X.N[i]? = some n := by rfl) (hyl : X.env.scope.names.lookup n = some .local := by rfl)
    (hsw : swapsWith (.ListComp (.List [] lp) [⟨tg, x, [], 0⟩] scope pos) (some (.Name n py)) spos.line X.env = pure true := by exact sw_true rfl rfl rfl (by decide +kernel)) (hts : ∀ j ∈ ts, j ∈ own.map (·.2) := by decide) (hs : ∀ z, foldedSetIterable x X.env z = pure z := by intro _; rfl) :
    SS X ct (.Assign [.Name n py] (.ListComp (.List [] lp) [⟨tg, x, [], 0⟩] scope pos) spos) (sEmpS i it (own.map (·.2)) g) :=
  ⟨ps_mono (ps_setLc (tt := tT X.K ct eYes) (g := tG X.K ct ts g) hc hN hy hyl hsw hi.pi ok (fun s H C cl fp => (hg s H C cl fp).pg) (fun s H C cl fp => sts_nil.pts) (fun s H C cl fp => pe_mono (pe_lst pa_nil) fun _ _ _ h => ⟨Nat.zero_le _, h⟩) hs) fun D σ H h => tSm_empS hts h⟩
end
/-! ### equality through what is held -/
section
variable {K : PySem.W.Frag} {ct : CT} {W : Wd} {H : Hp}
theorem RdH.dp0 {F : Hp} {L : Addr → Option Lab} {env : List Slot} {st : Sto} {σ : St} {v : V} {d : D} (h : RdH K ct W H v d) (I : Rel K ct F W L env st σ H) (c : d.py.canLay0 = true) : Dp K H v d.py := by
  rcases h with h | ⟨a, rfl, cl⟩
  · exact h.dp (fun a o e => (I.hs a o e).1) I.tp c
  · cases cl with
    | lst h q =>
      rw [D.py] at c ⊢
      exact .lst (SqL.of h) (q.dp (fun a o e => (I.hs a o e).1) I.tp (by simpa [PyData.canLay0] using c))
    | dic h _ q => simp [D.py, PyData.canLay0] at c
    | obj h _ _ q => simp [D.py, PyData.canLay0] at c
end
structure DrD (δ : Dr) : Prop where
  ok : ∀ {K ct F W L env st σ H v r d}, Rel K ct F W L env st σ H → RdR K ct W env σ v r → δ st r = some d → d.ok = true → Dp K H v d.py
section
variable {X : Cx} {ct : CT} {pos : Pos} {x y : Expr} {a b c h ix e : Sem} {δ δ1 δ2 : Dr}
theorem tE_e2D {K : PySem.W.Frag} {rr : R2} {f : D → D → Option R} (o1 : DrD δ1) (o2 : DrD δ2)
    (os : ∀ (F : Hp) W L env st σ H x y d1 d2 r Q, Rel K ct F W L env st σ H → (d1.ok = true → Dp K H x d1.py) → (d2.ok = true → Dp K H y d2.py) → f d1 d2 = some r → (∀ v H' W' L', W.le W' → Rel K ct F W' L' env st σ H' → RepR K ct F W' L' H' env σ v r → Q v H') → rr x y H Q)
    {σ : St} {H : Hp} {Q : VK} (hh : tE K ct (e2s δ1 δ2 f a b) σ H Q) : tOp rr (tE K ct a) (tE K ct b) σ H Q := by
  obtain ⟨F, W, L, env, st, r, st', I, e, k⟩ := hh
  obtain ⟨⟨r1, st1⟩, h1, e⟩ := bind2 e
  obtain ⟨⟨r2, st2⟩, h2, e⟩ := bind2 e
  obtain ⟨d1, g1, e⟩ := bind2 e
  obtain ⟨d2, g2, e⟩ := bind2 e
  obtain ⟨r3, h3, e⟩ := map2 e
  cases e
  refine ⟨F, W, L, env, st, r1, st1, I, h1, fun x H1 W1 L1 l1 I1 p1 => ?_⟩
  obtain ⟨W1', m1, J1, q1⟩ := I1.pin p1
  refine ⟨F, W1', L1, env, st1, r2, st2, J1, h2, fun y H2 W2 L2 l2 I2 p2 => ?_⟩
  obtain ⟨W2', m2, J2, q2⟩ := I2.pin p2
  have q1' := o1.ok J2 (q1.mono (l2.trans m2)) g1
  have q2' := o2.ok J2 q2 g2
  exact os F W2' L2 env st2 σ H2 x y _ _ _ Q J2 q1' q2' h3 fun v H' W' L' l' I' p' => k v H' W' L' (l1.trans (m1.trans (l2.trans (m2.trans l')))) I' p'
theorem se_eqD {k : Nat} (o1 : DrD δ1) (o2 : DrD δ2) (hr : Room k X.A) (ha : SE X ct x a) (hb : SE X ct y b) : SE X ct (.Compare x [.Eq] [y] pos) (e2s δ1 δ2 fEq a b) :=
  ⟨pe_mono (pe_cmpR (op_eqD hr.units) ha.pe hb.pe (nomark _)) fun _ _ _ h => tE_e2D o1 o2 (fun F W L env st σ H x y d1 d2 r Q I h1 h2 e k => by
    obtain ⟨c, rfl⟩ := ifs e
    exact ⟨_, _, h1 c.1, h2 c.2, c.1, c.2, k _ H W L (.refl W) I (.bl _)⟩) h⟩
theorem se_neD {k : Nat} (o1 : DrD δ1) (o2 : DrD δ2) (hr : Room k X.A) (ha : SE X ct x a) (hb : SE X ct y b) : SE X ct (.Compare x [.NotEq] [y] pos) (e2s δ1 δ2 fNe a b) :=
  ⟨pe_mono (pe_cmpR (op_neD hr.units) ha.pe hb.pe (nomark _)) fun _ _ _ h => tE_e2D o1 o2 (fun F W L env st σ H x y d1 d2 r Q I h1 h2 e k => by
    obtain ⟨c, rfl⟩ := ifs e
    exact ⟨_, _, h1 c.1, h2 c.2, c.1, c.2, k _ H W L (.refl W) I (.bl _)⟩) h⟩
theorem st_eqD {k : Nat} (o1 : DrD δ1) (o2 : DrD δ2) (hr : Room k X.A) (ha : SE X ct x a) (hb : SE X ct y b) : ST X ct (.Compare x [.Eq] [y] pos) (e2s δ1 δ2 fEq a b) :=
  ⟨pt_mono (pt_cmpR (op_eqD hr.units) ha.pe hb.pe (nomark _)) fun _ _ _ h => tE_e2D o1 o2 (fun F W L env st σ H x y d1 d2 r Q I h1 h2 e k => by
    obtain ⟨c, rfl⟩ := ifs e
    exact ⟨_, _, h1 c.1, h2 c.2, c.1, c.2, k _ H W L (.refl W) I (.bl _)⟩) (tT_tE h)⟩
theorem st_neD {k : Nat} (o1 : DrD δ1) (o2 : DrD δ2) (hr : Room k X.A) (ha : SE X ct x a) (hb : SE X ct y b) : ST X ct (.Compare x [.NotEq] [y] pos) (e2s δ1 δ2 fNe a b) :=
  ⟨pt_mono (pt_cmpR (op_neD hr.units) ha.pe hb.pe (nomark _)) fun _ _ _ h => tE_e2D o1 o2 (fun F W L env st σ H x y d1 d2 r Q I h1 h2 e k => by
    obtain ⟨c, rfl⟩ := ifs e
    exact ⟨_, _, h1 c.1, h2 c.2, c.1, c.2, k _ H W L (.refl W) I (.bl _)⟩) (tT_tE h)⟩
/-! slices of a thing that many hold -/
def eSlcS (δ : Dr) (a : Sem) (lo hi : SemP) : Sem := fun env st => (a env st).bind fun p => (lo env p.2).bind fun l => (hi env l.2).bind fun h => (δ h.2 p.1.pin).bind fun d => (fSlc d l.1 h.1).map fun r => (r, h.2)
theorem se_slcS {lo hi : Option Expr} {l h : SemP} {p2 : Pos} (o : DrOk δ) (ha : SE X ct x a) (hl : SP' X ct lo l) (hh : SP' X ct hi h) : SE X ct (.Subscript x (.Slice lo hi none p2) pos) (eSlcS δ a l h) := by
  refine ⟨pe_mono (pe_slice (SlR.or sl_list sl_tup) ha.pe hl.po hh.po) fun σ H Q ⟨F, W, L, env, st, r, st', I, e, k⟩ => ?_⟩
  obtain ⟨⟨r1, st1⟩, h1, e⟩ := bind2 e
  obtain ⟨⟨o1, st2⟩, h2, e⟩ := bind2 e
  obtain ⟨⟨o2, st3⟩, h3, e⟩ := bind2 e
  obtain ⟨d, hd, e⟩ := bind2 e
  obtain ⟨r4, h4, e⟩ := map2 e
  cases e
  refine ⟨F, W, L, env, st, r1, st1, I, h1, fun v H1 W1 L1 l1 I1 p1 => ?_⟩
  obtain ⟨W1', m1, J1, q1⟩ := I1.pin p1
  refine ⟨F, W1', L1, env, st1, o1, st2, J1, h2, fun H2 W2 L2 l2 I2 => ?_⟩
  refine ⟨F, W2, L2, env, st2, o2, st3, I2, h3, fun H3 W3 L3 l3 I3 => ?_⟩
  have q3 := o.ok I3 (q1.mono (l2.trans l3)) hd
  have k' : ∀ v H' W' L', W3.le W' → Rel X.K ct F W' L' env st3 σ H' → RepR X.K ct F W' L' H' env σ v r → Q v H' := fun v H' W' L' l' => k v H' W' L' (l1.trans (m1.trans (l2.trans (l3.trans l'))))
  have h4 : fSlc d o1 o2 = some r := h4
  unfold fSlc at h4
  split at h4
  · rename_i ds
    cases h4
    obtain ⟨a, vs, rfl, g, q⟩ := q3.list I3
    exact .inl ⟨a, vs, rfl, SqL.of g, fun p hp => fresh_out I3 hp (.lst upd_same (q.cut o1 o2)) k'⟩
  · rename_i ns _
    cases h4
    obtain ⟨a, vs, rfl, g, q⟩ := q3.seqL (ds := ns.map D.int) rfl I3
    refine .inl ⟨a, vs, rfl, g, fun p hp => fresh_out I3 hp (.lst upd_same ?_) k'⟩
    rw [← cutG_map]
    exact q.cut o1 o2
  · rename_i ds
    obtain ⟨c, rfl⟩ := ifs h4
    obtain ⟨a, vs, rfl, g, q⟩ := q3.tup I3
    exact .inr ⟨a, vs, rfl, SqT.of g, by rw [q.length]; exact c, fun p hp => tup_out I3 hp (q.cut o1 o2) k'⟩
  · cases h4
end
/-! typed -/
open En
class Dpr (α : Type) (β : outParam Type) [En α] [En β] where
  rd : Sto → α → Option β
  inj : ∀ x y : α, en x = en y → x = y
  ok : ∀ {K ct F W L env st σ H v} {x : α} {y : β}, Rel K ct F W L env st σ H → RdH K ct W H v (en x) → rd st x = some y → (en y).py.canLay0 = true → Dp K H v (en y).py
theorem Hd.en_inj {τ : Type} (a b : Hd τ) (h : (en a : D) = en b) : a = b := by
  obtain ⟨a⟩ := a; obtain ⟨b⟩ := b
  have h : D.hnd a = D.hnd b := h
  cases h; rfl
section
variable {α β α' β' α2 β2 : Type} [En α] [En β] [En α'] [En β'] [En α2] [En β2]
instance dprE [EnE α] : Dpr α α := ⟨fun _ x => some x, EnE.inj, fun I h e c => by cases e; exact h.dp0 I c⟩
theorem not_hnd_cell {K : PySem.W.Frag} {ct : CT} {W : Wd} {H : Hp} {v : V} {g : Nat} (h : RdH K ct W H v (.hnd g)) : Rep K ct W v (.hnd g) := by
  rcases h with h | ⟨a, _, c⟩
  · exact h
  · cases c
noncomputable instance dprH [EnE α] : Dpr (Hd α) α := ⟨fun st h => getS st h.g, Hd.en_inj, fun I h e c => by
  obtain ⟨a, rfl, _, cl⟩ := I.cell (not_hnd_cell h) (getS_look e)
  exact RdH.dp0 (.inr ⟨a, rfl, cl⟩) I c⟩
theorem mapL_inj [Dpr α β] : ∀ {l m : List α}, l.map en = m.map en → l = m
  | [], [], _ => rfl
  | [], _ :: _, h => by cases h
  | _ :: _, [], h => by cases h
  | x :: xs, y :: ys, h => by
    rw [List.map_cons, List.map_cons] at h
    obtain ⟨h1, h2⟩ := List.cons.inj h
    rw [Dpr.inj x y h1, mapL_inj h2]
def rdL [Dpr α β] (st : Sto) : List α → Option (List β)
  | [] => some []
  | x :: xs => (Dpr.rd st x).bind fun y => (rdL st xs).map fun ys => y :: ys
theorem rdL_dp [Dpr α β] {K : PySem.W.Frag} {ct : CT} {F : Hp} {W : Wd} {L : Addr → Option Lab} {env : List Slot} {st : Sto} {σ : St} {H : Hp} (I : Rel K ct F W L env st σ H) : ∀ {l : List α} {m : List β} {vs : List V}, RepL K ct W vs (l.map en) → rdL st l = some m → PyData.canLayAll0 (D.pyL (m.map en)) = true → DpAll K H vs (D.pyL (m.map en))
  | [], m, vs, h, e, c => by cases e; cases h; rw [List.map_nil, D.pyL]; exact .nil
  | x :: xs, m, vs, h, e, c => by
    obtain ⟨y, h1, e⟩ := bind2 e
    obtain ⟨ys, h2, rfl⟩ := map2 e
    cases h with
    | cons h3 h4 =>
      rw [List.map_cons, D.pyL] at c ⊢
      rw [PyData.canLayAll0, Bool.and_eq_true] at c
      exact .cons (Dpr.ok I (.inl h3) h1 c.1) (rdL_dp I h4 h2 c.2)
instance (priority := 100) dprL [Dpr α β] : Dpr (List α) (List β) := ⟨rdL, fun a b h => mapL_inj (D.lst.inj h), fun {K ct F W L env st σ H v x y} I h e c => by
  have h : RdH K ct W H v (.lst (x.map en)) := h
  obtain ⟨a, vs, rfl, g, q⟩ := h.list I
  have c : (D.lst (y.map en)).py.canLay0 = true := c
  show Dp K H _ (D.lst (y.map en)).py
  rw [D.py] at c ⊢
  exact .lst (SqL.of g) (rdL_dp I q e (by simpa [PyData.canLay0] using c))⟩
instance (priority := 100) dprHl2 [Dpr α β] [Dpr α' β'] : Dpr (Hl2 α α') (Hl2 β β') := ⟨fun st x => (Dpr.rd st x.x0).bind fun a => (Dpr.rd st x.x1).bind fun b => some ⟨a, b⟩, fun a b h => by
    obtain ⟨a0, a1⟩ := a; obtain ⟨b0, b1⟩ := b
    have h := D.lst.inj h
    injection h with h1 h
    injection h with h2 h
    have e1 : a0 = b0 := Dpr.inj _ _ h1
    have e2 : a1 = b1 := Dpr.inj _ _ h2
    rw [e1, e2], fun {K ct F W L env st σ H v x y} I h e c => by
  have h : RdH K ct W H v (.lst [en x.x0, en x.x1]) := h
  obtain ⟨a, vs, rfl, g, q⟩ := h.list I
  obtain ⟨y0, e0, e⟩ := bind2 e
  obtain ⟨y1, e1, e⟩ := bind2 e
  cases e
  have c : (D.lst [en y0, en y1]).py.canLay0 = true := c
  show Dp K H _ (D.lst [en y0, en y1]).py
  rw [D.py] at c ⊢
  simp only [D.pyL, PyData.canLay0, PyData.canLayAll0, Bool.and_eq_true] at c ⊢
  cases q with
  | cons q0 q =>
    cases q with
    | cons q1 q =>
      cases q
      exact .lst (SqL.of g) (.cons (Dpr.ok I (.inl q0) e0 c.1) (.cons (Dpr.ok I (.inl q1) e1 c.2.1) .nil))⟩
instance (priority := 100) dprHl3 [Dpr α β] [Dpr α' β'] [Dpr α2 β2] : Dpr (Hl3 α α' α2) (Hl3 β β' β2) := ⟨fun st x => (Dpr.rd st x.x0).bind fun a => (Dpr.rd st x.x1).bind fun b => (Dpr.rd st x.x2).bind fun c => some ⟨a, b, c⟩, fun a b h => by
    obtain ⟨a0, a1, a2⟩ := a; obtain ⟨b0, b1, b2⟩ := b
    have h := D.lst.inj h
    injection h with h1 h
    injection h with h2 h
    injection h with h3 h
    have e1 : a0 = b0 := Dpr.inj _ _ h1
    have e2 : a1 = b1 := Dpr.inj _ _ h2
    have e3 : a2 = b2 := Dpr.inj _ _ h3
    rw [e1, e2, e3], fun {K ct F W L env st σ H v x y} I h e c => by
  have h : RdH K ct W H v (.lst [en x.x0, en x.x1, en x.x2]) := h
  obtain ⟨a, vs, rfl, g, q⟩ := h.list I
  obtain ⟨y0, e0, e⟩ := bind2 e
  obtain ⟨y1, e1, e⟩ := bind2 e
  obtain ⟨y2, e2, e⟩ := bind2 e
  cases e
  have c : (D.lst [en y0, en y1, en y2]).py.canLay0 = true := c
  show Dp K H _ (D.lst [en y0, en y1, en y2]).py
  rw [D.py] at c ⊢
  simp only [D.pyL, PyData.canLay0, PyData.canLayAll0, Bool.and_eq_true] at c ⊢
  cases q with
  | cons q0 q =>
    cases q with
    | cons q1 q =>
      cases q with
      | cons q2 q =>
        cases q
        exact .lst (SqL.of g) (.cons (Dpr.ok I (.inl q0) e0 c.1) (.cons (Dpr.ok I (.inl q1) e1 c.2.1) (.cons (Dpr.ok I (.inl q2) e2 c.2.2.1) .nil)))⟩
open Classical in
noncomputable def ofD (α : Type) [En α] (d : D) : Option α := if h : ∃ x : α, en x = d then some (Classical.choose h) else none
theorem ofD_en [Dpr α β] (x : α) : ofD α (en x) = some x := by
  unfold ofD
  have h : ∃ y : α, en y = en x := ⟨x, rfl⟩
  rw [dif_pos h, Dpr.inj _ _ (Classical.choose_spec h)]
theorem ofD_of {d : D} {x : α} (h : ofD α d = some x) : d = en x := by
  unfold ofD at h
  split at h
  · rename_i q; cases h; exact (Classical.choose_spec q).symm
  · cases h
noncomputable def dDp (α : Type) {β : Type} [En α] [En β] [Dpr α β] : Dr := fun st r => (ofD α r.d).bind fun x => (Dpr.rd st x).map en
theorem dDp_ok (α : Type) {β : Type} [En α] [En β] [Dpr α β] : DrD (dDp α) := ⟨fun {K ct F W L env st σ H v r d} I h e c => by
  obtain ⟨x, h1, e⟩ := bind2 e
  obtain ⟨y, h2, rfl⟩ := map2 e
  have h3 := I.look h
  rw [ofD_of h1] at h3
  exact Dpr.ok I h3 h2 (SeqAt.canLay_of_shaped c)⟩
end
section
variable {α β γ δ σ ρ τ μ α' β' : Type} [En α] [En β] [En γ] [En α'] [En β']
variable {k k1 k2 k3 : Kx} {env env' : List Kn.Slot} {st : Sto} {e a b c h ix : Sem} {i j n : Nat} {x x' : α} {y : β} {tx : Option α} {ty : Option α'} {as : SemA} {ds : List D}
variable {fn : Bool} {enc : τ → Outs} {f g s1 : SemS} {t1 t2 : Option τ} {z : τ}
theorem Kx.pind (k : Kx) (d : D) : (k.r d).pin.d = d := by cases k <;> (try rfl); cases d <;> rfl
theorem ev_2D [Dpr α β] [Dpr α' β'] {g : D → D → Option R} {G : β → β' → Option γ} (hg : Op2 k g G) (ha : Ev k1 a env st tx) (hb : Ev k2 b env st ty) : Ev k (e2s (dDp α) (dDp α') g a b) env st (tx.bind fun x => ty.bind fun y => (Dpr.rd st x).bind fun u => (Dpr.rd st y).bind fun w => G u w) := by
  unfold Ev at ha hb ⊢
  rw [x_e2s, ha]
  cases tx with
  | none => rfl
  | some x =>
    show ((b env st).bind _) = _
    rw [hb]
    cases ty with
    | none => rfl
    | some y =>
      show ((dDp α st (k1.r (en x)).pin).bind fun d1 => (dDp α' st (k2.r (en y)).pin).bind fun d2 => (g d1 d2).map fun r => (r, st)) = ((Dpr.rd st x).bind fun u => (Dpr.rd st y).bind fun w => G u w).map _
      unfold dDp
      rw [Kx.pind, Kx.pind, ofD_en, ofD_en, Option.bind_some, Option.bind_some]
      cases Dpr.rd st x with
      | none => rfl
      | some u =>
        cases Dpr.rd st y with
        | none => rfl
        | some w =>
          show ((g (en u) (en w)).map fun r => (r, st)) = (G u w).map _
          rw [hg u w, Option.map_map]; rfl
theorem ev_slcH {t : Option (Hd (List α))} {lo hi : SemP} {tl th : Option (Option Int)} (ha : Ev .sh a env st t) (hl : EvP lo env st tl) (hh : EvP hi env st th) : Ev .ow (eSlcS (dH (List α)) a lo hi) env st (t.bind fun x => tl.bind fun u => th.bind fun v => (getS (α := List α) st x.g).bind fun l => some (cutG l u v)) := by
  unfold Ev at ha; unfold EvP at hl hh; unfold Ev eSlcS
  rw [ha]
  cases t with
  | none => rfl
  | some x =>
    show ((lo env st).bind _) = _
    rw [hl]
    cases tl with
    | none => rfl
    | some u =>
      show ((hi env st).bind _) = _
      rw [hh]
      cases th with
      | none => rfl
      | some v =>
        show ((dH (List α) st (.sh (.hnd x.g))).bind fun d => (fSlc d u v).map fun r => (r, st)) = ((getS (α := List α) st x.g).bind fun l => some (cutG l u v)).map _
        rw [dH_get]
        cases getS (α := List α) st x.g with
        | none => rfl
        | some l =>
          show ((fSlc (.lst (l.map en)) u v).map fun r => (r, st)) = _
          rw [x_slc1, cutG_map]; rfl
open Classical in
theorem ru_empS {it : SemIs} {vs : List Nat} {o : SemG} {tl : Option (List β)} {T : List (List α) → Option τ} (hi : EvIs it env st tl) (hv : vs.all (fun j => (env[j]?.map Slot.okW).getD true) = true) (ho : ∀ x : β, (o (en x) (wipeE env vs)).isSome = true) (hil : i < env.length) (hr : ∀ m' : List (List α), Ru fn enc g (env.set i (o2S m')) st (T m')) : Ru fn enc (sSeq (sEmpS i it vs o) g) env st (tl.bind fun l => (szG (l.map fun _ => ([] : List α))).bind T) := by
  obtain ⟨G, hG, hi⟩ := hi
  unfold Ru
  rw [x_seq]
  unfold sEmpS
  rw [hi]
  cases tl with
  | none => rfl
  | some l =>
    have hall : (l.map en).all (fun d => (o d (wipeE env vs)).isSome) = true := by
      rw [List.all_map, List.all_eq_true]; intro x _; exact ho x
    show (((if vs.all (fun j => (env[j]?.map Slot.okW).getD true) = true ∧ (l.map en).all (fun d => (o d (wipeE env vs)).isSome) = true ∧ (l.map en).length ≤ sizeLine ∧ i < env.length ∧ G l st then some (Out.nx, env.set i (.o2 (List.replicate (l.map en).length [])), st) else none).bind _ : Option Outs).map _) = (((szG (l.map fun _ => ([] : List α))).bind T).map _)
    unfold szG
    rw [hv, hall, List.length_map, List.length_map]
    by_cases hz : l.length ≤ sizeLine
    · rw [if_pos ⟨rfl, rfl, hz, hil, hG l rfl⟩, if_pos hz]
      have := hr (l.map fun _ => ([] : List α))
      unfold Ru o2S at this
      have e : List.replicate l.length ([] : List D) = (l.map fun _ => ([] : List α)).map fun r => r.map en := by
        rw [List.map_map]
        show _ = l.map fun _ => ([] : List D)
        rw [List.map_const']
      rw [e]
      exact this
    · rw [if_neg (fun z => hz z.2.2.1), if_neg hz]; rfl
theorem foldS_ev {G : Sto → Prop} (hG : G st) {E : σ → List Kn.Slot} {o : SemG} {E1 : α → σ → List Kn.Slot} {step : α → σ → Option σ} (ho : ∀ x s, o (en x) (E s) = some (E1 x s)) (hf : ∀ x s, Ru false (fun s => (.nx, E s, st)) f (E1 x s) st (step x s)) : ∀ (l : List α) (s : σ),
    forLS G o f (l.map en) (E s) st = (foldT step l s).map fun s => (.nx, E s, st)
  | [], s => if_pos hG
  | x :: xs, s => by
    have h1 := hf x s
    unfold Ru at h1
    rw [List.map_cons, forLS, if_pos hG, ho x s, foldT]
    show ((f (E1 x s) st).bind _) = _
    cases hs : step x s with
    | none =>
      rw [hs] at h1
      cases hx : f (E1 x s) st with
      | none => rfl
      | some p => rw [hx] at h1; cases h1
    | some s' =>
      rw [hs] at h1
      cases hx : f (E1 x s) st with
      | none => rw [hx] at h1; cases h1
      | some p =>
        rw [hx] at h1
        obtain ⟨q, e1, s1⟩ := p
        cases q with
        | nx =>
          have h1 := Option.some.inj h1
          have h1 : (Out.nx, e1, s1) = (Out.nx, E s', st) := h1
          cases h1
          exact foldS_ev hG ho hf xs s'
        | rt r => cases h1
        | bk => cases h1
        | ct => cases h1
theorem rn_forS {it : SemIs} {o : SemG} {E : σ → List Kn.Slot} {E1 : α → σ → List Kn.Slot} {step : α → σ → Option σ} {s0 : σ} {tl : Option (List α)} (hi : EvIs it env st tl) (he : env = E s0) (ho : ∀ x s, o (en x) (E s) = some (E1 x s)) (hf : ∀ x s, Ru false (fun s => (.nx, E s, st)) f (E1 x s) st (step x s)) :
    Rn E (sForS it o f) env st (tl.bind fun l => foldT step l s0) := by
  obtain ⟨G, hG, hi⟩ := hi
  unfold Rn sForS
  rw [hi]
  cases tl with
  | none => rfl
  | some l =>
    show forLS (G l) o f (l.map en) env st = _
    rw [he]
    exact foldS_ev (hG l rfl) ho hf l s0
theorem forS_ev [En ρ] {G : Sto → Prop} (hG : G st) {E : σ → List Kn.Slot} {o : SemG} {E1 : α → σ → List Kn.Slot} {step : α → σ → Option (Ct ρ σ)} (ho : ∀ x s, o (en x) (E s) = some (E1 x s)) (hf : ∀ x s, Ru false (encC k E st) f (E1 x s) st (step x s)) : ∀ (l : List α) (s : σ),
    (forLS G o f (l.map en) (E s) st).map (nrm false) = (forT step l s).map (encC k E st)
  | [], s => by rw [List.map_nil, forLS, if_pos hG]; rfl
  | x :: xs, s => by
    have h1 := hf x s
    unfold Ru at h1
    rw [List.map_cons, forLS, if_pos hG, ho x s, forT]
    show (((f (E1 x s) st).bind _).map _) = _
    cases hs : step x s with
    | none =>
      rw [hs] at h1
      cases hx : f (E1 x s) st with
      | none => rfl
      | some p => rw [hx] at h1; cases h1
    | some c =>
      rw [hs] at h1
      cases hx : f (E1 x s) st with
      | none => rw [hx] at h1; cases h1
      | some p =>
        rw [hx] at h1
        obtain ⟨q, e1, s1⟩ := p
        have h1 := Option.some.inj h1
        cases c with
        | nx s' =>
          have h1 : nrm false (q, e1, s1) = (Out.nx, E s', st) := h1
          cases q with
          | nx =>
            have h1 : (Out.nx, e1, s1) = (Out.nx, E s', st) := h1
            cases h1
            exact forS_ev hG ho hf xs s'
          | rt r => cases h1
          | bk => cases h1
          | ct => cases h1
        | rt r =>
          have h1 : nrm false (q, e1, s1) = (Out.rt (k.r (en r)), [], st) := h1
          cases q with
          | nx => cases h1
          | rt r' =>
            show some (nrm false (.rt r', e1, s1)) = _
            rw [h1]; rfl
          | bk => cases h1
          | ct => cases h1
theorem rc_forS [En ρ] {it : SemIs} {o : SemG} {E : σ → List Kn.Slot} {E1 : α → σ → List Kn.Slot} {step : α → σ → Option (Ct ρ σ)} {s0 : σ} {tl : Option (List α)} (hi : EvIs it env st tl) (he : env = E s0) (ho : ∀ x s, o (en x) (E s) = some (E1 x s)) (hf : ∀ x s, Ru false (encC k E st) f (E1 x s) st (step x s)) :
    Rc k E (sForS it o f) env st (tl.bind fun l => forT step l s0) := by
  obtain ⟨G, hG, hi⟩ := hi
  unfold Rc sForS
  rw [hi]
  cases tl with
  | none => rfl
  | some l =>
    show (forLS (G l) o f (l.map en) env st).map _ = _
    rw [he]
    exact forS_ev (hG l rfl) ho hf l s0
/-! the body changes the store: the thing gone through stays -/
open Classical in
noncomputable def foldGT {α σ : Type} (G : Sto → Prop) (step : α → σ × Sto → Option (σ × Sto)) : List α → σ × Sto → Option (σ × Sto)
  | [], p => if G p.2 then some p else none
  | x :: xs, p => if G p.2 then (step x p).bind fun q => foldGT G step xs q else none
open Classical in
theorem foldG_ev {G : Sto → Prop} {E : σ → List Kn.Slot} {o : SemG} {E1 : α → σ → List Kn.Slot} {step : α → σ → Sto → Option (σ × Sto)} (ho : ∀ x s, o (en x) (E s) = some (E1 x s)) (hf : ∀ x s st, Ru false (encN E) f (E1 x s) st (step x s st)) : ∀ (l : List α) (s : σ) (st : Sto),
    forLS G o f (l.map en) (E s) st = (foldGT G (fun x p => step x p.1 p.2) l (s, st)).map (encN E)
  | [], s, st => by
    rw [List.map_nil, forLS, foldGT]
    show _ = Option.map _ (if G st then _ else _)
    by_cases hG : G st
    · rw [if_pos hG, if_pos hG]; rfl
    · rw [if_neg hG, if_neg hG]; rfl
  | x :: xs, s, st => by
    have h1 := hf x s st
    unfold Ru at h1
    rw [List.map_cons, forLS, ho x s, foldGT]
    show _ = Option.map _ (if G st then _ else _)
    by_cases hG' : ¬ G st
    · rw [if_neg hG', if_neg hG']; rfl
    have hG := Classical.not_not.mp hG'
    rw [if_pos hG, if_pos hG]
    show ((f (E1 x s) st).bind _) = _
    cases hs : step x s st with
    | none =>
      rw [hs] at h1
      cases hx : f (E1 x s) st with
      | none => simp [hs]
      | some p => rw [hx] at h1; cases h1
    | some s' =>
      rw [hs] at h1
      cases hx : f (E1 x s) st with
      | none => rw [hx] at h1; cases h1
      | some p =>
        rw [hx] at h1
        have h1 := nrm_nx (Option.some.inj h1)
        subst h1
        simp only [hs, Option.bind_some]
        exact foldG_ev ho hf xs s'.1 s'.2
theorem rnx_forH {o : SemG} {E : σ → List Kn.Slot} {E1 : α → σ → List Kn.Slot} {step : α → σ → Sto → Option (σ × Sto)} {s0 : σ} {th : Option (Hd (List α))} (ha : Ev .sh a env st th) (he : env = E s0) (ho : ∀ x s, o (en x) (E s) = some (E1 x s)) (hf : ∀ x s st, Ru false (encN E) f (E1 x s) st (step x s st)) :
    RnX E (sForS (iSeqH (dH (List α)) a) o f) env st (th.bind fun h => (getS (α := List α) st h.g).bind fun l => foldGT (fun s => lookS s h.g = some (.lst (l.map en))) (fun x p => step x p.1 p.2) l (s0, st)) := by
  unfold Ev at ha; unfold RnX sForS iSeqH
  rw [ha]
  cases th with
  | none => rfl
  | some h =>
    show (((dH (List α) st (.sh (.hnd h.g))).bind fun c => c.lst?.map fun ds => ((ds, fun st => lookS st h.g = some (.lst ds)), st)).bind _) = ((getS (α := List α) st h.g).bind _).map _
    rw [dH_get]
    cases getS (α := List α) st h.g with
    | none => rfl
    | some l =>
      show forLS (fun st => lookS st h.g = some (.lst (l.map en))) o f (l.map en) env st = _
      rw [he]
      exact foldG_ev ho hf l s0 st
end
section
variable {α β γ : Type} [En α] [En β] [En γ]
variable {k k1 k2 k3 : Kx} {env : List Kn.Slot} {st : Sto} {a b c : Sem} {x : α} {ty : Option β}
theorem ev_chainy {f g : D → D → Option R} {F : α → β → Bool} {G : β → γ → Bool} {tz : Option γ} (hf : Op2 .sh f fun x y => some (F x y)) (hg : Op2 .sh g fun x y => some (G x y)) (ha : Ev k1 a env st (some x)) (hb : Ev k2 b env st ty) (hc : Ev k3 c env st tz) : Ev .sh (eChain f g a b c) env st (ty.bind fun y => if F x y = true then tz.bind fun z => some (G y z) else some false) := by
  cases ty with
  | none =>
    unfold Ev at ha hb ⊢
    rw [x_chain, ha]
    show ((b env st).bind _) = _
    rw [hb]; rfl
  | some y => exact ev_chainz hf hg ha hb hc
end
end Kn
namespace Kn
open PySem L2
/-! ### sorted: tuples of ints of one length, any number of them -/
def ltL : List Int → List Int → Bool
  | [], [] => false
  | [], _ :: _ => true
  | _ :: _, [] => false
  | x :: xs, y :: ys => if x = y then ltL xs ys else decide (x < y)
theorem ltL_asym : ∀ x y : List Int, ltL x y = true → ltL y x = false
  | [], [], h => by cases h
  | [], _ :: _, _ => rfl
  | _ :: _, [], h => by cases h
  | a :: x, b :: y, h => by
    unfold ltL at h ⊢
    by_cases e : a = b
    · subst e
      rw [if_pos rfl] at h ⊢
      exact ltL_asym x y h
    · rw [if_neg e] at h
      rw [if_neg fun q => e q.symm]
      have := of_decide_eq_true h
      exact decide_eq_false (by omega)
theorem ltL_tr : ∀ x y z : List Int, ltL y x = false → ltL z y = false → ltL z x = false
  | [], _, [], _, _ => rfl
  | [], _, _ :: _, _, _ => rfl
  | _ :: _, [], _, h, _ => by cases h
  | _ :: _, _ :: _, [], _, h => by cases h
  | a :: x, b :: y, c :: z, h1, h2 => by
    unfold ltL at h1 h2 ⊢
    by_cases e : b = a
    · subst e
      rw [if_pos rfl] at h1
      by_cases e2 : c = b
      · subst e2
        rw [if_pos rfl] at h2 ⊢
        exact ltL_tr x y z h1 h2
      · rw [if_neg e2] at h2 ⊢
        exact h2
    · rw [if_neg e] at h1
      have h1 := of_decide_eq_false h1
      by_cases e2 : c = b
      · subst e2
        rw [if_neg e]
        exact decide_eq_false (by omega)
      · rw [if_neg e2] at h2
        have h2 := of_decide_eq_false h2
        rw [if_neg (by omega)]
        exact decide_eq_false (by omega)
theorem ltL_eq : ∀ x y : List Int, ltL x y = false → ltL y x = false → x = y
  | [], [], _, _ => rfl
  | [], _ :: _, h, _ => by cases h
  | _ :: _, [], _, h => by cases h
  | a :: x, b :: y, h1, h2 => by
    unfold ltL at h1 h2
    by_cases e : a = b
    · subst e
      rw [if_pos rfl] at h1 h2
      rw [ltL_eq x y h1 h2]
    · rw [if_neg e] at h1
      rw [if_neg fun q => e q.symm] at h2
      have h1 := of_decide_eq_false h1
      have h2 := of_decide_eq_false h2
      omega
theorem swoL {α : Type} (k : α → List Int) : SrtO.Swo fun v u => ltL (k v) (k u) := ⟨fun x y h => ltL_asym _ _ h, fun x y z h1 h2 => ltL_tr _ _ _ h1 h2⟩
def insL (k : List Int) : List (List Int) → List (List Int)
  | [] => [k]
  | x :: l => if ltL x k = true then x :: insL k l else k :: x :: l
def srtL (l : List (List Int)) : List (List Int) := l.foldr insL []
theorem insL_perm (k : List Int) : ∀ l, (insL k l).Perm (k :: l)
  | [] => List.Perm.refl _
  | x :: l => by
    unfold insL
    split
    · exact ((insL_perm k l).cons x).trans (List.Perm.swap k x l)
    · exact List.Perm.refl _
theorem srtL_perm : ∀ l, (srtL l).Perm l
  | [] => List.Perm.refl _
  | x :: l => (insL_perm x (srtL l)).trans ((srtL_perm l).cons x)
abbrev UpL (l : List (List Int)) : Prop := l.Pairwise fun x y => ltL y x = false
theorem insL_up (k : List Int) : ∀ l, UpL l → UpL (insL k l)
  | [], _ => by simp [insL, UpL]
  | x :: l, h => by
    have ⟨h1, h2⟩ := List.pairwise_cons.mp h
    unfold insL
    split
    · rename_i c
      refine List.pairwise_cons.mpr ⟨fun y hy => ?_, insL_up k l h2⟩
      rcases List.mem_cons.mp ((insL_perm k l).mem_iff.mp hy) with z | z
      · rw [z]; exact ltL_asym _ _ c
      · exact h1 y z
    · rename_i c
      have c : ltL x k = false := by simpa using c
      refine List.pairwise_cons.mpr ⟨fun y hy => ?_, h⟩
      rcases List.mem_cons.mp hy with z | z
      · rw [z]; exact c
      · exact ltL_tr _ _ _ c (h1 y z)
theorem srtL_up : ∀ l, UpL (srtL l)
  | [] => .nil
  | x :: l => insL_up x _ (srtL_up l)
theorem srtL_uniq : ∀ l m : List (List Int), l.Perm m → UpL l → UpL m → l = m
  | [], m, p, _, _ => (List.nil_perm.mp p).symm
  | x :: l, [], p, _, _ => absurd p.symm.nil_eq (by simp)
  | x :: l, y :: m, p, a, b => by
    obtain ⟨a1, a2⟩ := List.pairwise_cons.mp a
    obtain ⟨b1, b2⟩ := List.pairwise_cons.mp b
    have e : x = y := by
      rcases List.mem_cons.mp (p.mem_iff.mp (List.mem_cons_self (a := x) (l := l))) with z | z
      · exact z
      · rcases List.mem_cons.mp (p.mem_iff.mpr (List.mem_cons_self (a := y) (l := m))) with u | u
        · exact u.symm
        · exact ltL_eq _ _ (b1 x z) (a1 y u)
    subst e
    rw [srtL_uniq l m ((List.perm_cons x).mp p) a2 b2]
section
open PySem.Spec PyProof.Rows Srt
variable {prog : Program} {w : World} {A : Around} {E : Value → Shared → Prop} {s : Shared}
theorem lexL_ints {b : Bool} {Q : Bool → Shared → Prop} {xs ys : List Value} {ns ms : List Int} (i : Nat) (hx : IntsAre xs ns) (hy : IntsAre ys ms) (hl : ns.length = ms.length) (h : Q (ltL ns ms) s) : PySem.W.KatLex prog w A b false Q (xs.zip ys) i s := by
  induction hx generalizing ys ms i with
  | nil =>
    cases hy with
    | nil => exact PySem.W.kat_nil h
    | cons q u hy => simp at hl
  | @cons p t xs ns hx ih =>
    cases hy with
    | nil => simp at hl
    | @cons q u ys ms hy =>
      have hl' : ns.length = ms.length := by simpa using hl
      show PySem.W.KatLex prog w A b false Q ((Value.int p t, Value.int q u) :: xs.zip ys) i s
      refine PySem.W.kat_cons (wpAny_eqBool_int ?_)
      unfold ltL at h
      by_cases e : p = q
      · subst e
        rw [beq_self_eq_true]
        rw [if_pos rfl] at h
        refine PySem.W.kat_yes ?_
        first
          | exact ih (i + 1) hy hl' h
          | exact ih _ _ (i + 1) hy hl' h
      · rw [show (p == q) = false from beq_eq_false_iff_ne.mpr e]
        rw [if_neg e] at h
        exact PySem.W.kat_no (TS.oneLt_ints _ h)
/-- tuples of d ints -/
def TupsL (h : Heap) (d : Nat) (k : Value → List Int) (vs : List Value) : Prop := ∀ v ∈ vs, TS.TupInts h v (k v) ∧ (k v).length = d
theorem firstsL {h : Heap} {d : Nat} {k : Value → List Int} (hd : 1 ≤ d) : ∀ vs : List Value, TupsL h d k vs → ∃ fs, PySem.W.KatTups h vs fs ∧ fs.length = vs.length ∧ ∀ f, f ∈ fs → ∃ n t, f = Value.int n t
  | [], _ => ⟨[], PySem.W.KatTups.nil, rfl, fun f hf => by simp at hf⟩
  | v :: vs, x => by
    obtain ⟨fs, kk, hl, hi⟩ := firstsL hd vs fun u hu => x u (List.mem_cons_of_mem _ hu)
    obtain ⟨⟨a, xs, e0, ⟨o, ho, hc, n, hdt⟩, i⟩, hn⟩ := x v (List.mem_cons_self ..)
    obtain ⟨y, ys, e⟩ : ∃ y ys, xs.toList = y :: ys := by
      cases q : xs.toList with
      | nil =>
        rw [q] at i
        have l := i.length
        rw [List.length_nil, hn] at l
        omega
      | cons y ys => exact ⟨y, ys, rfl⟩
    obtain ⟨m, t, hy⟩ := i.all y (by rw [e]; exact List.mem_cons_self ..)
    rw [e0]
    refine ⟨y :: fs, PySem.W.KatTups.cons ho hc hdt ?_ kk, by simp [hl], ?_⟩
    · have z := congrArg (fun l : List Value => l[0]?) e
      simpa using z
    · intro f hf
      rcases List.mem_cons.mp hf with rfl | hf
      · exact ⟨m, t, hy⟩
      · exact hi f hf
theorem tups_cmp {d : Nat} {vs : List Value} {k : Value → List Int} (hp : TupsL s.heap d k vs) : SrtO.Cmp prog w A s (tuples' true) (fun p => p.1 ∈ vs) (SrtO.lt2 fun v u => ltL (k v) (k u)) := by
  intro p q hm hm'
  have h1 := hp _ hm
  have h2 := hp _ hm'
  show wpAny (model prog w) A (keyLt' (tuples' true) p.1 q.1) (fun r s' => s' = s ∧ r = ltL (k p.1) (k q.1)) (fun _ _ => False) s
  generalize k p.1 = ns at h1 ⊢
  generalize k q.1 = ms at h2 ⊢
  obtain ⟨⟨a, xs, e, ⟨o, ho, hc, n, hdt⟩, i⟩, hn⟩ := h1
  obtain ⟨⟨a', xs', e', ⟨o', ho', hc', n', hdt'⟩, i'⟩, hn'⟩ := h2
  rw [e, e']
  refine PySem.W.kat_lt ho hdt ho' hdt' ?_
  have l1 : xs.size = d := by have := i.length; rw [← Array.length_toList]; omega
  have l2 : xs'.size = d := by have := i'.length; rw [← Array.length_toList]; omega
  have ed : decide (xs.size < xs'.size) = false := decide_eq_false (by omega)
  rw [ed]
  exact lexL_ints 0 i i' (by omega) ⟨rfl, rfl⟩
theorem tups_sortable {a : Addr} {d : Nat} {vs : List Value} {k : Value → List Int} (hd : 1 ≤ d) (h0 : 0 < vs.length) (hp : TupsL s.heap d k vs) (ha : ∀ o, s.heap.get? a = some o → o.cls ≠ .type "tuple") : SrtO.SortableO prog w A s a vs fun v u => ltL (k v) (k u) := by
  intro h' keep
  have hp' : TupsL h' d k vs := fun v hm => ⟨(hp v hm).1.keeps fun b o e c => keep b o (fun z => by subst z; exact ha o e c) e, (hp v hm).2⟩
  obtain ⟨fs, h1, h2, h3⟩ := firstsL hd vs hp'
  refine ⟨tuples' true, fun Q E hq => ?_, tups_cmp hp'⟩
  refine PySem.W.kat_kind (T := .type "int") h1 (by omega) (fun f hm => ?_) (by rfl) ?_
  · obtain ⟨x, t, rfl⟩ := h3 f hm
    exact PySem.W.Looks.now
  · have e : (Value.type "int" != Value.type "tuple") = true := by first | decide +kernel | rfl | decide
    rw [e]
    exact hq
end
section
open PySem.Spec PyProof.Rows
/-- sorted(xs), tuples of d ints (k says which), any number of them -/
def rSortedL (K : PySem.W.Frag) : List V → Hp → VK → Prop := fun vs H Q => ∃ (a : Addr) (xs : List V) (k : V → List Int) (d : Nat), vs = [V.ref a] ∧ SqL K H a xs ∧ 1 ≤ d ∧ (∀ x ∈ xs, ∃ t, x = V.ref t ∧ H t = some (.tup ((k x).map V.int)) ∧ (k x).length = d) ∧
  ∀ ys p, ys.Perm xs → ys.Pairwise (fun x y => ltL (k y) (k x) = false) → H p = none → Q (.ref p) (upd H p (.lst ys))
variable {X : Cx}
theorem cr_sortedL : CallR X (.builtin "sorted") (rSortedL X.K) := by
  intro pins s σ H vs us Q I r h
  obtain ⟨a, xs, k, d, rfl, hs, hd, hx, q⟩ := h
  obtain ⟨its, rv, hl, hz⟩ := I.list hs
  rw [Vals.ref1 r]
  obtain ⟨e1, e2⟩ := refs_back rv fun x m => by
    obtain ⟨t, e, _⟩ := hx x m
    exact ⟨t, e⟩
  have hp : TupsL s.heap d (fun u => k (backV u)) its := fun v hv => by
    obtain ⟨t, rfl⟩ := e2 v hv
    have hm : V.ref t ∈ xs := by rw [e1]; exact List.mem_map.mpr ⟨_, hv, rfl⟩
    obtain ⟨t', e, ht, hn⟩ := hx _ hm
    cases e
    obtain ⟨_, its2, r2, it⟩ := I.hok _ _ ht
    exact ⟨⟨t, its2.toArray, rfl, it, r2.ints⟩, hn⟩
  refine SrtO.sorted_ord (swoL fun u => k (backV u)) hl.isList (by rw [← rv.length]; exact hz) (fun h2 h₁ a' ha' keep => ?_) fun out h1 h2 => ?_
  · refine tups_sortable (s := { s with heap := h₁ }) hd (by omega) (fun v hv => ⟨(hp v hv).1.keeps fun b o e _ => (keep b o e).2, (hp v hv).2⟩) fun o e c => ?_
    have e : h₁.get? a' = some o := e
    rw [ha'] at e
    cases e
    exact absurd (Value.type.inj c) (by decide)
  · have h3 : ∀ u ∈ out, ∃ a, u = Value.ref a := fun u hu => e2 u (h2.perm.mem_iff.mp hu)
    obtain ⟨ep, he'⟩ := PyProof.Rows.sortedAll_at s.heap its out.toArray
    have hpm : (out.map backV).Perm xs := by rw [e1]; exact h2.perm.map backV
    have hlen : (out.map backV).length ≤ sizeLine := by rw [hpm.length_eq]; exact hz
    exact ⟨.ref _, upd H (s.heap.objs.size + 1) (.lst (out.map backV)), I.laid (t' := s.toks) (fun _ _ => PyProof.Rows.sortedAll_old) (Nat.le_succ _) ⟨hlen, out, ep, vals_back h3, he'⟩, rfl, q _ _ hpm (List.pairwise_map.mpr h1) (I.hok.fresh (Nat.le_succ _))⟩
end
/-! data -/
def intsD : List D → Option (List Int)
  | [] => some []
  | .int i :: ds => (intsD ds).map fun l => i :: l
  | _ => none
theorem intsD_of : ∀ {ds : List D} {ns : List Int}, intsD ds = some ns → ds = ns.map D.int
  | [], ns, h => by cases h; rfl
  | .int i :: ds, ns, h => by
    obtain ⟨l, h1, rfl⟩ := map2 h
    rw [intsD_of h1]; rfl
  | .non :: ds, ns, h => by cases h
  | .bl _ :: ds, ns, h => by cases h
  | .str _ :: ds, ns, h => by cases h
  | .lst _ :: ds, ns, h => by cases h
  | .tup _ :: ds, ns, h => by cases h
  | .dic _ :: ds, ns, h => by cases h
  | .obj _ _ :: ds, ns, h => by cases h
  | .hnd _ :: ds, ns, h => by cases h
  | .scr _ :: ds, ns, h => by cases h
theorem intsD_map : ∀ ns : List Int, intsD (ns.map D.int) = some ns
  | [] => rfl
  | n :: ns => by rw [List.map_cons, intsD, intsD_map ns]; rfl
def tupsD : List D → Option (List (List Int))
  | [] => some []
  | .tup ds :: es => (intsD ds).bind fun ns => (tupsD es).map fun l => ns :: l
  | _ => none
theorem tupsD_of : ∀ {ds : List D} {ns : List (List Int)}, tupsD ds = some ns → ds = ns.map fun n => .tup (n.map D.int)
  | [], ns, h => by cases h; rfl
  | .tup d :: ds, ns, h => by
    obtain ⟨l, h1, h⟩ := bind2 h
    obtain ⟨m, h2, rfl⟩ := map2 h
    rw [tupsD_of h2, intsD_of h1]; rfl
  | .non :: ds, ns, h => by cases h
  | .bl _ :: ds, ns, h => by cases h
  | .str _ :: ds, ns, h => by cases h
  | .lst _ :: ds, ns, h => by cases h
  | .int _ :: ds, ns, h => by cases h
  | .dic _ :: ds, ns, h => by cases h
  | .obj _ _ :: ds, ns, h => by cases h
  | .hnd _ :: ds, ns, h => by cases h
  | .scr _ :: ds, ns, h => by cases h
theorem tupsD_map : ∀ ns : List (List Int), tupsD (ns.map fun n => .tup (n.map D.int)) = some ns
  | [] => rfl
  | n :: ns => by rw [List.map_cons, tupsD, intsD_map, tupsD_map ns]; rfl
open Classical in
noncomputable def fSrtL : D → Option R
  | .lst ds => (tupsD ds).bind fun ns => if ns.length < 1000 ∧ ∃ d, 1 ≤ d ∧ d ≤ 9 ∧ ∀ n ∈ ns, n.length = d then some (.ow (.lst ((srtL ns).map fun n => .tup (n.map D.int)))) else none
  | _ => none
section
variable {X : Cx} {ct : CT} {x : Expr} {a : Sem} {pos p : Pos}
open Classical in
/-- the ints of a tuple -/
noncomputable def kTup (H : Hp) (v : V) : List Int := if h : ∃ (t : Addr) (n : List Int), v = .ref t ∧ H t = some (.tup (n.map V.int)) then Classical.choose (Classical.choose_spec h) else []
theorem map_int_inj : ∀ {n m : List Int}, n.map V.int = m.map V.int → n = m
  | [], [], _ => rfl
  | [], _ :: _, h => by cases h
  | _ :: _, [], h => by cases h
  | x :: xs, y :: ys, h => by
    rw [List.map_cons, List.map_cons] at h
    obtain ⟨h1, h2⟩ := List.cons.inj h
    cases h1
    rw [map_int_inj h2]
theorem kTup_of {H : Hp} {t : Addr} {n : List Int} (h : H t = some (.tup (n.map V.int))) : kTup H (.ref t) = n := by
  unfold kTup
  have hh : ∃ (t' : Addr) (n : List Int), V.ref t = .ref t' ∧ H t' = some (.tup (n.map V.int)) := ⟨t, n, rfl, h⟩
  rw [dif_pos hh]
  have key : ∀ (t' : Addr) (n' : List Int), V.ref t = .ref t' → H t' = some (.tup (n'.map V.int)) → n' = n := fun t' n' e1 e2 => by
    cases e1
    rw [h] at e2
    have e2 := Option.some.inj e2
    exact (map_int_inj (HO.tup.inj e2)).symm
  have e := Classical.choose_spec (Classical.choose_spec hh)
  exact key _ _ e.1 e.2
theorem RepL.perm_tups {K : PySem.W.Frag} {W : Wd} {kk : V → List Int} (ys : List V) (h : ∀ y ∈ ys, Rep K ct W y (.tup ((kk y).map D.int))) : RepL K ct W ys ((ys.map kk).map fun n => .tup (n.map D.int)) := by
  induction ys with
  | nil => exact .nil
  | cons y ys ih => exact .cons (h y List.mem_cons_self) (ih fun z hz => h z (List.mem_cons_of_mem _ hz))
theorem map_kTup {K : PySem.W.Frag} {F : Hp} {W : Wd} {L : Addr → Option Lab} {env : List Slot} {st : Sto} {σ : St} {H : Hp} (I : Rel K ct F W L env st σ H) : ∀ {vs : List V} {ns : List (List Int)}, RepL K ct W vs (ns.map fun n => .tup (n.map D.int)) → vs.map (kTup H) = ns ∧ ∀ v ∈ vs, kTup H v ∈ ns ∧ Rep K ct W v (.tup ((kTup H v).map D.int)) ∧ ∃ t, v = .ref t ∧ H t = some (.tup ((kTup H v).map V.int))
  | _, [], .nil => ⟨rfl, fun v h => by cases h⟩
  | _, n :: ns, .cons h r => by
    obtain ⟨e1, e2⟩ := map_kTup I r
    have h' : RdH K ct W H _ (.tup (n.map D.int)) := .inl h
    obtain ⟨t, ws, rfl, g, q⟩ := h'.tup I
    rw [q.ints] at g
    have e := kTup_of g
    refine ⟨by rw [List.map_cons, e, e1], fun v hv => ?_⟩
    rcases List.mem_cons.mp hv with rfl | hv
    · rw [e]; exact ⟨List.mem_cons_self, h, t, rfl, g⟩
    · obtain ⟨f1, f2⟩ := e2 v hv
      exact ⟨List.mem_cons_of_mem _ f1, f2⟩
theorem us_srtL {K : PySem.W.Frag} : UnS K ct (fun v H Q => rSortedL K [v] H Q) fSrtL := by
  intro F W L env st σ H v d r Q I h e k
  unfold fSrtL at e
  split at e
  · rename_i ds
    obtain ⟨ns, h1, e⟩ := bind2 e
    obtain ⟨⟨c1, d, c2, c3, c4⟩, e⟩ := ifG e
    cases e
    rw [tupsD_of h1] at h
    obtain ⟨a, vs, rfl, g, q⟩ := h.list I
    obtain ⟨m1, m2⟩ := map_kTup I q
    refine ⟨a, vs, kTup H, d, rfl, SqL.of g, c2, fun x hx => ?_, fun ys p pm up f2 => ?_⟩
    · obtain ⟨f1, _, t, f3, f4⟩ := m2 x hx
      exact ⟨t, f3, f4, c4 _ f1⟩
    · have e : ys.map (kTup H) = srtL ns := srtL_uniq _ _ (by rw [← m1]; exact (pm.map _).trans (srtL_perm _).symm) (List.pairwise_map.mpr up) (srtL_up ns)
      have rr := RepL.perm_tups (K := K) (ct := ct) (W := W) (kk := kTup H) ys fun y hy => (m2 y (pm.mem_iff.mp hy)).2.1
      rw [e] at rr
      exact fresh_out I f2 (.lst upd_same rr) fun v' H' W' L' l' => k v' H' W' L' l'
  · cases e
theorem se_srtL (hc : X.calm = true) (hg : Gl X "sorted") (hm : X.mg "sorted" = none) (ha : SE X ct x a) (s1 : starEach [x] X.env = (false, eval x X.env) :: starEach [] X.env := by rfl)
    (h2 : (backTo pos (starEach [] X.env)).any (·.1) = false := by rfl) :
    SE X ct (.Call (.Name "sorted" p) [x] [] pos) (e1 fSrtL a) :=
  ⟨pe_mono (pe_callB cr_sortedL hg hm (by decide +kernel) (pa_cons ha.pe pa_nil s1) (by decide) (by decide) s1 h2) fun _ _ _ h => tE_e1 us_srtL h⟩
end
/-! typed -/
open En
class EnT (α : Type) [En α] where
  d : Nat
  ns : α → List Int
  of : List Int → α
  d1 : 1 ≤ d ∧ d ≤ 9
  en : ∀ x : α, En.en x = .tup ((ns x).map D.int)
  ln : ∀ x : α, (ns x).length = d
  bk : ∀ l : List Int, l.length = d → ns (of l) = l
instance : EnT (Tp2 Int Int) := ⟨2, fun x => [x.x0, x.x1], fun l => ⟨l.getD 0 0, l.getD 1 0⟩, by decide, fun x => rfl, fun x => rfl, fun l h => by
  match l, h with
  | [a, b], _ => rfl⟩
instance : EnT (Tp3 Int Int Int) := ⟨3, fun x => [x.x0, x.x1, x.x2], fun l => ⟨l.getD 0 0, l.getD 1 0, l.getD 2 0⟩, by decide, fun x => rfl, fun x => rfl, fun l h => by
  match l, h with
  | [a, b, c], _ => rfl⟩
section
variable {α : Type} [En α] [EnT α]
def ltT (x y : α) : Bool := ltL (EnT.ns x) (EnT.ns y)
def insTT (k : α) : List α → List α
  | [] => [k]
  | x :: l => if ltT x k = true then x :: insTT k l else k :: x :: l
def srtT (l : List α) : List α := l.foldr insTT []
def srtTG (l : List α) : Option (List α) := if l.length < 1000 then some (srtT l) else none
theorem insTT_map (k : α) : ∀ l : List α, (insTT k l).map EnT.ns = insL (EnT.ns k) (l.map EnT.ns)
  | [] => rfl
  | x :: l => by
    unfold insTT
    rw [List.map_cons, insL]
    show List.map EnT.ns (if ltL (EnT.ns x) (EnT.ns k) = true then _ else _) = _
    split
    · rw [List.map_cons, insTT_map k l]
    · rfl
theorem srtT_map : ∀ l : List α, (srtT l).map EnT.ns = srtL (l.map EnT.ns)
  | [] => rfl
  | x :: l => by
    show (insTT x (srtT l)).map EnT.ns = insL _ (srtL (l.map EnT.ns))
    rw [insTT_map, srtT_map l]
theorem o1_srtT : Op1 (α := List α) .ow fSrtL fun l => srtTG l := fun l => by
  unfold srtTG
  show fSrtL (.lst (l.map En.en)) = _
  have e : ∀ m : List α, m.map (En.en : α → D) = (m.map EnT.ns).map fun n => D.tup (n.map D.int) := fun m => by
    rw [List.map_map]; exact List.map_congr_left fun x _ => EnT.en x
  rw [e]
  unfold fSrtL
  dsimp only
  rw [tupsD_map, Option.bind_some, List.length_map]
  have hc : ∃ d, 1 ≤ d ∧ d ≤ 9 ∧ ∀ n ∈ l.map EnT.ns, n.length = d := ⟨EnT.d α, EnT.d1.1, EnT.d1.2, fun n hn => by
    obtain ⟨x, _, rfl⟩ := List.mem_map.mp hn
    exact EnT.ln x⟩
  by_cases h : l.length < 1000
  · rw [if_pos ⟨h, hc⟩, if_pos h]
    show some (Kn.R.ow (.lst _)) = some (Kx.ow.r (D.lst ((srtT l).map En.en)))
    rw [e, srtT_map]; rfl
  · rw [if_neg (fun z => h z.1), if_neg h]; rfl
end
end Kn
namespace Kn
open PySem L2
/-! ### dicts whose keys are pairs of ints: their items, one by one -/
section
open PySem.Spec PyProof.Rows
theorem frzT2 {X : Cx} {pins : List (Addr × Obj)} {σ : L2.St} {H : Hp} {s : Shared} {d : Addr} {o : Obj} {kvs : List (List Key × V)} (I : Inv X pins σ H s) (h : H d = some (.frz o (.dT kvs))) :
    (d == sysModules) = false ∧ s.heap.get? d = some o ∧ o.ExactDict ∧ ∃ (es : Array DictEntry) (ep : Nat), o.data = .dict es ep ∧ es.size = kvs.length ∧
      ∀ (i : Nat) (k : List Key) (v : V), kvs[i]? = some (k, v) → ∃ (en : DictEntry) (q : Addr), es[i]? = some en ∧ en.key = .ref q ∧ H q = some (.tup (k.map kV)) ∧ RelV v en.val := by
  obtain ⟨hd, z, hs, xs, pr, o', es, ep, ho, hx, hdt, he, _⟩ := I.hok d _ h
  rw [hd] at ho
  cases ho
  refine ⟨hs, hd, hx, es, ep, hdt, ?_, fun i k v e => ?_⟩
  · have l1 : es.size = xs.length := size_of_entries he
    have l2 : kvs.length = xs.length := Paired.length pr
    omega
  · obtain ⟨b, hb, e1, e2, e3⟩ := paired_get pr e
    have q := entry_at he i
    rw [hb] at q
    exact ⟨_, b.2.1, q, rfl, e2, e3⟩
/-- the pairs of a key and its value, each a new tuple -/
def Itit (d : Addr) (o : Obj) (kvs : List (List Key × V)) : It :=
  ⟨fun i H => H d = some (.frz o (.dT kvs)) ∧ i < kvs.length, fun i H x H' => ∃ T k v q, kvs[i]? = some (k, v) ∧ x = .ref T ∧ H T = none ∧ H q = some (.tup (k.map kV)) ∧ H' = upd H T (.tup [.ref q, v]), fun i H => H d = some (.frz o (.dT kvs)) ∧ kvs.length ≤ i⟩
theorem turn_itemsT {P : Program} {w : World} {K : PySem.W.Frag} {d : Addr} {o : Obj} {es : Array DictEntry} {ep : Nat} {kvs : List (List Key × V)} {elts : List Expr} {kk : Nat} {tpos : Pos} (it : Addr) (hod : o.data = .dict es ep) :
    Turn P w K (.Tuple elts kk tpos) (Itit d o kvs) [it] it (fun i h => ∃ ok ov, IsItemIter h it d i kvs.length ep ok ov) where
  mem := by simp
  obj := fun i h st b hb => by
    have e : b = it := by simpa using hb
    subst e
    obtain ⟨ok, ov, e⟩ := st
    exact ⟨_, e, fun v z => nomatch z⟩
  keep := fun i h h' st k => let ⟨ok, ov, e⟩ := st; ⟨ok, ov, k it (by simp) _ e⟩
  item := by
    intro X hP hw hK hc i pins s σ H E I hf st hg
    subst hP hw hK
    obtain ⟨hd, hi⟩ := hg
    obtain ⟨hs, hgd, hx, es', ep', hdt, hsz, ent⟩ := frzT2 I hd
    obtain ⟨rfl, rfl⟩ := dict_ep hod hdt
    obtain ⟨⟨k, v⟩, hkv⟩ : ∃ p, kvs[i]? = some p := ⟨kvs[i], List.getElem?_eq_getElem hi⟩
    obtain ⟨en, q, hen, hkey, hq, rv⟩ := ent i k v hkv
    obtain ⟨ok, ov, he⟩ := st
    rw [← hsz] at he
    have hi' : i < es'.size := by omega
    have een : es'[i] = en := by
      rw [Array.getElem?_eq_getElem hi'] at hen
      exact Option.some.inj hen
    have hlt : it < s.heap.objs.size := Heap.lt_size he
    refine DT.nextI he ⟨o, hgd, hx, hdt⟩ hi' fun h' ho hT hz hk => ?_
    refine ⟨_, rfl, wpAny_letOwnedTupleGo_items (s := { s with heap := h' }) ho fun h'' he' sb => ?_⟩
    rw [een] at hT he'
    have hT2 : h''.get? s.heap.objs.size = some { cls := .type "tuple", data := .seq #[en.key, en.val] } := (sb.2 _ (Nat.ne_of_gt hlt)).trans hT
    have new : ObjOk X.prog X.w (upd H s.heap.objs.size (.tup [.ref q, v])) h'' s.heap.objs.size (.tup [.ref q, v]) :=
      ⟨by show 2 ≤ sizeLine; decide, [en.key, en.val], .cons hkey (.cons rv .nil), ⟨_, hT2, rfl, _, rfl⟩⟩
    have I1 : Inv X pins σ (upd H s.heap.objs.size (.tup [.ref q, v])) { s with heap := h'' } :=
      I.turnedNew (t' := s.toks) (ch := [it]) (fun b ob hb e => (sb.2 b (by simpa using hb)).trans (hk b ob (by simpa using hb) e)) hf (Nat.le_refl _) new
    refine ⟨.ref s.heap.objs.size, _, I1, rfl, ⟨_, k, v, q, hkv, rfl, I.hok.fresh (Nat.le_refl _), hq, rfl⟩, ⟨en.key, en.val, ?_⟩, fun b hb => ?_⟩
    · rw [← hsz]; exact he'
    · have e : b = it := by simpa using hb
      rw [e, upd_ne (Nat.ne_of_lt hlt)]
      exact (hf it (by simp)).1
  done := by
    intro X hP hw hK hc i pins s σ H E I hf st hg
    subst hP hw hK
    obtain ⟨hd, hi⟩ := hg
    obtain ⟨f0, f1, f2, f3, f4, f5⟩ := hf it (by simp)
    obtain ⟨hs, hgd, hx, es', ep', hdt, hsz, ent⟩ := frzT2 I hd
    obtain ⟨rfl, rfl⟩ := dict_ep hod hdt
    obtain ⟨ok, ov, he⟩ := st
    rw [← hsz] at he
    exact DT.endI (I.ok.hd hc) he ⟨o, hgd, hx, hdt⟩ (by omega) fun h' eb => ⟨rfl, I.turned (t' := s.toks) (fun b ob hb e => eb b ob hb e) f0 f1 f3 f4 f5⟩
  self := fun A i s Q E st h => let ⟨_, _, e⟩ := st; PySem.W.kcp_self e h
def iItemsTd (td : TE) : TI := fun σ H R => td σ H fun x H1 => ∃ d o kvs, x = .ref d ∧ H1 d = some (.frz o (.dT kvs)) ∧ R (Itit d o kvs) H1
theorem pi_itemsT {X : Cx} {e : Expr} {td : TE} {apos cpos : Pos} {elts : List Expr} {kk : Nat} {tpos : Pos} (he : PE X e td) (hbase : attributeBase e "items" X.env (eval e X.env) = eval e X.env := by rfl) (hline : (apos.endLine == cpos.line) = true := by rfl) :
    PI X (.Tuple elts kk tpos) (.Call (.Attribute e "items" apos) [] [] cpos) (iItemsTd td) := by
  refine ⟨fun pins s σ H R I h => ?_⟩
  refine wpAny_Call_method (T := "dict") (id := "dict.items") hbase rfl hline F.plainAttrs_dict F.slot_dict_items F.type_dict_items (thn (he.run pins s σ H _ I h) fun u s1 ⟨x, H1, I1, rx, d, o, kvs, ex, hd, q⟩ => ?_)
  subst ex
  obtain rfl : u = Value.ref d := rx
  obtain ⟨hs, hgd, hx, es, ep, hdt, hsz, ent⟩ := frzT2 I1 hd
  have hm : DT.Raw s1.heap d es ep := ⟨o, hgd, hx, hdt⟩
  refine ⟨hm.typeIs, fun b e => ?_, ?_⟩
  · cases e; exact ⟨o, hgd, hx.2.1⟩
  have I2 : Inv X pins σ H1 { s1 with heap := s1.heap.push { cls := .type "dict_items", data := .fields #[.ref d] } } := I1.kept (t' := s1.toks) fun b ob q => Heap.get?_push_of_some _ q
  have fin : wpAny (model X.prog X.w) X.A (pyIter (.ref s1.heap.objs.size)) (PIE X pins σ (.Tuple elts kk tpos) R) X.xe { s1 with heap := s1.heap.push { cls := .type "dict_items", data := .fields #[.ref d] } } := by
    refine DT.iterI (d := d) (es := es) (ep := ep) ⟨_, Heap.get?_push_size _ rfl, rfl, rfl⟩ (hm.push _) (pi_one (tk := s1.toks) I2 _ (turn_itemsT _ hdt) ⟨.none, .none, ?_⟩ q)
    rw [← hsz]
    exact Heap.get?_push_size _ rfl
  show wpAny _ _ (callWith cpos (.builtin "dict.items") [.ref d] [] []) _ X.xe s1
  exact method_meetsIn F.slot_dict_items F.entry_dict_items rfl (PySem.evalArgs_none ⟨rfl, hm.typeIs, F.args_dict_items_1 _, _, DT.meetsItems (es := es) (ep := ep) hs, ⟨hm, fin⟩⟩)
end
end Kn
namespace Kn
open PySem L2
/-! ### dicts by pairs of ints: a kind of cell -/
abbrev PK := Int × Int
def kyT (k : PK) : List Key := [.inl k.1, .inl k.2]
theorem kyT_inj {a b : PK} (h : kyT a = kyT b) : a = b := by
  obtain ⟨a1, a2⟩ := a; obtain ⟨b1, b2⟩ := b
  injection h with h1 h
  injection h with h2 h
  cases h1; cases h2; rfl
def toT (kvs : List (PK × V)) : List (List Key × V) := kvs.map fun e => (kyT e.1, e.2)
def itD (e : PK × D) : D := .tup [.tup [.int e.1.1, .int e.1.2], e.2]
def kyD (e : PK × D) : D := .tup [.int e.1.1, .int e.1.2]
def enT (kds : List (PK × D)) : D := .lst (kds.map itD)
def unE : D → Option (PK × D)
  | .tup [.tup [.int i, .int j], v] => some ((i, j), v)
  | _ => none
def unL : List D → Option (List (PK × D))
  | [] => some []
  | d :: ds => (unE d).bind fun e => (unL ds).map fun l => e :: l
def unT : D → Option (List (PK × D))
  | .lst ds => unL ds
  | _ => none
theorem unE_it (e : PK × D) : unE (itD e) = some e := rfl
theorem unL_it : ∀ l : List (PK × D), unL (l.map itD) = some l
  | [] => rfl
  | e :: l => by rw [List.map_cons, unL, unE_it, unL_it l]; rfl
theorem unT_en (l : List (PK × D)) : unT (enT l) = some l := unL_it l
theorem enT_inj {a b : List (PK × D)} (h : enT a = enT b) : a = b := by
  have := unT_en a
  rw [h, unT_en] at this
  exact (Option.some.inj this).symm
structure TOk (K : PySem.W.Frag) (ct : CT) (W : Wd) (kvs : List (PK × V)) (d : D) : Prop where
  ex : ∃ kds, d = enT kds ∧ kvs.map (·.1) = kds.map (·.1) ∧ RepL K ct W (kvs.map (·.2)) (kds.map (·.2))
theorem TOk.mono {K : PySem.W.Frag} {ct : CT} {W W' : Wd} {kvs : List (PK × V)} {d : D} (h : TOk K ct W kvs d) (l : W.le W') : TOk K ct W' kvs d := by
  obtain ⟨kds, h1, h2, h3⟩ := h.ex
  exact ⟨kds, h1, h2, h3.mono l⟩
def kT : Kd := ⟨fun K ct W F v d => ∃ a kvs, v = .ref a ∧ F a = some (.dT (toT kvs)) ∧ TOk K ct W kvs d, fun ⟨a, kvs, e, h, t⟩ l => ⟨a, kvs, e, h, t.mono l⟩⟩
/-- .. while it is gone through -/
def kF (z : Obj × List (PK × V)) : Kd := ⟨fun K ct W F v d => ∃ a, v = .ref a ∧ F a = some (.frz z.1 (.dT (toT z.2))) ∧ TOk K ct W z.2 d, fun ⟨a, e, h, t⟩ l => ⟨a, e, h, t.mono l⟩⟩
def W00 : Wd := ⟨fun _ => none, fun _ => none, fun _ => none⟩
theorem kC_at : kC.P [] (fun _ => none) W00 (fun _ => some (.lst [])) (.ref 0) (.lst []) := ⟨0, rfl, .lst rfl .nil⟩
theorem kT_at : kT.P [] (fun _ => none) W00 (fun _ => some (.dT [])) (.ref 0) (.lst []) := ⟨0, [], rfl, rfl, [], rfl, rfl, .nil⟩
theorem kT_ne : kT ≠ kC := fun e => by
  have h := kC_at
  rw [← e] at h
  obtain ⟨a, kvs, _, h, _⟩ := h
  cases h
theorem kF_ne (z : Obj × List (PK × V)) : kF z ≠ kC := fun e => by
  have h := kC_at
  rw [← e] at h
  obtain ⟨a, _, h, _⟩ := h
  cases h
theorem kF_neT (z : Obj × List (PK × V)) : kF z ≠ kT := fun e => by
  have h := kT_at
  rw [← e] at h
  obtain ⟨a, _, h, _⟩ := h
  cases h
open Classical in
/-- what may be written -/
noncomputable def lookW (st : Sto) (g : Nat) : Option D := (st[g]?).bind fun p => if p.1 = kT then some p.2 else none
open Classical in
/-- what may be read -/
noncomputable def lookT (st : Sto) (g : Nat) : Option D := (st[g]?).bind fun p => if p.1 = kT ∨ ∃ z, p.1 = kF z then some p.2 else none
open Classical in
/-- what may be gone through -/
noncomputable def lookF (st : Sto) (g : Nat) : Option D := (st[g]?).bind fun p => if ∃ z, p.1 = kF z then some p.2 else none
theorem lookW_some {st : Sto} {g : Nat} {d : D} (h : lookW st g = some d) : st[g]? = some (kT, d) := by
  obtain ⟨⟨κ, c⟩, h1, h2⟩ := bind2 h
  obtain ⟨h3, h4⟩ := ifG h2
  dsimp only at h3 h4
  subst h3; cases h4; exact h1
theorem lookF_some {st : Sto} {g : Nat} {d : D} (h : lookF st g = some d) : ∃ z, st[g]? = some (kF z, d) := by
  obtain ⟨⟨κ, c⟩, h1, h2⟩ := bind2 h
  obtain ⟨⟨z, h3⟩, h4⟩ := ifG h2
  dsimp only at h3 h4
  subst h3; cases h4; exact ⟨z, h1⟩
theorem lookT_some {st : Sto} {g : Nat} {d : D} (h : lookT st g = some d) : st[g]? = some (kT, d) ∨ ∃ z, st[g]? = some (kF z, d) := by
  obtain ⟨⟨κ, c⟩, h1, h2⟩ := bind2 h
  obtain ⟨h3, h4⟩ := ifG h2
  dsimp only at h3 h4
  rcases h3 with rfl | ⟨z, rfl⟩
  · cases h4; exact .inl h1
  · cases h4; exact .inr ⟨z, h1⟩
theorem lookT_of {st : Sto} {g : Nat} {d : D} (h : st[g]? = some (kT, d)) : lookT st g = some d := by
  unfold lookT; rw [h]; exact if_pos (.inl rfl)
theorem lookT_ofF {st : Sto} {g : Nat} {d : D} {z} (h : st[g]? = some (kF z, d)) : lookT st g = some d := by
  unfold lookT; rw [h]; exact if_pos (.inr ⟨z, rfl⟩)
theorem lookW_of {st : Sto} {g : Nat} {d : D} (h : st[g]? = some (kT, d)) : lookW st g = some d := by
  unfold lookW; rw [h]; exact if_pos rfl
section
variable {K : PySem.W.Frag} {ct : CT} {F H H' : Hp} {W W' : Wd} {L L' : Addr → Option Lab} {env : List Kn.Slot} {st : Sto} {σ : St} {v : V} {d d' : Kn.D} {r : R} {a p : Addr} {o : HO} {g : Nat}
theorem upd_self_eq {a : Addr} {o : HO} (h : H a = some o) : upd H a o = H := by
  funext b; by_cases q : b = a
  · rw [q, upd_same, h]
  · rw [upd_ne q]
/-- a cell of any kind is written -/
theorem Rel.updK {κ κ' : Kd} (I : Rel K ct F W L env st σ H) (hr : W.rho g = some (.ref a)) (hg : st[g]? = some (κ, d)) (hl : L a = some (.ob g)) (hn : ∀ xs, H a ≠ some (.tup xs)) (c' : ∀ F' : Hp, F' a = some o → κ'.P K ct W F' (.ref a) d') :
    Rel K ct F W L env (st.set g (κ', d')) σ (upd H a o) := by
  have hlt : g < st.length := (List.getElem?_eq_some_iff.mp hg).1
  have ne : ∀ b, L b ≠ some (.ob g) → (upd H a o) b = H b := fun b h => upd_ne (by rintro rfl; exact h hl)
  refine ⟨fun b u e => ?_, fun b u e => ?_, fun b vs e => ?_, fun g' κ x e => ?_, fun g' v e => by rw [List.length_set]; exact I.rh g' v e, I.len, fun j s e => ?_⟩
  · obtain ⟨h1, h2, h3⟩ := I.fr b u e
    exact ⟨by rw [ne b (by rw [h2]; exact fun z => nomatch z)]; exact h1, h2, h3⟩
  · obtain ⟨h1, h2⟩ := I.hs b u e
    exact ⟨by rw [ne b (by rw [h2]; exact fun z => nomatch z)]; exact h1, h2⟩
  · rw [upd_ne (by rintro rfl; exact hn _ (I.tp _ _ e))]
    exact I.tp b vs e
  · by_cases hgg : g = g'
    · subst hgg
      rw [List.getElem?_set_self hlt] at e
      cases e
      exact ⟨.ref a, hr, c' _ (by rw [if_pos hl]; exact upd_same)⟩
    · rw [List.getElem?_set_ne hgg] at e
      obtain ⟨v, h1, h2⟩ := I.ob g' κ x e
      refine ⟨v, h1, ?_⟩
      have q : (fun b => if L b = some (.ob g') then (upd H a o) b else none) = fun b => if L b = some (.ob g') then H b else none := by
        funext b
        by_cases hb : L b = some (.ob g')
        · rw [if_pos hb, if_pos hb, ne b (by rw [hb]; intro z; cases z; exact hgg rfl)]
        · rw [if_neg hb, if_neg hb]
      rw [q]; exact h2
  · exact (I.sl j s e).mono (.refl W) fun b u hb hu => ⟨by rw [ne b (by rw [hb]; exact fun z => nomatch z)]; exact hu, hb⟩
/-- a new cell of any kind -/
theorem Rel.storeK (κ0 : Kd) (d : Kn.D) (I : Rel K ct F W L env st σ H) (hl : L a = none) (hw : W.hs a = none) (hf : F a = none) (c : ∀ (W' : Wd) (F' : Hp), W.le W' → F' a = H a → κ0.P K ct W' F' (.ref a) d) : ∃ W' L', W.le W' ∧ Rel K ct F W' L' env (st ++ [(κ0, d)]) σ H ∧ Rep K ct W' (.ref a) (.hnd st.length) := by
  have fresh : W.rho st.length = none := by
    cases q : W.rho st.length with
    | none => rfl
    | some v => have := I.rh _ _ q; omega
  have le : W.le ⟨W.hs, W.tp, fun g => if g = st.length then some (.ref a) else W.rho g⟩ := ⟨fun _ _ h => h, fun _ _ h => h, fun g v h => by
    show (if g = st.length then some (V.ref a) else W.rho g) = some v
    rw [if_neg (by rintro rfl; rw [fresh] at h; cases h)]; exact h⟩
  have lab : ∀ b, b ≠ a → (if b = a then some (Lab.ob st.length) else L b) = L b := fun b h => if_neg h
  refine ⟨⟨W.hs, W.tp, fun g => if g = st.length then some (.ref a) else W.rho g⟩, fun b => if b = a then some (.ob st.length) else L b, le, ⟨fun b u e => ?_, fun b u e => ?_, I.tp, fun g κ x e => ?_, fun g v e => ?_, I.len, fun j s e => ?_⟩, .hnd (if_pos rfl)⟩
  · obtain ⟨h1, h2, h3⟩ := I.fr b u e
    exact ⟨h1, (lab b (by rintro rfl; rw [hf] at e; cases e)).trans h2, h3⟩
  · obtain ⟨h1, h2⟩ := I.hs b u e
    exact ⟨h1, (lab b (by rintro rfl; rw [hw] at e; cases e)).trans h2⟩
  · by_cases hg : g < st.length
    · rw [List.getElem?_append_left hg] at e
      obtain ⟨v, h1, h2⟩ := I.ob g κ x e
      refine ⟨v, le.rho _ _ h1, ?_⟩
      have q : (fun b => if (if b = a then some (Lab.ob st.length) else L b) = some (.ob g) then H b else none) = fun b => if L b = some (.ob g) then H b else none := by
        funext b
        by_cases hb : b = a
        · subst hb
          rw [if_pos rfl, hl, if_neg (by intro z; cases z; omega), if_neg (fun z => nomatch z)]
        · rw [if_neg hb]
      rw [q]; exact κ.mono h2 le
    · rw [List.getElem?_append_right (by omega)] at e
      have hz : g - st.length = 0 := by
        cases q : g - st.length with
        | zero => rfl
        | succ n => rw [q] at e; cases e
      rw [hz] at e
      cases e
      have : g = st.length := by omega
      subst this
      refine ⟨.ref a, if_pos rfl, c _ _ le ?_⟩
      show (if (if a = a then some (Lab.ob st.length) else L a) = some (Lab.ob st.length) then H a else none) = _
      rw [if_pos (if_pos rfl)]
  · show g < (st ++ [(κ0, d)]).length
    rw [List.length_append]
    have e : (if g = st.length then some (V.ref a) else W.rho g) = some v := e
    by_cases q : g = st.length
    · simp; omega
    · rw [if_neg q] at e
      have := I.rh g v e
      simp; omega
  · exact (I.sl j s e).mono le fun b u hb hu => ⟨hu, (lab b (by rintro rfl; rw [hl] at hb; cases hb)).trans hb⟩
theorem Rel.cellW (I : Rel K ct F W L env st σ H) (h : Rep K ct W v (.hnd g)) (e : lookW st g = some d) : ∃ a kvs, v = .ref a ∧ W.rho g = some (.ref a) ∧ L a = some (.ob g) ∧ H a = some (.dT (toT kvs)) ∧ TOk K ct W kvs d := by
  obtain ⟨v', h1, a, kvs, rfl, h2, h3⟩ := I.ob g _ _ (lookW_some e)
  cases h with
  | hnd h4 =>
    rw [h1] at h4; cases h4
    have hl : L a = some (.ob g) := by
      by_cases q : L a = some (.ob g)
      · exact q
      · dsimp only at h2; rw [if_neg q] at h2; cases h2
    dsimp only at h2
    rw [if_pos hl] at h2
    exact ⟨a, kvs, rfl, h1, hl, h2, h3⟩
theorem Rel.cellF {z} (I : Rel K ct F W L env st σ H) (h : Rep K ct W v (.hnd g)) (e : st[g]? = some (kF z, d)) : ∃ a, v = .ref a ∧ W.rho g = some (.ref a) ∧ L a = some (.ob g) ∧ H a = some (.frz z.1 (.dT (toT z.2))) ∧ TOk K ct W z.2 d := by
  obtain ⟨v', h1, a, rfl, h2, h3⟩ := I.ob g _ _ e
  cases h with
  | hnd h4 =>
    rw [h1] at h4; cases h4
    have hl : L a = some (.ob g) := by
      by_cases q : L a = some (.ob g)
      · exact q
      · dsimp only at h2; rw [if_neg q] at h2; cases h2
    dsimp only at h2
    rw [if_pos hl] at h2
    exact ⟨a, rfl, h1, hl, h2, h3⟩
theorem Rel.cellT (I : Rel K ct F W L env st σ H) (h : Rep K ct W v (.hnd g)) (e : lookT st g = some d) : ∃ a kvs, v = .ref a ∧ Rd H a (.dT (toT kvs)) ∧ TOk K ct W kvs d := by
  rcases lookT_some e with e | ⟨z, e⟩
  · obtain ⟨a, kvs, h1, _, _, h2, h3⟩ := I.cellW h (lookW_of e)
    exact ⟨a, kvs, h1, .inl h2, h3⟩
  · obtain ⟨a, h1, _, _, h2, h3⟩ := I.cellF h e
    exact ⟨a, z.2, h1, .inr ⟨_, h2⟩, h3⟩
def keyT : D → Option PK
  | .tup [.int i, .int j] => some (i, j)
  | _ => none
theorem keyT_eq {d : D} {k : PK} (h : keyT d = some k) : d = .tup [.int k.1, .int k.2] := by
  unfold keyT at h
  split at h
  · cases h; rfl
  · cases h
theorem keyT_at (I : Rel K ct F W L env st σ H) {k : PK} (h : RdH K ct W H v d) (e : keyT d = some k) : ∃ b, v = .ref b ∧ H b = some (.tup ((kyT k).map kV)) := by
  rw [keyT_eq e] at h
  obtain ⟨b, vs, rfl, g, q⟩ := h.tup I
  have : vs = [V.int k.1, V.int k.2] := RepL.ints (ns := [k.1, k.2]) q
  rw [this] at g
  exact ⟨b, rfl, g⟩
def getK (kds : List (PK × D)) (k : PK) : Option D := (kds.find? fun e => decide (e.1 = k)).map (·.2)
theorem getK_rep (k : PK) : ∀ {kvs : List (PK × V)} {kds : List (PK × D)}, kvs.map (·.1) = kds.map (·.1) → RepL K ct W (kvs.map (·.2)) (kds.map (·.2)) →
    (valV (toT kvs) (kyT k) = none ∧ getK kds k = none) ∨ ∃ v d, valV (toT kvs) (kyT k) = some v ∧ getK kds k = some d ∧ Rep K ct W v d
  | [], [], _, _ => .inl ⟨rfl, rfl⟩
  | [], _ :: _, n, _ => by cases n
  | _ :: _, [], n, _ => by cases n
  | (k1, v) :: kvs, (k2, d) :: kds, n, r => by
    simp only [List.map_cons, List.cons.injEq] at n
    obtain ⟨n1, n2⟩ := n
    cases r with
    | cons h r =>
      by_cases e : k1 = k
      · have e2 : k2 = k := n1.symm.trans e
        exact .inr ⟨v, d, valV_pos (p := (kyT k1, v)) (congrArg kyT e), by simp [getK, List.find?_cons, e2], h⟩
      · have e2 : ¬ k2 = k := fun q => e (n1.trans q)
        have q1 : valV (toT ((k1, v) :: kvs)) (kyT k) = valV (toT kvs) (kyT k) := valV_neg (p := (kyT k1, v)) fun q => e (kyT_inj q)
        have q2 : getK ((k2, d) :: kds) k = getK kds k := by simp [getK, List.find?_cons, e2]
        rw [q1, q2]
        exact getK_rep k n2 r
def putKT {β : Type} (kds : List (PK × β)) (k : PK) (d : β) : List (PK × β) := if (kds.any fun e => decide (e.1 = k)) = true then kds.map fun e => if e.1 = k then (e.1, d) else e else kds ++ [(k, d)]
theorem any_keys {β : Type} (kds : List (PK × β)) (k : PK) : (kds.any fun e => decide (e.1 = k)) = ((kds.map (·.1)).any fun e => decide (e = k)) := by rw [List.any_map]; rfl
theorem toT_put (kvs : List (PK × V)) (k : PK) (v : V) : putK (toT kvs) (kyT k) v = toT (putKT kvs k v) := by
  unfold putK putKT toT
  have e : ((kvs.map fun e => (kyT e.1, e.2)).any fun kv => decide (kv.1 = kyT k)) = kvs.any fun e => decide (e.1 = k) := by
    rw [List.any_map]
    congr 1
    funext e
    exact decide_eq_decide.mpr ⟨fun q => kyT_inj q, fun q => congrArg kyT q⟩
  rw [e]
  split
  · rw [List.map_map, List.map_map]
    refine List.map_congr_left fun e _ => ?_
    show (if kyT e.1 = kyT k then (kyT e.1, v) else (kyT e.1, e.2)) = _
    by_cases q : e.1 = k
    · rw [if_pos (congrArg kyT q)]; simp [q]
    · rw [if_neg fun z => q (kyT_inj z)]; simp [q]
  · rw [List.map_append]; rfl
theorem put_repT {k : PK} {v : V} {d : D} (h : Rep K ct W v d) {kvs : List (PK × V)} {kds : List (PK × D)} (n : kvs.map (·.1) = kds.map (·.1)) (r : RepL K ct W (kvs.map (·.2)) (kds.map (·.2))) :
    (putKT kvs k v).map (·.1) = (putKT kds k d).map (·.1) ∧ RepL K ct W ((putKT kvs k v).map (·.2)) ((putKT kds k d).map (·.2)) := by
  have mp : ∀ {kvs : List (PK × V)} {kds : List (PK × D)}, kvs.map (·.1) = kds.map (·.1) → RepL K ct W (kvs.map (·.2)) (kds.map (·.2)) →
      (kvs.map fun e => if e.1 = k then (e.1, v) else e).map (·.1) = (kds.map fun e => if e.1 = k then (e.1, d) else e).map (·.1) ∧ RepL K ct W ((kvs.map fun e => if e.1 = k then (e.1, v) else e).map (·.2)) ((kds.map fun e => if e.1 = k then (e.1, d) else e).map (·.2)) := fun {kvs} => by
    induction kvs with
    | nil => intro kds n r; cases kds with
      | nil => exact ⟨rfl, .nil⟩
      | cons _ _ => cases n
    | cons e kvs ih =>
      intro kds n r
      cases kds with
      | nil => cases n
      | cons e' kds =>
        obtain ⟨k1, v1⟩ := e; obtain ⟨k2, d2⟩ := e'
        simp only [List.map_cons, List.cons.injEq] at n
        obtain ⟨n1, n2⟩ := n
        subst n1
        cases r with
        | cons h1 r =>
          obtain ⟨i1, i2⟩ := ih n2 r
          simp only [List.map_cons]
          by_cases q : k1 = k
          · simp only [q, if_true]
            exact ⟨by rw [i1], .cons h i2⟩
          · simp only [q, if_false]
            exact ⟨by rw [i1], .cons h1 i2⟩
  unfold putKT
  rw [any_keys kvs, any_keys kds, n]
  split
  · exact mp n r
  · rw [List.map_append, List.map_append, List.map_append, List.map_append, n]
    exact ⟨rfl, r.append (.cons h .nil)⟩
end
/-! ### the rules -/
open Classical in
noncomputable def chk (τ : Type) [En τ] (c : D) : Option D := if ∃ x : τ, c = En.en x then some c else none
theorem chk_of {τ : Type} [En τ] {c d : D} (h : chk τ c = some d) : c = d := by
  obtain ⟨_, e⟩ := ifG h
  exact Option.some.inj e
noncomputable def lT (τ : Type) [En τ] (st : Sto) (g : Nat) : Option D := (lookT st g).bind (chk τ)
noncomputable def lW (τ : Type) [En τ] (st : Sto) (g : Nat) : Option D := (lookW st g).bind (chk τ)
noncomputable def lF (τ : Type) [En τ] (st : Sto) (g : Nat) : Option D := (lookF st g).bind (chk τ)
theorem lT_look {τ : Type} [En τ] {st : Sto} {g : Nat} {d : D} (h : lT τ st g = some d) : lookT st g = some d := by
  obtain ⟨c, h1, h2⟩ := bind2 h
  rw [← chk_of h2]; exact h1
theorem lW_look {τ : Type} [En τ] {st : Sto} {g : Nat} {d : D} (h : lW τ st g = some d) : lookW st g = some d := by
  obtain ⟨c, h1, h2⟩ := bind2 h
  rw [← chk_of h2]; exact h1
theorem lF_look {τ : Type} [En τ] {st : Sto} {g : Nat} {d : D} (h : lF τ st g = some d) : lookF st g = some d := by
  obtain ⟨c, h1, h2⟩ := bind2 h
  rw [← chk_of h2]; exact h1
section
variable {X : Cx} {ct : CT} {pos cpos apos tpos : Pos} {x y z : Expr} {a b h ix e : Sem}
noncomputable def eNewT : Sem := fun _ st => some (.sh (.hnd st.length), st ++ [(kT, enT [])])
theorem se_newT : SE X ct (.Dict [] [] pos) eNewT := by
  refine ⟨pe_mono pe_dnewT fun σ H Q ⟨F, W, L, env, st, r, st', I, e, k⟩ p hp => ?_⟩
  cases e
  obtain ⟨I2, n1, n2, n3⟩ := I.laid (o := HO.dT []) hp
  obtain ⟨W', L', l2, I3, q⟩ := I2.storeK kT (enT []) n1 n2 n3 fun W' F' _ e => ⟨p, [], rfl, by rw [e, upd_same]; rfl, [], rfl, rfl, .nil⟩
  exact k _ _ W' L' l2 I3 q
/-- the dict, then the key -/
noncomputable def eDk (τ : Type) [En τ] (f : Option D → Option R) (a b : Sem) : Sem := fun env st => (a env st).bind fun p => (b env p.2).bind fun q => p.1.pin.hnd?.bind fun g => (lT τ q.2 g).bind fun d => (unT d).bind fun kds => (keyT q.1.pin.d).bind fun k => (f (getK kds k)).map fun r => (r, q.2)
/-- the key, then the dict -/
noncomputable def eKd (τ : Type) [En τ] (f : Option D → Option R) (b a : Sem) : Sem := fun env st => (b env st).bind fun q => (a env q.2).bind fun p => p.1.pin.hnd?.bind fun g => (lT τ p.2 g).bind fun d => (unT d).bind fun kds => (keyT q.1.pin.d).bind fun k => (f (getK kds k)).map fun r => (r, p.2)
theorem getK_at {K : PySem.W.Frag} {F H : Hp} {W : Wd} {L : Addr → Option Lab} {env : List Kn.Slot} {st : Sto} {σ : St} {v w : V} {g : Nat} {d d2 : Kn.D} {kds : List (PK × Kn.D)} {k : PK} (I : Rel K ct F W L env st σ H) (h : Rep K ct W v (.hnd g)) (hw : RdH K ct W H w d2) (e1 : lookT st g = some d) (e2 : unT d = some kds) (e3 : keyT d2 = some k) :
    ∃ a o, v = .ref a ∧ IsD H a ∧ DGet H a w o ∧ ((o = none ∧ getK kds k = none) ∨ ∃ u c, o = some u ∧ getK kds k = some c ∧ Rep K ct W u c) := by
  obtain ⟨a, kvs, rfl, h1, t⟩ := I.cellT h e1
  obtain ⟨kds', rfl, n, r⟩ := t.ex
  rw [unT_en] at e2
  cases e2
  obtain ⟨b, rfl, hb⟩ := keyT_at I hw e3
  exact ⟨a, _, rfl, .inr ⟨_, h1⟩, .inr ⟨_, kyT k, b, h1, rfl, hb, rfl⟩, getK_rep k n r⟩
def fIxT : Option D → Option R := fun o => o.map .sh
def fInT (neg : Bool) : Option D → Option R := fun o => some (.sh (.bl (if neg then !o.isSome else o.isSome)))
def fGtT : Option D → Option R := fun o => some (.sh (o.getD .non))
theorem se_idxT (τ : Type) [En τ] {k : Nat} (hr : Room k X.A) (ha : SE X ct x a) (hb : SE X ct y b) (hs : PlainIx y := by exact fun _ _ => rfl) : SE X ct (.Subscript x y pos) (eDk τ fIxT a b) := by
  refine ⟨pe_mono (pe_ix (ix_dict (hu_of hr)) ha.pe hb.pe hs) fun σ H Q ⟨F, W, L, env, st, r, st', I, e, kk⟩ => ?_⟩
  obtain ⟨⟨r1, st1⟩, h1, e⟩ := bind2 e
  obtain ⟨⟨r2, st2⟩, h2, e⟩ := bind2 e
  obtain ⟨g, hg, e⟩ := bind2 e
  obtain ⟨d, hd, e⟩ := bind2 e
  have hd := lT_look hd
  obtain ⟨kds, hk, e⟩ := bind2 e
  obtain ⟨k, hky, e⟩ := bind2 e
  obtain ⟨r3, h3, e⟩ := map2 e
  cases e
  refine ⟨F, W, L, env, st, r1, st1, I, h1, fun v H1 W1 L1 l1 I1 p1 => ?_⟩
  obtain ⟨W1', m1, J1, q1⟩ := I1.pin p1
  rw [show r1.pin = _ from R.hnd_eq hg] at q1
  have q1 : Rep X.K ct W1' v (.hnd g) := q1
  refine ⟨F, W1', L1, env, st1, r2, st2, J1, h2, fun w H2 W2 L2 l2 I2 p2 => ?_⟩
  obtain ⟨W2', m2, J2, q2⟩ := I2.pin p2
  obtain ⟨a, o, rfl, _, hg2, ho⟩ := getK_at J2 (Rep.mono (l2.trans m2) q1) (J2.look q2) hd hk hky
  have h3 : fIxT (getK kds k) = some r := h3
  rcases ho with ⟨_, e2⟩ | ⟨u, c, rfl, e2, rr⟩
  · rw [e2] at h3; cases h3
  · rw [e2] at h3; cases h3
    exact ⟨a, u, rfl, hg2, kk u H2 W2' L2 (l1.trans (m1.trans (l2.trans m2))) J2 rr⟩
theorem tE_Kd {τ : Type} [En τ] {K : PySem.W.Frag} {neg : Bool} {σ : St} {H : Hp} {Q : VK} (hh : tE K ct (eKd τ (fInT neg) b a) σ H Q) : tOp (fun x y H Q => ∃ a o, y = .ref a ∧ DGet H a x o ∧ Q (.bl (if neg then !o.isSome else o.isSome)) H) (tE K ct b) (tE K ct a) σ H Q := by
  obtain ⟨F, W, L, env, st, r, st', I, e, kk⟩ := hh
  obtain ⟨⟨r2, st1⟩, h2, e⟩ := bind2 e
  obtain ⟨⟨r1, st2⟩, h1, e⟩ := bind2 e
  obtain ⟨g, hg, e⟩ := bind2 e
  obtain ⟨d, hd, e⟩ := bind2 e
  have hd := lT_look hd
  obtain ⟨kds, hk, e⟩ := bind2 e
  obtain ⟨k, hky, e⟩ := bind2 e
  obtain ⟨r3, h3, e⟩ := map2 e
  cases e
  refine ⟨F, W, L, env, st, r2, st1, I, h2, fun w H1 W1 L1 l1 I1 p1 => ?_⟩
  obtain ⟨W1', m1, J1, q1⟩ := I1.pin p1
  refine ⟨F, W1', L1, env, st1, r1, st2, J1, h1, fun v H2 W2 L2 l2 I2 p2 => ?_⟩
  obtain ⟨W2', m2, J2, q2⟩ := I2.pin p2
  rw [show r1.pin = _ from R.hnd_eq hg] at q2
  have q2 : Rep K ct W2' v (.hnd g) := q2
  obtain ⟨a, o, rfl, _, hg2, ho⟩ := getK_at J2 q2 (J2.look (q1.mono (l2.trans m2))) hd hk hky
  have h3 : fInT neg (getK kds k) = some r := h3
  cases h3
  have eo : o.isSome = (getK kds k).isSome := by
    rcases ho with ⟨e1, e2⟩ | ⟨u, c, e1, e2, _⟩ <;> rw [e1, e2] <;> rfl
  refine ⟨a, o, rfl, hg2, ?_⟩
  rw [eo]
  exact kk _ H2 W2' L2 (l1.trans (m1.trans (l2.trans m2))) J2 (.bl _)
theorem se_inT (τ : Type) [En τ] {k : Nat} (hr : Room k X.A) (hb : SE X ct x b) (ha : SE X ct y a) (hm : behindInMarks .In y = false := by with_unfolding_all rfl) : SE X ct (.Compare x [.In] [y] pos) (eKd τ (fInT false) b a) :=
  ⟨pe_mono (pe_cmpR (op_inDict (hu_of hr)) hb.pe ha.pe hm) fun _ _ _ h => tE_Kd h⟩
theorem st_inT (τ : Type) [En τ] {k : Nat} (hr : Room k X.A) (hb : SE X ct x b) (ha : SE X ct y a) (hm : behindInMarks .In y = false := by with_unfolding_all rfl) : ST X ct (.Compare x [.In] [y] pos) (eKd τ (fInT false) b a) :=
  ⟨pt_mono (pt_cmpR (op_inDict (hu_of hr)) hb.pe ha.pe hm) fun _ _ _ h => tE_Kd (tT_tE h)⟩
theorem se_ninT (τ : Type) [En τ] {k : Nat} (hr : Room k X.A) (hb : SE X ct x b) (ha : SE X ct y a) (hm : behindInMarks .NotIn y = false := by with_unfolding_all rfl) : SE X ct (.Compare x [.NotIn] [y] pos) (eKd τ (fInT true) b a) :=
  ⟨pe_mono (pe_cmpR (op_ninDict (hu_of hr)) hb.pe ha.pe hm) fun _ _ _ h => tE_Kd (neg := true) h⟩
theorem st_ninT (τ : Type) [En τ] {k : Nat} (hr : Room k X.A) (hb : SE X ct x b) (ha : SE X ct y a) (hm : behindInMarks .NotIn y = false := by with_unfolding_all rfl) : ST X ct (.Compare x [.NotIn] [y] pos) (eKd τ (fInT true) b a) :=
  ⟨pt_mono (pt_cmpR (op_ninDict (hu_of hr)) hb.pe ha.pe hm) fun _ _ _ h => tE_Kd (neg := true) (tT_tE h)⟩
/-- .. the dict is there ahead of the key -/
noncomputable def eDk1 (τ : Type) [En τ] (a b : Sem) : Sem := fun env st => (a env st).bind fun p => p.1.pin.hnd?.bind fun g => (lT τ p.2 g).bind fun _ => (b env p.2).bind fun q => (lT τ q.2 g).bind fun d => (unT d).bind fun kds => (keyT q.1.pin.d).bind fun k => (fGtT (getK kds k)).map fun r => (r, q.2)
theorem se_getT (τ : Type) [En τ] {k : Nat} (hr : Room k X.A) (ha : SE X ct x a) (hb : SE X ct y b) (m : M1 X x "get" apos y cpos := by exact ⟨rfl, rfl, rfl, rfl⟩) : SE X ct (.Call (.Attribute x "get" apos) [y] [] cpos) (eDk1 τ a b) := by
  refine ⟨pe_mono (pe_dget1 (hu_of hr) ha.pe hb.pe m) fun σ H Q ⟨F, W, L, env, st, r, st', I, e, kk⟩ => ?_⟩
  obtain ⟨⟨r1, st1⟩, h1, e⟩ := bind2 e
  obtain ⟨g, hg, e⟩ := bind2 e
  obtain ⟨d0, hd0, e⟩ := bind2 e
  have hd0 := lT_look hd0
  obtain ⟨⟨r2, st2⟩, h2, e⟩ := bind2 e
  obtain ⟨d, hd, e⟩ := bind2 e
  have hd := lT_look hd
  obtain ⟨kds, hk, e⟩ := bind2 e
  obtain ⟨k, hky, e⟩ := bind2 e
  obtain ⟨r3, h3, e⟩ := map2 e
  cases e
  refine ⟨F, W, L, env, st, r1, st1, I, h1, fun v H1 W1 L1 l1 I1 p1 => ?_⟩
  obtain ⟨W1', m1, J1, q1⟩ := I1.pin p1
  rw [show r1.pin = _ from R.hnd_eq hg] at q1
  have q1 : Rep X.K ct W1' v (.hnd g) := q1
  obtain ⟨a0, kvs0, rfl, hrd, _⟩ := J1.cellT q1 hd0
  refine ⟨a0, rfl, .inr ⟨_, hrd⟩, F, W1', L1, env, st1, r2, st2, J1, h2, fun w H2 W2 L2 l2 I2 p2 => ?_⟩
  obtain ⟨W2', m2, J2, q2⟩ := I2.pin p2
  obtain ⟨a, o, e0, _, hg2, ho⟩ := getK_at J2 (Rep.mono (l2.trans m2) q1) (J2.look q2) hd hk hky
  cases e0
  have h3 : fGtT (getK kds k) = some r := h3
  cases h3
  refine ⟨o, hg2, kk _ H2 W2' L2 (l1.trans (m1.trans (l2.trans m2))) J2 ?_⟩
  rcases ho with ⟨e1, e2⟩ | ⟨u, c, e1, e2, rr⟩
  · rw [e1, e2]; exact Rep.non
  · rw [e1, e2]; exact rr
/-- h[k] = v -/
noncomputable def sSetT (τ : Type) [En τ] (h ix e : Sem) : SemS := fun env st => (e env st).bind fun p => (h env p.2).bind fun q => (ix env q.2).bind fun u => p.1.pin.val?.bind fun d => q.1.pin.hnd?.bind fun g => (lW τ u.2 g).bind fun c => (unT c).bind fun kds => (keyT u.1.pin.d).bind fun k => if kds.length < sizeLine then some (.nx, env, u.2.set g (kT, enT (putKT kds k d))) else none
theorem ss_setT (τ : Type) [En τ] {k : Nat} (hr : Room k X.A) (hh : SE X ct z h) (hix : SE X ct y ix) (he : SE X ct x e)
    (hsd : swapsWith x (some (.Subscript z y tpos)) pos.line X.env = pure false := by rfl) : SS X ct (.Assign [.Subscript z y tpos] x pos) (sSetT τ h ix e) := by
  refine ⟨ps_mono (ps_dput (hu_of hr) hh.pe hix.pe he.pe hsd) fun D σ H ⟨F, W, L, env, st, o, env', st', I, e, k⟩ => ?_⟩
  obtain ⟨⟨r1, st1⟩, h1, e⟩ := bind2 e
  obtain ⟨⟨r2, st2⟩, h2, e⟩ := bind2 e
  obtain ⟨⟨r3, st3⟩, h3, e⟩ := bind2 e
  obtain ⟨d, hr1, e⟩ := bind2 e
  obtain ⟨g, hr2, e⟩ := bind2 e
  obtain ⟨c, hc, e⟩ := bind2 e
  have hc := lW_look hc
  obtain ⟨kds, hk, e⟩ := bind2 e
  obtain ⟨ky, hky, e⟩ := bind2 e
  obtain ⟨hz, e⟩ := ifs e
  cases e
  have hr1 := R.val_eq hr1
  have hr2 := R.hnd_eq hr2
  refine ⟨F, W, L, env, st, r1, st1, I, h1, fun v H1 W1 L1 l1 I1 p1 => ?_⟩
  obtain ⟨W1', m1, J1, q1⟩ := I1.pin p1
  rw [show r1.pin = _ from hr1] at q1
  refine ⟨F, W1', L1, env, st1, r2, st2, J1, h2, fun ov H2 W2 L2 l2 I2 p2 => ?_⟩
  obtain ⟨W2', m2, J2, q2⟩ := I2.pin p2
  rw [show r2.pin = _ from hr2] at q2
  refine ⟨F, W2', L2, env, st2, r3, st3, J2, h3, fun w H3 W3 L3 l3 I3 p3 => ?_⟩
  obtain ⟨W3', m3, J3, q3⟩ := I3.pin p3
  have qo : Rep X.K ct W3' ov (.hnd g) := Rep.mono (l3.trans m3) q2
  obtain ⟨ad, kvs, rfl, hrho, hl, hH, t⟩ := J3.cellW qo hc
  obtain ⟨kds', rfl, n, r⟩ := t.ex
  rw [unT_en] at hk
  cases hk
  obtain ⟨b, rfl, hb⟩ := keyT_at J3 (J3.look q3) hky
  have hlen : kvs.length = kds.length := by
    have := congrArg List.length n
    rw [List.length_map, List.length_map] at this
    exact this
  have q1' : Rep X.K ct W3' v d := Rep.mono (l2.trans (m2.trans (l3.trans m3))) q1
  obtain ⟨n2, r2⟩ := put_repT (k := ky) q1' n r
  refine ⟨ad, _, rfl, .inr ⟨_, kyT ky, b, hH, rfl, hb, ?_, rfl⟩, ?_⟩
  · unfold toT; rw [List.length_map, hlen]; exact hz
  · rw [toT_put]
    exact k _ _ _ _ (l1.trans (m1.trans (l2.trans (m2.trans (l3.trans m3))))) (J3.updK hrho (lookW_some hc) hl (fun xs z => by rw [hH] at z; cases z) fun F' e => ⟨ad, _, rfl, e, _, rfl, n2, r2⟩)
end
end Kn
namespace Kn
open PySem L2
/-! ### a dict is gone through -/
theorem list_set_same {α : Type} {l : List α} {g : Nat} {x : α} (h : l[g]? = some x) : l.set g x = l := by
  refine List.ext_getElem? fun i => ?_
  by_cases q : g = i
  · subst q; rw [List.getElem?_set_self (List.getElem?_eq_some_iff.mp h).1, h]
  · rw [List.getElem?_set_ne q]
section
variable {X : Cx} {ct : CT} {tg x : Expr} {a h e : Sem}
open Classical in
noncomputable def eLock (τ : Type) [En τ] (h e : Sem) : Sem := fun env st => (h env st).bind fun p => p.1.pin.hnd?.bind fun g => (lW τ st g).bind fun d => if hr : ∃ r, ∀ z, e env (st.set g (kF z, d)) = some (r, st.set g (kF z, d)) then some (Classical.choose hr, st) else none
theorem se_lock (τ : Type) [En τ] (h : Sem) (he : SE X ct x e) : SE X ct x (eLock τ h e) := by
  refine ⟨pe_mono (pe_lock he.pe) fun σ H Q ⟨F, W, L, env, st, r, st', I, ee, k⟩ => ?_⟩
  obtain ⟨⟨r1, st1⟩, h1, ee⟩ := bind2 ee
  obtain ⟨g, hg, ee⟩ := bind2 ee
  obtain ⟨d, hd, ee⟩ := bind2 ee
  have hd := lW_look hd
  split at ee
  · rename_i hr
    cases ee
    have hz := Classical.choose_spec hr
    generalize Classical.choose hr = r at hz k
    obtain ⟨v', hv, _⟩ := I.ob g _ _ (lookW_some hd)
    obtain ⟨ad, kvs, rfl, hrho, hl, hH, t⟩ := I.cellW (.hnd hv) hd
    refine ⟨ad, .dT (toT kvs), hH, trivial, fun od => ?_⟩
    have I2 := I.updK (κ' := kF (od, kvs)) (d' := d) hrho (lookW_some hd) hl (fun xs z => by rw [hH] at z; cases z) (fun F' e => ⟨ad, rfl, e, t⟩)
    have hlt : g < st.length := (List.getElem?_eq_some_iff.mp (lookW_some hd)).1
    refine ⟨F, W, L, env, st.set g (kF (od, kvs), d), r, _, I2, hz (od, kvs), fun v H1 W1 L1 l1 I1 p1 => ?_⟩
    obtain ⟨a2, e2, hrho2, hl2, hH2, t2⟩ := I1.cellF (v := .ref ad) (.hnd (l1.rho _ _ hrho)) (List.getElem?_set_self hlt)
    cases e2
    refine ⟨hH2, ?_⟩
    have I3 := I1.updK (κ' := kT) (d' := d) (o := .dT (toT kvs)) hrho2 (List.getElem?_set_self hlt) hl2 (fun xs z => by rw [hH2] at z; cases z) (fun F' e => ⟨ad, kvs, rfl, e, t2⟩)
    rw [List.set_set, list_set_same (lookW_some hd)] at I3
    refine k v _ W1 L1 l1 I3 ?_
    cases r with
    | sh d' => exact p1
    | bw i d' => exact p1
    | ow d' =>
      obtain ⟨b, h3, h4, h5, h6, c⟩ := p1
      exact ⟨b, h3, h4, h5, h6, c.mono (.refl W1) fun o ho => by rw [upd_ne (by rintro rfl; rw [hl2] at h4; cases h4)]; exact ho⟩
  · cases ee
noncomputable def iItemsT (τ : Type) [En τ] (h : Sem) : SemIs := fun env st => (h env st).bind fun p => p.1.pin.hnd?.bind fun g => (p.2[g]?).bind fun q => (lF τ p.2 g).bind fun d => (unT d).map fun kds => ((kds.map itD, fun st' => st'[g]? = some q), p.2)
noncomputable def iKeysT (τ : Type) [En τ] (h : Sem) : SemIs := fun env st => (h env st).bind fun p => p.1.pin.hnd?.bind fun g => (p.2[g]?).bind fun q => (lF τ p.2 g).bind fun d => (unT d).map fun kds => ((kds.map kyD, fun st' => st'[g]? = some q), p.2)
theorem toT_get {kvs : List (PK × V)} {i : Nat} {k : List Key} {v : V} (h : (toT kvs)[i]? = some (k, v)) : ∃ p, kvs[i]? = some (p, v) ∧ k = kyT p := by
  unfold toT at h
  rw [List.getElem?_map] at h
  obtain ⟨e, h1, h2⟩ := map2 h
  cases h2
  exact ⟨e.1, h1, rfl⟩
theorem pair_get {K : PySem.W.Frag} {W : Wd} {kvs : List (PK × V)} {kds : List (PK × Kn.D)} (n : kvs.map (·.1) = kds.map (·.1)) (r : RepL K ct W (kvs.map (·.2)) (kds.map (·.2))) {i : Nat} {e : PK × Kn.D} (h : kds[i]? = some e) : ∃ v, kvs[i]? = some (e.1, v) ∧ Rep K ct W v e.2 := by
  obtain ⟨v, h1, h2⟩ := r.get (i := i) (d := e.2) (by rw [List.getElem?_map, h]; rfl)
  rw [List.getElem?_map] at h1
  obtain ⟨p, h3, h4⟩ := map2 h1
  have h5 : (kvs.map (·.1))[i]? = some e.1 := by rw [n, List.getElem?_map, h]; rfl
  rw [List.getElem?_map, h3] at h5
  have h5 : p.1 = e.1 := Option.some.inj h5
  refine ⟨v, ?_, h2⟩
  rw [h3, ← h5, ← h4]
theorem wk_itemsT {K : PySem.W.Frag} {W0 : Wd} {ad : Addr} {g : Nat} {z : Obj × List (PK × V)} {d : Kn.D} {kds : List (PK × Kn.D)} (h : Rep K ct W0 (.ref ad) (.hnd g)) (hd : unT d = some kds) : WkS K ct (Itit ad z.1 (toT z.2)) W0 (kds.map itD) fun st => st[g]? = some (kF z, d) := by
  intro F W L env st σ H i le I hG
  obtain ⟨a', e, _, _, hH, t⟩ := I.cellF (Rep.mono le h) hG
  cases e
  obtain ⟨kds', rfl, n, r⟩ := t.ex
  rw [unT_en] at hd
  cases hd
  have hlen : z.2.length = kds.length := by
    have := congrArg List.length n
    rw [List.length_map, List.length_map] at this
    exact this
  have hlt : (toT z.2).length = kds.length := by unfold toT; rw [List.length_map, hlen]
  refine ⟨fun dd hdd => ?_, fun hi => ⟨hH, by rw [hlt]; rw [List.length_map] at hi; exact hi⟩⟩
  rw [List.getElem?_map] at hdd
  obtain ⟨e, he, rfl⟩ := map2 hdd
  obtain ⟨v, hv, hr⟩ := pair_get n r he
  refine ⟨⟨hH, by rw [hlt]; exact (List.getElem?_eq_some_iff.mp he).1⟩, fun x H' ⟨T, k, w, q, e1, e2, e3, e4, e5⟩ => ?_⟩
  obtain ⟨p, e6, rfl⟩ := toT_get e1
  rw [hv] at e6
  cases e6
  subst e2 e5
  obtain ⟨le2, I2, htp⟩ := I.shareT e4
  have rq : Rep K ct (W.addT q ((kyT e.1).map kV)) (.ref q) (.tup [.int e.1.1, .int e.1.2]) := .tup htp (.cons (.int _) (.cons (.int _) .nil))
  obtain ⟨W', L', l3, I3, r3⟩ := tup_new I2 e3 (.cons rq (.cons (hr.mono le2) .nil))
  exact ⟨W', L', le2.trans l3, I3, r3⟩
theorem wk_keysT {K : PySem.W.Frag} {W0 : Wd} {ad : Addr} {g : Nat} {z : Obj × List (PK × V)} {d : Kn.D} {kds : List (PK × Kn.D)} (h : Rep K ct W0 (.ref ad) (.hnd g)) (hd : unT d = some kds) : WkS K ct (Itkt ad z.1 (toT z.2)) W0 (kds.map kyD) fun st => st[g]? = some (kF z, d) := by
  intro F W L env st σ H i le I hG
  obtain ⟨a', e, _, _, hH, t⟩ := I.cellF (Rep.mono le h) hG
  cases e
  obtain ⟨kds', rfl, n, r⟩ := t.ex
  rw [unT_en] at hd
  cases hd
  have hlen : z.2.length = kds.length := by
    have := congrArg List.length n
    rw [List.length_map, List.length_map] at this
    exact this
  have hlt : (toT z.2).length = kds.length := by unfold toT; rw [List.length_map, hlen]
  refine ⟨fun dd hdd => ?_, fun hi => ⟨hH, by rw [hlt]; rw [List.length_map] at hi; exact hi⟩⟩
  rw [List.getElem?_map] at hdd
  obtain ⟨e, he, rfl⟩ := map2 hdd
  obtain ⟨v, hv, hr⟩ := pair_get n r he
  refine ⟨⟨hH, by rw [hlt]; exact (List.getElem?_eq_some_iff.mp he).1⟩, fun x H' ⟨e5, k, w, q, e1, e2, e4⟩ => ?_⟩
  obtain ⟨p, e6, rfl⟩ := toT_get e1
  rw [hv] at e6
  cases e6
  subst e2 e5
  obtain ⟨le2, I2, htp⟩ := I.shareT e4
  exact ⟨_, L, le2, I2, .tup htp (.cons (.int _) (.cons (.int _) .nil))⟩
theorem si_itemsT (τ : Type) [En τ] {apos cpos tpos : Pos} {elts : List Expr} {kk : Nat} (ha : SE X ct x a) (hbase : attributeBase x "items" X.env (eval x X.env) = eval x X.env := by rfl) (hline : (apos.endLine == cpos.line) = true := by rfl) :
    SIs X ct (.Tuple elts kk tpos) (.Call (.Attribute x "items" apos) [] [] cpos) (iItemsT τ a) := by
  refine ⟨pi_monoS (pi_itemsT ha.pe hbase hline) fun σ H RR ⟨F, W, L, env, st, ds, G, st', I, e, k⟩ => ?_⟩
  obtain ⟨⟨r1, st1⟩, h1, e⟩ := bind2 e
  obtain ⟨g, hr, e⟩ := bind2 e
  obtain ⟨q, hq, e⟩ := bind2 e
  obtain ⟨d, hd, e⟩ := bind2 e
  obtain ⟨kds, hk, e⟩ := map2 e
  cases e
  obtain ⟨z, hz⟩ := lookF_some (lF_look hd)
  dsimp only at hq hz
  rw [hz] at hq
  cases hq
  refine ⟨F, W, L, env, st, r1, _, I, h1, fun v H1 W1 L1 l1 I1 p1 => ?_⟩
  obtain ⟨W1', m1, J1, q1⟩ := I1.pin p1
  rw [show r1.pin = _ from R.hnd_eq hr] at q1
  have q1 : Rep X.K ct W1' v (.hnd g) := q1
  obtain ⟨a', rfl, _, _, hH, t⟩ := J1.cellF q1 hz
  exact ⟨a', z.1, toT z.2, rfl, hH, k _ H1 W1' L1 (l1.trans m1) J1 (wk_itemsT q1 hk)⟩
theorem si_keysT (τ : Type) [En τ] (ha : SE X ct x a) : SIs X ct tg x (iKeysT τ a) := by
  refine ⟨pi_monoS (pi_keys ha.pe) fun σ H RR ⟨F, W, L, env, st, ds, G, st', I, e, k⟩ => ?_⟩
  obtain ⟨⟨r1, st1⟩, h1, e⟩ := bind2 e
  obtain ⟨g, hr, e⟩ := bind2 e
  obtain ⟨q, hq, e⟩ := bind2 e
  obtain ⟨d, hd, e⟩ := bind2 e
  obtain ⟨kds, hk, e⟩ := map2 e
  cases e
  obtain ⟨z, hz⟩ := lookF_some (lF_look hd)
  dsimp only at hq hz
  rw [hz] at hq
  cases hq
  refine ⟨F, W, L, env, st, r1, _, I, h1, fun v H1 W1 L1 l1 I1 p1 => ?_⟩
  obtain ⟨W1', m1, J1, q1⟩ := I1.pin p1
  rw [show r1.pin = _ from R.hnd_eq hr] at q1
  have q1 : Rep X.K ct W1' v (.hnd g) := q1
  obtain ⟨a', rfl, _, _, hH, t⟩ := J1.cellF q1 hz
  exact ⟨a', z.1, rfl, .inr ⟨toT z.2, hH, k _ H1 W1' L1 (l1.trans m1) J1 (wk_keysT q1 hk)⟩⟩
end
/-! ### typed -/
open En
structure Dt (β : Type) where
  l : List (Tp2 (Tp2 Int Int) β)
instance {β : Type} [En β] : En (Dt β) := ⟨fun d => .lst (d.l.map en)⟩
section
variable {α β γ ρ τ μ : Type} [En α] [En β] [En γ]
variable {k k1 k2 k3 : Kx} {env env' : List Kn.Slot} {st sz : Sto} {e a b c h ix : Sem} {i j n : Nat} {as : SemA} {ds : List D}
variable {fn : Bool} {enc : τ → Outs} {f g s1 : SemS} {t t1 t2 : Option τ} {z : τ}
def kdsOf (d : Dt β) : List (PK × D) := d.l.map fun e => ((e.x0.x0, e.x0.x1), en e.x1)
theorem en_dt (d : Dt β) : en d = enT (kdsOf d) := by
  show D.lst (d.l.map en) = D.lst ((d.l.map _).map itD)
  rw [List.map_map]; rfl
open Classical in
noncomputable def getT [En α] (st : Sto) (g : Nat) : Option α := if h : ∃ x : α, lookT st g = some (en x) then some (choose h) else none
open Classical in
noncomputable def getW [En α] (st : Sto) (g : Nat) : Option α := if h : ∃ x : α, lookW st g = some (en x) then some (choose h) else none
theorem getT_look {st : Sto} {g : Nat} {x : α} (h : getT st g = some x) : lookT st g = some (en x) := by
  unfold getT at h
  split at h
  · rename_i q
    cases h
    exact Classical.choose_spec q
  · cases h
theorem getW_look {st : Sto} {g : Nat} {x : α} (h : getW st g = some x) : lookW st g = some (en x) := by
  unfold getW at h
  split at h
  · rename_i q
    cases h
    exact Classical.choose_spec q
  · cases h
theorem lT_get (st : Sto) (g : Nat) : lT α st g = (getT (α := α) st g).map en := by
  unfold lT getT
  by_cases h : ∃ x : α, lookT st g = some (en x)
  · rw [dif_pos h]
    have e := Classical.choose_spec h
    generalize Classical.choose h = c0 at e
    rw [e]
    exact if_pos ⟨_, rfl⟩
  · rw [dif_neg h]
    cases q : lookT st g with
    | none => rfl
    | some c => exact if_neg fun ⟨x, e⟩ => h ⟨x, by rw [q, e]⟩
theorem lW_get (st : Sto) (g : Nat) : lW α st g = (getW (α := α) st g).map en := by
  unfold lW getW
  by_cases h : ∃ x : α, lookW st g = some (en x)
  · rw [dif_pos h]
    have e := Classical.choose_spec h
    generalize Classical.choose h = c0 at e
    rw [e]
    exact if_pos ⟨_, rfl⟩
  · rw [dif_neg h]
    cases q : lookW st g with
    | none => rfl
    | some c => exact if_neg fun ⟨x, e⟩ => h ⟨x, by rw [q, e]⟩
def valT (d : Dt β) (k : Tp2 Int Int) : Option β := (d.l.find? fun e => decide (e.x0 = k)).map (·.x1)
def putT (d : Dt β) (k : Tp2 Int Int) (v : β) : Dt β := ⟨if (d.l.any fun e => decide (e.x0 = k)) = true then d.l.map fun e => if e.x0 = k then ⟨e.x0, v⟩ else e else d.l ++ [⟨k, v⟩]⟩
theorem pk_iff (a k : Tp2 Int Int) : ((a.x0, a.x1) : PK) = (k.x0, k.x1) ↔ a = k := by
  obtain ⟨a0, a1⟩ := a; obtain ⟨k0, k1⟩ := k
  constructor
  · intro h; cases h; rfl
  · intro h; cases h; rfl
theorem getK_val (k : Tp2 Int Int) (d : Dt β) : getK (kdsOf d) (k.x0, k.x1) = (valT d k).map en := by
  obtain ⟨l⟩ := d
  unfold getK valT kdsOf
  dsimp only
  induction l with
  | nil => rfl
  | cons e l ih =>
    rw [List.map_cons, List.find?_cons, List.find?_cons]
    dsimp only
    by_cases q : e.x0 = k
    · rw [decide_eq_true ((pk_iff _ _).mpr q), decide_eq_true q]; rfl
    · rw [decide_eq_false (fun z => q ((pk_iff _ _).mp z)), decide_eq_false q]; exact ih
theorem put_kds (k : Tp2 Int Int) (v : β) (d : Dt β) : kdsOf (putT d k v) = putKT (kdsOf d) (k.x0, k.x1) (en v) := by
  obtain ⟨l⟩ := d
  unfold putT putKT kdsOf
  dsimp only
  have e : ((l.map fun e => (((e.x0.x0, e.x0.x1) : PK), en e.x1)).any fun e => decide (e.1 = (k.x0, k.x1))) = l.any fun e => decide (e.x0 = k) := by
    rw [List.any_map]
    congr 1
    funext e
    exact decide_eq_decide.mpr (pk_iff _ _)
  rw [e]
  split
  · rw [List.map_map, List.map_map]
    refine List.map_congr_left fun e _ => ?_
    show (((if e.x0 = k then (⟨e.x0, v⟩ : Tp2 (Tp2 Int Int) β) else e).x0.x0, (if e.x0 = k then (⟨e.x0, v⟩ : Tp2 (Tp2 Int Int) β) else e).x0.x1), en (if e.x0 = k then (⟨e.x0, v⟩ : Tp2 (Tp2 Int Int) β) else e).x1) = if ((e.x0.x0, e.x0.x1) : PK) = (k.x0, k.x1) then ((e.x0.x0, e.x0.x1), en v) else ((e.x0.x0, e.x0.x1), en e.x1)
    by_cases q : e.x0 = k
    · rw [if_pos q, if_pos ((pk_iff _ _).mpr q)]
    · rw [if_neg q, if_neg (fun z => q ((pk_iff _ _).mp z))]
  · rw [List.map_append]; rfl
variable {tx : Option (Hd (Dt β))} {ty : Option (Tp2 Int Int)}
theorem keyT_en (k : Tp2 Int Int) : keyT (en k) = some (k.x0, k.x1) := rfl
theorem ev_Dk {ff : Option D → Option R} {G : Option β → Option γ} (hG : ∀ o : Option β, ff (o.map en) = (G o).map fun v => k.r (en v)) (ha : Ev .sh a env st tx) (hb : Ev k2 b env st ty) : Ev k (eDk (Dt β) ff a b) env st (tx.bind fun x => ty.bind fun y => (getT (α := Dt β) st x.g).bind fun d => G (valT d y)) := by
  unfold Ev at ha hb; unfold Ev eDk
  rw [ha]
  cases tx with
  | none => rfl
  | some x =>
    show ((b env st).bind _) = _
    rw [hb]
    cases ty with
    | none => rfl
    | some y =>
      show ((lT (Dt β) st x.g).bind fun d => (unT d).bind fun kds => (keyT (k2.r (en y)).pin.d).bind fun k => (ff (getK kds k)).map fun r => (r, st)) = ((getT (α := Dt β) st x.g).bind fun d => G (valT d y)).map _
      rw [lT_get, Kx.pind, keyT_en]
      cases getT (α := Dt β) st x.g with
      | none => rfl
      | some d =>
        show ((unT (en d)).bind fun kds => (some (y.x0, y.x1)).bind fun k => (ff (getK kds k)).map fun r => (r, st)) = (G (valT d y)).map _
        rw [en_dt, unT_en]
        show ((ff (getK (kdsOf d) (y.x0, y.x1))).map fun r => (r, st)) = _
        rw [getK_val, hG, Option.map_map]; rfl
theorem ev_idxT (ha : Ev .sh a env st tx) (hb : Ev k2 b env st ty) : Ev .sh (eDk (Dt β) fIxT a b) env st (tx.bind fun x => ty.bind fun y => (getT (α := Dt β) st x.g).bind fun d => valT d y) := ev_Dk (k := .sh) (G := fun o => o) (fun o => by cases o <;> rfl) ha hb
theorem ev_Kd {ff : Option D → Option R} {G : Option β → Option γ} (hG : ∀ o : Option β, ff (o.map en) = (G o).map fun v => k.r (en v)) (hb : Ev k2 b env st ty) (ha : Ev .sh a env st tx) : Ev k (eKd (Dt β) ff b a) env st (ty.bind fun y => tx.bind fun x => (getT (α := Dt β) st x.g).bind fun d => G (valT d y)) := by
  unfold Ev at ha hb; unfold Ev eKd
  rw [hb]
  cases ty with
  | none => rfl
  | some y =>
    show ((a env st).bind _) = _
    rw [ha]
    cases tx with
    | none => rfl
    | some x =>
      show ((lT (Dt β) st x.g).bind fun d => (unT d).bind fun kds => (keyT (k2.r (en y)).pin.d).bind fun k => (ff (getK kds k)).map fun r => (r, st)) = ((getT (α := Dt β) st x.g).bind fun d => G (valT d y)).map _
      rw [lT_get, Kx.pind, keyT_en]
      cases getT (α := Dt β) st x.g with
      | none => rfl
      | some d =>
        show ((unT (en d)).bind fun kds => (some (y.x0, y.x1)).bind fun k => (ff (getK kds k)).map fun r => (r, st)) = (G (valT d y)).map _
        rw [en_dt, unT_en]
        show ((ff (getK (kdsOf d) (y.x0, y.x1))).map fun r => (r, st)) = _
        rw [getK_val, hG, Option.map_map]; rfl
theorem ev_inT (hb : Ev k2 b env st ty) (ha : Ev .sh a env st tx) : Ev .sh (eKd (Dt β) (fInT false) b a) env st (ty.bind fun y => tx.bind fun x => (getT (α := Dt β) st x.g).bind fun d => some (valT d y).isSome) := ev_Kd (k := .sh) (G := fun o => some o.isSome) (fun o => by cases o <;> rfl) hb ha
theorem ev_ninT (hb : Ev k2 b env st ty) (ha : Ev .sh a env st tx) : Ev .sh (eKd (Dt β) (fInT true) b a) env st (ty.bind fun y => tx.bind fun x => (getT (α := Dt β) st x.g).bind fun d => some (!(valT d y).isSome)) := ev_Kd (k := .sh) (G := fun o => some (!o.isSome)) (fun o => by cases o <;> rfl) hb ha
theorem ev_getT1 (ha : Ev .sh a env st tx) (hb : Ev k2 b env st ty) : Ev .sh (eDk1 (Dt β) a b) env st (tx.bind fun x => (getT (α := Dt β) st x.g).bind fun _ => ty.bind fun y => (getT (α := Dt β) st x.g).bind fun d => some (valT d y)) := by
  unfold Ev at ha hb; unfold Ev eDk1
  rw [ha]
  cases tx with
  | none => rfl
  | some x =>
    show ((lT (Dt β) st x.g).bind _) = ((getT (α := Dt β) st x.g).bind fun _ => ty.bind fun y => (getT (α := Dt β) st x.g).bind fun d => some (valT d y)).map _
    rw [lT_get]
    cases hx : getT (α := Dt β) st x.g with
    | none => rfl
    | some d0 =>
      show ((b env st).bind _) = _
      rw [hb]
      cases ty with
      | none => rfl
      | some y =>
        show ((lT (Dt β) st x.g).bind fun d => (unT d).bind fun kds => (keyT (k2.r (en y)).pin.d).bind fun k => (fGtT (getK kds k)).map fun r => (r, st)) = _
        rw [lT_get, Kx.pind, keyT_en, hx]
        show ((unT (en d0)).bind fun kds => (some (y.x0, y.x1)).bind fun k => (fGtT (getK kds k)).map fun r => (r, st)) = _
        rw [en_dt, unT_en]
        show ((fGtT (getK (kdsOf d0) (y.x0, y.x1))).map fun r => (r, st)) = _
        rw [getK_val]
        simp only [Option.bind_some, hx]
        cases valT d0 y <;> rfl
noncomputable def newT (β : Type) [En β] (st : Sto) : Hd (Dt β) × Sto := (⟨st.length⟩, st ++ [(kT, en (⟨[]⟩ : Dt β))])
theorem evx_newT : Evx .sh eNewT env st (some (newT β st)) := rfl
open Classical in
noncomputable def setT (st : Sto) (y : Hd (Dt β)) (j : Tp2 Int Int) (v : β) : Option Sto := (getW (α := Dt β) st y.g).bind fun d => if d.l.length < sizeLine then some (st.set y.g (kT, en (putT d j v))) else none
theorem setT_of {st : Sto} {y : Hd (Dt β)} {d : Dt β} (j : Tp2 Int Int) (v : β) (h : getW st y.g = some d) (hl : d.l.length ≤ 1000) : setT st y j v = some (st.set y.g (kT, en (putT d j v))) := by
  unfold setT; rw [h]; exact if_pos (x_sz2 hl)
open Classical in
theorem ru_setT {th : Option (Hd (Dt β))} {tv : Option β} {ti : Option (Tp2 Int Int)} {T : Sto → Option τ} (he : Ev k e env st tv) (hk : k.ok = true) (hh : Ev .sh h env st th) (hi : Ev k1 ix env st ti) (hr : ∀ st1, Ru fn enc g env st1 (T st1)) : Ru fn enc (sSeq (sSetT (Dt β) h ix e) g) env st (tv.bind fun v => th.bind fun y => ti.bind fun j => (setT st y j v).bind T) := by
  unfold Ev at he hh hi
  unfold Ru
  rw [x_seq]
  unfold sSetT
  rw [he]
  cases tv with
  | none => rfl
  | some v =>
    show ((((h env st).bind _).bind _ : Option Outs).map _) = _
    rw [hh]
    cases th with
    | none => rfl
    | some y =>
      show ((((ix env st).bind _).bind _ : Option Outs).map _) = _
      rw [hi]
      cases ti with
      | none => rfl
      | some j =>
        show (((((k.r (en v)).pin.val?).bind fun d => (some y.g).bind fun g => (lW (Dt β) st g).bind fun c => (unT c).bind fun kds => (keyT (k1.r (en j)).pin.d).bind fun k => if kds.length < sizeLine then some (Out.nx, env, st.set g (kT, enT (putKT kds k d))) else none).bind _ : Option Outs).map _) = _
        rw [Kx.pin hk]
        show ((((lW (Dt β) st y.g).bind fun c => (unT c).bind fun kds => (keyT (k1.r (en j)).pin.d).bind fun k => if kds.length < sizeLine then some (Out.nx, env, st.set y.g (kT, enT (putKT kds k (en v)))) else none).bind _ : Option Outs).map _) = ((setT st y j v).bind T).map _
        rw [lW_get, Kx.pind, keyT_en]
        unfold setT
        cases getW (α := Dt β) st y.g with
        | none => rfl
        | some d =>
          show ((((unT (en d)).bind fun kds => (some (j.x0, j.x1)).bind fun k => if kds.length < sizeLine then some (Out.nx, env, st.set y.g (kT, enT (putKT kds k (en v)))) else none).bind _ : Option Outs).map _) = (((if d.l.length < sizeLine then some (st.set y.g (kT, en (putT d j v))) else none).bind T).map _)
          rw [en_dt, unT_en]
          show (((if (kdsOf d).length < sizeLine then some (Out.nx, env, st.set y.g (kT, enT (putKT (kdsOf d) (j.x0, j.x1) (en v)))) else none).bind _ : Option Outs).map _) = _
          rw [← put_kds, ← en_dt, show (kdsOf d).length = d.l.length from List.length_map ..]
          by_cases hz : d.l.length < sizeLine
          · rw [if_pos hz, if_pos hz]
            exact hr _
          · rw [if_neg hz, if_neg hz]; rfl
/-- what reads alike -/
structure Szo (st sz : Sto) : Prop where
  S : ∀ {α : Type} [En α] (g : Nat), getS (α := α) sz g = getS st g
  T : ∀ {α : Type} [En α] (g : Nat), getT (α := α) sz g = getT st g
theorem Szo.refl (st : Sto) : Szo st st := ⟨fun _ => rfl, fun _ => rfl⟩
open Classical in
theorem Szo.lock {g : Nat} {d : D} (h : lookW st g = some d) (z) : Szo st (st.set g (kF z, d)) := by
  have hlt : g < st.length := (List.getElem?_eq_some_iff.mp (lookW_some h)).1
  have l1 : ∀ g', lookS (st.set g (kF z, d)) g' = lookS st g' := fun g' => by
    unfold lookS
    by_cases q : g = g'
    · subst q
      rw [List.getElem?_set_self hlt, lookW_some h]
      show (if kF z = kC then _ else _) = (if kT = kC then _ else _)
      rw [if_neg (kF_ne z), if_neg kT_ne]
    · rw [List.getElem?_set_ne q]
  have l2 : ∀ g', lookT (st.set g (kF z, d)) g' = lookT st g' := fun g' => by
    by_cases q : g = g'
    · subst q
      rw [lookT_ofF (List.getElem?_set_self hlt), lookT_of (lookW_some h)]
    · unfold lookT
      rw [List.getElem?_set_ne q]
  refine ⟨fun {α} _ g' => ?_, fun {α} _ g' => ?_⟩
  · unfold getS; rw [l1]
  · unfold getT; rw [l2]
theorem evEq {t t' : Option α} (e1 : t = t') (h : Ev k e env st t) : Ev k e env st t' := by rw [← e1]; exact h
theorem ev_lock {th : Option (Hd (Dt β))} {t : Hd (Dt β) → Dt β → Option γ} (hh : Ev .sh h env st th) (he : ∀ x d, th = some x → getW st x.g = some d → ∀ z, Ev k e env (st.set x.g (kF z, en d)) (t x d)) : Ev k (eLock (Dt β) h e) env st (th.bind fun x => (getW (α := Dt β) st x.g).bind fun d => t x d) := by
  unfold Ev at hh; unfold Ev eLock
  rw [hh]
  cases th with
  | none => rfl
  | some x =>
    show ((lW (Dt β) st x.g).bind fun d => _) = _
    rw [lW_get]
    cases hw : getW (α := Dt β) st x.g with
    | none => simp [hw]
    | some d =>
      have he := he x d rfl hw
      unfold Ev at he
      simp only [hw, Option.bind_some, Option.map_some]
      cases ht : t x d with
      | none =>
        rw [ht] at he
        have : ¬ ∃ r, ∀ z, e env (st.set x.g (kF z, en d)) = some (r, st.set x.g (kF z, en d)) := fun ⟨r, h⟩ => by
          have h1 := h ({ cls := .none, data := .fields #[] }, [])
          rw [he] at h1; cases h1
        rw [dif_neg this]; rfl
      | some y =>
        rw [ht] at he
        have hr : ∃ r, ∀ z, e env (st.set x.g (kF z, en d)) = some (r, st.set x.g (kF z, en d)) := ⟨k.r (en y), fun z => he z⟩
        rw [dif_pos hr]
        have h1 := Classical.choose_spec hr ({ cls := .none, data := .fields #[] }, [])
        rw [he] at h1
        have h1 := (Prod.mk.inj (Option.some.inj h1)).1
        show some (Classical.choose hr, st) = some (k.r (en y), st)
        rw [← h1]
open Classical in
theorem lF_at {g : Nat} {d : Dt β} {z} (hl : g < st.length) : lF (Dt β) (st.set g (kF z, en d)) g = some (en d) := by
  unfold lF lookF
  rw [List.getElem?_set_self hl]
  show ((if ∃ z', kF z = kF z' then some (en d) else none).bind (chk (Dt β))) = _
  rw [if_pos ⟨z, rfl⟩]
  exact if_pos ⟨d, rfl⟩
theorem eis_itemsT {x : Hd (Dt β)} {d : Dt β} {z} (hw : getW st x.g = some d) (hh : Ev .sh h env (st.set x.g (kF z, en d)) (some x)) : EvIs (iItemsT (Dt β) h) env (st.set x.g (kF z, en d)) (some d.l) := by
  have hlt : x.g < st.length := (List.getElem?_eq_some_iff.mp (lookW_some (getW_look hw))).1
  refine ⟨fun _ s => s[x.g]? = some (kF z, en d), fun l _ => List.getElem?_set_self hlt, ?_⟩
  unfold Ev at hh; unfold iItemsT
  rw [hh]
  show (((st.set x.g (kF z, en d))[x.g]?).bind fun q => (lF (Dt β) (st.set x.g (kF z, en d)) x.g).bind fun d => (unT d).map fun kds => ((kds.map itD, fun st' => st'[x.g]? = some q), st.set x.g _)) = _
  rw [List.getElem?_set_self hlt, lF_at hlt, Option.bind_some, Option.bind_some, en_dt, unT_en]
  show some (((kdsOf d).map itD, _), _) = some ((d.l.map en, _), _)
  have : (kdsOf d).map itD = d.l.map en := by unfold kdsOf; rw [List.map_map]; rfl
  rw [this]
theorem eis_keysT {x : Hd (Dt β)} {d : Dt β} {z} (hw : getW st x.g = some d) (hh : Ev .sh h env (st.set x.g (kF z, en d)) (some x)) : EvIs (iKeysT (Dt β) h) env (st.set x.g (kF z, en d)) (some (d.l.map (·.x0))) := by
  have hlt : x.g < st.length := (List.getElem?_eq_some_iff.mp (lookW_some (getW_look hw))).1
  refine ⟨fun _ s => s[x.g]? = some (kF z, en d), fun l _ => List.getElem?_set_self hlt, ?_⟩
  unfold Ev at hh; unfold iKeysT
  rw [hh]
  show (((st.set x.g (kF z, en d))[x.g]?).bind fun q => (lF (Dt β) (st.set x.g (kF z, en d)) x.g).bind fun d => (unT d).map fun kds => ((kds.map kyD, fun st' => st'[x.g]? = some q), st.set x.g _)) = _
  rw [List.getElem?_set_self hlt, lF_at hlt, Option.bind_some, Option.bind_some, en_dt, unT_en]
  show some (((kdsOf d).map kyD, _), _) = some (((d.l.map (·.x0)).map en, _), _)
  have : (kdsOf d).map kyD = (d.l.map (·.x0)).map en := by unfold kdsOf; rw [List.map_map, List.map_map]; rfl
  rw [this]
/-- the whole of a comprehension over a dict's items -/
theorem ev_lcI {th : Option (Hd (Dt β))} {vs : List Nat} {g : SemG} {tc : Tp2 (Tp2 Int Int) β → Option Bool} {ta : Tp2 (Tp2 Int Int) β → Option γ} {en1 : Tp2 (Tp2 Int Int) β → List Kn.Slot} (hh : ∀ sz, Szo st sz → Ev .sh h env sz th) (hv : vs.all (fun j => (env[j]?.map Slot.okW).getD true) = true) (hg : ∀ x, g (en x) (wipeE env vs) = some (en1 x)) (hc : ∀ sz, Szo st sz → ∀ x, Ev .sh c (en1 x) sz (tc x)) (ha : ∀ sz, Szo st sz → ∀ x, Ev k a (en1 x) sz (ta x)) (hk : k.ok = true) :
    Ev .ow (eLock (Dt β) h (eLcS (iItemsT (Dt β) h) vs g c a)) env st (th.bind fun x => (getW (α := Dt β) st x.g).bind fun d => (lcT tc ta d.l).bind szG) :=
  ev_lock (hh st (.refl st)) fun x d hx hw z => by
    have zo := Szo.lock (getW_look hw) z
    have hi := eis_itemsT (z := z) hw (by rw [← hx]; exact hh _ zo)
    exact ev_lcs hi hv hg (hc _ zo) (ha _ zo) hk
theorem ev_lcK {th : Option (Hd (Dt β))} {vs : List Nat} {g : SemG} {tc : Tp2 Int Int → Option Bool} {ta : Tp2 Int Int → Option γ} {en1 : Tp2 Int Int → List Kn.Slot} (hh : ∀ sz, Szo st sz → Ev .sh h env sz th) (hv : vs.all (fun j => (env[j]?.map Slot.okW).getD true) = true) (hg : ∀ x : Tp2 Int Int, g (en x) (wipeE env vs) = some (en1 x)) (hc : ∀ sz, Szo st sz → ∀ x, Ev .sh c (en1 x) sz (tc x)) (ha : ∀ sz, Szo st sz → ∀ x, Ev k a (en1 x) sz (ta x)) (hk : k.ok = true) :
    Ev .ow (eLock (Dt β) h (eLcS (iKeysT (Dt β) h) vs g c a)) env st (th.bind fun x => (getW (α := Dt β) st x.g).bind fun d => (lcT tc ta (d.l.map (·.x0))).bind szG) :=
  ev_lock (hh st (.refl st)) fun x d hx hw z => by
    have zo := Szo.lock (getW_look hw) z
    have hi := eis_keysT (z := z) hw (by rw [← hx]; exact hh _ zo)
    exact ev_lcs hi hv hg (hc _ zo) (ha _ zo) hk
end
end Kn
namespace Kn
open PySem L2
/-! ### tuples one behind the other; zip -/
open En
section
variable {α β γ δ : Type} [En α] [En β] [En γ] [En δ]
variable {k k1 k2 : Kx} {env : List Kn.Slot} {st : Sto} {a b : Sem}
def tcat21 (x : Tp2 α β) (y : Tp1 γ) : Tp3 α β γ := ⟨x.x0, x.x1, y.x0⟩
theorem o2_tcat21 : Op2t (α := Tp2 α β) (β := Tp1 γ) .sh fAdd tcat21 := fun x y => by
  show (if ([en x.x0, en x.x1] : List D).length + ([en y.x0] : List D).length ≤ sizeLine then some (Kn.R.sh (.tup ([en x.x0, en x.x1] ++ [en y.x0]))) else none) = _
  have hz : ([en x.x0, en x.x1] : List D).length + ([en y.x0] : List D).length ≤ sizeLine := Nat.le_trans (show (3 : Nat) ≤ 1000 from by decide) (by decide)
  rw [if_pos hz]; rfl
theorem ei_zipx {tl : Option (List α)} {tm : Option (List β)} (ha : Ev k1 a env st tl) (hk : k1.ok = true) (hb : Ev k2 b env st tm) (hk2 : k2.ok = true) : EvI (iZip' a b) env st (tl.bind fun l => tm.bind fun m => some (zipT l m)) := by
  cases tl with
  | none =>
    unfold Ev at ha; unfold EvI
    rw [x_zip, ha]; rfl
  | some l =>
    cases tm with
    | none =>
      unfold Ev at ha hb; unfold EvI
      rw [x_zip, ha]
      show ((k1.r (.lst (l.map en))).sh?.bind fun d => d.seqL.bind fun ds => (b env st).bind fun q => q.1.sh?.bind fun e => e.seqL.map fun es => (zipD ds es, q.2)) = _
      rw [Kx.sh? hk, hb]; rfl
    | some m => exact ei_zip ha hk hb hk2
end
end Kn
namespace Kn
open PySem L2
/-! ### a class under a class -/
section
variable {X : Cx} {ct : CT} {x y : Expr} {a b e : Sem} {as : SemA} {pos p apos npos cpos : Pos} {c f m n : Str} {C : Addr} {ns : List Str} {es : List Expr}
theorem pe_or {e : Expr} {t1 t2 : TE} (h1 : PE X e t1) (h2 : PE X e t2) : PE X e (fun σ H Q => t1 σ H Q ∨ t2 σ H Q) := ⟨fun pins s σ H Q I h => by
  rcases h with h | h
  · exact h1.run pins s σ H Q I h
  · exact h2.run pins s σ H Q I h⟩
/-- C.m(e, ..), C a class, m a def of it -/
theorem pe_ccall {CX : CXT} {k : Nat} {f mc : Addr} {mcv : Value} {fd : FuncData} {ps : List Str} {sp : Sp} {E : XK} {ta : TE} {t : TA} {pl : PySem.Sem Bool} (he : PE X x ta) (r : ClX.CRead X.K C mcv) (kv : ClX.CVal X.K C mcv m (.ref f) (.ref f)) (kp : PySem.W.keepIn X.K (.ref f) = true) (F : FnOk X.prog X.w X.K X.mg X.base CX k f fd ps sp) (hr : Room k X.A) (hb : Binds X.K fd ps []) (hx : Passes CX X E) (ha : PA X (y :: es) t)
    (hst : starEach (y :: es) X.env = (false, eval y X.env) :: starEach es X.env := by rfl) (hpl : (backTo pos (starEach es X.env)).any (·.1) = false := by rfl)
    (ht : eval (.Call (.Attribute x m apos) (y :: es) [] pos) X.env = (do
      let ov ← eval x X.env
      standAt apos.atName
      let (f, first) ← holding [ov] (getMethod ov m pl)
      callWith pos f first (backTo pos (starEach (y :: es) X.env)) (backToKw pos (keywordEach [] X.env))) := by rfl) :
    PE X (.Call (.Attribute x m apos) (y :: es) [] pos) (fun σ H Q => ta σ H fun v H1 => v = .ref C ∧ t σ H1 fun vs H2 => sp vs H2 Q E) := by
  refine ⟨fun pins s σ H Q I h => ?_⟩
  refine PySem.W.methodCall_KW (pl := pl) (thn (he.run pins s σ H _ I h) fun u s1 ⟨v, H1, I1, rx, ex, q⟩ => ?_) ht
  subst ex
  obtain rfl : u = Value.ref C := rx
  refine PySem.W.method_cls I1.kIn r.ga (ClX.getcval_ok I1 r kv fun s2 I2 => ?_)
  refine PySem.W.callWith_K (first := []) (h₀ := X.base) I.ok.mod.kin kp (thn (ha.run pos pins s2 σ H1 _ I2 q) fun us s3 ⟨vs, H2, I3, r2, q2⟩ => ⟨I3.kIn, ?_⟩) hst hpl
  exact run_fn (ds := []) (dvs := []) F hr hb .nil hx I3 r2 (by rw [List.append_nil]; exact q2)
end
def spFK (K : PySem.W.Frag) (f : Str) : Sp := fun vs H Q _ => ∃ a C dx fs v, vs = [.ref a, v] ∧ H a = some (.ins C dx fs) ∧ Cls K C ∧ NoAttr K C f ∧ fs.length < 1000 ∧ Q .non (upd H a (.ins C dx (putF f v fs)))
theorem okF {P : Program} {w : World} {K : PySem.W.Frag} {mg : Str → Option Value} {base : Heap} {name qual fl n0 n1 : Str} {st : Stmt} {f : Addr} {fd : FuncData} {p0 p1 p2 p3 : Pos} (F : Fun K name qual st f fd) (S : FnScope [n0, n1] [n0, n1] (defScope st))
    (hbody : defBody st = [.Assign [.Attribute (.Name n0 p0) fl p1] (.Name n1 p2) p3])
    (hv0 : ∀ (X : Cx), X.env.scope = defScope st → Vis X.env.scope n0 ∧ Vis X.env.scope n1)
    (hd0 : (n0 == ("__debug__" : Str)) = false := by decide) (hc0 : (n0 == ("__classdict__" : Str)) = false := by decide) (hd1 : (n1 == ("__debug__" : Str)) = false := by decide) (hc1 : (n1 == ("__classdict__" : Str)) = false := by decide)
    (hsw : ∀ (env : PySem.Env), swapsWith (.Name n1 p2) (some (.Attribute (.Name n0 p0) fl p1)) p3.line env = pure false := by intro _; rfl) :
    FnOk P w K mg base CX0 1 f fd [n0, n1] (spFK K fl) := by
  refine F.ok (k := 0) S (fun vs H Q E h => ?_) (fun cdv A outer s H vs Q E hr h => ?_)
  · obtain ⟨a, C, dx, fs, v, rfl, _⟩ := h; rfl
  · obtain ⟨a, C, dx, fs, v, rfl, h1, h2, h3, h4, h5⟩ := h
    rw [hbody]
    have hv := hv0 (cxOf CX0 P w K mg base [n0, n1] qual (defScope st) f cdv A outer s H E).nox rfl
    refine ⟨_, pss_one (ps_fld (pe_var (i := 0) rfl hv.1 hd0 hc0) (pe_var (i := 1) rfl hv.2 hd1 hc1) (hsw _)), ?_⟩
    exact ⟨v, rfl, .ref a, rfl, a, C, dx, fs, rfl, h1, h2, h3, h4, h5⟩
/-- B.__init__ sets one field -/
structure Sup (P : Program) (w : World) (K : PySem.W.Frag) (mg : Str → Option Value) (base : Heap) (nm fl : Str) (k : Nat) (ps : List Str) : Prop where
  ex : ∃ C mc f fd, mg nm = some (.ref C) ∧ ClX.CRead K C mc ∧ ClX.CVal K C mc "__init__" (.ref f) (.ref f) ∧ PySem.W.keepIn K (.ref f) = true ∧ FnOk P w K mg base CX0 k f fd ps (spFK K fl) ∧ Binds K fd ps []
section
variable {X : Cx} {ct : CT} {x y : Expr} {a b e : Sem} {as : SemA} {pos p apos npos cpos : Pos} {c f m n : Str} {C : Addr} {ns : List Str} {es : List Expr}
/-- B.__init__(self, e), self of one's own -/
theorem ss_sup (i k : Nat) {k0 : Nat} {ps : List Str} {nm : Str} {pn : Pos} {pl : PySem.Sem Bool} (o : Own X.K ct c C ns) (M : Sup X.prog X.w X.K X.mg X.base nm f k0 ps) (hr : Room k0 X.A) (ha : SE X ct x a) (hk : ns[k]? = some f := by rfl) (hz : ns.length < 1000 := by decide)
    (hg : Gl X nm := by rfl) (hdb : (nm == ("__debug__" : Str)) = false := by decide)
    (hN : X.N[i]? = some n := by rfl) (hv : Vis X.env.scope n := by first | exact Or.inl rfl | exact Or.inr (Or.inl rfl) | exact Or.inr (Or.inr rfl)) (hd : (n == ("__debug__" : Str)) = false := by decide) (hcd : (n == ("__classdict__" : Str)) = false := by decide)
    (hst : starEach (.Name n npos :: [x]) X.env = (false, eval (.Name n npos) X.env) :: starEach [x] X.env := by rfl) (hs2 : starEach [x] X.env = (false, eval x X.env) :: starEach [] X.env := by rfl) (hpl : (backTo cpos (starEach [x] X.env)).any (·.1) = false := by rfl)
    (ht : eval (.Call (.Attribute (.Name nm pn) "__init__" apos) (.Name n npos :: [x]) [] cpos) X.env = (do
      let ov ← eval (.Name nm pn) X.env
      standAt apos.atName
      let (f, first) ← holding [ov] (getMethod ov "__init__" pl)
      callWith cpos f first (backTo cpos (starEach (.Name n npos :: [x]) X.env)) (backToKw cpos (keywordEach [] X.env))) := by rfl)
    (hsw : swapsWith (.Call (.Attribute (.Name nm pn) "__init__" apos) [.Name n npos, x] [] cpos) none pos.line X.env = pure false := by rfl) :
    SS X ct (.Expr (.Call (.Attribute (.Name nm pn) "__init__" apos) [.Name n npos, x] [] cpos) pos) (sFldM i c k a) := by
  obtain ⟨CB, mc, fa, fd, hmg, hcr, hcv, hkp, G, hb⟩ := M.ex
  have hvr : PE X (.Name n npos) (tVar i) := pe_var hN hv hd hcd
  refine ⟨ps_mono (ps_expr (pe_ccall (mc := CB) (pe_glob (v := .ref CB) hg hmg rfl hdb) hcr hcv hkp G hr hb pass0 (pa_cons hvr (pa_cons ha.pe pa_nil hs2) hst) hst hpl ht) hsw) fun D σ H ⟨F, W, L, env, st, oo, env', st', I, e, kk⟩ => ?_⟩
  obtain ⟨⟨r1, st1⟩, h1, e⟩ := bind2 e
  obtain ⟨d, ad, ds, hr1, hc, hlen, rfl, rfl, rfl⟩ : ∃ d ad ds, r1.pin = .sh d ∧ env[i]? = some (.me ad (.obj c ds)) ∧ k = ds.length ∧ oo = .nx ∧ env' = env.set i (.me ad (.obj c (ds ++ [d]))) ∧ st' = st1 := by
    clear kk h1
    dsimp only at e
    split at e
    · rename_i d ad c' ds e1 e2
      by_cases hh : c' = c ∧ k = ds.length
      · rw [if_pos hh] at e
        obtain ⟨hc', h2⟩ := hh
        injection e with e
        injection e with z1 e
        injection e with z2 z3
        exact ⟨d, ad, ds, e1, by rw [e2, hc'], h2, z1.symm, by rw [← z2, hc'], z3.symm⟩
      · rw [if_neg hh] at e; cases e
    · cases e
  obtain ⟨s0, _, _⟩ := I.sl i _ hc
  refine ⟨rfl, ⟨_, s0, F, W, L, env, st, r1, _, I, h1, fun v H1 W1 L1 l1 I1 p1 => ?_⟩⟩
  obtain ⟨W1', m1, J1, q1⟩ := I1.pin p1
  rw [hr1] at q1
  have q1 : Rep X.K ct W1' v d := q1
  obtain ⟨s1, s2, cl⟩ := J1.sl i _ hc
  cases cl with
  | obj g hcc hn q =>
    rename_i C' dx fs ns'
    rw [o.at_] at hcc; cases hcc
    have hfl : fs.length = ds.length := by have := q.length; rw [List.length_map] at this; exact this
    have hkn : k < ns.length := (List.getElem?_eq_some_iff.mp hk).1
    have fresh : f ∉ fs.map (·.1) := fun z => by
      rw [hn] at z
      obtain ⟨j, hj, ej⟩ := List.getElem_of_mem z
      rw [List.length_take] at hj
      rw [List.getElem_take] at ej
      have h3 : ns[j]? = some f := by rw [List.getElem?_eq_getElem (by omega), ej]
      have := (List.getElem?_inj (by omega) o.nd).mp (h3.trans hk.symm)
      omega
    refine ⟨ad, C, dx, fs, v, rfl, g, o.cl, o.no f (List.mem_of_getElem? hk), by omega, ?_⟩
    refine kk _ _ _ _ (l1.trans m1) (J1.updMe s1 s2 (fun xs z => by rw [g] at z; cases z) (.obj upd_same o.at_ ?_ ?_))
    · rw [putF_new f v fs fresh, List.map_append, hn]
      have h3 : ns[ds.length]? = some f := by rw [← hlen]; exact hk
      rw [List.length_append]
      show ns.take ds.length ++ [f] = ns.take (ds.length + 1)
      rw [List.take_succ, h3]; rfl
    · rw [putF_new f v fs fresh, List.map_append]
      exact q.append (.cons q1 .nil)
end
/-! ### a method by the class of its object -/
section
variable {X : Cx} {ct : CT} {x y : Expr} {a b e : Sem} {as : SemA} {pos p apos npos cpos : Pos} {c c1 c2 c3 f m n : Str} {C C1 C2 C3 : Addr} {ns ns1 ns2 ns3 : List Str} {es : List Expr}
def eVirt (n : Nat) (tb : Str → Option Fn) (a : Sem) (as : SemA) : Sem := fun env st => (a env st).bind fun p => match p.1.d with
  | .obj c _ => (tb c).bind fun m => eMeth n c m a as env st
  | _ => none
theorem eVirt_inv {n : Nat} {tb : Str → Option Fn} {env : List Kn.Slot} {st st' : Sto} {r : R} (e : eVirt n tb a as env st = some (r, st')) : ∃ c m, tb c = some m ∧ eMeth n c m a as env st = some (r, st') := by
  obtain ⟨⟨r1, st1⟩, h1, e⟩ := bind2 e
  dsimp only at e
  split at e
  · obtain ⟨m, h2, h3⟩ := bind2 e
    exact ⟨_, m, h2, h3⟩
  · cases e
def tb3 (c1 c2 c3 : Str) (m1 m2 m3 : Fn) : Str → Option Fn := fun c => if c = c1 then some m1 else if c = c2 then some m2 else if c = c3 then some m3 else none
theorem tE_virt3 {K : PySem.W.Frag} {σ : St} {H : Hp} {Q : VK} {m1 m2 m3 : Fn} {n : Nat} (h : tE K ct (eVirt n (tb3 c1 c2 c3 m1 m2 m3) a as) σ H Q) : tE K ct (eMeth n c1 m1 a as) σ H Q ∨ tE K ct (eMeth n c2 m2 a as) σ H Q ∨ tE K ct (eMeth n c3 m3 a as) σ H Q := by
  obtain ⟨F, W, L, env, st, r, st', I, e, k⟩ := h
  obtain ⟨c, m, h1, h2⟩ := eVirt_inv e
  unfold tb3 at h1
  split at h1
  · rename_i q; cases h1; rw [q] at h2; exact .inl ⟨F, W, L, env, st, r, st', I, h2, k⟩
  · split at h1
    · rename_i q; cases h1; rw [q] at h2; exact .inr (.inl ⟨F, W, L, env, st, r, st', I, h2, k⟩)
    · split at h1
      · rename_i q; cases h1; rw [q] at h2; exact .inr (.inr ⟨F, W, L, env, st, r, st', I, h2, k⟩)
      · cases h1
theorem se_virt3 {n : Nat} {tb : Fn × Fn × Fn} (h1 : SE X ct x (eMeth n c1 tb.1 a as)) (h2 : SE X ct x (eMeth n c2 tb.2.1 a as)) (h3 : SE X ct x (eMeth n c3 tb.2.2 a as)) : SE X ct x (eVirt n (tb3 c1 c2 c3 tb.1 tb.2.1 tb.2.2) a as) :=
  ⟨pe_mono (pe_or h1.pe (pe_or h2.pe h3.pe)) fun _ _ _ h => tE_virt3 h⟩
theorem se_meth0 (n : Nat) {k : Nat} {ps : List Str} {mf : Fn} {pl : PySem.Sem Bool} (o : Own X.K ct c C ns) (M : Mcl X.prog X.w X.K X.mg X.base ct C m k ps mf) (hr : Room k X.A) (ha : SE X ct x a) (hn : ps.length = n := by rfl) (hm : m ∉ ns := by decide +kernel)
    (ht : eval (.Call (.Attribute x m apos) [] [] pos) X.env = (do
      let u ← eval x X.env
      standAt apos.atName
      let (g, us) ← holding [u] (getMethod u m pl)
      callWith pos g us (backTo pos (starEach [] X.env)) (backToKw pos (keywordEach [] X.env))) := by rfl) :
    SE X ct (.Call (.Attribute x m apos) [] [] pos) (eMeth n c mf a aNil) := by
  subst hn
  obtain ⟨g, fd, G, hM, hb⟩ := M.ex
  exact ⟨pe_mono (pe_meth0 ha.pe o.cl hM G hr hb .nil pass0 ht) fun _ _ _ h => tMeth_nil tE_imp (tE_meth o hm h)⟩
/-- a field, by the class -/
def fFldV (c1 c2 c3 : Str) (k1 k2 k3 : Nat) : D → Option R
  | .obj c ds => if c = c1 then fFld c1 k1 (.obj c ds) else if c = c2 then fFld c2 k2 (.obj c ds) else if c = c3 then fFld c3 k3 (.obj c ds) else none
  | _ => none
theorem tE_fldV {K : PySem.W.Frag} {σ : St} {H : Hp} {Q : VK} {k1 k2 k3 : Nat} (h : tE K ct (e1 (fFldV c1 c2 c3 k1 k2 k3) a) σ H Q) : tE K ct (e1 (fFld c1 k1) a) σ H Q ∨ tE K ct (e1 (fFld c2 k2) a) σ H Q ∨ tE K ct (e1 (fFld c3 k3) a) σ H Q := by
  obtain ⟨F, W, L, env, st, r, st', I, e, k⟩ := h
  obtain ⟨⟨r1, st1⟩, h1, e⟩ := bind2 e
  obtain ⟨r3, h3, e⟩ := map2 e
  cases e
  have h3 : fFldV c1 c2 c3 k1 k2 k3 r1.d = some r := h3
  have mk : ∀ c kk, fFld c kk r1.d = some r → tE K ct (e1 (fFld c kk) a) σ H Q := fun c kk e => ⟨F, W, L, env, st, r, _, I, by
    show ((a env st).bind fun p => (fFld c kk p.1.d).map fun r => (r, p.2)) = _
    rw [h1]
    show ((fFld c kk r1.d).map _) = _
    rw [e]; rfl, k⟩
  cases hd : r1.d with
  | obj c ds =>
    rw [hd] at h3 mk
    have h3 : (if c = c1 then fFld c1 k1 (.obj c ds) else if c = c2 then fFld c2 k2 (.obj c ds) else if c = c3 then fFld c3 k3 (.obj c ds) else none) = some r := h3
    split at h3
    · exact .inl (mk _ _ h3)
    · split at h3
      · exact .inr (.inl (mk _ _ h3))
      · split at h3
        · exact .inr (.inr (mk _ _ h3))
        · cases h3
  | _ => rw [hd] at h3; cases h3
theorem se_fldV {k1 k2 k3 : Nat} (h1 : SE X ct x (e1 (fFld c1 k1) a)) (h2 : SE X ct x (e1 (fFld c2 k2) a)) (h3 : SE X ct x (e1 (fFld c3 k3) a)) : SE X ct x (e1 (fFldV c1 c2 c3 k1 k2 k3) a) :=
  ⟨pe_mono (pe_or h1.pe (pe_or h2.pe h3.pe)) fun _ _ _ h => tE_fldV h⟩
/-! ### isinstance of one's own classes -/
structure IsC (K : PySem.W.Frag) (C : Addr) : Prop where
  ha : PySem.W.findIn K (.ref C) "__class__" = some (some (.builtin "object.__class__"))
  hn : PySem.W.specialIn K (.builtin "object.__class__") "__get__" = some (some (.builtin "getset_descriptor.__get__"))
  htk : PySem.W.takesIn K (.builtin "object.__class__") = some true
  hm : PySem.W.mroIn K C (.type "object") = some true
structure IsB (K : PySem.W.Frag) (ct : CT) (c : Str) (B : Addr) (b : Bool) : Prop where
  ex : ∃ C ns, Own K ct c C ns ∧ IsC K C ∧ PySem.W.kitOne K (.ref C) (.ref B) = some b
def fIsiC (c1 c2 c3 : Str) (b1 b2 b3 : Bool) : D → Option R
  | .obj c _ => if c = c1 then some (.sh (.bl b1)) else if c = c2 then some (.sh (.bl b2)) else if c = c3 then some (.sh (.bl b3)) else none
  | _ => none
theorem us_isiC {K : PySem.W.Frag} {B : Addr} {b1 b2 b3 : Bool} (i1 : IsB K ct c1 B b1) (i2 : IsB K ct c2 B b2) (i3 : IsB K ct c3 B b3) : UnS K ct (fun v H Q => rIsi K [v, .ref B] H Q) (fIsiC c1 c2 c3 b1 b2 b3) := by
  intro F W L env st σ H v d r Q I h e k
  have one : ∀ c b ds, IsB K ct c B b → d = .obj c ds → r = .sh (.bl b) → rIsi K [v, .ref B] H Q := fun c b ds i ed er => by
    obtain ⟨C, ns, o, ic, hk⟩ := i.ex
    rw [ed] at h
    obtain ⟨a, C', dx, fs, ns', rfl, g, hc, hn, q⟩ := h.obj I
    rw [o.at_] at hc; cases hc
    refine ⟨_, _, .ref C, .ref B, b, rfl, .own B, .base (.ins g o.cl ic.ha ic.hn ic.htk ic.hm), hk, ?_⟩
    rw [er] at k
    exact k _ H W L (.refl W) I (.bl b)
  unfold fIsiC at e
  split at e
  · rename_i c ds
    split at e
    · rename_i q; cases e; exact one _ _ ds i1 (by rw [q]) rfl
    · split at e
      · rename_i q; cases e; exact one _ _ ds i2 (by rw [q]) rfl
      · split at e
        · rename_i q; cases e; exact one _ _ ds i3 (by rw [q]) rfl
        · cases e
  · cases e
theorem se_isiC {B : Addr} {b1 b2 b3 : Bool} {nm : Str} {p2 : Pos} (i1 : IsB X.K ct c1 B b1) (i2 : IsB X.K ct c2 B b2) (i3 : IsB X.K ct c3 B b3) (hg : Gl X "isinstance") (hm : X.mg "isinstance" = none) (hm2 : X.mg nm = some (.ref B)) (ha : SE X ct x a) (hg2 : Gl X nm := by rfl) (hdb : (nm == ("__debug__" : Str)) = false := by decide)
    (he : starEach [x, .Name nm p2] X.env = (false, eval x X.env) :: starEach [.Name nm p2] X.env := by rfl) (he2 : starEach [Expr.Name nm p2] X.env = (false, eval (.Name nm p2) X.env) :: starEach [] X.env := by rfl) (hpl : (backTo pos (starEach [Expr.Name nm p2] X.env)).any (·.1) = false := by rfl) :
    SE X ct (.Call (.Name "isinstance" p) [x, .Name nm p2] [] pos) (e1 (fIsiC c1 c2 c3 b1 b2 b3) a) :=
  ⟨pe_mono (pe_callB call_isi hg hm PyProof.Rows.boot_isinstance (pa_cons ha.pe (pa_cons (pe_glob (v := .ref B) hg2 hm2 rfl hdb) pa_nil he2) he) (by decide) (by decide) he hpl) fun _ _ _ h => tE_e1 (us_isiC i1 i2 i3) h⟩
end
/-! ### typed -/
open En
section
variable {α β γ : Type} [En α] [En β] [En γ]
variable {k k1 k2 k3 : Kx} {env : List Kn.Slot} {st : Sto} {a b : Sem} {as : SemA} {n : Nat}
theorem ev_at {tx : Option α} {x : α} (ha : Ev k a env st tx) (hx : tx = some x) : Ev k a env st (some x) := hx ▸ ha
theorem ev_coe {tx : Option α} (F : α → β) (hF : ∀ x, en (F x) = en x) (ha : Ev k a env st tx) : Ev k a env st (tx.bind fun x => some (F x)) := by
  unfold Ev at ha ⊢
  rw [ha]
  cases tx with
  | none => rfl
  | some x => show some (k.r (en x), st) = some (k.r (en (F x)), st); rw [hF]
theorem ev_coep {x : α} (F : α → β) (hF : ∀ x, en (F x) = en x) (ha : Ev k a env st (some x)) : Ev k a env st (some (F x)) := ev_coe F hF ha
theorem evx_coe {tx : Option (α × Sto)} (F : α → β) (hF : ∀ x, en (F x) = en x) (ha : Evx k a env st tx) : Evx k a env st (tx.bind fun p => some (F p.1, p.2)) := by
  unfold Evx at ha ⊢
  rw [ha]
  cases tx with
  | none => rfl
  | some p => show some (k.r (en p.1), p.2) = some (k.r (en (F p.1)), p.2); rw [hF]
/-- .. at one of three classes -/
theorem ev_virt3 {tx : Option α} {c1 c2 c3 : Str} {m1 m2 m3 : Fn} {T : α → Option γ} (ha : Ev k1 a env st tx)
    (h : ∀ x, tx = some x → (∃ ds, en x = .obj c1 ds ∧ Ev k (eMeth n c1 m1 a as) env st (T x)) ∨ (∃ ds, en x = .obj c2 ds ∧ c2 ≠ c1 ∧ Ev k (eMeth n c2 m2 a as) env st (T x)) ∨ (∃ ds, en x = .obj c3 ds ∧ c3 ≠ c1 ∧ c3 ≠ c2 ∧ Ev k (eMeth n c3 m3 a as) env st (T x))) :
    Ev k (eVirt n (tb3 c1 c2 c3 m1 m2 m3) a as) env st (tx.bind T) := by
  unfold Ev at ha; unfold Ev eVirt
  rw [ha]
  cases tx with
  | none => rfl
  | some x =>
    show (match (k1.r (en x)).d with
      | .obj c _ => (tb3 c1 c2 c3 m1 m2 m3 c).bind fun m => eMeth n c m a as env st
      | _ => none) = (T x).map _
    rw [Kx.rd]
    rcases h x rfl with ⟨ds, e, h⟩ | ⟨ds, e, n1, h⟩ | ⟨ds, e, n1, n2, h⟩
    · rw [e]
      show ((tb3 c1 c2 c3 m1 m2 m3 c1).bind _) = _
      unfold tb3
      rw [if_pos rfl]; exact h
    · rw [e]
      show ((tb3 c1 c2 c3 m1 m2 m3 c2).bind _) = _
      unfold tb3
      rw [if_neg n1, if_pos rfl]; exact h
    · rw [e]
      show ((tb3 c1 c2 c3 m1 m2 m3 c3).bind _) = _
      unfold tb3
      rw [if_neg n1, if_neg n2, if_pos rfl]; exact h
end
end Kn
namespace Kn
open PySem L2
/-! ### isinstance through a handle -/
section
variable {X : Cx} {ct : CT} {x : Expr} {a : Sem} {pos p : Pos} {δ : Dr}
theorem se_isis (o1 : DrOk δ) {T : String} {n : Str} {p2 : Pos} (hg : Gl X "isinstance") (hm : X.mg "isinstance" = none) (hg2 : Gl X n) (hm2 : X.mg n = none) (hv : bootBuiltins n = some (.type T)) (ha : SE X ct x a) (hn : n ≠ "__name__" := by decide) (hdb : (n == ("__debug__" : Str)) = false := by decide)
    (he : starEach [x, .Name n p2] X.env = (false, eval x X.env) :: starEach [.Name n p2] X.env := by rfl) (he2 : starEach [Expr.Name n p2] X.env = (false, eval (.Name n p2) X.env) :: starEach [] X.env := by rfl) (hpl : (backTo pos (starEach [Expr.Name n p2] X.env)).any (·.1) = false := by rfl) :
    SE X ct (.Call (.Name "isinstance" p) [x, .Name n p2] [] pos) (e1s δ (fIsi T) a) :=
  ⟨pe_mono (pe_callB call_isi hg hm PyProof.Rows.boot_isinstance (pa_cons ha.pe (pa_cons (pe_bltn (v := .ty T) hg2 hm2 hv rfl hn hdb) pa_nil he2) he) (by decide) (by decide) he hpl) fun _ _ _ h => tE_e1s o1 us_isi h⟩
end
/-! ### zip of a thing that many hold with a list -/
section
variable {X : Cx} {ct : CT} {x y : Expr} {a b : Sem} {pos : Pos} {δ : Dr}
theorem wk_zipH {K : PySem.W.Frag} {W0 : Wd} {l m : Addr} {g : Nat} {ws : List V} {ds es : List Kn.D} (h : Rep K ct W0 (.ref l) (.hnd g)) (h' : SqL K W0.hs m ws) (r' : RepL K ct W0 ws es) : WkS K ct (Itz K l m) W0 (zipD ds es) fun st => lookS st g = some (.lst ds) := by
  intro F W L env st σ H i le I hG
  obtain ⟨a, vs, e, hs, r⟩ := cell_list I (Rep.mono le h) hG
  cases e
  have hs' : SqL K H m ws := sq_mono (fun a o e => (I.hs a o (le.1 a o e)).1) h'
  refine ⟨fun d hd => ?_, fun hi => ⟨vs, ws, hs, hs', by rw [r.length, r'.length]; exact zipD_len _ _ _ hi⟩⟩
  obtain ⟨e, e', he, he', rfl⟩ := zipD_get ds es i d hd
  obtain ⟨v, hv, hr⟩ := r.get he
  obtain ⟨v', hv', hr'⟩ := r'.get he'
  refine ⟨⟨vs, ws, v, v', hs, hs', hv, hv'⟩, fun x H' ⟨T, w, w', e1, e2, e3, e4, e5⟩ => ?_⟩
  subst e1 e3
  have e6 := e4 vs hs
  rw [hv] at e6; cases e6
  have e7 := e5 ws hs'
  rw [hv'] at e7; cases e7
  exact tup_new I e2 (.cons hr (.cons (hr'.mono le) .nil))
noncomputable def iZipH (δ : Dr) (a b : Sem) : SemIs := fun env st => (a env st).bind fun p => p.1.pin.hnd?.bind fun g => (b env p.2).bind fun q => q.1.sh?.bind fun e => e.seqL.bind fun es => (δ q.2 (.sh (.hnd g))).bind fun c => c.lst?.map fun ds => ((zipD ds es, fun st => lookS st g = some (.lst ds)), q.2)
theorem si_zipH (oh : DrH δ) {p tpos : Pos} {elts : List Expr} {kk : Nat} (hg : Gl X "zip") (hm : X.mg "zip" = none) (ha : SE X ct x a) (hb : SE X ct y b) (he : starEach [x, y] X.env = (false, eval x X.env) :: starEach [y] X.env := by rfl) (he2 : starEach [y] X.env = (false, eval y X.env) :: starEach [] X.env := by rfl)
    (hpl : (backTo pos (starEach [y] X.env)).any (·.1) = false := by rfl) : SIs X ct (.Tuple elts kk tpos) (.Call (.Name "zip" p) [x, y] [] pos) (iZipH δ a b) := by
  refine ⟨pi_monoS (pi_zip hg hm (pa_cons ha.pe (pa_cons hb.pe pa_nil he2) he) he hpl) fun σ H RR ⟨F, W, L, env, st, ds, G, st', I, e, k⟩ => ?_⟩
  obtain ⟨⟨r1, st1⟩, h1, e⟩ := bind2 e
  obtain ⟨g, hr, e⟩ := bind2 e
  obtain ⟨⟨r2, st2⟩, h4, e⟩ := bind2 e
  obtain ⟨d2, h5, e⟩ := bind2 e
  obtain ⟨es', h6, e⟩ := bind2 e
  obtain ⟨c, hc, e⟩ := bind2 e
  obtain ⟨ds', hd, e⟩ := map2 e
  cases e
  have hc := oh.ok hc
  rw [Kn.D.lst_eq hd] at hc
  refine ⟨F, W, L, env, st, r1, st1, I, h1, fun v H1 W1 L1 l1 I1 p1 => ?_⟩
  obtain ⟨W1', m1, J1, q1⟩ := I1.pin p1
  rw [show r1.pin = _ from R.hnd_eq hr] at q1
  refine ⟨F, W1', L1, env, st1, r2, _, J1, h4, fun w H2 W2 L2 l2 I2 p2 => ?_⟩
  obtain ⟨W2', m2, J2, q2⟩ := I2.pin p2
  rw [R.sh_pin h5] at q2
  have q1' : Rep X.K ct W2' v (.hnd g) := Rep.mono (l2.trans m2) q1
  obtain ⟨l, vs, rfl, gs, q⟩ := cell_list J2 q1' hc
  obtain ⟨l', vs', rfl, g', q'⟩ := rep_seqL q2 h6
  have mo := fun (a : Addr) (o : HO) (e : W2'.hs a = some o) => (J2.hs a o e).1
  exact ⟨l, l', vs, vs', rfl, gs, sq_mono mo g', k _ _ _ _ (l1.trans (m1.trans (l2.trans m2))) J2 (wk_zipH q1' g' q')⟩
end
open En in
theorem eis_zip {α β : Type} [En α] [En β] {k2 : Kx} {env : List Kn.Slot} {st : Sto} {a b : Sem} {tx : Option (Hd (List α))} {tm : Option (List β)} (ha : Ev .sh a env st tx) (hb : Ev k2 b env st tm) (hk2 : k2.ok = true) : EvIs (iZipH (dH (List α)) a b) env st (tx.bind fun x => tm.bind fun m => (getS (α := List α) st x.g).bind fun l => some (zipT l m)) := by
  unfold Ev at ha hb
  cases tx with
  | none =>
    refine ⟨fun _ _ => True, fun _ _ => trivial, ?_⟩
    unfold iZipH
    rw [ha]; rfl
  | some x =>
    cases tm with
    | none =>
      refine ⟨fun _ _ => True, fun _ _ => trivial, ?_⟩
      unfold iZipH
      rw [ha]
      show ((b env st).bind _) = _
      rw [hb]; rfl
    | some m =>
      cases q : getS (α := List α) st x.g with
      | none =>
        refine ⟨fun _ _ => True, fun _ _ => trivial, ?_⟩
        unfold iZipH
        rw [ha]
        show ((b env st).bind _) = _
        rw [hb]
        show ((k2.r (.lst (m.map en))).sh?.bind fun e => e.seqL.bind fun es => (dH (List α) st (.sh (.hnd x.g))).bind fun c => _) = _
        rw [Kx.sh? hk2, dH_get, q]
        simp [q, D.seqL]
      | some l =>
        refine ⟨fun _ s => lookS s x.g = some (.lst (l.map en)), fun _ _ => getS_look q, ?_⟩
        unfold iZipH
        rw [ha]
        show ((b env st).bind _) = _
        rw [hb]
        show ((k2.r (.lst (m.map en))).sh?.bind fun e => e.seqL.bind fun es => (dH (List α) st (.sh (.hnd x.g))).bind fun c => _) = _
        rw [Kx.sh? hk2, dH_get, q]
        simp only [Option.bind_some, q, Option.map_some]
        show some ((zipD (l.map en) (m.map en), _), st) = _
        rw [zipD_en]
end Kn
namespace Kn
open PySem L2
/-! ### a list just made by a comprehension is laid into the store -/
theorem tE_new {K : PySem.W.Frag} {ct : CT} {a : Sem} {σ : St} {H : Hp} {Q : VK} (hh : tE K ct (eNew a) σ H Q) : tE K ct a σ H Q := by
  obtain ⟨F, W, L, env, st, r, st', I, e, k⟩ := hh
  obtain ⟨⟨r1, st1⟩, h1, e⟩ := bind2 e
  dsimp only at e
  split at e
  · rename_i d
    cases e
    refine ⟨F, W, L, env, st, _, st1, I, h1, fun v H1 W1 L1 l1 I1 p1 => ?_⟩
    obtain ⟨W', L', l2, I2, q⟩ := I1.store p1
    exact k v H1 W' L' (l1.trans l2) I2 q
  · cases e
section
variable {X : Cx} {ct : CT} {x y : Expr} {a b c : Sem} {pos p apos : Pos}
theorem ss_setLcN (i : Nat) {n : Str} {py spos : Pos} {tg : Expr} {ifs : List Expr} {scope : Scope} {own : List (Str × Nat)} {it : SemI} {ts : List Nat} {g : SemG} (hc : X.calm = true) (hN : X.N.Nodup) (hi : SI X ct tg x it) (ok : BlkOk X.N X.env.scope scope own)
    (hg : ∀ (s : Shared) (H : Hp) (C : Addr) (cl : List (Str × Addr)) (fp : List Addr), SG (X.blk s H scope (compEnvC scope cl C X.env) fp) ct tg ts g) (ht : ∀ (s : Shared) (H : Hp) (C : Addr) (cl : List (Str × Addr)) (fp : List Addr), STs (X.blk s H scope (compEnvC scope cl C X.env) fp) ct ifs c)
    (he : ∀ (s : Shared) (H : Hp) (C : Addr) (cl : List (Str × Addr)) (fp : List Addr), SE (X.blk s H scope (compEnvC scope cl C X.env) fp) ct y a) (hy : X.N[i]? = some n := by rfl) (hyl : X.env.scope.names.lookup n = some .local := by rfl)
    (hsw : swapsWith (.ListComp y [⟨tg, x, ifs, 0⟩] scope pos) (some (.Name n py)) spos.line X.env = pure true := by exact sw_true rfl rfl rfl (by decide +kernel)) (hts : ∀ j ∈ ts, j ∈ own.map (·.2) := by decide) (hs : ∀ z, foldedSetIterable x X.env z = pure z := by intro _; rfl) :
    SS X ct (.Assign [.Name n py] (.ListComp y [⟨tg, x, ifs, 0⟩] scope pos) spos) (sSet i (eNew (eLc it (own.map (·.2)) g c a))) := by
  refine ⟨ps_mono (ps_setLc (te := tE X.K ct a) (tt := tT X.K ct c) (g := tG X.K ct ts g) hc hN hy hyl hsw hi.pi ok (fun s H C cl fp => (hg s H C cl fp).pg) (fun s H C cl fp => (ht s H C cl fp).pts) (fun s H C cl fp => (he s H C cl fp).pe) hs) fun D σ H h => ?_⟩
  exact tE_lc hts (tE_new (tSm_set h))
theorem ss_setLcSN (i : Nat) {n : Str} {py spos : Pos} {tg : Expr} {ifs : List Expr} {scope : Scope} {own : List (Str × Nat)} {it : SemIs} {ts : List Nat} {g : SemG} (hc : X.calm = true) (hN : X.N.Nodup) (hi : SIs X ct tg x it) (ok : BlkOk X.N X.env.scope scope own)
    (hg : ∀ (s : Shared) (H : Hp) (C : Addr) (cl : List (Str × Addr)) (fp : List Addr), SG (X.blk s H scope (compEnvC scope cl C X.env) fp) ct tg ts g) (ht : ∀ (s : Shared) (H : Hp) (C : Addr) (cl : List (Str × Addr)) (fp : List Addr), STs (X.blk s H scope (compEnvC scope cl C X.env) fp) ct ifs c)
    (he : ∀ (s : Shared) (H : Hp) (C : Addr) (cl : List (Str × Addr)) (fp : List Addr), SE (X.blk s H scope (compEnvC scope cl C X.env) fp) ct y a) (hy : X.N[i]? = some n := by rfl) (hyl : X.env.scope.names.lookup n = some .local := by rfl)
    (hsw : swapsWith (.ListComp y [⟨tg, x, ifs, 0⟩] scope pos) (some (.Name n py)) spos.line X.env = pure true := by exact sw_true rfl rfl rfl (by decide +kernel)) (hts : ∀ j ∈ ts, j ∈ own.map (·.2) := by decide) (hs : ∀ z, foldedSetIterable x X.env z = pure z := by intro _; rfl) :
    SS X ct (.Assign [.Name n py] (.ListComp y [⟨tg, x, ifs, 0⟩] scope pos) spos) (sSet i (eNew (eLcS it (own.map (·.2)) g c a))) := by
  refine ⟨ps_mono (ps_setLc (te := tE X.K ct a) (tt := tT X.K ct c) (g := tG X.K ct ts g) hc hN hy hyl hsw hi.pi ok (fun s H C cl fp => (hg s H C cl fp).pg) (fun s H C cl fp => (ht s H C cl fp).pts) (fun s H C cl fp => (he s H C cl fp).pe) hs) fun D σ H h => ?_⟩
  exact tE_lcS hts (tE_new (tSm_set h))
end
theorem kit_mro {K : PySem.W.Frag} {C B : Addr} {b : Bool} (h1 : PySem.W.isClsIn K B = true) (h2 : PySem.W.typeIn K (.ref B) = some (.type "type")) (h3 : PySem.W.mroIn K C (.ref B) = some b) (h4 : PySem.W.mroIn K B (.ref B) = some true) : PySem.W.kitOne K (.ref C) (.ref B) = some b := by
  unfold PySem.W.kitOne
  by_cases q : ((Value.ref C == Value.ref B) = true)
  · rw [if_pos q]
    have e : Value.ref C = Value.ref B := beq_iff_eq.mp q
    cases e
    rw [h4] at h3
    exact h3
  · rw [if_neg q]
    show (if ((PySem.W.clsIn K B).isSome && PySem.W.typeIn K (.ref B) == some (.type "type")) = true then PySem.W.subIn K (.ref C) (.ref B) else none) = some b
    have h1 : (PySem.W.clsIn K B).isSome = true := h1
    rw [h1, h2, Bool.true_and, beq_self_eq_true, if_pos rfl]
    exact h3
end Kn
namespace Law
open PySem L2 Kn Kn.En
structure O_Letter where
  sender : Int
instance : En O_Letter := ⟨fun o => .obj "Letter" [en o.sender]⟩
instance : EnH O_Letter := ⟨fun p => by show D.nhL [_] = true; simp only [D.nhL, EnH.nh, Bool.and_self]⟩
theorem fl_Letter_sender : Op1 (α := O_Letter) .sh (fFld "Letter" 0) fun o => some o.sender := fun o => by
  show fFld "Letter" 0 (.obj "Letter" [en o.sender]) = _
  rw [x_fld]; rfl
structure O_ToOne where
  sender : Int
  to : Int
instance : En O_ToOne := ⟨fun o => .obj "ToOne" [en o.sender, en o.to]⟩
instance : EnH O_ToOne := ⟨fun p => by show D.nhL [_, _] = true; simp only [D.nhL, EnH.nh, Bool.and_self]⟩
theorem fl_ToOne_sender : Op1 (α := O_ToOne) .sh (fFld "ToOne" 0) fun o => some o.sender := fun o => by
  show fFld "ToOne" 0 (.obj "ToOne" [en o.sender, en o.to]) = _
  rw [x_fld]; rfl
theorem fl_ToOne_to : Op1 (α := O_ToOne) .sh (fFld "ToOne" 1) fun o => some o.to := fun o => by
  show fFld "ToOne" 1 (.obj "ToOne" [en o.sender, en o.to]) = _
  rw [x_fld]; rfl
structure O_ToAll where
  sender : Int
instance : En O_ToAll := ⟨fun o => .obj "ToAll" [en o.sender]⟩
instance : EnH O_ToAll := ⟨fun p => by show D.nhL [_] = true; simp only [D.nhL, EnH.nh, Bool.and_self]⟩
theorem fl_ToAll_sender : Op1 (α := O_ToAll) .sh (fFld "ToAll" 0) fun o => some o.sender := fun o => by
  show fFld "ToAll" 0 (.obj "ToAll" [en o.sender]) = _
  rw [x_fld]; rfl
inductive U_Letter where
  | Letter (o : O_Letter)
  | ToOne (o : O_ToOne)
  | ToAll (o : O_ToAll)
instance : En U_Letter := ⟨fun x => match x with | .Letter o => en o | .ToOne o => en o | .ToAll o => en o⟩
instance : EnH U_Letter := ⟨fun x => match x with | .Letter o => EnH.nh o | .ToOne o => EnH.nh o | .ToAll o => EnH.nh o⟩
def U_Letter.f_sender (x : U_Letter) : Int := match x with | .Letter o => o.sender | .ToOne o => o.sender | .ToAll o => o.sender
theorem flU_Letter_sender : Op1 (α := U_Letter) .sh (fFldV "Letter" "ToOne" "ToAll" 0 0 0) fun x => some (U_Letter.f_sender x) := fun x => match x with | .Letter o => fl_Letter_sender o | .ToOne o => fl_ToOne_sender o | .ToAll o => fl_ToAll_sender o
def U_Letter.f_to (x : U_Letter) : Option Int := match x with | .ToOne o => some o.to | _ => none
theorem flU_Letter_to : Op1 (α := U_Letter) .sh (fFld "ToOne" 1) fun x => U_Letter.f_to x := fun x => match x with | .Letter o => by rfl | .ToOne o => fl_ToOne_to o | .ToAll o => by rfl
def U_Letter.is_Letter (x : U_Letter) : Bool := match x with | .Letter _ => true | .ToOne _ => true | .ToAll _ => true
theorem isiU_Letter : Op1 (α := U_Letter) .sh (fIsiC "Letter" "ToOne" "ToAll" true true true) fun x => some (U_Letter.is_Letter x) := fun x => match x with | .Letter _ => by rfl | .ToOne _ => by rfl | .ToAll _ => by rfl
def U_Letter.is_ToAll (x : U_Letter) : Bool := match x with | .Letter _ => false | .ToOne _ => false | .ToAll _ => true
theorem isiU_ToAll : Op1 (α := U_Letter) .sh (fIsiC "Letter" "ToOne" "ToAll" false false true) fun x => some (U_Letter.is_ToAll x) := fun x => match x with | .Letter _ => by rfl | .ToOne _ => by rfl | .ToAll _ => by rfl
def U_Letter.is_ToOne (x : U_Letter) : Bool := match x with | .Letter _ => false | .ToOne _ => true | .ToAll _ => false
theorem isiU_ToOne : Op1 (α := U_Letter) .sh (fIsiC "Letter" "ToOne" "ToAll" false true false) fun x => some (U_Letter.is_ToOne x) := fun x => match x with | .Letter _ => by rfl | .ToOne _ => by rfl | .ToAll _ => by rfl
/-! the defs as functions -/
noncomputable def b_law_cell : SemS :=
  sSeq (sIf (e2 fLt (eVar 1) (e1 fLen (eVar 0))) (sSeq (sRet (e2 (fI gMod) (e2 fIdx (eVar 0) (eVar 1)) (e2 (fI gPow) (eC (.int 10)) (eC (.int 60))))) (sNil)) (sNil)) (sSeq (sRet (eC (.int 0))) (sNil))
noncomputable def m_law_cell : Fn := fun ds st => if ds.length = 2 then runB 2 b_law_cell ds st else none
noncomputable def b_Letter_init : SemS :=
  sSeq (sFldM 0 "Letter" 0 (eVar 1)) (sNil)
noncomputable def m_Letter_init : Fn := runI 2 "Letter" b_Letter_init
noncomputable def b_ToAll_init : SemS :=
  sSeq (sFldM 0 "ToAll" 0 (eVar 1)) (sNil)
noncomputable def m_ToAll_init : Fn := runI 2 "ToAll" b_ToAll_init
noncomputable def b_ToOne_init : SemS :=
  sSeq (sFldM 0 "ToOne" 0 (eVar 1)) (sSeq (sFldM 0 "ToOne" 1 (eVar 2)) (sNil))
noncomputable def m_ToOne_init : Fn := runI 3 "ToOne" b_ToOne_init
noncomputable def b_law_three : SemS :=
  sSeq (sRet (eLst (aCons (eTup (aCons (eMake 2 m_Letter_init (aCons (eVar 0) (aNil))) (aCons (eVar 0) (aCons (eVar 1) (aCons (eC (.int 0)) (aNil)))))) (aCons (eTup (aCons (eMake 3 m_ToOne_init (aCons (eVar 0) (aCons (eVar 1) (aNil)))) (aCons (eVar 0) (aCons (eVar 1) (aCons (eC (.int 1)) (aNil)))))) (aCons (eTup (aCons (eMake 2 m_ToAll_init (aCons (eVar 0) (aNil))) (aCons (eVar 0) (aCons (eVar 1) (aCons (eC (.int 2)) (aNil)))))) (aNil)))))) (sNil)
noncomputable def m_law_three : Fn := fun ds st => if ds.length = 2 then runB 2 b_law_three ds st else none
noncomputable def b_Letter_number : SemS :=
  sSeq (sRet (e1 (fFld "Letter" 0) (eVar 0))) (sNil)
noncomputable def m_Letter_number : Fn := fun ds st => if ds.length = 1 then runB 1 b_Letter_number ds st else none
noncomputable def b_ToOne_number : SemS :=
  sSeq (sRet (e2 fAdd (e2 fAdd (e1 (fFld "ToOne" 0) (eVar 0)) (e1 (fFld "ToOne" 1) (eVar 0))) (eC (.int 1)))) (sNil)
noncomputable def m_ToOne_number : Fn := fun ds st => if ds.length = 1 then runB 1 b_ToOne_number ds st else none
noncomputable def b_ToAll_number : SemS :=
  sSeq (sRet (e1 (fFld "ToAll" 0) (eVar 0))) (sNil)
noncomputable def m_ToAll_number : Fn := fun ds st => if ds.length = 1 then runB 1 b_ToAll_number ds st else none
noncomputable def b_law_whole : SemS :=
  sSeq (sRet (eAnd (e1 (fIsi "int") (eVar 0)) (eNot (e1 (fIsi "bool") (eVar 0))))) (sNil)
noncomputable def m_law_whole : Fn := fun ds st => if ds.length = 1 then runB 1 b_law_whole ds st else none
noncomputable def b_law_truth : SemS :=
  sSeq (sRet (eAnd (e1 (fIsi "bool") (eVar 0)) (e2 fEq (eVar 0) (eVar 1)))) (sNil)
noncomputable def m_law_truth : Fn := fun ds st => if ds.length = 2 then runB 2 b_law_truth ds st else none
noncomputable def b_Letter_seeks : SemS :=
  sSeq (sRet (eC .non)) (sNil)
noncomputable def m_Letter_seeks : Fn := fun ds st => if ds.length = 1 then runB 1 b_Letter_seeks ds st else none
noncomputable def b_ToOne_seeks : SemS :=
  sSeq (sRet (e1 (fFld "ToOne" 1) (eVar 0))) (sNil)
noncomputable def m_ToOne_seeks : Fn := fun ds st => if ds.length = 1 then runB 1 b_ToOne_seeks ds st else none
noncomputable def b_ToAll_seeks : SemS :=
  sSeq (sRet (eC .non)) (sNil)
noncomputable def m_ToAll_seeks : Fn := fun ds st => if ds.length = 1 then runB 1 b_ToAll_seeks ds st else none
noncomputable def b_Letter_meant : SemS :=
  sSeq (sRet (eC (.bl false))) (sNil)
noncomputable def m_Letter_meant : Fn := fun ds st => if ds.length = 2 then runB 2 b_Letter_meant ds st else none
noncomputable def b_ToOne_meant : SemS :=
  sSeq (sRet (e2 fEq (eVar 1) (e1 (fFld "ToOne" 1) (eVar 0)))) (sNil)
noncomputable def m_ToOne_meant : Fn := fun ds st => if ds.length = 2 then runB 2 b_ToOne_meant ds st else none
noncomputable def b_ToAll_meant : SemS :=
  sSeq (sRet (e2 fNe (eVar 1) (e1 (fFld "ToAll" 0) (eVar 0)))) (sNil)
noncomputable def m_ToAll_meant : Fn := fun ds st => if ds.length = 2 then runB 2 b_ToAll_meant ds st else none
noncomputable def lb_law_is_1 : SemS :=
  sSeq (sSet 6 (eOr (eAnd (e2 fEq (eVar 3) (eC (.int 1))) (e2 fEq (eVar 5) (eVar 2))) (eAnd (e2 fEq (eVar 3) (eC (.int 2))) (e2 fNe (eVar 5) (eVar 1))))) (sSeq (sIf (eNot (eCall 2 m_law_truth (aCons (eVirt 2 (tb3 "Letter" "ToOne" "ToAll" m_Letter_meant m_ToOne_meant m_ToAll_meant) (eVar 0) (aCons (eVar 5) (aNil))) (aCons (eVar 6) (aNil))))) (sSeq (sRet (eC (.bl false))) (sNil)) (sNil)) (sKl [5, 6] (sNil)))
noncomputable def b_law_is : SemS :=
  sSeq (sIf (eOr (eNot (eCall 1 m_law_whole (aCons (e1 (fFldV "Letter" "ToOne" "ToAll" 0 0 0) (eVar 0)) (aNil)))) (eOr (e2 fNe (e1 (fFldV "Letter" "ToOne" "ToAll" 0 0 0) (eVar 0)) (eVar 1)) (eNot (e1 (fIsiC "Letter" "ToOne" "ToAll" true true true) (eVar 0))))) (sSeq (sRet (eC (.bl false))) (sNil)) (sNil)) (sSeq (sIf (eOr (e2 fNe (e1 (fIsiC "Letter" "ToOne" "ToAll" false true false) (eVar 0)) (e2 fEq (eVar 3) (eC (.int 1)))) (e2 fNe (e1 (fIsiC "Letter" "ToOne" "ToAll" false false true) (eVar 0)) (e2 fEq (eVar 3) (eC (.int 2))))) (sSeq (sRet (eC (.bl false))) (sNil)) (sNil)) (sSeq (sFor (iSeq (eVar 4)) (gNm 5) lb_law_is_1) (sSeq (sSet 7 (eVirt 1 (tb3 "Letter" "ToOne" "ToAll" m_Letter_number m_ToOne_number m_ToAll_number) (eVar 0) (aNil))) (sSeq (sIf (eOr (eNot (eCall 1 m_law_whole (aCons (eVar 7) (aNil)))) (e2 fNe (eVar 7) (e2 fAdd (eVar 1) (e2 fMul (e1 fInt (e2 fEq (eVar 3) (eC (.int 1)))) (e2 fAdd (eVar 2) (eC (.int 1))))))) (sSeq (sRet (eC (.bl false))) (sNil)) (sNil)) (sSeq (sIf (e2 fNe (eVar 3) (eC (.int 1))) (sSeq (sRet (e1 fIsN (eVirt 1 (tb3 "Letter" "ToOne" "ToAll" m_Letter_seeks m_ToOne_seeks m_ToAll_seeks) (eVar 0) (aNil)))) (sNil)) (sNil)) (sSeq (sRet (eAnd (eCall 1 m_law_whole (aCons (eVirt 1 (tb3 "Letter" "ToOne" "ToAll" m_Letter_seeks m_ToOne_seeks m_ToAll_seeks) (eVar 0) (aNil)) (aNil))) (eAnd (e2 fEq (eVirt 1 (tb3 "Letter" "ToOne" "ToAll" m_Letter_seeks m_ToOne_seeks m_ToAll_seeks) (eVar 0) (aNil)) (eVar 2)) (eAnd (eCall 1 m_law_whole (aCons (e1 (fFld "ToOne" 1) (eVar 0)) (aNil))) (e2 fEq (e1 (fFld "ToOne" 1) (eVar 0)) (eVar 2)))))) (sNil)))))))
noncomputable def m_law_is : Fn := fun ds st => if ds.length = 5 then runB 8 b_law_is ds st else none
noncomputable def lb_law_1 : SemS :=
  sSeq (sIf (eNot (eCall 5 m_law_is (aCons (eVar 7) (aCons (eVar 8) (aCons (eVar 9) (aCons (eVar 10) (aCons (eVar 6) (aNil)))))))) (sSeq (sRet (eC (.bl false))) (sNil)) (sNil)) (sSeq (sMut 1 fApp (aCons (eTup (aCons (eVar 7) (aCons (eVar 8) (aCons (eVar 9) (aCons (eVar 10) (aNil)))))) (aNil))) (sKl [7, 8, 9, 10] (sNil)))
noncomputable def lb_law_2 : SemS :=
  sSeq (sSet 3 (eCall 2 m_law_cell (aCons (eVar 0) (aCons (eVar 2) (aNil))))) (sSeq (sSet 4 (e2 (fI gMod) (eVar 3) (eC (.int 20)))) (sSeq (sSet 5 (e2 (fI gMod) (e2 (fI gDiv) (eVar 3) (eC (.int 20))) (eC (.int 20)))) (sSeq (sIf (e2 fEq (e2 (fI gMod) (e2 (fI gDiv) (eVar 3) (eC (.int 400))) (eC (.int 5))) (eC (.int 2))) (sSeq (sSet 5 (eVar 4)) (sNil)) (sNil)) (sSeq (sSet 6 (eLst (aCons (eVar 4) (aCons (eVar 5) (aCons (e2 (fI gMod) (e2 (fI gDiv) (eVar 3) (eC (.int 7))) (eC (.int 20))) (aCons (e2 (fI gMod) (e2 (fI gDiv) (eVar 3) (eC (.int 3))) (eC (.int 20))) (aCons (e2 (fI gMod) (e2 fAdd (eVar 4) (eC (.int 1))) (eC (.int 20))) (aCons (e2 (fI gMod) (e2 fAdd (eVar 5) (eC (.int 19))) (eC (.int 20))) (aNil))))))))) (sFrz 6 (sSeq (sFor (iSeq (eCall 2 m_law_three (aCons (eVar 4) (aCons (eVar 5) (aNil))))) (gTp [gNm 7, gNm 8, gNm 9, gNm 10]) lb_law_1) (sKl [2, 3, 4, 5, 6] (sNil))))))))
noncomputable def lb_law_3 : SemS :=
  sSeq (sIf (eNot (eCall 5 m_law_is (aCons (eVar 7) (aCons (eVar 8) (aCons (eVar 9) (aCons (eVar 10) (aCons (eLst (aCons (eVar 8) (aCons (eVar 9) (aCons (eC (.int 0)) (aCons (eC (.int 19)) (aNil)))))) (aNil)))))))) (sSeq (sRet (eC (.bl false))) (sNil)) (sNil)) (sKl [7, 8, 9, 10] (sNil))
noncomputable def b_law : SemS :=
  sSeq (sSet 1 (eLst (aNil))) (sSeq (sFor (iRng1' (e2 (fI fun i j => some (if j < i then j else i)) (e2 fAdd (e1 fLen (eVar 0)) (eC (.int 1))) (eC (.int 30)))) (gNm 2) lb_law_2) (sSeq (sFor (iSeq (eSlc (eVar 1) (pNo) (pSome (eC (.int 12))))) (gTp [gNm 7, gNm 8, gNm 9, gNm 10]) lb_law_3) (sSeq (sRet (eC (.bl true))) (sNil))))
noncomputable def m_law : Fn := fun ds st => if ds.length = 1 then runB 11 b_law ds st else none
def top (i : Nat) : Stmt := PySem.Challenge.pw_knotless_k25_letters.main.body.getD i (.Pass ⟨0, 0, 0, 0⟩)
abbrev s_law_cell : Stmt := top 5
abbrev s_Letter_init : Stmt := inClass (top 1) 0
abbrev s_ToAll_init : Stmt := inClass (top 1) 0
abbrev s_ToOne_init : Stmt := inClass (top 2) 0
abbrev s_law_three : Stmt := top 9
abbrev s_Letter_number : Stmt := inClass (top 1) 3
abbrev s_ToOne_number : Stmt := inClass (top 2) 3
abbrev s_ToAll_number : Stmt := inClass (top 1) 3
abbrev s_law_whole : Stmt := top 6
abbrev s_law_truth : Stmt := top 7
abbrev s_Letter_seeks : Stmt := inClass (top 1) 2
abbrev s_ToOne_seeks : Stmt := inClass (top 2) 2
abbrev s_ToAll_seeks : Stmt := inClass (top 1) 2
abbrev s_Letter_meant : Stmt := inClass (top 1) 1
abbrev s_ToOne_meant : Stmt := inClass (top 2) 1
abbrev s_ToAll_meant : Stmt := inClass (top 3) 0
abbrev s_law_is : Stmt := top 8
abbrev s_law : Stmt := top 10
abbrev ns_Letter : List Str := ["sender"]
abbrev ns_ToAll : List Str := ["sender"]
abbrev ns_ToOne : List Str := ["sender", "to"]
structure Zs (mg : Str → Option Value) : Prop where
  z_bool : mg "bool" = none
  z_int : mg "int" = none
  z_isinstance : mg "isinstance" = none
  z_len : mg "len" = none
  z_min : mg "min" = none
  z_range : mg "range" = none
structure CsT (mg : Str → Option Value) : Prop where
  c_ : True
section
variable {P : Program} {w : World} {K : PySem.W.Frag} {mg : Str → Option Value} {base : Heap} {ct : CT} {C_Letter : Addr} {C_ToAll : Addr} {C_ToOne : Addr}
abbrev nm_law_cell : List Str := ["_law_script", "_law_k"]
theorem sc_law_cell : FnScope nm_law_cell ["_law_script", "_law_k"] (defScope s_law_cell) := ⟨rfl, rfl, rfl, by decide +kernel, rfl, by decide +kernel, by decide +kernel⟩
theorem ok_law_cell {f : Addr} {fd : FuncData} (F : Fun K "_law_cell" "_law_cell" s_law_cell f fd) (Z : Zs mg)  : FnOk P w K mg base CX0 1 f fd ["_law_script", "_law_k"] (spD K ct 2 m_law_cell) := by
  refine (fn_ok (b := b_law_cell) F sc_law_cell fun cdv A outer s H E hr => ?_).imp (spD_imp fun ds st r st' hl e => ?_)
  · have S := sc_law_cell
    exact sb_cons (ss_if (st_lt (se_var 1) (se_len rfl Z.z_len (se_var 0))) (sb_cons (ss_ret (se_mod (se_idx hr (se_var 0) (se_var 1)) (se_pow (se_int) (se_int)))) (sb_nil)) (sb_nil)) (sb_cons (ss_ret (se_int)) (sb_nil))
  · unfold m_law_cell at e
    rw [if_pos hl] at e
    exact e
abbrev nm_Letter_init : List Str := ["self", "sender"]
theorem sc_Letter_init : FnScope nm_Letter_init ["self", "sender"] (defScope s_Letter_init) := ⟨rfl, rfl, rfl, by decide +kernel, rfl, by decide +kernel, by decide +kernel⟩
theorem ok_Letter_init {f : Addr} {fd : FuncData} (F : Fun K "__init__" "Letter.__init__" s_Letter_init f fd) (Z : Zs mg) (o_Letter : Own K ct "Letter" C_Letter ns_Letter) : FnOk P w K mg base CX0 1 f fd ["self", "sender"] (spI K ct "Letter" 2 m_Letter_init) := by
  refine fnI_ok (b := b_Letter_init) F sc_Letter_init fun cdv A outer s H E hr => ?_
  have S := sc_Letter_init
  exact sb_cons (ss_fldM 0 0 o_Letter (se_var 1)) (sb_nil)
abbrev nm_ToAll_init : List Str := ["self", "sender"]
theorem sc_ToAll_init : FnScope nm_ToAll_init ["self", "sender"] (defScope s_ToAll_init) := ⟨rfl, rfl, rfl, by decide +kernel, rfl, by decide +kernel, by decide +kernel⟩
theorem ok_ToAll_init {f : Addr} {fd : FuncData} (F : Fun K "__init__" "Letter.__init__" s_ToAll_init f fd) (Z : Zs mg) (o_ToAll : Own K ct "ToAll" C_ToAll ns_ToAll) : FnOk P w K mg base CX0 1 f fd ["self", "sender"] (spI K ct "ToAll" 2 m_ToAll_init) := by
  refine fnI_ok (b := b_ToAll_init) F sc_ToAll_init fun cdv A outer s H E hr => ?_
  have S := sc_ToAll_init
  exact sb_cons (ss_fldM 0 0 o_ToAll (se_var 1)) (sb_nil)
abbrev nm_ToOne_init : List Str := ["self", "sender", "to"]
theorem sc_ToOne_init : FnScope nm_ToOne_init ["self", "sender", "to"] (defScope s_ToOne_init) := ⟨rfl, rfl, rfl, by decide +kernel, rfl, by decide +kernel, by decide +kernel⟩
theorem ok_ToOne_init {f : Addr} {fd : FuncData} (F : Fun K "__init__" "ToOne.__init__" s_ToOne_init f fd) (Z : Zs mg) (o_Letter : Own K ct "Letter" C_Letter ns_Letter) (o_ToOne : Own K ct "ToOne" C_ToOne ns_ToOne) (u_Letter : Sup P w K mg base "Letter" "sender" 1 ["self", "sender"]) : FnOk P w K mg base CX0 2 f fd ["self", "sender", "to"] (spI K ct "ToOne" 3 m_ToOne_init) := by
  refine fnI_ok (b := b_ToOne_init) F sc_ToOne_init fun cdv A outer s H E hr => ?_
  have S := sc_ToOne_init
  exact sb_cons (ss_sup 0 0 o_ToOne u_Letter (hr.mono (by decide)) (se_var 1)) (sb_cons (ss_fldM 0 1 o_ToOne (se_var 2)) (sb_nil))
abbrev nm_law_three : List Str := ["_law_sender", "_law_to"]
theorem sc_law_three : FnScope nm_law_three ["_law_sender", "_law_to"] (defScope s_law_three) := ⟨rfl, rfl, rfl, by decide +kernel, rfl, by decide +kernel, by decide +kernel⟩
theorem ok_law_three {f : Addr} {fd : FuncData} (F : Fun K "_law_three" "_law_three" s_law_three f fd) (Z : Zs mg) (o_Letter : Own K ct "Letter" C_Letter ns_Letter) (o_ToAll : Own K ct "ToAll" C_ToAll ns_ToAll) (o_ToOne : Own K ct "ToOne" C_ToOne ns_ToOne) (k_Letter : Mkr P w K mg base ct "Letter" C_Letter "Letter" 1 ["self", "sender"] m_Letter_init) (k_ToOne : Mkr P w K mg base ct "ToOne" C_ToOne "ToOne" 2 ["self", "sender", "to"] m_ToOne_init) (k_ToAll : Mkr P w K mg base ct "ToAll" C_ToAll "ToAll" 1 ["self", "sender"] m_ToAll_init) : FnOk P w K mg base CX0 4 f fd ["_law_sender", "_law_to"] (spD K ct 2 m_law_three) := by
  refine (fn_ok (b := b_law_three) F sc_law_three fun cdv A outer s H E hr => ?_).imp (spD_imp fun ds st r st' hl e => ?_)
  · have S := sc_law_three
    exact sb_cons (ss_ret (se_lst (sa_cons (se_tup (sa_cons (se_make 2 o_Letter k_Letter (hr.mono (by decide)) (sa_cons (se_var 0) (sa_nil))) (sa_cons (se_var 0) (sa_cons (se_var 1) (sa_cons (se_int) (sa_nil)))))) (sa_cons (se_tup (sa_cons (se_make 3 o_ToOne k_ToOne (hr.mono (by decide)) (sa_cons (se_var 0) (sa_cons (se_var 1) (sa_nil)))) (sa_cons (se_var 0) (sa_cons (se_var 1) (sa_cons (se_int) (sa_nil)))))) (sa_cons (se_tup (sa_cons (se_make 2 o_ToAll k_ToAll (hr.mono (by decide)) (sa_cons (se_var 0) (sa_nil))) (sa_cons (se_var 0) (sa_cons (se_var 1) (sa_cons (se_int) (sa_nil)))))) (sa_nil)))))) (sb_nil)
  · unfold m_law_three at e
    rw [if_pos hl] at e
    exact e
abbrev nm_Letter_number : List Str := ["self"]
theorem sc_Letter_number : FnScope nm_Letter_number ["self"] (defScope s_Letter_number) := ⟨rfl, rfl, rfl, by decide +kernel, rfl, by decide +kernel, by decide +kernel⟩
theorem ok_Letter_number {f : Addr} {fd : FuncData} (F : Fun K "number" "Letter.number" s_Letter_number f fd) (Z : Zs mg) (o_Letter : Own K ct "Letter" C_Letter ns_Letter) : FnOk P w K mg base CX0 1 f fd ["self"] (spD K ct 1 m_Letter_number) := by
  refine (fn_ok (b := b_Letter_number) F sc_Letter_number fun cdv A outer s H E hr => ?_).imp (spD_imp fun ds st r st' hl e => ?_)
  · have S := sc_Letter_number
    exact sb_cons (ss_ret (se_fld 0 o_Letter (se_var 0))) (sb_nil)
  · unfold m_Letter_number at e
    rw [if_pos hl] at e
    exact e
abbrev nm_ToOne_number : List Str := ["self"]
theorem sc_ToOne_number : FnScope nm_ToOne_number ["self"] (defScope s_ToOne_number) := ⟨rfl, rfl, rfl, by decide +kernel, rfl, by decide +kernel, by decide +kernel⟩
theorem ok_ToOne_number {f : Addr} {fd : FuncData} (F : Fun K "number" "ToOne.number" s_ToOne_number f fd) (Z : Zs mg) (o_ToOne : Own K ct "ToOne" C_ToOne ns_ToOne) : FnOk P w K mg base CX0 1 f fd ["self"] (spD K ct 1 m_ToOne_number) := by
  refine (fn_ok (b := b_ToOne_number) F sc_ToOne_number fun cdv A outer s H E hr => ?_).imp (spD_imp fun ds st r st' hl e => ?_)
  · have S := sc_ToOne_number
    exact sb_cons (ss_ret (se_add (se_add (se_fld 0 o_ToOne (se_var 0)) (se_fld 1 o_ToOne (se_var 0))) (se_int))) (sb_nil)
  · unfold m_ToOne_number at e
    rw [if_pos hl] at e
    exact e
abbrev nm_ToAll_number : List Str := ["self"]
theorem sc_ToAll_number : FnScope nm_ToAll_number ["self"] (defScope s_ToAll_number) := ⟨rfl, rfl, rfl, by decide +kernel, rfl, by decide +kernel, by decide +kernel⟩
theorem ok_ToAll_number {f : Addr} {fd : FuncData} (F : Fun K "number" "Letter.number" s_ToAll_number f fd) (Z : Zs mg) (o_ToAll : Own K ct "ToAll" C_ToAll ns_ToAll) : FnOk P w K mg base CX0 1 f fd ["self"] (spD K ct 1 m_ToAll_number) := by
  refine (fn_ok (b := b_ToAll_number) F sc_ToAll_number fun cdv A outer s H E hr => ?_).imp (spD_imp fun ds st r st' hl e => ?_)
  · have S := sc_ToAll_number
    exact sb_cons (ss_ret (se_fld 0 o_ToAll (se_var 0))) (sb_nil)
  · unfold m_ToAll_number at e
    rw [if_pos hl] at e
    exact e
abbrev nm_law_whole : List Str := ["_law_found"]
theorem sc_law_whole : FnScope nm_law_whole ["_law_found"] (defScope s_law_whole) := ⟨rfl, rfl, rfl, by decide +kernel, rfl, by decide +kernel, by decide +kernel⟩
theorem ok_law_whole {f : Addr} {fd : FuncData} (F : Fun K "_law_whole" "_law_whole" s_law_whole f fd) (Z : Zs mg)  : FnOk P w K mg base CX0 1 f fd ["_law_found"] (spD K ct 1 m_law_whole) := by
  refine (fn_ok (b := b_law_whole) F sc_law_whole fun cdv A outer s H E hr => ?_).imp (spD_imp fun ds st r st' hl e => ?_)
  · have S := sc_law_whole
    exact sb_cons (ss_ret (se_and (se_isi rfl Z.z_isinstance rfl Z.z_int PyProof.Rows.boot_int (se_var 0)) (se_one (se_not (se_isi rfl Z.z_isinstance rfl Z.z_bool PyProof.Rows.boot_bool (se_var 0)))))) (sb_nil)
  · unfold m_law_whole at e
    rw [if_pos hl] at e
    exact e
abbrev nm_law_truth : List Str := ["_law_found", "_law_ought"]
theorem sc_law_truth : FnScope nm_law_truth ["_law_found", "_law_ought"] (defScope s_law_truth) := ⟨rfl, rfl, rfl, by decide +kernel, rfl, by decide +kernel, by decide +kernel⟩
theorem ok_law_truth {f : Addr} {fd : FuncData} (F : Fun K "_law_truth" "_law_truth" s_law_truth f fd) (Z : Zs mg)  : FnOk P w K mg base CX0 1 f fd ["_law_found", "_law_ought"] (spD K ct 2 m_law_truth) := by
  refine (fn_ok (b := b_law_truth) F sc_law_truth fun cdv A outer s H E hr => ?_).imp (spD_imp fun ds st r st' hl e => ?_)
  · have S := sc_law_truth
    exact sb_cons (ss_ret (se_and (se_isi rfl Z.z_isinstance rfl Z.z_bool PyProof.Rows.boot_bool (se_var 0)) (se_one (se_eq hr (se_var 0) (se_var 1))))) (sb_nil)
  · unfold m_law_truth at e
    rw [if_pos hl] at e
    exact e
abbrev nm_Letter_seeks : List Str := ["self"]
theorem sc_Letter_seeks : FnScope nm_Letter_seeks ["self"] (defScope s_Letter_seeks) := ⟨rfl, rfl, rfl, by decide +kernel, rfl, by decide +kernel, by decide +kernel⟩
theorem ok_Letter_seeks {f : Addr} {fd : FuncData} (F : Fun K "seeks" "Letter.seeks" s_Letter_seeks f fd) (Z : Zs mg)  : FnOk P w K mg base CX0 1 f fd ["self"] (spD K ct 1 m_Letter_seeks) := by
  refine (fn_ok (b := b_Letter_seeks) F sc_Letter_seeks fun cdv A outer s H E hr => ?_).imp (spD_imp fun ds st r st' hl e => ?_)
  · have S := sc_Letter_seeks
    exact sb_cons (ss_ret (se_non)) (sb_nil)
  · unfold m_Letter_seeks at e
    rw [if_pos hl] at e
    exact e
abbrev nm_ToOne_seeks : List Str := ["self"]
theorem sc_ToOne_seeks : FnScope nm_ToOne_seeks ["self"] (defScope s_ToOne_seeks) := ⟨rfl, rfl, rfl, by decide +kernel, rfl, by decide +kernel, by decide +kernel⟩
theorem ok_ToOne_seeks {f : Addr} {fd : FuncData} (F : Fun K "seeks" "ToOne.seeks" s_ToOne_seeks f fd) (Z : Zs mg) (o_ToOne : Own K ct "ToOne" C_ToOne ns_ToOne) : FnOk P w K mg base CX0 1 f fd ["self"] (spD K ct 1 m_ToOne_seeks) := by
  refine (fn_ok (b := b_ToOne_seeks) F sc_ToOne_seeks fun cdv A outer s H E hr => ?_).imp (spD_imp fun ds st r st' hl e => ?_)
  · have S := sc_ToOne_seeks
    exact sb_cons (ss_ret (se_fld 1 o_ToOne (se_var 0))) (sb_nil)
  · unfold m_ToOne_seeks at e
    rw [if_pos hl] at e
    exact e
abbrev nm_ToAll_seeks : List Str := ["self"]
theorem sc_ToAll_seeks : FnScope nm_ToAll_seeks ["self"] (defScope s_ToAll_seeks) := ⟨rfl, rfl, rfl, by decide +kernel, rfl, by decide +kernel, by decide +kernel⟩
theorem ok_ToAll_seeks {f : Addr} {fd : FuncData} (F : Fun K "seeks" "Letter.seeks" s_ToAll_seeks f fd) (Z : Zs mg)  : FnOk P w K mg base CX0 1 f fd ["self"] (spD K ct 1 m_ToAll_seeks) := by
  refine (fn_ok (b := b_ToAll_seeks) F sc_ToAll_seeks fun cdv A outer s H E hr => ?_).imp (spD_imp fun ds st r st' hl e => ?_)
  · have S := sc_ToAll_seeks
    exact sb_cons (ss_ret (se_non)) (sb_nil)
  · unfold m_ToAll_seeks at e
    rw [if_pos hl] at e
    exact e
abbrev nm_Letter_meant : List Str := ["self", "caller"]
theorem sc_Letter_meant : FnScope nm_Letter_meant ["self", "caller"] (defScope s_Letter_meant) := ⟨rfl, rfl, rfl, by decide +kernel, rfl, by decide +kernel, by decide +kernel⟩
theorem ok_Letter_meant {f : Addr} {fd : FuncData} (F : Fun K "meant" "Letter.meant" s_Letter_meant f fd) (Z : Zs mg)  : FnOk P w K mg base CX0 1 f fd ["self", "caller"] (spD K ct 2 m_Letter_meant) := by
  refine (fn_ok (b := b_Letter_meant) F sc_Letter_meant fun cdv A outer s H E hr => ?_).imp (spD_imp fun ds st r st' hl e => ?_)
  · have S := sc_Letter_meant
    exact sb_cons (ss_ret (se_bl)) (sb_nil)
  · unfold m_Letter_meant at e
    rw [if_pos hl] at e
    exact e
abbrev nm_ToOne_meant : List Str := ["self", "caller"]
theorem sc_ToOne_meant : FnScope nm_ToOne_meant ["self", "caller"] (defScope s_ToOne_meant) := ⟨rfl, rfl, rfl, by decide +kernel, rfl, by decide +kernel, by decide +kernel⟩
theorem ok_ToOne_meant {f : Addr} {fd : FuncData} (F : Fun K "meant" "ToOne.meant" s_ToOne_meant f fd) (Z : Zs mg) (o_ToOne : Own K ct "ToOne" C_ToOne ns_ToOne) : FnOk P w K mg base CX0 1 f fd ["self", "caller"] (spD K ct 2 m_ToOne_meant) := by
  refine (fn_ok (b := b_ToOne_meant) F sc_ToOne_meant fun cdv A outer s H E hr => ?_).imp (spD_imp fun ds st r st' hl e => ?_)
  · have S := sc_ToOne_meant
    exact sb_cons (ss_ret (se_eq hr (se_var 1) (se_fld 1 o_ToOne (se_var 0)))) (sb_nil)
  · unfold m_ToOne_meant at e
    rw [if_pos hl] at e
    exact e
abbrev nm_ToAll_meant : List Str := ["self", "caller"]
theorem sc_ToAll_meant : FnScope nm_ToAll_meant ["self", "caller"] (defScope s_ToAll_meant) := ⟨rfl, rfl, rfl, by decide +kernel, rfl, by decide +kernel, by decide +kernel⟩
theorem ok_ToAll_meant {f : Addr} {fd : FuncData} (F : Fun K "meant" "ToAll.meant" s_ToAll_meant f fd) (Z : Zs mg) (o_ToAll : Own K ct "ToAll" C_ToAll ns_ToAll) : FnOk P w K mg base CX0 1 f fd ["self", "caller"] (spD K ct 2 m_ToAll_meant) := by
  refine (fn_ok (b := b_ToAll_meant) F sc_ToAll_meant fun cdv A outer s H E hr => ?_).imp (spD_imp fun ds st r st' hl e => ?_)
  · have S := sc_ToAll_meant
    exact sb_cons (ss_ret (se_ne hr (se_var 1) (se_fld 0 o_ToAll (se_var 0)))) (sb_nil)
  · unfold m_ToAll_meant at e
    rw [if_pos hl] at e
    exact e
abbrev nm_law_is : List Str := ["_law_letter", "_law_sender", "_law_to", "_law_kind", "_law_some", "_law_caller", "_law_ought", "_law_number"]
theorem sc_law_is : FnScope nm_law_is ["_law_letter", "_law_sender", "_law_to", "_law_kind", "_law_some"] (defScope s_law_is) := ⟨rfl, rfl, rfl, by decide +kernel, rfl, by decide +kernel, by decide +kernel⟩
theorem ok_law_is {f : Addr} {fd : FuncData} (F : Fun K "_law_is" "_law_is" s_law_is f fd) (Z : Zs mg) (o_Letter : Own K ct "Letter" C_Letter ns_Letter) (o_ToAll : Own K ct "ToAll" C_ToAll ns_ToAll) (o_ToOne : Own K ct "ToOne" C_ToOne ns_ToOne) (h_Letter : mg "Letter" = some (.ref C_Letter)) (i_Letter_Letter : IsB K ct "Letter" C_Letter true) (i_ToOne_Letter : IsB K ct "ToOne" C_Letter true) (i_ToAll_Letter : IsB K ct "ToAll" C_Letter true) (h_ToAll : mg "ToAll" = some (.ref C_ToAll)) (i_Letter_ToAll : IsB K ct "Letter" C_ToAll false) (i_ToOne_ToAll : IsB K ct "ToOne" C_ToAll false) (i_ToAll_ToAll : IsB K ct "ToAll" C_ToAll true) (h_ToOne : mg "ToOne" = some (.ref C_ToOne)) (i_Letter_ToOne : IsB K ct "Letter" C_ToOne false) (i_ToOne_ToOne : IsB K ct "ToOne" C_ToOne true) (i_ToAll_ToOne : IsB K ct "ToAll" C_ToOne false) (c_law_whole : Cal P w K mg base ct "_law_whole" 1 ["_law_found"] m_law_whole) (c_law_truth : Cal P w K mg base ct "_law_truth" 1 ["_law_found", "_law_ought"] m_law_truth) (c_Letter_meant : Mcl P w K mg base ct C_Letter "meant" 1 ["self", "caller"] m_Letter_meant) (c_ToOne_meant : Mcl P w K mg base ct C_ToOne "meant" 1 ["self", "caller"] m_ToOne_meant) (c_ToAll_meant : Mcl P w K mg base ct C_ToAll "meant" 1 ["self", "caller"] m_ToAll_meant) (c_Letter_number : Mcl P w K mg base ct C_Letter "number" 1 ["self"] m_Letter_number) (c_ToOne_number : Mcl P w K mg base ct C_ToOne "number" 1 ["self"] m_ToOne_number) (c_ToAll_number : Mcl P w K mg base ct C_ToAll "number" 1 ["self"] m_ToAll_number) (c_Letter_seeks : Mcl P w K mg base ct C_Letter "seeks" 1 ["self"] m_Letter_seeks) (c_ToOne_seeks : Mcl P w K mg base ct C_ToOne "seeks" 1 ["self"] m_ToOne_seeks) (c_ToAll_seeks : Mcl P w K mg base ct C_ToAll "seeks" 1 ["self"] m_ToAll_seeks) : FnOk P w K mg base CX0 2 f fd ["_law_letter", "_law_sender", "_law_to", "_law_kind", "_law_some"] (spD K ct 5 m_law_is) := by
  refine (fn_ok (b := b_law_is) F sc_law_is fun cdv A outer s H E hr => ?_).imp (spD_imp fun ds st r st' hl e => ?_)
  · have S := sc_law_is
    exact sb_cons (ss_if (SW.st (sw_or (st_not (st_val (sc_call 1 c_law_whole (hr.mono (by decide)) (sa_cons (se_fldV (se_fld 0 o_Letter (se_var 0)) (se_fld 0 o_ToOne (se_var 0)) (se_fld 0 o_ToAll (se_var 0))) (sa_nil))))) (sw_or (st_ne hr (se_fldV (se_fld 0 o_Letter (se_var 0)) (se_fld 0 o_ToOne (se_var 0)) (se_fld 0 o_ToAll (se_var 0))) (se_var 1)) (sw_or1 (st_not (st_val (se_isiC i_Letter_Letter i_ToOne_Letter i_ToAll_Letter rfl Z.z_isinstance h_Letter (se_var 0)))))))) (sb_cons (ss_ret (se_bl)) (sb_nil)) (sb_nil)) (sb_cons (ss_if (SW.st (sw_or (st_ne hr (se_isiC i_Letter_ToOne i_ToOne_ToOne i_ToAll_ToOne rfl Z.z_isinstance h_ToOne (se_var 0)) (se_eq hr (se_var 3) (se_int))) (sw_or1 (st_ne hr (se_isiC i_Letter_ToAll i_ToOne_ToAll i_ToAll_ToAll rfl Z.z_isinstance h_ToAll (se_var 0)) (se_eq hr (se_var 3) (se_int)))))) (sb_cons (ss_ret (se_bl)) (sb_nil)) (sb_nil)) (sb_cons (ss_for PassesOwn.never rfl (si_seq (se_var 4)) (sg_nm 5 S.nd) (sb_cons (ss_set 6 S.nd (se_or (se_and (se_eq hr (se_var 3) (se_int)) (se_one (se_eq hr (se_var 5) (se_var 2)))) (se_one (se_and (se_eq hr (se_var 3) (se_int)) (se_one (se_ne hr (se_var 5) (se_var 1))))))) (sb_cons (ss_if (st_not (st_val (sc_call 2 c_law_truth (hr.mono (by decide)) (sa_cons (se_virt3 (tb := (m_Letter_meant, m_ToOne_meant, m_ToAll_meant)) (se_meth 2 o_Letter c_Letter_meant (hr.mono (by decide)) (se_var 0) (sa_cons (se_var 5) (sa_nil))) (se_meth 2 o_ToOne c_ToOne_meant (hr.mono (by decide)) (se_var 0) (sa_cons (se_var 5) (sa_nil))) (se_meth 2 o_ToAll c_ToAll_meant (hr.mono (by decide)) (se_var 0) (sa_cons (se_var 5) (sa_nil)))) (sa_cons (se_var 6) (sa_nil)))))) (sb_cons (ss_ret (se_bl)) (sb_nil)) (sb_nil)) (sb_kl [5, 6] (sb_nil))))) (sb_cons (ss_set 7 S.nd (se_virt3 (tb := (m_Letter_number, m_ToOne_number, m_ToAll_number)) (se_meth0 1 o_Letter c_Letter_number (hr.mono (by decide)) (se_var 0)) (se_meth0 1 o_ToOne c_ToOne_number (hr.mono (by decide)) (se_var 0)) (se_meth0 1 o_ToAll c_ToAll_number (hr.mono (by decide)) (se_var 0)))) (sb_cons (ss_if (SW.st (sw_or (st_not (st_val (sc_call 1 c_law_whole (hr.mono (by decide)) (sa_cons (se_var 7) (sa_nil))))) (sw_or1 (st_ne hr (se_var 7) (se_add (se_var 1) (se_mul (se_toint rfl Z.z_int (se_eq hr (se_var 3) (se_int))) (se_add (se_var 2) (se_int)))))))) (sb_cons (ss_ret (se_bl)) (sb_nil)) (sb_nil)) (sb_cons (ss_if (st_ne hr (se_var 3) (se_int)) (sb_cons (ss_ret (se_isN (se_virt3 (tb := (m_Letter_seeks, m_ToOne_seeks, m_ToAll_seeks)) (se_meth0 1 o_Letter c_Letter_seeks (hr.mono (by decide)) (se_var 0)) (se_meth0 1 o_ToOne c_ToOne_seeks (hr.mono (by decide)) (se_var 0)) (se_meth0 1 o_ToAll c_ToAll_seeks (hr.mono (by decide)) (se_var 0))))) (sb_nil)) (sb_nil)) (sb_cons (ss_ret (se_and (sc_call 1 c_law_whole (hr.mono (by decide)) (sa_cons (se_virt3 (tb := (m_Letter_seeks, m_ToOne_seeks, m_ToAll_seeks)) (se_meth0 1 o_Letter c_Letter_seeks (hr.mono (by decide)) (se_var 0)) (se_meth0 1 o_ToOne c_ToOne_seeks (hr.mono (by decide)) (se_var 0)) (se_meth0 1 o_ToAll c_ToAll_seeks (hr.mono (by decide)) (se_var 0))) (sa_nil))) (se_and (se_eq hr (se_virt3 (tb := (m_Letter_seeks, m_ToOne_seeks, m_ToAll_seeks)) (se_meth0 1 o_Letter c_Letter_seeks (hr.mono (by decide)) (se_var 0)) (se_meth0 1 o_ToOne c_ToOne_seeks (hr.mono (by decide)) (se_var 0)) (se_meth0 1 o_ToAll c_ToAll_seeks (hr.mono (by decide)) (se_var 0))) (se_var 2)) (se_and (sc_call 1 c_law_whole (hr.mono (by decide)) (sa_cons (se_fld 1 o_ToOne (se_var 0)) (sa_nil))) (se_one (se_eq hr (se_fld 1 o_ToOne (se_var 0)) (se_var 2))))))) (sb_nil)))))))
  · unfold m_law_is at e
    rw [if_pos hl] at e
    exact e
abbrev nm_law : List Str := ["_law_script", "_law_held", "_law_k", "_law_cell_here", "_law_sender", "_law_to", "_law_some", "_law_letter", "_law_own", "_law_sought", "_law_kind"]
theorem sc_law : FnScope nm_law ["_law_script"] (defScope s_law) := ⟨rfl, rfl, rfl, by decide +kernel, rfl, by decide +kernel, by decide +kernel⟩
theorem ok_law {f : Addr} {fd : FuncData} (F : Fun K "law" "law" s_law f fd) (Z : Zs mg) (c_law_cell : Cal P w K mg base ct "_law_cell" 1 ["_law_script", "_law_k"] m_law_cell) (c_law_three : Cal P w K mg base ct "_law_three" 4 ["_law_sender", "_law_to"] m_law_three) (c_law_is : Cal P w K mg base ct "_law_is" 2 ["_law_letter", "_law_sender", "_law_to", "_law_kind", "_law_some"] m_law_is) : FnOk P w K mg base CX0 5 f fd ["_law_script"] (spD K ct 1 m_law) := by
  refine (fn_ok (b := b_law) F sc_law fun cdv A outer s H E hr => ?_).imp (spD_imp fun ds st r st' hl e => ?_)
  · have S := sc_law
    exact sb_cons (ss_set 1 S.nd (se_lst (sa_nil))) (sb_cons (ss_for PassesOwn.never rfl (si_rng1 rfl Z.z_range (se_min2 rfl rfl Z.z_min (se_add (se_len rfl Z.z_len (se_var 0)) (se_int)) (se_int))) (sg_nm 2 S.nd) (sb_cons (ss_set 3 S.nd (sc_call 2 c_law_cell (hr.mono (by decide)) (sa_cons (se_var 0) (sa_cons (se_var 2) (sa_nil))))) (sb_cons (ss_set 4 S.nd (se_mod (se_var 3) (se_int))) (sb_cons (ss_set 5 S.nd (se_mod (se_div (se_var 3) (se_int)) (se_int))) (sb_cons (ss_if (st_eq hr (se_mod (se_div (se_var 3) (se_int)) (se_int)) (se_int)) (sb_cons (ss_set 5 S.nd (se_var 4)) (sb_nil)) (sb_nil)) (sb_cons (ss_set 6 S.nd (se_lst (sa_cons (se_var 4) (sa_cons (se_var 5) (sa_cons (se_mod (se_div (se_var 3) (se_int)) (se_int)) (sa_cons (se_mod (se_div (se_var 3) (se_int)) (se_int)) (sa_cons (se_mod (se_add (se_var 4) (se_int)) (se_int)) (sa_cons (se_mod (se_add (se_var 5) (se_int)) (se_int)) (sa_nil))))))))) (sb_frz 6 (sb_cons (ss_for PassesOwn.never rfl (si_seq (sc_call 2 c_law_three (hr.mono (by decide)) (sa_cons (se_var 4) (sa_cons (se_var 5) (sa_nil))))) (sg_tup rfl (sgs_cons (sg_nm 7 S.nd) (sgs_cons (sg_nm 8 S.nd) (sgs_cons (sg_nm 9 S.nd) (sgs_cons (sg_nm 10 S.nd) (sgs_nil)))))) (sb_cons (ss_if (st_not (st_val (sc_call 5 c_law_is (hr.mono (by decide)) (sa_cons (se_var 7) (sa_cons (se_var 8) (sa_cons (se_var 9) (sa_cons (se_var 10) (sa_cons (se_var 6) (sa_nil))))))))) (sb_cons (ss_ret (se_bl)) (sb_nil)) (sb_nil)) (sb_cons (ss_mut1 1 PySem.F.slot_list_append PySem.F.type_list_append mt_append ms_app (sa_cons (se_tup (sa_cons (se_var 7) (sa_cons (se_var 8) (sa_cons (se_var 9) (sa_cons (se_var 10) (sa_nil)))))) (sa_nil))) (sb_kl [7, 8, 9, 10] (sb_nil))))) (sb_kl [2, 3, 4, 5, 6] (sb_nil)))))))))) (sb_cons (ss_for PassesOwn.never rfl (si_seq (se_slc (se_var 1) (sp_no) (sp_some (se_int)))) (sg_tup rfl (sgs_cons (sg_nm 7 S.nd) (sgs_cons (sg_nm 8 S.nd) (sgs_cons (sg_nm 9 S.nd) (sgs_cons (sg_nm 10 S.nd) (sgs_nil)))))) (sb_cons (ss_if (st_not (st_val (sc_call 5 c_law_is (hr.mono (by decide)) (sa_cons (se_var 7) (sa_cons (se_var 8) (sa_cons (se_var 9) (sa_cons (se_var 10) (sa_cons (se_lst (sa_cons (se_var 8) (sa_cons (se_var 9) (sa_cons (se_int) (sa_cons (se_int) (sa_nil)))))) (sa_nil))))))))) (sb_cons (ss_ret (se_bl)) (sb_nil)) (sb_nil)) (sb_kl [7, 8, 9, 10] (sb_nil)))) (sb_cons (ss_ret (se_bl)) (sb_nil))))
  · unfold m_law at e
    rw [if_pos hl] at e
    exact e
end
/-! law_cell -/
noncomputable def f_law_cell (script : Scr) (k : Int) : Option Int :=
  if (decide (k < (script.l.length : Int))) = true then ((atI script.l k).bind fun x1 => (gPow (10 : Int) (60 : Int)).bind fun y2 => gMod x1 y2).bind fun r3 => some r3 else some (0 : Int)
theorem ev_law_cell (script : Scr) (k : Int) (st : Sto) : m_law_cell [en script, en k] st = (f_law_cell script k).map fun r => (Kx.sh.r (en r), st) := by
  refine Eq.trans (if_pos rfl) ?_
  exact ev_fn (ru_of (ru_ifp (ev_2tpp o2_lt (ev_var rfl) (ev_1tp o1_lens (ev_var rfl))) (ru_as (ru_retx (ev_2xx o2_mod (ev_2pp o2_idxs (ev_var rfl) (ev_var rfl)) (ev_2pp o2_pow (ev_int _) (ev_int _))) (fun _ => rfl))) (ru_id (ru_retp (ev_int _) rfl))) (by rfl))
/-! Letter_init -/
noncomputable def f_Letter_init (sender : Int) : Option O_Letter :=
  some (⟨sender⟩ : O_Letter)
theorem ev_Letter_init (sender : Int) (st : Sto) : m_Letter_init [en sender] st = (f_Letter_init sender).map fun r => (Kx.ow.r (en r), st) := by
  exact ev_init (fun (ad : Addr) (o : O_Letter) => [.me ad (en o), .sh (en sender)]) (fun ad => ru_of (ru_fldp rfl rfl (ev_var rfl) rfl (ru_nil rfl)) (by rfl)) (fun _ _ => rfl)
/-! ToAll_init -/
noncomputable def f_ToAll_init (sender : Int) : Option O_ToAll :=
  some (⟨sender⟩ : O_ToAll)
theorem ev_ToAll_init (sender : Int) (st : Sto) : m_ToAll_init [en sender] st = (f_ToAll_init sender).map fun r => (Kx.ow.r (en r), st) := by
  exact ev_init (fun (ad : Addr) (o : O_ToAll) => [.me ad (en o), .sh (en sender)]) (fun ad => ru_of (ru_fldp rfl rfl (ev_var rfl) rfl (ru_nil rfl)) (by rfl)) (fun _ _ => rfl)
/-! ToOne_init -/
noncomputable def f_ToOne_init (sender : Int) (to_ : Int) : Option O_ToOne :=
  some (⟨sender, to_⟩ : O_ToOne)
theorem ev_ToOne_init (sender : Int) (to_ : Int) (st : Sto) : m_ToOne_init [en sender, en to_] st = (f_ToOne_init sender to_).map fun r => (Kx.ow.r (en r), st) := by
  exact ev_init (fun (ad : Addr) (o : O_ToOne) => [.me ad (en o), .sh (en sender), .sh (en to_)]) (fun ad => ru_of (ru_fldp rfl rfl (ev_var rfl) rfl (ru_fldp rfl rfl (ev_var rfl) rfl (ru_nil rfl))) (by rfl)) (fun _ _ => rfl)
/-! law_three -/
noncomputable def f_law_three (sender : Int) (to_ : Int) : Option (List (Tp4 U_Letter Int Int Int)) :=
  (((((f_Letter_init sender).bind fun x2 => some (U_Letter.Letter x2)).bind fun b3 => some (⟨b3, sender, to_, (0 : Int)⟩ : (Tp4 U_Letter Int Int Int))).bind fun x12 => ((((f_ToOne_init sender to_).bind fun x5 => some (U_Letter.ToOne x5)).bind fun b6 => some (⟨b6, sender, to_, (1 : Int)⟩ : (Tp4 U_Letter Int Int Int))).bind fun x10 => (((f_ToAll_init sender).bind fun x8 => some (U_Letter.ToAll x8)).bind fun b9 => some (⟨b9, sender, to_, (2 : Int)⟩ : (Tp4 U_Letter Int Int Int))).bind fun b11 => some (x10, b11)).bind fun b13 => some (x12, b13)).bind fun b14 => some ([b14.1, b14.2.1, b14.2.2] : (List (Tp4 U_Letter Int Int Int)))).bind fun r15 => some r15
theorem ev_law_three (sender : Int) (to_ : Int) (st : Sto) : m_law_three [en sender, en to_] st = (f_law_three sender to_).map fun r => (Kx.ow.r (en r), st) := by
  refine Eq.trans (if_pos rfl) ?_
  exact ev_fn (ru_of (ru_retx (ev_lstx (F := fun b14 => ([b14.1, b14.2.1, b14.2.2] : (List (Tp4 U_Letter Int Int Int)))) (ea_xx (ev_tupx (F := fun b3 => (⟨b3, sender, to_, (0 : Int)⟩ : (Tp4 U_Letter Int Int Int))) (ea_xp (ev_coe U_Letter.Letter (fun _ => rfl) (ev_makep (ea_p (ev_var rfl) rfl (ea_nil)) (ev_Letter_init sender st) rfl)) rfl (ea_p (ev_var rfl) rfl (ea_p (ev_var rfl) rfl (ea_p (ev_int _) rfl (ea_nil))))) (fun _ => rfl) (fun _ => Nat.le_of_ble_eq_true rfl)) rfl (ea_xx (ev_tupx (F := fun b6 => (⟨b6, sender, to_, (1 : Int)⟩ : (Tp4 U_Letter Int Int Int))) (ea_xp (ev_coe U_Letter.ToOne (fun _ => rfl) (ev_makep (ea_p (ev_var rfl) rfl (ea_p (ev_var rfl) rfl (ea_nil))) (ev_ToOne_init sender to_ st) rfl)) rfl (ea_p (ev_var rfl) rfl (ea_p (ev_var rfl) rfl (ea_p (ev_int _) rfl (ea_nil))))) (fun _ => rfl) (fun _ => Nat.le_of_ble_eq_true rfl)) rfl (ea_xp (ev_tupx (F := fun b9 => (⟨b9, sender, to_, (2 : Int)⟩ : (Tp4 U_Letter Int Int Int))) (ea_xp (ev_coe U_Letter.ToAll (fun _ => rfl) (ev_makep (ea_p (ev_var rfl) rfl (ea_nil)) (ev_ToAll_init sender st) rfl)) rfl (ea_p (ev_var rfl) rfl (ea_p (ev_var rfl) rfl (ea_p (ev_int _) rfl (ea_nil))))) (fun _ => rfl) (fun _ => Nat.le_of_ble_eq_true rfl)) rfl (ea_nil)))) (fun _ => rfl) (fun _ => Nat.le_of_ble_eq_true rfl)) (fun _ => rfl)) (by rfl))
/-! Letter_number -/
noncomputable def f_Letter_number (self : O_Letter) : Option Int :=
  some self.sender
theorem ev_Letter_number (self : O_Letter) (st : Sto) : m_Letter_number [en self] st = (f_Letter_number self).map fun r => (Kx.sh.r (en r), st) := by
  refine Eq.trans (if_pos rfl) ?_
  exact ev_fn (ru_of (ru_retp (ev_1tp fl_Letter_sender (ev_var rfl)) rfl) (by rfl))
/-! ToOne_number -/
noncomputable def f_ToOne_number (self : O_ToOne) : Option Int :=
  some ((self.sender + self.to) + (1 : Int))
theorem ev_ToOne_number (self : O_ToOne) (st : Sto) : m_ToOne_number [en self] st = (f_ToOne_number self).map fun r => (Kx.sh.r (en r), st) := by
  refine Eq.trans (if_pos rfl) ?_
  exact ev_fn (ru_of (ru_retp (ev_2tpp o2_add (ev_2tpp o2_add (ev_1tp fl_ToOne_sender (ev_var rfl)) (ev_1tp fl_ToOne_to (ev_var rfl))) (ev_int _)) rfl) (by rfl))
/-! ToAll_number -/
noncomputable def f_ToAll_number (self : O_ToAll) : Option Int :=
  some self.sender
theorem ev_ToAll_number (self : O_ToAll) (st : Sto) : m_ToAll_number [en self] st = (f_ToAll_number self).map fun r => (Kx.sh.r (en r), st) := by
  refine Eq.trans (if_pos rfl) ?_
  exact ev_fn (ru_of (ru_retp (ev_1tp fl_ToAll_sender (ev_var rfl)) rfl) (by rfl))
/-! law_whole -/
noncomputable def f_law_whole (found : (Option Int)) : Option Bool :=
  some (found.isSome && (!false))
theorem ev_law_whole (found : (Option Int)) (st : Sto) : m_law_whole [en found] st = (f_law_whole found).map fun r => (Kx.sh.r (en r), st) := by
  refine Eq.trans (if_pos rfl) ?_
  exact ev_fn (ru_of (ru_retp (ev_andpp (ev_1tp o1_isi_opt_int (ev_var rfl)) (ev_notp (ev_1tp o1_isi_opt_int_b (ev_var rfl)))) rfl) (by rfl))
/-! law_truth -/
noncomputable def f_law_truth (found : Bool) (ought : Bool) : Option Bool :=
  some (true && (decide (found = ought)))
theorem ev_law_truth (found : Bool) (ought : Bool) (st : Sto) : m_law_truth [en found, en ought] st = (f_law_truth found ought).map fun r => (Kx.sh.r (en r), st) := by
  refine Eq.trans (if_pos rfl) ?_
  exact ev_fn (ru_of (ru_retp (ev_andpp (ev_1tp o1_isi_bool (ev_var rfl)) (ev_2tpp o2_eqb (ev_var rfl) (ev_var rfl))) rfl) (by rfl))
/-! Letter_seeks -/
noncomputable def f_Letter_seeks (self : O_Letter) : Option (Option Int) :=
  some (none : (Option Int))
theorem ev_Letter_seeks (self : O_Letter) (st : Sto) : m_Letter_seeks [en self] st = (f_Letter_seeks self).map fun r => (Kx.sh.r (en r), st) := by
  refine Eq.trans (if_pos rfl) ?_
  exact ev_fn (ru_of (ru_retp (ev_non) rfl) (by rfl))
/-! ToOne_seeks -/
noncomputable def f_ToOne_seeks (self : O_ToOne) : Option (Option Int) :=
  some (some self.to)
theorem ev_ToOne_seeks (self : O_ToOne) (st : Sto) : m_ToOne_seeks [en self] st = (f_ToOne_seeks self).map fun r => (Kx.sh.r (en r), st) := by
  refine Eq.trans (if_pos rfl) ?_
  exact ev_fn (ru_of (ru_retp (ev_somep (ev_1tp fl_ToOne_to (ev_var rfl))) rfl) (by rfl))
/-! ToAll_seeks -/
noncomputable def f_ToAll_seeks (self : O_ToAll) : Option (Option Int) :=
  some (none : (Option Int))
theorem ev_ToAll_seeks (self : O_ToAll) (st : Sto) : m_ToAll_seeks [en self] st = (f_ToAll_seeks self).map fun r => (Kx.sh.r (en r), st) := by
  refine Eq.trans (if_pos rfl) ?_
  exact ev_fn (ru_of (ru_retp (ev_non) rfl) (by rfl))
/-! Letter_meant -/
noncomputable def f_Letter_meant (self : O_Letter) (caller : Int) : Option Bool :=
  some false
theorem ev_Letter_meant (self : O_Letter) (caller : Int) (st : Sto) : m_Letter_meant [en self, en caller] st = (f_Letter_meant self caller).map fun r => (Kx.sh.r (en r), st) := by
  refine Eq.trans (if_pos rfl) ?_
  exact ev_fn (ru_of (ru_retp (ev_bl _) rfl) (by rfl))
/-! ToOne_meant -/
noncomputable def f_ToOne_meant (self : O_ToOne) (caller : Int) : Option Bool :=
  some (decide (caller = self.to))
theorem ev_ToOne_meant (self : O_ToOne) (caller : Int) (st : Sto) : m_ToOne_meant [en self, en caller] st = (f_ToOne_meant self caller).map fun r => (Kx.sh.r (en r), st) := by
  refine Eq.trans (if_pos rfl) ?_
  exact ev_fn (ru_of (ru_retp (ev_2tpp (o2_eq (by decide)) (ev_var rfl) (ev_1tp fl_ToOne_to (ev_var rfl))) rfl) (by rfl))
/-! ToAll_meant -/
noncomputable def f_ToAll_meant (self : O_ToAll) (caller : Int) : Option Bool :=
  some (!decide (caller = self.sender))
theorem ev_ToAll_meant (self : O_ToAll) (caller : Int) (st : Sto) : m_ToAll_meant [en self, en caller] st = (f_ToAll_meant self caller).map fun r => (Kx.sh.r (en r), st) := by
  refine Eq.trans (if_pos rfl) ?_
  exact ev_fn (ru_of (ru_retp (ev_2tpp (o2_ne (by decide)) (ev_var rfl) (ev_1tp fl_ToAll_sender (ev_var rfl))) rfl) (by rfl))
/-! law_is -/
noncomputable def f_law_is (letter : U_Letter) (sender : Int) (to_ : Int) (kind : Int) (some_ : (List Int)) : Option Bool :=
  (((f_law_whole (some (U_Letter.f_sender letter))).bind fun p2 => some (!p2)).bind fun p3 => some (p3 || ((!decide ((U_Letter.f_sender letter) = sender)) || (!(U_Letter.is_Letter letter))))).bind fun p68 => if p68 = true then some false else if ((!decide ((U_Letter.is_ToOne letter) = (decide (kind = (1 : Int))))) || (!decide ((U_Letter.is_ToAll letter) = (decide (kind = (2 : Int)))))) = true then some false else (forT (fun (caller5 : Int) (s4 : Unit) => ((((some letter).bind fun (x6 : U_Letter) => (match x6 with | .Letter o8 => f_Letter_meant o8 caller5 | .ToOne o10 => f_ToOne_meant o10 caller5 | .ToAll o12 => f_ToAll_meant o12 caller5)).bind fun b14 => f_law_truth b14 (((decide (kind = (1 : Int))) && (decide (caller5 = to_))) || ((decide (kind = (2 : Int))) && (!decide (caller5 = sender))))).bind fun p15 => some (!p15)).bind fun p16 => if p16 = true then some (Ct.rt false) else some (Ct.nx ())) some_ ()).bind fun c67 => c67.go (fun (s17 : Unit) => ((some letter).bind fun (x18 : U_Letter) => (match x18 with | .Letter o20 => f_Letter_number o20 | .ToOne o22 => f_ToOne_number o22 | .ToAll o24 => f_ToAll_number o24)).bind fun number26 => (((f_law_whole (some number26)).bind fun p28 => some (!p28)).bind fun p31 => if p31 = true then some true else ((gMul (if (decide (kind = (1 : Int))) = true then (1 : Int) else 0) (to_ + (1 : Int))).bind fun y29 => some (sender + y29)).bind fun y30 => some (!decide (number26 = y30))).bind fun p66 => if p66 = true then some false else if (!decide (kind = (1 : Int))) = true then (((some letter).bind fun (x32 : U_Letter) => (match x32 with | .Letter o34 => f_Letter_seeks o34 | .ToOne o36 => f_ToOne_seeks o36 | .ToAll o38 => f_ToAll_seeks o38)).bind fun x40 => some x40.isNone).bind fun r41 => some r41 else ((((some letter).bind fun (x42 : U_Letter) => (match x42 with | .Letter o44 => f_Letter_seeks o44 | .ToOne o46 => f_ToOne_seeks o46 | .ToAll o48 => f_ToAll_seeks o48)).bind fun b50 => f_law_whole b50).bind fun p64 => if p64 = true then (((some letter).bind fun (x51 : U_Letter) => (match x51 with | .Letter o53 => f_Letter_seeks o53 | .ToOne o55 => f_ToOne_seeks o55 | .ToAll o57 => f_ToAll_seeks o57)).bind fun x59 => some (decide (x59 = (some to_)))).bind fun p63 => if p63 = true then (((U_Letter.f_to letter).bind fun x => some (some x)).bind fun b60 => f_law_whole b60).bind fun p62 => if p62 = true then (U_Letter.f_to letter).bind fun x61 => some (decide (x61 = to_)) else some false else some false else some false).bind fun r65 => some r65) (fun r => some r)
theorem ev_law_is (letter : U_Letter) (sender : Int) (to_ : Int) (kind : Int) (some_ : (List Int)) (st : Sto) : m_law_is [en letter, en sender, en to_, en kind, en some_] st = (f_law_is letter sender to_ kind some_).map fun r => (Kx.sh.r (en r), st) := by
  refine Eq.trans (if_pos rfl) ?_
  exact ev_fn (ru_of (ru_ifx (ev_orxp (ev_notx (ev_callp (ea_p (ev_somep (ev_1tp flU_Letter_sender (ev_var rfl))) rfl (ea_nil)) (ev_law_whole (some (U_Letter.f_sender letter)) st) rfl)) (ev_orpp (ev_2tpp (o2_ne (by decide)) (ev_1tp flU_Letter_sender (ev_var rfl)) (ev_var rfl)) (ev_notp (ev_1tp isiU_Letter (ev_var rfl))))) (ru_as (ru_retp (ev_bl _) rfl)) (ru_id (ru_ifp (ev_orpp (ev_2tpp o2_neb (ev_1tp isiU_ToOne (ev_var rfl)) (ev_2tpp (o2_eq (by decide)) (ev_var rfl) (ev_int _))) (ev_2tpp o2_neb (ev_1tp isiU_ToAll (ev_var rfl)) (ev_2tpp (o2_eq (by decide)) (ev_var rfl) (ev_int _)))) (ru_as (ru_retp (ev_bl _) rfl)) (ru_id (ru_env [.sh (en (letter : U_Letter)), .sh (en (sender : Int)), .sh (en (to_ : Int)), .sh (en (kind : Int)), .sh (en (some_ : (List Int))), .no, .no, .no] rfl (ru_joinc (E := (fun (s4 : Unit) => [.sh (en (letter : U_Letter)), .sh (en (sender : Int)), .sh (en (to_ : Int)), .sh (en (kind : Int)), .sh (en (some_ : (List Int))), .no, .no, .no])) (F := fun r => r) (rc_forp (s0 := ()) (ei_lstp (ev_var rfl) rfl) rfl (fun _ _ => rfl) (fun caller5 s4 => ru_setp (ev_orpp (ev_andpp (ev_2tpp (o2_eq (by decide)) (ev_var rfl) (ev_int _)) (ev_2tpp (o2_eq (by decide)) (ev_var rfl) (ev_var rfl))) (ev_andpp (ev_2tpp (o2_eq (by decide)) (ev_var rfl) (ev_int _)) (ev_2tpp (o2_ne (by decide)) (ev_var rfl) (ev_var rfl)))) rfl (ru_ifx (ev_notx (ev_callx (F := fun b14 => f_law_truth b14 (((decide (kind = (1 : Int))) && (decide (caller5 = to_))) || ((decide (kind = (2 : Int))) && (!decide (caller5 = sender))))) (ea_xp (ev_virt3 (T := fun (x6 : U_Letter) => (match x6 with | .Letter o8 => f_Letter_meant o8 caller5 | .ToOne o10 => f_ToOne_meant o10 caller5 | .ToAll o12 => f_ToAll_meant o12 caller5)) (ev_var rfl) (fun x6 h7 => match x6, h7 with | .Letter o8, h7 => .inl ⟨_, rfl, ev_methp ((show Ev (α := O_Letter) _ _ _ _ (some o8) from ev_at (x := U_Letter.Letter o8) (ev_var rfl) h7)) rfl rfl (ea_p (ev_var rfl) rfl (ea_nil)) (ev_Letter_meant o8 caller5 st) rfl⟩ | .ToOne o10, h7 => .inr (.inl ⟨_, rfl, by decide, ev_methp ((show Ev (α := O_ToOne) _ _ _ _ (some o10) from ev_at (x := U_Letter.ToOne o10) (ev_var rfl) h7)) rfl rfl (ea_p (ev_var rfl) rfl (ea_nil)) (ev_ToOne_meant o10 caller5 st) rfl⟩) | .ToAll o12, h7 => .inr (.inr ⟨_, rfl, by decide, by decide, ev_methp ((show Ev (α := O_ToAll) _ _ _ _ (some o12) from ev_at (x := U_Letter.ToAll o12) (ev_var rfl) h7)) rfl rfl (ea_p (ev_var rfl) rfl (ea_nil)) (ev_ToAll_meant o12 caller5 st) rfl⟩))) rfl (ea_p (ev_var rfl) rfl (ea_nil))) (fun b14 => ev_law_truth b14 (((decide (kind = (1 : Int))) && (decide (caller5 = to_))) || ((decide (kind = (2 : Int))) && (!decide (caller5 = sender)))) st) (fun _ => rfl))) (ru_as (ru_retp (ev_bl _) rfl)) (ru_id (ru_kl rfl (ru_nil rfl)))))) (fun _ => rfl) (fun s17 => ru_setx (ev_virt3 (T := fun (x18 : U_Letter) => (match x18 with | .Letter o20 => f_Letter_number o20 | .ToOne o22 => f_ToOne_number o22 | .ToAll o24 => f_ToAll_number o24)) (ev_var rfl) (fun x18 h19 => match x18, h19 with | .Letter o20, h19 => .inl ⟨_, rfl, ev_methp ((show Ev (α := O_Letter) _ _ _ _ (some o20) from ev_at (x := U_Letter.Letter o20) (ev_var rfl) h19)) rfl rfl (ea_nil) (ev_Letter_number o20 st) rfl⟩ | .ToOne o22, h19 => .inr (.inl ⟨_, rfl, by decide, ev_methp ((show Ev (α := O_ToOne) _ _ _ _ (some o22) from ev_at (x := U_Letter.ToOne o22) (ev_var rfl) h19)) rfl rfl (ea_nil) (ev_ToOne_number o22 st) rfl⟩) | .ToAll o24, h19 => .inr (.inr ⟨_, rfl, by decide, by decide, ev_methp ((show Ev (α := O_ToAll) _ _ _ _ (some o24) from ev_at (x := U_Letter.ToAll o24) (ev_var rfl) h19)) rfl rfl (ea_nil) (ev_ToAll_number o24 st) rfl⟩))) rfl (fun number26 => ru_env [.sh (en (letter : U_Letter)), .sh (en (sender : Int)), .sh (en (to_ : Int)), .sh (en (kind : Int)), .sh (en (some_ : (List Int))), .no, .no, .sh (en (number26 : Int))] rfl (ru_ifx (ev_orxx (ev_notx (ev_callp (ea_p (ev_somep (ev_var rfl)) rfl (ea_nil)) (ev_law_whole (some number26) st) rfl)) (ev_2tpx (o2_ne (by decide)) (ev_var rfl) (ev_2tpx o2_add (ev_var rfl) (ev_2pp o2_mul (ev_1tp o1_bool (ev_2tpp (o2_eq (by decide)) (ev_var rfl) (ev_int _))) (ev_2tpp o2_add (ev_var rfl) (ev_int _)))))) (ru_as (ru_retp (ev_bl _) rfl)) (ru_id (ru_ifp (ev_2tpp (o2_ne (by decide)) (ev_var rfl) (ev_int _)) (ru_as (ru_retx (ev_1tx o1_isNo (ev_virt3 (T := fun (x32 : U_Letter) => (match x32 with | .Letter o34 => f_Letter_seeks o34 | .ToOne o36 => f_ToOne_seeks o36 | .ToAll o38 => f_ToAll_seeks o38)) (ev_var rfl) (fun x32 h33 => match x32, h33 with | .Letter o34, h33 => .inl ⟨_, rfl, ev_methp ((show Ev (α := O_Letter) _ _ _ _ (some o34) from ev_at (x := U_Letter.Letter o34) (ev_var rfl) h33)) rfl rfl (ea_nil) (ev_Letter_seeks o34 st) rfl⟩ | .ToOne o36, h33 => .inr (.inl ⟨_, rfl, by decide, ev_methp ((show Ev (α := O_ToOne) _ _ _ _ (some o36) from ev_at (x := U_Letter.ToOne o36) (ev_var rfl) h33)) rfl rfl (ea_nil) (ev_ToOne_seeks o36 st) rfl⟩) | .ToAll o38, h33 => .inr (.inr ⟨_, rfl, by decide, by decide, ev_methp ((show Ev (α := O_ToAll) _ _ _ _ (some o38) from ev_at (x := U_Letter.ToAll o38) (ev_var rfl) h33)) rfl rfl (ea_nil) (ev_ToAll_seeks o38 st) rfl⟩)))) (fun _ => rfl))) (ru_id (ru_env [.sh (en (letter : U_Letter)), .sh (en (sender : Int)), .sh (en (to_ : Int)), .sh (en (kind : Int)), .sh (en (some_ : (List Int))), .no, .no, .sh (en (number26 : Int))] rfl (ru_retx (ev_andxx (ev_callx (F := fun b50 => f_law_whole b50) (ea_xp (ev_virt3 (T := fun (x42 : U_Letter) => (match x42 with | .Letter o44 => f_Letter_seeks o44 | .ToOne o46 => f_ToOne_seeks o46 | .ToAll o48 => f_ToAll_seeks o48)) (ev_var rfl) (fun x42 h43 => match x42, h43 with | .Letter o44, h43 => .inl ⟨_, rfl, ev_methp ((show Ev (α := O_Letter) _ _ _ _ (some o44) from ev_at (x := U_Letter.Letter o44) (ev_var rfl) h43)) rfl rfl (ea_nil) (ev_Letter_seeks o44 st) rfl⟩ | .ToOne o46, h43 => .inr (.inl ⟨_, rfl, by decide, ev_methp ((show Ev (α := O_ToOne) _ _ _ _ (some o46) from ev_at (x := U_Letter.ToOne o46) (ev_var rfl) h43)) rfl rfl (ea_nil) (ev_ToOne_seeks o46 st) rfl⟩) | .ToAll o48, h43 => .inr (.inr ⟨_, rfl, by decide, by decide, ev_methp ((show Ev (α := O_ToAll) _ _ _ _ (some o48) from ev_at (x := U_Letter.ToAll o48) (ev_var rfl) h43)) rfl rfl (ea_nil) (ev_ToAll_seeks o48 st) rfl⟩))) rfl (ea_nil)) (fun b50 => ev_law_whole b50 st) (fun _ => rfl)) (ev_andxx (ev_2txp (o2_eq (by decide)) (ev_virt3 (T := fun (x51 : U_Letter) => (match x51 with | .Letter o53 => f_Letter_seeks o53 | .ToOne o55 => f_ToOne_seeks o55 | .ToAll o57 => f_ToAll_seeks o57)) (ev_var rfl) (fun x51 h52 => match x51, h52 with | .Letter o53, h52 => .inl ⟨_, rfl, ev_methp ((show Ev (α := O_Letter) _ _ _ _ (some o53) from ev_at (x := U_Letter.Letter o53) (ev_var rfl) h52)) rfl rfl (ea_nil) (ev_Letter_seeks o53 st) rfl⟩ | .ToOne o55, h52 => .inr (.inl ⟨_, rfl, by decide, ev_methp ((show Ev (α := O_ToOne) _ _ _ _ (some o55) from ev_at (x := U_Letter.ToOne o55) (ev_var rfl) h52)) rfl rfl (ea_nil) (ev_ToOne_seeks o55 st) rfl⟩) | .ToAll o57, h52 => .inr (.inr ⟨_, rfl, by decide, by decide, ev_methp ((show Ev (α := O_ToAll) _ _ _ _ (some o57) from ev_at (x := U_Letter.ToAll o57) (ev_var rfl) h52)) rfl rfl (ea_nil) (ev_ToAll_seeks o57 st) rfl⟩))) (ev_somep (ev_var rfl))) (ev_andxx (ev_callx (F := fun b60 => f_law_whole b60) (ea_xp (ev_somex (ev_1p flU_Letter_to (ev_var rfl))) rfl (ea_nil)) (fun b60 => ev_law_whole b60 st) (fun _ => rfl)) (ev_2txp (o2_eq (by decide)) (ev_1p flU_Letter_to (ev_var rfl)) (ev_var rfl))))) (fun _ => rfl))))))))))))))) (by rfl))
/-! law -/
noncomputable def f_law (script : Scr) : Option Bool :=
  ((rngG 0 (if (30 : Int) < ((script.l.length : Int) + (1 : Int)) then (30 : Int) else ((script.l.length : Int) + (1 : Int)))).bind fun l16 => forT (fun (k2 : Int) (s1 : (List (Tp4 U_Letter Int Int Int))) => (f_law_cell script k2).bind fun cell_here4 => (if (decide (((cell_here4 / (400 : Int)) % (5 : Int)) = (2 : Int))) = true then some (cell_here4 % (20 : Int)) else some ((cell_here4 / (20 : Int)) % (20 : Int))).bind fun (s5 : Int) => ((f_law_three (cell_here4 % (20 : Int)) s5).bind fun l13 => forT (fun (x8 : (Tp4 U_Letter Int Int Int)) (s7 : (List (Tp4 U_Letter Int Int Int))) => ((f_law_is x8.x0 x8.x1 x8.x2 x8.x3 ([cell_here4 % (20 : Int), s5, (cell_here4 / (7 : Int)) % (20 : Int), (cell_here4 / (3 : Int)) % (20 : Int), ((cell_here4 % (20 : Int)) + (1 : Int)) % (20 : Int), (s5 + (19 : Int)) % (20 : Int)] : (List Int))).bind fun p10 => some (!p10)).bind fun p12 => if p12 = true then some (Ct.rt false) else (appG s7 (⟨x8.x0, x8.x1, x8.x2, x8.x3⟩ : (Tp4 U_Letter Int Int Int))).bind fun held11 => some (Ct.nx held11)) l13 s1).bind fun c15 => c15.go (fun (s14 : (List (Tp4 U_Letter Int Int Int))) => some (Ct.nx s14)) (fun r => some (Ct.rt r))) l16 ([] : (List (Tp4 U_Letter Int Int Int)))).bind fun c25 => c25.go (fun (s17 : (List (Tp4 U_Letter Int Int Int))) => (forT (fun (x19 : (Tp4 U_Letter Int Int Int)) (s18 : Unit) => ((f_law_is x19.x0 x19.x1 x19.x2 x19.x3 ([x19.x1, x19.x2, (0 : Int), (19 : Int)] : (List Int))).bind fun p21 => some (!p21)).bind fun p22 => if p22 = true then some (Ct.rt false) else some (Ct.nx ())) (cutG s17 none (some (12 : Int))) ()).bind fun c24 => c24.go (fun (s23 : Unit) => some true) (fun r => some r)) (fun r => some r)
theorem ev_law (script : Scr) (st : Sto) : m_law [en script] st = (f_law script).map fun r => (Kx.sh.r (en r), st) := by
  refine Eq.trans (if_pos rfl) ?_
  exact ev_fn (ru_of (ru_setp (ev_lstp (p := ([] : (List (Tp4 U_Letter Int Int Int)))) (ea_nil) rfl (Nat.le_of_ble_eq_true rfl)) rfl (ru_joinc (E := (fun (s1 : (List (Tp4 U_Letter Int Int Int))) => [.sh (en (script : Scr)), .ow (en (s1 : (List (Tp4 U_Letter Int Int Int)))), .no, .no, .no, .no, .no, .no, .no, .no, .no])) (F := fun r => r) (rc_for (s0 := ([] : (List (Tp4 U_Letter Int Int Int)))) (ei_rng1p (ev_2tpp o2_min (ev_2tpp o2_add (ev_1tp o1_lens (ev_var rfl)) (ev_int _)) (ev_int _))) rfl (fun _ _ => rfl) (fun k2 s1 => ru_setx (ev_callp (ea_p (ev_var rfl) rfl (ea_p (ev_var rfl) rfl (ea_nil))) (ev_law_cell script k2 st) rfl) rfl (fun cell_here4 => ru_setp (ev_modc (c := 20) (by decide) (ev_var rfl)) rfl (ru_setp (ev_modc (c := 20) (by decide) (ev_divc (c := 20) (by decide) (by decide) (ev_var rfl))) rfl (ru_join (E := (fun (s5 : Int) => [.sh (en (script : Scr)), .ow (en (s1 : (List (Tp4 U_Letter Int Int Int)))), .sh (en (k2 : Int)), .sh (en (cell_here4 : Int)), .sh (en (cell_here4 % (20 : Int) : Int)), .sh (en (s5 : Int)), .no, .no, .no, .no, .no])) (rn_of (ru_ifp (ev_2tpp (o2_eq (by decide)) (ev_modc (c := 5) (by decide) (ev_divc (c := 400) (by decide) (by decide) (ev_var rfl))) (ev_int _)) (ru_sn (ru_env [.sh (en (script : Scr)), .ow (en (s1 : (List (Tp4 U_Letter Int Int Int)))), .sh (en (k2 : Int)), .sh (en (cell_here4 : Int)), .sh (en (cell_here4 % (20 : Int) : Int)), .sh (en ((cell_here4 / (20 : Int)) % (20 : Int) : Int)), .no, .no, .no, .no, .no] rfl (ru_setp (ev_var rfl) rfl (ru_nil rfl)))) (ru_sn (ru_nil rfl)))) (fun s5 => ru_setp (ev_lstp (p := ([cell_here4 % (20 : Int), s5, (cell_here4 / (7 : Int)) % (20 : Int), (cell_here4 / (3 : Int)) % (20 : Int), ((cell_here4 % (20 : Int)) + (1 : Int)) % (20 : Int), (s5 + (19 : Int)) % (20 : Int)] : (List Int))) (ea_p (ev_var rfl) rfl (ea_p (ev_var rfl) rfl (ea_p (ev_modc (c := 20) (by decide) (ev_divc (c := 7) (by decide) (by decide) (ev_var rfl))) rfl (ea_p (ev_modc (c := 20) (by decide) (ev_divc (c := 3) (by decide) (by decide) (ev_var rfl))) rfl (ea_p (ev_modc (c := 20) (by decide) (ev_2tpp o2_add (ev_var rfl) (ev_int _))) rfl (ea_p (ev_modc (c := 20) (by decide) (ev_2tpp o2_add (ev_var rfl) (ev_int _))) rfl (ea_nil))))))) rfl (Nat.le_of_ble_eq_true rfl)) rfl (ru_frz rfl (ru_joinc (E := (fun (s7 : (List (Tp4 U_Letter Int Int Int))) => [.sh (en (script : Scr)), .ow (en (s7 : (List (Tp4 U_Letter Int Int Int)))), .sh (en (k2 : Int)), .sh (en (cell_here4 : Int)), .sh (en (cell_here4 % (20 : Int) : Int)), .sh (en (s5 : Int)), .sh (en (([cell_here4 % (20 : Int), s5, (cell_here4 / (7 : Int)) % (20 : Int), (cell_here4 / (3 : Int)) % (20 : Int), ((cell_here4 % (20 : Int)) + (1 : Int)) % (20 : Int), (s5 + (19 : Int)) % (20 : Int)] : (List Int)) : (List Int))), .no, .no, .no, .no])) (F := fun r => Ct.rt r) (rc_for (s0 := s1) (ei_lstx (ev_callp (ea_p (ev_var rfl) rfl (ea_p (ev_var rfl) rfl (ea_nil))) (ev_law_three (cell_here4 % (20 : Int)) s5 st) rfl) rfl) rfl (fun _ _ => rfl) (fun x8 s7 => ru_ifx (ev_notx (ev_callp (ea_p (ev_var rfl) rfl (ea_p (ev_var rfl) rfl (ea_p (ev_var rfl) rfl (ea_p (ev_var rfl) rfl (ea_p (ev_var rfl) rfl (ea_nil)))))) (ev_law_is x8.x0 x8.x1 x8.x2 x8.x3 ([cell_here4 % (20 : Int), s5, (cell_here4 / (7 : Int)) % (20 : Int), (cell_here4 / (3 : Int)) % (20 : Int), ((cell_here4 % (20 : Int)) + (1 : Int)) % (20 : Int), (s5 + (19 : Int)) % (20 : Int)] : (List Int)) st) rfl)) (ru_as (ru_retp (ev_bl _) rfl)) (ru_id (ru_appp rfl (ev_tupp (p := (⟨x8.x0, x8.x1, x8.x2, x8.x3⟩ : (Tp4 U_Letter Int Int Int))) (ea_p (ev_var rfl) rfl (ea_p (ev_var rfl) rfl (ea_p (ev_var rfl) rfl (ea_p (ev_var rfl) rfl (ea_nil))))) rfl (Nat.le_of_ble_eq_true rfl)) rfl (fun held11 => ru_kl rfl (ru_nil rfl)))))) (fun _ => rfl) (fun s14 => ru_kl rfl (ru_nil rfl)))))))))) (fun _ => rfl) (fun s17 => ru_joinc (E := (fun (s18 : Unit) => [.sh (en (script : Scr)), .ow (en (s17 : (List (Tp4 U_Letter Int Int Int)))), .no, .no, .no, .no, .no, .no, .no, .no, .no])) (F := fun r => r) (rc_forp (s0 := ()) (ei_lstp (ev_slcp (ev_varo rfl) (ep_no) (ep_p (ev_int _))) rfl) rfl (fun _ _ => rfl) (fun x19 s18 => ru_ifx (ev_notx (ev_callp (ea_p (ev_var rfl) rfl (ea_p (ev_var rfl) rfl (ea_p (ev_var rfl) rfl (ea_p (ev_var rfl) rfl (ea_p (ev_lstp (p := ([x19.x1, x19.x2, (0 : Int), (19 : Int)] : (List Int))) (ea_p (ev_var rfl) rfl (ea_p (ev_var rfl) rfl (ea_p (ev_int _) rfl (ea_p (ev_int _) rfl (ea_nil))))) rfl (Nat.le_of_ble_eq_true rfl)) rfl (ea_nil)))))) (ev_law_is x19.x0 x19.x1 x19.x2 x19.x3 ([x19.x1, x19.x2, (0 : Int), (19 : Int)] : (List Int)) st) rfl)) (ru_as (ru_retp (ev_bl _) rfl)) (ru_id (ru_kl rfl (ru_nil rfl))))) (fun _ => rfl) (fun s23 => ru_retp (ev_bl _) rfl)))) (by rfl))
/-! ### plain: lists by whole numbers, loops -/
def gI {α : Type} (l : List α) (i : Int) (z : α) : α := l.getD i.toNat z
theorem atI_g {α : Type} {l : List α} {i : Int} (z : α) (h0 : 0 ≤ i) (h1 : i < l.length) : atI l i = some (gI l i z) := by
  obtain ⟨k, rfl⟩ := Int.eq_ofNat_of_zero_le h0
  have hk : k < l.length := by omega
  rw [atI_nat (List.getElem?_eq_getElem hk)]
  unfold gI
  rw [List.getD_eq_getElem?_getD, Int.toNat_natCast, List.getElem?_eq_getElem hk]; rfl
theorem gI_mem {α : Type} {l : List α} {i : Int} (z : α) (h0 : 0 ≤ i) (h1 : i < l.length) : gI l i z ∈ l := by
  unfold gI
  have hk : i.toNat < l.length := by omega
  rw [List.getD_eq_getElem?_getD, List.getElem?_eq_getElem hk]
  exact List.getElem_mem hk
theorem gI_get {α : Type} {l : List α} {i : Int} (z : α) {k : Nat} (hk : k < l.length) (h : i = k) : gI l i z = l[k] := by
  subst h
  unfold gI
  rw [List.getD_eq_getElem?_getD, Int.toNat_natCast, List.getElem?_eq_getElem hk]; rfl
theorem atI_mem {α : Type} {l : List α} {i : Int} (h0 : 0 ≤ i) (h1 : i < l.length) : ∃ x ∈ l, atI l i = some x := by
  obtain ⟨k, rfl⟩ := Int.eq_ofNat_of_zero_le h0
  have hk : k < l.length := by omega
  exact ⟨l[k], List.getElem_mem hk, atI_nat (List.getElem?_eq_getElem hk)⟩
theorem ixN_g {n : Nat} {i : Int} (h0 : 0 ≤ i) (h1 : i < n) : ixN n i = some i.toNat := by
  obtain ⟨k, rfl⟩ := Int.eq_ofNat_of_zero_le h0
  rw [ixN_nat (by omega)]; rfl
theorem setG_g {α : Type} {l : List α} {i : Int} {x : α} (h0 : 0 ≤ i) (h1 : i < l.length) : setG l i x = some (l.set i.toNat x) := by
  unfold setG; rw [ixN_g h0 h1]; rfl
theorem gI_set {α : Type} {l : List α} {i j : Int} {x z : α} (h0 : 0 ≤ i) (h1 : i < l.length) (h2 : 0 ≤ j) : gI (l.set i.toNat x) j z = if j = i then x else gI l j z := by
  unfold gI
  rw [List.getD_eq_getElem?_getD, List.getElem?_set]
  by_cases e : j = i
  · subst e
    rw [if_pos rfl, if_pos (by omega), if_pos rfl]; rfl
  · rw [if_neg (by omega), if_neg e, ← List.getD_eq_getElem?_getD]
theorem mem_rngI {lo x : Int} {n : Nat} : x ∈ rngI lo n ↔ lo ≤ x ∧ x < lo + n := by
  unfold rngI
  rw [List.mem_map]
  constructor
  · rintro ⟨k, hk, rfl⟩
    have := List.mem_range.mp hk
    omega
  · intro h
    exact ⟨(x - lo).toNat, List.mem_range.mpr (by omega), by omega⟩
theorem rngI_len (lo : Int) (n : Nat) : (rngI lo n).length = n := by unfold rngI; rw [List.length_map, List.length_range]
theorem rngI_succ (lo : Int) (n : Nat) : rngI lo (n + 1) = lo :: rngI (lo + 1) n := by
  unfold rngI
  rw [List.range_succ_eq_map, List.map_cons, List.map_map]
  refine congr (congrArg _ (by simp)) (List.map_congr_left fun k _ => ?_)
  simp; omega
theorem rngI_last (lo : Int) (n : Nat) : rngI lo (n + 1) = rngI lo n ++ [lo + n] := by
  unfold rngI
  rw [List.range_succ, List.map_append]; rfl
theorem rngG0 {j : Int} (h0 : 0 ≤ j) (h : j ≤ 1000000) : rngG 0 j = some (rngI 0 j.toNat) := by
  rw [rngG_of (by decide) (by omega), Int.sub_zero]
theorem gI_rng {n : Nat} {i z : Int} (h0 : 0 ≤ i) (h1 : i < n) : gI (rngI 0 n) i z = i := by
  have hk : i.toNat < (rngI 0 n).length := by rw [rngI_len]; omega
  rw [gI_get z hk (by omega)]
  have e : (rngI 0 n)[i.toNat] = 0 + ((i.toNat : Nat) : Int) := by simp [rngI]
  rw [e]; omega
theorem gI_map {α β : Type} (F : α → β) {l : List α} {i : Int} (z : α) (z' : β) (h0 : 0 ≤ i) (h1 : i < l.length) : gI (l.map F) i z' = F (gI l i z) := by
  have hk : i.toNat < l.length := by omega
  rw [gI_get z hk (by omega), gI_get z' (by rw [List.length_map]; exact hk) (by omega), List.getElem_map]
/-- a list by its places -/
theorem list_ext_g {α : Type} {l m : List α} (z : α) (hl : l.length = m.length) (h : ∀ i : Int, 0 ≤ i → i < l.length → gI l i z = gI m i z) : l = m := by
  refine List.ext_getElem hl fun k h1 h2 => ?_
  have := h k (by omega) (by omega)
  rwa [gI_get z h1 rfl, gI_get z h2 rfl] at this
section
variable {α σ ρ : Type}
theorem foldT_app {step : α → σ → Option σ} : ∀ (l m : List α) (s : σ), foldT step (l ++ m) s = (foldT step l s).bind fun s' => foldT step m s'
  | [], m, s => rfl
  | x :: l, m, s => by
    rw [List.cons_append, foldT, foldT]
    cases step x s with
    | none => rfl
    | some s' => exact foldT_app l m s'
/-- a fold whose turns all go through -/
theorem foldT_pure {step : α → σ → Option σ} (g : σ → α → σ) (P : σ → Prop) : ∀ (l : List α) (s : σ), P s → (∀ x ∈ l, ∀ s, P s → step x s = some (g s x) ∧ P (g s x)) → foldT step l s = some (l.foldl g s) ∧ P (l.foldl g s)
  | [], s, hp, _ => ⟨rfl, hp⟩
  | x :: l, s, hp, h => by
    obtain ⟨h1, h2⟩ := h x List.mem_cons_self s hp
    rw [foldT, h1]
    exact foldT_pure g P l (g s x) h2 fun y hy => h y (List.mem_cons_of_mem _ hy)
theorem foldT_ind {step : α → σ → Option σ} (P : List α → σ → Prop) : ∀ (l pre : List α) (s : σ), P pre s → (∀ pre x s, x ∈ l → P pre s → ∃ s', step x s = some s' ∧ P (pre ++ [x]) s') → ∃ s', foldT step l s = some s' ∧ P (pre ++ l) s'
  | [], pre, s, hp, _ => ⟨s, rfl, by rwa [List.append_nil]⟩
  | x :: l, pre, s, hp, h => by
    obtain ⟨s1, h1, h2⟩ := h pre x s List.mem_cons_self hp
    obtain ⟨s2, h3, h4⟩ := foldT_ind P l (pre ++ [x]) s1 h2 fun pre y s hy => h pre y s (List.mem_cons_of_mem _ hy)
    refine ⟨s2, ?_, by rwa [List.append_assoc] at h4⟩
    rw [foldT, h1]; exact h3
theorem foldT_ex {step : α → σ → Option σ} (P : List α → σ → Prop) {l : List α} {s : σ} (h0 : P [] s) (h : ∀ pre x s, x ∈ l → P pre s → ∃ s', step x s = some s' ∧ P (pre ++ [x]) s') : ∃ s', foldT step l s = some s' ∧ P l s' := by
  have := foldT_ind P l [] s h0 h
  simpa using this
/-- by the number of turns -/
theorem foldT_num {step : α → σ → Option σ} (P : Nat → σ → Prop) {l : List α} {s : σ} (h0 : P 0 s) (h : ∀ k x s, x ∈ l → k < l.length → P k s → ∃ s', step x s = some s' ∧ P (k + 1) s') : ∃ s', foldT step l s = some s' ∧ P l.length s' := by
  have key : ∀ (m : List α) (k : Nat) (s : σ), P k s → k + m.length = l.length → (∀ x ∈ m, x ∈ l) → ∃ s', foldT step m s = some s' ∧ P l.length s' := fun m => by
    induction m with
    | nil => intro k s hp hk _; exact ⟨s, rfl, by rw [← hk]; exact hp⟩
    | cons x m ih =>
      intro k s hp hk hm
      rw [List.length_cons] at hk
      obtain ⟨s1, h1, h2⟩ := h k x s (hm x List.mem_cons_self) (by omega) hp
      obtain ⟨s2, h3, h4⟩ := ih (k + 1) s1 h2 (by omega) fun y hy => hm y (List.mem_cons_of_mem _ hy)
      exact ⟨s2, by rw [foldT, h1]; exact h3, h4⟩
  exact key l 0 s h0 (by omega) fun _ h => h
theorem forT_nx {step : α → σ → Option (Ct ρ σ)} (g : σ → α → σ) (P : σ → Prop) : ∀ (l : List α) (s : σ), P s → (∀ x ∈ l, ∀ s, P s → step x s = some (.nx (g s x)) ∧ P (g s x)) → forT step l s = some (.nx (l.foldl g s)) ∧ P (l.foldl g s)
  | [], s, hp, _ => ⟨rfl, hp⟩
  | x :: l, s, hp, h => by
    obtain ⟨h1, h2⟩ := h x List.mem_cons_self s hp
    rw [forT, h1]
    exact forT_nx g P l (g s x) h2 fun y hy => h y (List.mem_cons_of_mem _ hy)
theorem forT_unit {step : α → Unit → Option (Ct ρ Unit)} {l : List α} (h : ∀ x ∈ l, step x () = some (.nx ())) : forT step l () = some (.nx ()) := (forT_nx (fun _ _ => ()) (fun _ => True) l () trivial fun x hx _ _ => ⟨h x hx, trivial⟩).1
theorem forT_ex {step : α → σ → Option (Ct ρ σ)} (P : List α → σ → Prop) : ∀ (l pre : List α) (s : σ), P pre s → (∀ pre x s, x ∈ l → P pre s → ∃ s', step x s = some (.nx s') ∧ P (pre ++ [x]) s') → ∃ s', forT step l s = some (.nx s') ∧ P (pre ++ l) s'
  | [], pre, s, hp, _ => ⟨s, rfl, by rwa [List.append_nil]⟩
  | x :: l, pre, s, hp, h => by
    obtain ⟨s1, h1, h2⟩ := h pre x s List.mem_cons_self hp
    obtain ⟨s2, h3, h4⟩ := forT_ex P l (pre ++ [x]) s1 h2 fun pre y s hy => h pre y s (List.mem_cons_of_mem _ hy)
    refine ⟨s2, ?_, by rwa [List.append_assoc] at h4⟩
    rw [forT, h1]; exact h3
theorem forT_num {step : α → σ → Option (Ct ρ σ)} (P : Nat → σ → Prop) {l : List α} {s : σ} (h0 : P 0 s) (h : ∀ k x s, x ∈ l → k < l.length → P k s → ∃ s', step x s = some (.nx s') ∧ P (k + 1) s') : ∃ s', forT step l s = some (.nx s') ∧ P l.length s' := by
  have key : ∀ (m : List α) (k : Nat) (s : σ), P k s → k + m.length = l.length → (∀ x ∈ m, x ∈ l) → ∃ s', forT step m s = some (.nx s') ∧ P l.length s' := fun m => by
    induction m with
    | nil => intro k s hp hk _; exact ⟨s, rfl, by rw [← hk]; exact hp⟩
    | cons x m ih =>
      intro k s hp hk hm
      rw [List.length_cons] at hk
      obtain ⟨s1, h1, h2⟩ := h k x s (hm x List.mem_cons_self) (by omega) hp
      obtain ⟨s2, h3, h4⟩ := ih (k + 1) s1 h2 (by omega) fun y hy => hm y (List.mem_cons_of_mem _ hy)
      exact ⟨s2, by rw [forT, h1]; exact h3, h4⟩
  exact key l 0 s h0 (by omega) fun _ h => h
/-- a while by a measure -/
theorem whT_ex {c : σ → Option Bool} {step : σ → Option σ} (P : σ → Prop) (μ : σ → Nat) (h : ∀ s, P s → (c s = some false) ∨ (c s = some true ∧ ∃ s', step s = some s' ∧ P s' ∧ μ s' < μ s)) : ∀ (n : Nat) (s : σ), P s → μ s < n → ∃ s', whT c step n s = some s' ∧ P s' ∧ c s' = some false
  | 0, s, _, hn => absurd hn (by omega)
  | n + 1, s, hp, hn => by
    rcases h s hp with hc | ⟨hc, s1, h1, h2, h3⟩
    · exact ⟨s, by rw [whT, hc]; rfl, hp, hc⟩
    · obtain ⟨s2, h4, h5⟩ := whT_ex P μ h n s1 h2 (by omega)
      exact ⟨s2, by rw [whT, hc]; show ((step s).bind _) = _; rw [h1]; exact h4, h5⟩
theorem lcT_ok [En α] {β : Type} [En β] {f : α → Option β} {F : α → β} {l : List α} (h : ∀ x ∈ l, f x = some (F x)) : lcT (fun _ => some true) f l = some (l.map F) := by
  induction l with
  | nil => rfl
  | cons x l ih =>
    rw [lcT, h x List.mem_cons_self, ih fun y hy => h y (List.mem_cons_of_mem _ hy)]; rfl
/-- a comprehension of what is so somehow -/
theorem lcT_ex [En α] {β : Type} [En β] {f : α → Option β} (P : β → Prop) {l : List α} (h : ∀ x ∈ l, ∃ y, f x = some y ∧ P y) : ∃ m, lcT (fun _ => some true) f l = some m ∧ m.length = l.length ∧ ∀ y ∈ m, P y := by
  induction l with
  | nil => exact ⟨[], rfl, rfl, fun y hy => absurd hy List.not_mem_nil⟩
  | cons x l ih =>
    obtain ⟨y, h1, h2⟩ := h x List.mem_cons_self
    obtain ⟨m, h3, h4, h5⟩ := ih fun y hy => h y (List.mem_cons_of_mem _ hy)
    refine ⟨y :: m, by rw [lcT, h1, h3]; rfl, by rw [List.length_cons, List.length_cons, h4], fun z hz => ?_⟩
    rcases List.mem_cons.mp hz with rfl | hz
    · exact h2
    · exact h5 z hz
end
theorem gMul_b {i j : Int} (h1 : i.natAbs ≤ 2 ^ 250) (h2 : j.natAbs ≤ 2 ^ 250) : gMul i j = some (i * j) := by
  have : 2 ^ 251 ≤ 2 ^ 400000 := Nat.pow_le_pow_right (by decide) (by decide)
  refine gMul_of ?_ ?_
  all_goals
    generalize 2 ^ 400000 = z at this
    omega
theorem gDiv_b {i j : Int} (h : 0 < j) (h2 : j ≤ 2 ^ 250) : gDiv i j = some (i / j) := by
  refine gDiv_of h ?_
  have e : (2 : Int) ^ 8000 = ((2 ^ 8000 : Nat) : Int) := (Int.natCast_pow 2 8000).symm
  have : 2 ^ 251 ≤ 2 ^ 8000 := Nat.pow_le_pow_right (by decide) (by decide)
  rw [e]
  generalize 2 ^ 8000 = z at this
  omega
theorem gMod_b {i j : Int} (h : 0 < j) : gMod i j = some (i % j) := if_pos h
theorem gPow_10 {n : Int} (h : 0 ≤ n) (h2 : n ≤ 1000) : gPow 10 n = some (10 ^ n.toNat) := by
  unfold gPow
  rw [if_pos ⟨h, by omega, by decide⟩]
theorem gShr_b {i j : Int} (h : 0 ≤ j) : gShr i j = some (i / 2 ^ j.toNat) := if_pos h
/-! ### plain: what a reading comes to -/
def Ok {β : Type} (t : Option β) (Q : β → Prop) : Prop := ∃ y, t = some y ∧ Q y
section
variable {α β σ ρ : Type}
theorem Ok.mk {y : β} {Q : β → Prop} (h : Q y) : Ok (some y) Q := ⟨y, rfl, h⟩
theorem Ok.bind {t : Option σ} {f : σ → Option β} {Q : β → Prop} (P : σ → Prop) (h : Ok t P) (k : ∀ s, P s → Ok (f s) Q) : Ok (t.bind f) Q := by
  obtain ⟨s, rfl, hp⟩ := h
  exact k s hp
theorem Ok.imp {t : Option β} {P Q : β → Prop} (h : Ok t P) (k : ∀ y, P y → Q y) : Ok t Q := let ⟨y, e, p⟩ := h; ⟨y, e, k y p⟩
theorem Ok.eq {t : Option β} {y : β} {Q : β → Prop} (e : t = some y) (h : Q y) : Ok t Q := ⟨y, e, h⟩
theorem Ok.ite {c : Prop} [Decidable c] {t u : Option β} {Q : β → Prop} (h : c → Ok t Q) (k : ¬ c → Ok u Q) : Ok (if c then t else u) Q := by
  by_cases e : c
  · rw [if_pos e]; exact h e
  · rw [if_neg e]; exact k e
theorem Ok.at {l : List α} {i : Int} {Q : α → Prop} (h0 : 0 ≤ i) (h1 : i < l.length) (k : ∀ x ∈ l, Q x) : Ok (atI l i) Q := by
  obtain ⟨x, hx, e⟩ := atI_mem h0 h1
  exact ⟨x, e, k x hx⟩
theorem Ok.atLast {l : List α} {Q : α → Prop} (h1 : 0 < l.length) (k : ∀ x ∈ l, Q x) : Ok (atI l (-1)) Q := by
  have hne : l ≠ [] := fun q => by rw [q] at h1; simp at h1
  have e := List.dropLast_concat_getLast hne
  refine ⟨l.getLast hne, ?_, k _ (List.getLast_mem hne)⟩
  conv => lhs; rw [← e]
  exact atI_last _ _
theorem Ok.num {step : α → σ → Option σ} {l : List α} {s : σ} (P : Nat → σ → Prop) (h0 : P 0 s) (h : ∀ k x s, x ∈ l → k < l.length → P k s → Ok (step x s) (P (k + 1))) : Ok (foldT step l s) (P l.length) := foldT_num P h0 h
theorem Ok.numC {step : α → σ → Option (Ct ρ σ)} {l : List α} {s : σ} (P : Nat → σ → Prop) (h0 : P 0 s) (h : ∀ k x s, x ∈ l → k < l.length → P k s → Ok (step x s) fun c => ∃ s', c = .nx s' ∧ P (k + 1) s') : Ok (forT step l s) fun c => ∃ s', c = .nx s' ∧ P l.length s' := by
  obtain ⟨s', h1, h2⟩ := forT_num (step := step) P h0 fun k x s hx hk hp => by
    obtain ⟨c, e1, s2, rfl, h3⟩ := h k x s hx hk hp
    exact ⟨s2, e1, h3⟩
  exact ⟨_, h1, s', rfl, h2⟩
theorem Ok.unitC {step : α → Unit → Option (Ct ρ Unit)} {l : List α} {Q : Ct ρ Unit → Prop} (h : ∀ x ∈ l, step x () = some (.nx ())) (k : Q (.nx ())) : Ok (forT step l ()) Q := ⟨_, forT_unit h, k⟩
theorem Ok.wh {c : σ → Option Bool} {step : σ → Option σ} {n : Nat} {s : σ} (P : σ → Prop) (μ : σ → Nat) (h0 : P s) (hn : μ s < n) (h : ∀ s, P s → Ok (c s) fun b => b = true → Ok (step s) fun s' => P s' ∧ μ s' < μ s) : Ok (whT c step n s) fun s' => P s' ∧ c s' = some false := by
  obtain ⟨s', h1, h2, h3⟩ := whT_ex P μ (fun s hp => by
    obtain ⟨b, e, k⟩ := h s hp
    cases b with
    | false => exact .inl e
    | true => obtain ⟨s2, e2, h4, h5⟩ := k rfl; exact .inr ⟨e, s2, e2, h4, h5⟩) n s h0 hn
  exact ⟨s', h1, h2, h3⟩
theorem Ok.lc [En α] [En β] {f : α → Option β} {l : List α} (P : β → Prop) (hl : l.length ≤ 1000) (h : ∀ x ∈ l, Ok (f x) P) : Ok ((lcT (fun _ => some true) f l).bind szG) fun m => m.length = l.length ∧ ∀ y ∈ m, P y := by
  obtain ⟨m, h1, h2, h3⟩ := lcT_ex P h
  refine ⟨m, ?_, h2, h3⟩
  rw [h1]
  exact szG_of (by omega)
theorem Ok.app [En α] {l : List α} {x : α} {Q : List α → Prop} (h : l.length ≤ 1000) (k : Q (l ++ [x])) : Ok (appG l x) Q := ⟨_, appG_of h, k⟩
end
section
variable {α β σ ρ : Type}
theorem Ok.rngA {step : Int → σ → Option σ} {n : Nat} (P : Nat → σ → Prop) (h : ∀ (k : Nat) s, k < n → P k s → Ok (step (k : Int) s) (P (k + 1))) : ∀ (m i : Nat) (s : σ), i + m = n → P i s → Ok (foldT step (rngI (i : Nat) m) s) (P n)
  | 0, i, s, hi, hp => by
    have : i = n := by omega
    subst this
    exact ⟨s, rfl, hp⟩
  | m + 1, i, s, hi, hp => by
    obtain ⟨s1, h1, h2⟩ := h i s (by omega) hp
    have := Ok.rngA P h m (i + 1) s1 (by omega) h2
    obtain ⟨s2, h3, h4⟩ := this
    exact ⟨s2, by rw [rngI_succ, foldT, h1]; exact h3, h4⟩
theorem Ok.rng {step : Int → σ → Option σ} {n : Nat} {s : σ} (P : Nat → σ → Prop) (h0 : P 0 s) (h : ∀ (k : Nat) s, k < n → P k s → Ok (step (k : Int) s) (P (k + 1))) : Ok (foldT step (rngI 0 n) s) (P n) := Ok.rngA P h n 0 s (by omega) h0
theorem Ok.rngCA {step : Int → σ → Option (Ct ρ σ)} {n : Nat} (P : Nat → σ → Prop) (h : ∀ (k : Nat) s, k < n → P k s → Ok (step (k : Int) s) fun c => ∃ s', c = .nx s' ∧ P (k + 1) s') : ∀ (m i : Nat) (s : σ), i + m = n → P i s → Ok (forT step (rngI (i : Nat) m) s) fun c => ∃ s', c = .nx s' ∧ P n s'
  | 0, i, s, hi, hp => by
    have : i = n := by omega
    subst this
    exact ⟨_, rfl, s, rfl, hp⟩
  | m + 1, i, s, hi, hp => by
    obtain ⟨c, h1, s1, rfl, h2⟩ := h i s (by omega) hp
    obtain ⟨s2, h3, h4⟩ := Ok.rngCA P h m (i + 1) s1 (by omega) h2
    exact ⟨s2, by rw [rngI_succ, forT, h1]; exact h3, h4⟩
theorem Ok.rngC {step : Int → σ → Option (Ct ρ σ)} {n : Nat} {s : σ} (P : Nat → σ → Prop) (h0 : P 0 s) (h : ∀ (k : Nat) s, k < n → P k s → Ok (step (k : Int) s) fun c => ∃ s', c = .nx s' ∧ P (k + 1) s') : Ok (forT step (rngI 0 n) s) fun c => ∃ s', c = .nx s' ∧ P n s' := Ok.rngCA P h n 0 s (by omega) h0
end
theorem bind_id {α : Type} (t : Option α) : (t.bind fun x => some x) = t := by cases t <;> rfl
theorem lcT_fm {α β : Type} [En α] [En β] {c : α → Option Bool} {f : α → Option β} (C : α → Bool) (F : α → β) {l : List α} (h : ∀ x ∈ l, c x = some (C x) ∧ (C x = true → f x = some (F x))) : lcT c f l = some ((l.filter C).map F) := by
  induction l with
  | nil => rfl
  | cons x l ih =>
    obtain ⟨h1, h2⟩ := h x List.mem_cons_self
    rw [lcT, h1, ih fun y hy => h y (List.mem_cons_of_mem _ hy), List.filter_cons]
    cases hc : C x with
    | false => simp
    | true => simp [h2 hc]
theorem repG_of {α : Type} [En α] {l : List α} {k : Nat} (h : l.length * k ≤ 1000) (hk : k ≤ 1000) : repG l (k : Int) = some (List.replicate k l).flatten := by
  unfold repG
  rw [if_pos ⟨by omega, by omega, by rw [Int.toNat_natCast]; exact x_sz h⟩, Int.toNat_natCast]

abbrev LtT := Tp4 U_Letter Int Int Int
structure GoodL (x : LtT) : Prop where
  is : (x.x3 = 0 ∧ x.x0 = .Letter ⟨x.x1⟩) ∨ (x.x3 = 1 ∧ x.x0 = .ToOne ⟨x.x1, x.x2⟩) ∨ (x.x3 = 2 ∧ x.x0 = .ToAll ⟨x.x1⟩)
  r2 : 0 ≤ x.x2 ∧ x.x2 < 20
theorem law_is_ok {x : LtT} (h : GoodL x) (l : List Int) : f_law_is x.x0 x.x1 x.x2 x.x3 l = some true := by
  obtain ⟨a, b, c, k⟩ := x
  obtain ⟨h, r⟩ := h
  dsimp only at h r ⊢
  have g1 : gMul 1 (c + 1) = some (1 * (c + 1)) := gMul_b (by decide) (by omega)
  have g0 : gMul 0 (c + 1) = some (0 * (c + 1)) := gMul_b (by decide) (by omega)
  rcases h with ⟨rfl, rfl⟩ | ⟨rfl, rfl⟩ | ⟨rfl, rfl⟩
  · unfold f_law_is
    rw [forT_unit (l := l) fun y _ => by simp [f_Letter_meant, f_law_truth]]
    simp [f_law_whole, U_Letter.f_sender, U_Letter.is_Letter, U_Letter.is_ToOne, U_Letter.is_ToAll, f_Letter_number, f_Letter_seeks, Ct.go, g0]
  · unfold f_law_is
    rw [forT_unit (l := l) fun y _ => by simp [f_ToOne_meant, f_law_truth]]
    have z : b + c + 1 = b + (c + 1) := by omega
    simp [f_law_whole, U_Letter.f_sender, U_Letter.f_to, U_Letter.is_Letter, U_Letter.is_ToOne, U_Letter.is_ToAll, f_ToOne_number, f_ToOne_seeks, Ct.go, g1, z]
  · unfold f_law_is
    rw [forT_unit (l := l) fun y _ => by simp [f_ToAll_meant, f_law_truth]]
    simp [f_law_whole, U_Letter.f_sender, U_Letter.is_Letter, U_Letter.is_ToOne, U_Letter.is_ToAll, f_ToAll_number, f_ToAll_seeks, Ct.go, g0]
theorem three_ok (a c : Int) (r : 0 ≤ c ∧ c < 20) : ∃ l, f_law_three a c = some l ∧ l.length = 3 ∧ ∀ x ∈ l, GoodL x := by
  refine ⟨[⟨.Letter ⟨a⟩, a, c, 0⟩, ⟨.ToOne ⟨a, c⟩, a, c, 1⟩, ⟨.ToAll ⟨a⟩, a, c, 2⟩], rfl, rfl, fun x hx => ?_⟩
  simp only [List.mem_cons, List.not_mem_nil, or_false] at hx
  rcases hx with rfl | rfl | rfl
  · exact ⟨.inl ⟨rfl, rfl⟩, r⟩
  · exact ⟨.inr (.inl ⟨rfl, rfl⟩), r⟩
  · exact ⟨.inr (.inr ⟨rfl, rfl⟩), r⟩
theorem cell25_ok (sc : Scr) (k : Int) (h : 0 ≤ k) : Ok (f_law_cell sc k) fun _ => True := by
  unfold f_law_cell
  refine Ok.ite (fun c => ?_) fun _ => Ok.mk trivial
  have c := of_decide_eq_true c
  refine Ok.bind (fun _ => True) (Ok.bind (fun _ => True) (.at h c fun _ _ => trivial) fun x _ => ?_) fun _ _ => Ok.mk trivial
  rw [gPow_10 (by decide) (by decide)]
  simp only [Option.bind_some]
  rw [gMod_b (by decide)]
  exact Ok.mk (Q := fun _ => True) trivial
theorem law_plain (sc : Scr) : f_law sc = some true := by
  unfold f_law
  have hm : (if (30 : Int) < ((sc.l.length : Int) + (1 : Int)) then (30 : Int) else ((sc.l.length : Int) + (1 : Int))) ≤ 30 := by split <;> omega
  have hm0 : 0 ≤ (if (30 : Int) < ((sc.l.length : Int) + (1 : Int)) then (30 : Int) else ((sc.l.length : Int) + (1 : Int))) := by split <;> omega
  generalize (if (30 : Int) < ((sc.l.length : Int) + (1 : Int)) then (30 : Int) else ((sc.l.length : Int) + (1 : Int))) = m at hm hm0
  rw [rngG0 hm0 (by omega)]
  simp only [Option.bind_some]
  suffices h : Ok (((forT _ _ _).bind _ : Option Bool)) fun b => b = true by
    obtain ⟨b, e, rfl⟩ := h; exact e
  refine Ok.bind (fun c => ∃ s : List LtT, c = .nx s ∧ s.length ≤ 3 * (rngI 0 m.toNat).length ∧ ∀ x ∈ s, GoodL x) (Ok.numC (fun n (s : List LtT) => s.length ≤ 3 * n ∧ ∀ x ∈ s, GoodL x) ⟨by simp, fun x hx => absurd hx List.not_mem_nil⟩ fun n k s hk hn hp => ?_) fun c hc => ?_
  · rw [rngI_len] at hn
    have hk := mem_rngI.mp hk
    refine Ok.bind _ (cell25_ok sc k (by omega)) fun cell _ => ?_
    refine Ok.bind (fun z => 0 ≤ z ∧ z < 20) (Ok.ite (fun _ => Ok.mk (by omega)) fun _ => Ok.mk (by omega)) fun to_ ht => ?_
    obtain ⟨l, e, l3, hl⟩ := three_ok (cell % 20) to_ ht
    rw [e]
    simp only [Option.bind_some]
    refine Ok.bind (fun c => ∃ s' : List LtT, c = .nx s' ∧ s'.length ≤ s.length + l.length ∧ ∀ x ∈ s', GoodL x) (Ok.numC (fun j (s' : List LtT) => s'.length ≤ s.length + j ∧ ∀ x ∈ s', GoodL x) ⟨by simp, hp.2⟩ fun j x s' hx hj hp' => ?_) fun c hc => ?_
    · rw [law_is_ok (hl x hx)]
      simp only [Option.bind_some, Bool.not_true, Bool.false_eq_true, if_false]
      rw [appG_of (by omega)]
      refine Ok.mk ⟨_, rfl, by rw [List.length_append]; simp; omega, fun y hy => ?_⟩
      rcases List.mem_append.mp hy with hy | hy
      · exact hp'.2 y hy
      · rw [List.mem_singleton.mp hy]; exact hl x hx
    · obtain ⟨s', rfl, h1, h2⟩ := hc
      exact Ok.mk ⟨s', rfl, by omega, h2⟩
  · obtain ⟨s, rfl, h1, h2⟩ := hc
    simp only [Ct.go]
    rw [forT_unit fun x hx => by
      rw [show (some (12 : Int)) = some ((12 : Nat) : Int) from rfl, cutG_to] at hx
      rw [law_is_ok (h2 x (List.mem_of_mem_take hx))]; rfl]
    exact Ok.mk rfl
theorem law_true : ∀ ns : List Int, ns.length ≤ 63 → ∃ st', m_law [.scr ns] [] = some (.sh (.bl true), st') := fun ns _ => by
  have := ev_law ⟨ns⟩ []
  rw [law_plain] at this
  exact ⟨_, this⟩

theorem all_mk {l : PySem.W.OpenLaw} {w : World} {K : PySem.W.Frag} {h : Heap} {mg : Str → Option Value} {fa : Addr} (X : K.In h) (G : h.Ns mainGlobals mg) (hfa : mg "law" = some (.ref fa)) {od0 an0 : Option Addr} {sl0 : Array (Option Value)} {oc0 kV0 dc0 pm0 cd0 ct0 : Value} {f0 : Addr} {od1 an1 : Option Addr} {sl1 : Array (Option Value)} {oc1 kV1 dc1 pm1 cd1 ct1 : Value} {f1 : Addr} {od2 an2 : Option Addr} {sl2 : Array (Option Value)} {oc2 kV2 dc2 pm2 cd2 ct2 : Value} {f2 : Addr} {od3 an3 : Option Addr} {sl3 : Array (Option Value)} {oc3 kV3 dc3 pm3 cd3 ct3 : Value} {f3 : Addr} {od4 an4 : Option Addr} {sl4 : Array (Option Value)} {oc4 kV4 dc4 pm4 cd4 ct4 : Value} {f4 : Addr} {od5 an5 : Option Addr} {sl5 : Array (Option Value)} {oc5 kV5 dc5 pm5 cd5 ct5 : Value} {f5 : Addr} {od6 an6 : Option Addr} {sl6 : Array (Option Value)} {oc6 kV6 dc6 pm6 cd6 ct6 : Value} {f6 : Addr} {od7 an7 : Option Addr} {sl7 : Array (Option Value)} {oc7 kV7 dc7 pm7 cd7 ct7 : Value} {f7 : Addr} {od8 an8 : Option Addr} {sl8 : Array (Option Value)} {oc8 kV8 dc8 pm8 cd8 ct8 : Value} {f8 : Addr} {od9 an9 : Option Addr} {sl9 : Array (Option Value)} {oc9 kV9 dc9 pm9 cd9 ct9 : Value} {f9 : Addr} {od10 an10 : Option Addr} {sl10 : Array (Option Value)} {oc10 kV10 dc10 pm10 cd10 ct10 : Value} {f10 : Addr} {od11 an11 : Option Addr} {sl11 : Array (Option Value)} {oc11 kV11 dc11 pm11 cd11 ct11 : Value} {f11 : Addr} {od12 an12 : Option Addr} {sl12 : Array (Option Value)} {oc12 kV12 dc12 pm12 cd12 ct12 : Value} {f12 : Addr} {od13 an13 : Option Addr} {sl13 : Array (Option Value)} {oc13 kV13 dc13 pm13 cd13 ct13 : Value} {f13 : Addr} {od14 an14 : Option Addr} {sl14 : Array (Option Value)} {oc14 kV14 dc14 pm14 cd14 ct14 : Value} {f14 : Addr} {od15 an15 : Option Addr} {sl15 : Array (Option Value)} {oc15 kV15 dc15 pm15 cd15 ct15 : Value} {f15 : Addr} {od16 an16 : Option Addr} {sl16 : Array (Option Value)} {oc16 kV16 dc16 pm16 cd16 ct16 : Value} {f16 : Addr} {od17 an17 : Option Addr} {sl17 : Array (Option Value)} {oc17 kV17 dc17 pm17 cd17 ct17 : Value} {f17 : Addr} {C_Letter : Addr} {C_ToAll : Addr} {C_ToOne : Addr}
    (cC_Letter : PySem.W.nsIn K mainGlobals "Letter" = some (some (.ref C_Letter)))
    (pg_Letter : PySem.W.plainGet K C_Letter Str.empty = true)
    (hd_Letter : PySem.W.hasDictIn K C_Letter = true)
    (po_Letter : PySem.W.plainOver K C_Letter = true)
    (sa_Letter : PySem.W.findIn K (.ref C_Letter) "__setattr__" = some (some (.builtin "object.__setattr__")))
    (mk_Letter : PySem.W.makesIn K C_Letter = true)
    (kc_Letter : PySem.W.keepIn K (.ref C_Letter) = true)
    (n_Letter_sender : PySem.W.findIn K (.ref C_Letter) "sender" = some none)
    (cC_ToAll : PySem.W.nsIn K mainGlobals "ToAll" = some (some (.ref C_ToAll)))
    (pg_ToAll : PySem.W.plainGet K C_ToAll Str.empty = true)
    (hd_ToAll : PySem.W.hasDictIn K C_ToAll = true)
    (po_ToAll : PySem.W.plainOver K C_ToAll = true)
    (sa_ToAll : PySem.W.findIn K (.ref C_ToAll) "__setattr__" = some (some (.builtin "object.__setattr__")))
    (mk_ToAll : PySem.W.makesIn K C_ToAll = true)
    (kc_ToAll : PySem.W.keepIn K (.ref C_ToAll) = true)
    (n_ToAll_sender : PySem.W.findIn K (.ref C_ToAll) "sender" = some none)
    (cC_ToOne : PySem.W.nsIn K mainGlobals "ToOne" = some (some (.ref C_ToOne)))
    (pg_ToOne : PySem.W.plainGet K C_ToOne Str.empty = true)
    (hd_ToOne : PySem.W.hasDictIn K C_ToOne = true)
    (po_ToOne : PySem.W.plainOver K C_ToOne = true)
    (sa_ToOne : PySem.W.findIn K (.ref C_ToOne) "__setattr__" = some (some (.builtin "object.__setattr__")))
    (mk_ToOne : PySem.W.makesIn K C_ToOne = true)
    (kc_ToOne : PySem.W.keepIn K (.ref C_ToOne) = true)
    (n_ToOne_sender : PySem.W.findIn K (.ref C_ToOne) "sender" = some none)
    (n_ToOne_to : PySem.W.findIn K (.ref C_ToOne) "to" = some none)
    (rd_Letter : PySem.W.readsIn K C_Letter (.type "type") = true)
    (ga_Letter : PySem.W.specialIn K (.ref C_Letter) "__getattribute__" = some (some (.builtin "type.__getattribute__")))
    (cv_Letter : PySem.W.findCls K (.ref C_Letter) (.type "type") "__init__" = some (.val (.ref f1)))
    (kgn : PySem.W.specialIn K (.builtin "object.__class__") "__get__" = some (some (.builtin "getset_descriptor.__get__")))
    (kgt : PySem.W.takesIn K (.builtin "object.__class__") = some true)
    (ha_Letter : PySem.W.findIn K (.ref C_Letter) "__class__" = some (some (.builtin "object.__class__")))
    (hm_Letter : PySem.W.mroIn K C_Letter (.type "object") = some true)
    (ha_ToAll : PySem.W.findIn K (.ref C_ToAll) "__class__" = some (some (.builtin "object.__class__")))
    (hm_ToAll : PySem.W.mroIn K C_ToAll (.type "object") = some true)
    (ha_ToOne : PySem.W.findIn K (.ref C_ToOne) "__class__" = some (some (.builtin "object.__class__")))
    (hm_ToOne : PySem.W.mroIn K C_ToOne (.type "object") = some true)
    (isc_Letter : PySem.W.isClsIn K C_Letter = true)
    (ty_Letter : PySem.W.typeIn K (.ref C_Letter) = some (.type "type"))
    (mro_Letter_Letter : PySem.W.mroIn K C_Letter (.ref C_Letter) = some true)
    (mro_ToOne_Letter : PySem.W.mroIn K C_ToOne (.ref C_Letter) = some true)
    (mro_ToAll_Letter : PySem.W.mroIn K C_ToAll (.ref C_Letter) = some true)
    (isc_ToAll : PySem.W.isClsIn K C_ToAll = true)
    (ty_ToAll : PySem.W.typeIn K (.ref C_ToAll) = some (.type "type"))
    (mro_Letter_ToAll : PySem.W.mroIn K C_Letter (.ref C_ToAll) = some false)
    (mro_ToOne_ToAll : PySem.W.mroIn K C_ToOne (.ref C_ToAll) = some false)
    (mro_ToAll_ToAll : PySem.W.mroIn K C_ToAll (.ref C_ToAll) = some true)
    (isc_ToOne : PySem.W.isClsIn K C_ToOne = true)
    (ty_ToOne : PySem.W.typeIn K (.ref C_ToOne) = some (.type "type"))
    (mro_Letter_ToOne : PySem.W.mroIn K C_Letter (.ref C_ToOne) = some false)
    (mro_ToOne_ToOne : PySem.W.mroIn K C_ToOne (.ref C_ToOne) = some true)
    (mro_ToAll_ToOne : PySem.W.mroIn K C_ToAll (.ref C_ToOne) = some false)
    (a0 : PySem.W.nsIn K mainGlobals "_law_cell" = some (some (.ref f0)))
    (l0 : K.lookup f0 = some ⟨oc0, od0, .func (PySem.W.fnOf "_law_cell" "_law_cell" (defArgs s_law_cell) (defBody s_law_cell) (defScope s_law_cell) .none kV0 dc0 pm0 an0 cd0 ct0), sl0⟩)
    (e0 : PySem.W.codeIn K cd0 "_law_cell" = true)
    (k0 : PySem.W.keepIn K (.ref f0) = true)
    (a1 : PySem.W.findIn K (.ref C_Letter) "__init__" = some (some (.ref f1)))
    (i1 : PySem.W.isFn K (.ref f1) = true)
    (l1 : K.lookup f1 = some ⟨oc1, od1, .func (PySem.W.fnOf "__init__" "Letter.__init__" (defArgs s_Letter_init) (defBody s_Letter_init) (defScope s_Letter_init) .none kV1 dc1 pm1 an1 cd1 ct1), sl1⟩)
    (e1 : PySem.W.codeIn K cd1 "Letter.__init__" = true)
    (k1 : PySem.W.keepIn K (.ref f1) = true)
    (a2 : PySem.W.findIn K (.ref C_ToAll) "__init__" = some (some (.ref f2)))
    (i2 : PySem.W.isFn K (.ref f2) = true)
    (l2 : K.lookup f2 = some ⟨oc2, od2, .func (PySem.W.fnOf "__init__" "Letter.__init__" (defArgs s_ToAll_init) (defBody s_ToAll_init) (defScope s_ToAll_init) .none kV2 dc2 pm2 an2 cd2 ct2), sl2⟩)
    (e2 : PySem.W.codeIn K cd2 "Letter.__init__" = true)
    (k2 : PySem.W.keepIn K (.ref f2) = true)
    (a3 : PySem.W.findIn K (.ref C_ToOne) "__init__" = some (some (.ref f3)))
    (i3 : PySem.W.isFn K (.ref f3) = true)
    (l3 : K.lookup f3 = some ⟨oc3, od3, .func (PySem.W.fnOf "__init__" "ToOne.__init__" (defArgs s_ToOne_init) (defBody s_ToOne_init) (defScope s_ToOne_init) .none kV3 dc3 pm3 an3 cd3 ct3), sl3⟩)
    (e3 : PySem.W.codeIn K cd3 "ToOne.__init__" = true)
    (k3 : PySem.W.keepIn K (.ref f3) = true)
    (a4 : PySem.W.nsIn K mainGlobals "_law_three" = some (some (.ref f4)))
    (l4 : K.lookup f4 = some ⟨oc4, od4, .func (PySem.W.fnOf "_law_three" "_law_three" (defArgs s_law_three) (defBody s_law_three) (defScope s_law_three) .none kV4 dc4 pm4 an4 cd4 ct4), sl4⟩)
    (e4 : PySem.W.codeIn K cd4 "_law_three" = true)
    (k4 : PySem.W.keepIn K (.ref f4) = true)
    (a5 : PySem.W.findIn K (.ref C_Letter) "number" = some (some (.ref f5)))
    (i5 : PySem.W.isFn K (.ref f5) = true)
    (l5 : K.lookup f5 = some ⟨oc5, od5, .func (PySem.W.fnOf "number" "Letter.number" (defArgs s_Letter_number) (defBody s_Letter_number) (defScope s_Letter_number) .none kV5 dc5 pm5 an5 cd5 ct5), sl5⟩)
    (e5 : PySem.W.codeIn K cd5 "Letter.number" = true)
    (k5 : PySem.W.keepIn K (.ref f5) = true)
    (a6 : PySem.W.findIn K (.ref C_ToOne) "number" = some (some (.ref f6)))
    (i6 : PySem.W.isFn K (.ref f6) = true)
    (l6 : K.lookup f6 = some ⟨oc6, od6, .func (PySem.W.fnOf "number" "ToOne.number" (defArgs s_ToOne_number) (defBody s_ToOne_number) (defScope s_ToOne_number) .none kV6 dc6 pm6 an6 cd6 ct6), sl6⟩)
    (e6 : PySem.W.codeIn K cd6 "ToOne.number" = true)
    (k6 : PySem.W.keepIn K (.ref f6) = true)
    (a7 : PySem.W.findIn K (.ref C_ToAll) "number" = some (some (.ref f7)))
    (i7 : PySem.W.isFn K (.ref f7) = true)
    (l7 : K.lookup f7 = some ⟨oc7, od7, .func (PySem.W.fnOf "number" "Letter.number" (defArgs s_ToAll_number) (defBody s_ToAll_number) (defScope s_ToAll_number) .none kV7 dc7 pm7 an7 cd7 ct7), sl7⟩)
    (e7 : PySem.W.codeIn K cd7 "Letter.number" = true)
    (k7 : PySem.W.keepIn K (.ref f7) = true)
    (a8 : PySem.W.nsIn K mainGlobals "_law_whole" = some (some (.ref f8)))
    (l8 : K.lookup f8 = some ⟨oc8, od8, .func (PySem.W.fnOf "_law_whole" "_law_whole" (defArgs s_law_whole) (defBody s_law_whole) (defScope s_law_whole) .none kV8 dc8 pm8 an8 cd8 ct8), sl8⟩)
    (e8 : PySem.W.codeIn K cd8 "_law_whole" = true)
    (k8 : PySem.W.keepIn K (.ref f8) = true)
    (a9 : PySem.W.nsIn K mainGlobals "_law_truth" = some (some (.ref f9)))
    (l9 : K.lookup f9 = some ⟨oc9, od9, .func (PySem.W.fnOf "_law_truth" "_law_truth" (defArgs s_law_truth) (defBody s_law_truth) (defScope s_law_truth) .none kV9 dc9 pm9 an9 cd9 ct9), sl9⟩)
    (e9 : PySem.W.codeIn K cd9 "_law_truth" = true)
    (k9 : PySem.W.keepIn K (.ref f9) = true)
    (a10 : PySem.W.findIn K (.ref C_Letter) "seeks" = some (some (.ref f10)))
    (i10 : PySem.W.isFn K (.ref f10) = true)
    (l10 : K.lookup f10 = some ⟨oc10, od10, .func (PySem.W.fnOf "seeks" "Letter.seeks" (defArgs s_Letter_seeks) (defBody s_Letter_seeks) (defScope s_Letter_seeks) .none kV10 dc10 pm10 an10 cd10 ct10), sl10⟩)
    (e10 : PySem.W.codeIn K cd10 "Letter.seeks" = true)
    (k10 : PySem.W.keepIn K (.ref f10) = true)
    (a11 : PySem.W.findIn K (.ref C_ToOne) "seeks" = some (some (.ref f11)))
    (i11 : PySem.W.isFn K (.ref f11) = true)
    (l11 : K.lookup f11 = some ⟨oc11, od11, .func (PySem.W.fnOf "seeks" "ToOne.seeks" (defArgs s_ToOne_seeks) (defBody s_ToOne_seeks) (defScope s_ToOne_seeks) .none kV11 dc11 pm11 an11 cd11 ct11), sl11⟩)
    (e11 : PySem.W.codeIn K cd11 "ToOne.seeks" = true)
    (k11 : PySem.W.keepIn K (.ref f11) = true)
    (a12 : PySem.W.findIn K (.ref C_ToAll) "seeks" = some (some (.ref f12)))
    (i12 : PySem.W.isFn K (.ref f12) = true)
    (l12 : K.lookup f12 = some ⟨oc12, od12, .func (PySem.W.fnOf "seeks" "Letter.seeks" (defArgs s_ToAll_seeks) (defBody s_ToAll_seeks) (defScope s_ToAll_seeks) .none kV12 dc12 pm12 an12 cd12 ct12), sl12⟩)
    (e12 : PySem.W.codeIn K cd12 "Letter.seeks" = true)
    (k12 : PySem.W.keepIn K (.ref f12) = true)
    (a13 : PySem.W.findIn K (.ref C_Letter) "meant" = some (some (.ref f13)))
    (i13 : PySem.W.isFn K (.ref f13) = true)
    (l13 : K.lookup f13 = some ⟨oc13, od13, .func (PySem.W.fnOf "meant" "Letter.meant" (defArgs s_Letter_meant) (defBody s_Letter_meant) (defScope s_Letter_meant) .none kV13 dc13 pm13 an13 cd13 ct13), sl13⟩)
    (e13 : PySem.W.codeIn K cd13 "Letter.meant" = true)
    (k13 : PySem.W.keepIn K (.ref f13) = true)
    (a14 : PySem.W.findIn K (.ref C_ToOne) "meant" = some (some (.ref f14)))
    (i14 : PySem.W.isFn K (.ref f14) = true)
    (l14 : K.lookup f14 = some ⟨oc14, od14, .func (PySem.W.fnOf "meant" "ToOne.meant" (defArgs s_ToOne_meant) (defBody s_ToOne_meant) (defScope s_ToOne_meant) .none kV14 dc14 pm14 an14 cd14 ct14), sl14⟩)
    (e14 : PySem.W.codeIn K cd14 "ToOne.meant" = true)
    (k14 : PySem.W.keepIn K (.ref f14) = true)
    (a15 : PySem.W.findIn K (.ref C_ToAll) "meant" = some (some (.ref f15)))
    (i15 : PySem.W.isFn K (.ref f15) = true)
    (l15 : K.lookup f15 = some ⟨oc15, od15, .func (PySem.W.fnOf "meant" "ToAll.meant" (defArgs s_ToAll_meant) (defBody s_ToAll_meant) (defScope s_ToAll_meant) .none kV15 dc15 pm15 an15 cd15 ct15), sl15⟩)
    (e15 : PySem.W.codeIn K cd15 "ToAll.meant" = true)
    (k15 : PySem.W.keepIn K (.ref f15) = true)
    (a16 : PySem.W.nsIn K mainGlobals "_law_is" = some (some (.ref f16)))
    (l16 : K.lookup f16 = some ⟨oc16, od16, .func (PySem.W.fnOf "_law_is" "_law_is" (defArgs s_law_is) (defBody s_law_is) (defScope s_law_is) .none kV16 dc16 pm16 an16 cd16 ct16), sl16⟩)
    (e16 : PySem.W.codeIn K cd16 "_law_is" = true)
    (k16 : PySem.W.keepIn K (.ref f16) = true)
    (a17 : PySem.W.nsIn K mainGlobals "law" = some (some (.ref f17)))
    (l17 : K.lookup f17 = some ⟨oc17, od17, .func (PySem.W.fnOf "law" "law" (defArgs s_law) (defBody s_law) (defScope s_law) .none kV17 dc17 pm17 an17 cd17 ct17), sl17⟩)
    (e17 : PySem.W.codeIn K cd17 "law" = true)
    (k17 : PySem.W.keepIn K (.ref f17) = true)
    (z_bool : PySem.W.nsIn K mainGlobals "bool" = some none)
    (z_int : PySem.W.nsIn K mainGlobals "int" = some none)
    (z_isinstance : PySem.W.nsIn K mainGlobals "isinstance" = some none)
    (z_len : PySem.W.nsIn K mainGlobals "len" = some none)
    (z_min : PySem.W.nsIn K mainGlobals "min" = some none)
    (z_range : PySem.W.nsIn K mainGlobals "range" = some none)
    (hl : ∀ ns : List Int, ns.length ≤ 63 → ∃ st', m_law [.scr ns] [] = some (.sh (.bl true), st')) :
    ∃ fd : FuncData, (∀ (s : Shared) (v : Value), BindsTo s fd ⟨[v], []⟩ [("_law_script", v)]) ∧ ∀ base : Heap, K.In base → base.Ns mainGlobals mg → FnOk l.prog w K mg base CX0 5 fa fd ["_law_script"] (spLaw K) := by
  have e := hfa.symm.trans (PySem.W.mg_of X G a17)
  cases e
  have Z : Zs mg := ⟨PySem.W.mg_none_of X G z_bool, PySem.W.mg_none_of X G z_int, PySem.W.mg_none_of X G z_isinstance, PySem.W.mg_none_of X G z_len, PySem.W.mg_none_of X G z_min, PySem.W.mg_none_of X G z_range⟩
  have O_Letter : Own K (fun c => if c = "Letter" then some (C_Letter, ns_Letter) else if c = "ToAll" then some (C_ToAll, ns_ToAll) else if c = "ToOne" then some (C_ToOne, ns_ToOne) else none) "Letter" C_Letter ns_Letter := ⟨by first | rfl | simp, ⟨pg_Letter, hd_Letter, po_Letter, sa_Letter⟩, by decide +kernel, fun f hf => by
    have hf : f ∈ (["sender"] : List Str) := hf
    simp only [List.mem_cons, List.not_mem_nil, or_false] at hf
    rcases hf with rfl
    · exact n_Letter_sender⟩
  have O_ToAll : Own K (fun c => if c = "Letter" then some (C_Letter, ns_Letter) else if c = "ToAll" then some (C_ToAll, ns_ToAll) else if c = "ToOne" then some (C_ToOne, ns_ToOne) else none) "ToAll" C_ToAll ns_ToAll := ⟨by first | rfl | simp, ⟨pg_ToAll, hd_ToAll, po_ToAll, sa_ToAll⟩, by decide +kernel, fun f hf => by
    have hf : f ∈ (["sender"] : List Str) := hf
    simp only [List.mem_cons, List.not_mem_nil, or_false] at hf
    rcases hf with rfl
    · exact n_ToAll_sender⟩
  have O_ToOne : Own K (fun c => if c = "Letter" then some (C_Letter, ns_Letter) else if c = "ToAll" then some (C_ToAll, ns_ToAll) else if c = "ToOne" then some (C_ToOne, ns_ToOne) else none) "ToOne" C_ToOne ns_ToOne := ⟨by first | rfl | simp, ⟨pg_ToOne, hd_ToOne, po_ToOne, sa_ToOne⟩, by decide +kernel, fun f hf => by
    have hf : f ∈ (["sender", "to"] : List Str) := hf
    simp only [List.mem_cons, List.not_mem_nil, or_false] at hf
    rcases hf with rfl | rfl
    · exact n_ToOne_sender
    · exact n_ToOne_to⟩
  have I_Letter_Letter : IsB K (fun c => if c = "Letter" then some (C_Letter, ns_Letter) else if c = "ToAll" then some (C_ToAll, ns_ToAll) else if c = "ToOne" then some (C_ToOne, ns_ToOne) else none) "Letter" C_Letter true := ⟨C_Letter, ns_Letter, O_Letter, ⟨ha_Letter, kgn, kgt, hm_Letter⟩, kit_mro isc_Letter ty_Letter mro_Letter_Letter mro_Letter_Letter⟩
  have I_ToOne_Letter : IsB K (fun c => if c = "Letter" then some (C_Letter, ns_Letter) else if c = "ToAll" then some (C_ToAll, ns_ToAll) else if c = "ToOne" then some (C_ToOne, ns_ToOne) else none) "ToOne" C_Letter true := ⟨C_ToOne, ns_ToOne, O_ToOne, ⟨ha_ToOne, kgn, kgt, hm_ToOne⟩, kit_mro isc_Letter ty_Letter mro_ToOne_Letter mro_Letter_Letter⟩
  have I_ToAll_Letter : IsB K (fun c => if c = "Letter" then some (C_Letter, ns_Letter) else if c = "ToAll" then some (C_ToAll, ns_ToAll) else if c = "ToOne" then some (C_ToOne, ns_ToOne) else none) "ToAll" C_Letter true := ⟨C_ToAll, ns_ToAll, O_ToAll, ⟨ha_ToAll, kgn, kgt, hm_ToAll⟩, kit_mro isc_Letter ty_Letter mro_ToAll_Letter mro_Letter_Letter⟩
  have I_Letter_ToAll : IsB K (fun c => if c = "Letter" then some (C_Letter, ns_Letter) else if c = "ToAll" then some (C_ToAll, ns_ToAll) else if c = "ToOne" then some (C_ToOne, ns_ToOne) else none) "Letter" C_ToAll false := ⟨C_Letter, ns_Letter, O_Letter, ⟨ha_Letter, kgn, kgt, hm_Letter⟩, kit_mro isc_ToAll ty_ToAll mro_Letter_ToAll mro_ToAll_ToAll⟩
  have I_ToOne_ToAll : IsB K (fun c => if c = "Letter" then some (C_Letter, ns_Letter) else if c = "ToAll" then some (C_ToAll, ns_ToAll) else if c = "ToOne" then some (C_ToOne, ns_ToOne) else none) "ToOne" C_ToAll false := ⟨C_ToOne, ns_ToOne, O_ToOne, ⟨ha_ToOne, kgn, kgt, hm_ToOne⟩, kit_mro isc_ToAll ty_ToAll mro_ToOne_ToAll mro_ToAll_ToAll⟩
  have I_ToAll_ToAll : IsB K (fun c => if c = "Letter" then some (C_Letter, ns_Letter) else if c = "ToAll" then some (C_ToAll, ns_ToAll) else if c = "ToOne" then some (C_ToOne, ns_ToOne) else none) "ToAll" C_ToAll true := ⟨C_ToAll, ns_ToAll, O_ToAll, ⟨ha_ToAll, kgn, kgt, hm_ToAll⟩, kit_mro isc_ToAll ty_ToAll mro_ToAll_ToAll mro_ToAll_ToAll⟩
  have I_Letter_ToOne : IsB K (fun c => if c = "Letter" then some (C_Letter, ns_Letter) else if c = "ToAll" then some (C_ToAll, ns_ToAll) else if c = "ToOne" then some (C_ToOne, ns_ToOne) else none) "Letter" C_ToOne false := ⟨C_Letter, ns_Letter, O_Letter, ⟨ha_Letter, kgn, kgt, hm_Letter⟩, kit_mro isc_ToOne ty_ToOne mro_Letter_ToOne mro_ToOne_ToOne⟩
  have I_ToOne_ToOne : IsB K (fun c => if c = "Letter" then some (C_Letter, ns_Letter) else if c = "ToAll" then some (C_ToAll, ns_ToAll) else if c = "ToOne" then some (C_ToOne, ns_ToOne) else none) "ToOne" C_ToOne true := ⟨C_ToOne, ns_ToOne, O_ToOne, ⟨ha_ToOne, kgn, kgt, hm_ToOne⟩, kit_mro isc_ToOne ty_ToOne mro_ToOne_ToOne mro_ToOne_ToOne⟩
  have I_ToAll_ToOne : IsB K (fun c => if c = "Letter" then some (C_Letter, ns_Letter) else if c = "ToAll" then some (C_ToAll, ns_ToAll) else if c = "ToOne" then some (C_ToOne, ns_ToOne) else none) "ToAll" C_ToOne false := ⟨C_ToAll, ns_ToAll, O_ToAll, ⟨ha_ToAll, kgn, kgt, hm_ToAll⟩, kit_mro isc_ToOne ty_ToOne mro_ToAll_ToOne mro_ToOne_ToOne⟩
  refine ⟨PySem.W.fnOf "law" "law" (defArgs s_law) (defBody s_law) (defScope s_law) .none kV17 dc17 pm17 an17 cd17 ct17, fun s v => .of_eq rfl, fun base _ _ => ?_⟩
  have F_law_cell := fun_mk (st := s_law_cell) l0 e0 k0
  have C_law_cell : Cal l.prog w K mg base (fun c => if c = "Letter" then some (C_Letter, ns_Letter) else if c = "ToAll" then some (C_ToAll, ns_ToAll) else if c = "ToOne" then some (C_ToOne, ns_ToOne) else none) "_law_cell" 1 ["_law_script", "_law_k"] m_law_cell := Cal.of F_law_cell (PySem.W.mg_of X G a0) (F_law_cell.binds (ps := ["_law_script", "_law_k"]) fun _ _ _ _ _ _ us hl => match us, hl with | [_, _], _ => rfl) (ok_law_cell F_law_cell Z )
  have F_Letter_init := fun_mk (st := s_Letter_init) l1 e1 k1
  have K_Letter : Mkr l.prog w K mg base (fun c => if c = "Letter" then some (C_Letter, ns_Letter) else if c = "ToAll" then some (C_ToAll, ns_ToAll) else if c = "ToOne" then some (C_ToOne, ns_ToOne) else none) "Letter" C_Letter "Letter" 1 ["self", "sender"] m_Letter_init := ⟨f1, _, ok_Letter_init F_Letter_init Z O_Letter, ⟨mk_Letter, a1, i1, kc_Letter⟩, (F_Letter_init.binds (ps := ["self", "sender"]) fun _ _ _ _ _ _ us hl => match us, hl with | [_, _], _ => rfl), PySem.W.mg_of X G cC_Letter⟩
  have F_ToAll_init := fun_mk (st := s_ToAll_init) l2 e2 k2
  have K_ToAll : Mkr l.prog w K mg base (fun c => if c = "Letter" then some (C_Letter, ns_Letter) else if c = "ToAll" then some (C_ToAll, ns_ToAll) else if c = "ToOne" then some (C_ToOne, ns_ToOne) else none) "ToAll" C_ToAll "ToAll" 1 ["self", "sender"] m_ToAll_init := ⟨f2, _, ok_ToAll_init F_ToAll_init Z O_ToAll, ⟨mk_ToAll, a2, i2, kc_ToAll⟩, (F_ToAll_init.binds (ps := ["self", "sender"]) fun _ _ _ _ _ _ us hl => match us, hl with | [_, _], _ => rfl), PySem.W.mg_of X G cC_ToAll⟩
  have F_ToOne_init := fun_mk (st := s_ToOne_init) l3 e3 k3
  have U_Letter : Sup l.prog w K mg base "Letter" "sender" 1 ["self", "sender"] := ⟨C_Letter, .type "type", f1, _, PySem.W.mg_of X G cC_Letter, ⟨rd_Letter, ga_Letter⟩, ⟨cv_Letter, rfl⟩, k1, okF F_Letter_init sc_Letter_init rfl (fun X h => by rw [h]; exact ⟨by first | exact Or.inl rfl | exact Or.inr (Or.inl rfl) | exact Or.inr (Or.inr rfl), by first | exact Or.inl rfl | exact Or.inr (Or.inl rfl) | exact Or.inr (Or.inr rfl)⟩), (F_Letter_init.binds (ps := ["self", "sender"]) fun _ _ _ _ _ _ us hl => match us, hl with | [_, _], _ => rfl)⟩
  have K_ToOne : Mkr l.prog w K mg base (fun c => if c = "Letter" then some (C_Letter, ns_Letter) else if c = "ToAll" then some (C_ToAll, ns_ToAll) else if c = "ToOne" then some (C_ToOne, ns_ToOne) else none) "ToOne" C_ToOne "ToOne" 2 ["self", "sender", "to"] m_ToOne_init := ⟨f3, _, ok_ToOne_init F_ToOne_init Z O_Letter O_ToOne U_Letter, ⟨mk_ToOne, a3, i3, kc_ToOne⟩, (F_ToOne_init.binds (ps := ["self", "sender", "to"]) fun _ _ _ _ _ _ us hl => match us, hl with | [_, _, _], _ => rfl), PySem.W.mg_of X G cC_ToOne⟩
  have F_law_three := fun_mk (st := s_law_three) l4 e4 k4
  have C_law_three : Cal l.prog w K mg base (fun c => if c = "Letter" then some (C_Letter, ns_Letter) else if c = "ToAll" then some (C_ToAll, ns_ToAll) else if c = "ToOne" then some (C_ToOne, ns_ToOne) else none) "_law_three" 4 ["_law_sender", "_law_to"] m_law_three := Cal.of F_law_three (PySem.W.mg_of X G a4) (F_law_three.binds (ps := ["_law_sender", "_law_to"]) fun _ _ _ _ _ _ us hl => match us, hl with | [_, _], _ => rfl) (ok_law_three F_law_three Z O_Letter O_ToAll O_ToOne K_Letter K_ToOne K_ToAll)
  have F_Letter_number := fun_mk (st := s_Letter_number) l5 e5 k5
  have C_Letter_number : Mcl l.prog w K mg base (fun c => if c = "Letter" then some (C_Letter, ns_Letter) else if c = "ToAll" then some (C_ToAll, ns_ToAll) else if c = "ToOne" then some (C_ToOne, ns_ToOne) else none) C_Letter "number" 1 ["self"] m_Letter_number := ⟨f5, _, ok_Letter_number F_Letter_number Z O_Letter, ⟨a5, i5, k5⟩, (F_Letter_number.binds (ps := ["self"]) fun _ _ _ _ _ _ us hl => match us, hl with | [_], _ => rfl)⟩
  have F_ToOne_number := fun_mk (st := s_ToOne_number) l6 e6 k6
  have C_ToOne_number : Mcl l.prog w K mg base (fun c => if c = "Letter" then some (C_Letter, ns_Letter) else if c = "ToAll" then some (C_ToAll, ns_ToAll) else if c = "ToOne" then some (C_ToOne, ns_ToOne) else none) C_ToOne "number" 1 ["self"] m_ToOne_number := ⟨f6, _, ok_ToOne_number F_ToOne_number Z O_ToOne, ⟨a6, i6, k6⟩, (F_ToOne_number.binds (ps := ["self"]) fun _ _ _ _ _ _ us hl => match us, hl with | [_], _ => rfl)⟩
  have F_ToAll_number := fun_mk (st := s_ToAll_number) l7 e7 k7
  have C_ToAll_number : Mcl l.prog w K mg base (fun c => if c = "Letter" then some (C_Letter, ns_Letter) else if c = "ToAll" then some (C_ToAll, ns_ToAll) else if c = "ToOne" then some (C_ToOne, ns_ToOne) else none) C_ToAll "number" 1 ["self"] m_ToAll_number := ⟨f7, _, ok_ToAll_number F_ToAll_number Z O_ToAll, ⟨a7, i7, k7⟩, (F_ToAll_number.binds (ps := ["self"]) fun _ _ _ _ _ _ us hl => match us, hl with | [_], _ => rfl)⟩
  have F_law_whole := fun_mk (st := s_law_whole) l8 e8 k8
  have C_law_whole : Cal l.prog w K mg base (fun c => if c = "Letter" then some (C_Letter, ns_Letter) else if c = "ToAll" then some (C_ToAll, ns_ToAll) else if c = "ToOne" then some (C_ToOne, ns_ToOne) else none) "_law_whole" 1 ["_law_found"] m_law_whole := Cal.of F_law_whole (PySem.W.mg_of X G a8) (F_law_whole.binds (ps := ["_law_found"]) fun _ _ _ _ _ _ us hl => match us, hl with | [_], _ => rfl) (ok_law_whole F_law_whole Z )
  have F_law_truth := fun_mk (st := s_law_truth) l9 e9 k9
  have C_law_truth : Cal l.prog w K mg base (fun c => if c = "Letter" then some (C_Letter, ns_Letter) else if c = "ToAll" then some (C_ToAll, ns_ToAll) else if c = "ToOne" then some (C_ToOne, ns_ToOne) else none) "_law_truth" 1 ["_law_found", "_law_ought"] m_law_truth := Cal.of F_law_truth (PySem.W.mg_of X G a9) (F_law_truth.binds (ps := ["_law_found", "_law_ought"]) fun _ _ _ _ _ _ us hl => match us, hl with | [_, _], _ => rfl) (ok_law_truth F_law_truth Z )
  have F_Letter_seeks := fun_mk (st := s_Letter_seeks) l10 e10 k10
  have C_Letter_seeks : Mcl l.prog w K mg base (fun c => if c = "Letter" then some (C_Letter, ns_Letter) else if c = "ToAll" then some (C_ToAll, ns_ToAll) else if c = "ToOne" then some (C_ToOne, ns_ToOne) else none) C_Letter "seeks" 1 ["self"] m_Letter_seeks := ⟨f10, _, ok_Letter_seeks F_Letter_seeks Z , ⟨a10, i10, k10⟩, (F_Letter_seeks.binds (ps := ["self"]) fun _ _ _ _ _ _ us hl => match us, hl with | [_], _ => rfl)⟩
  have F_ToOne_seeks := fun_mk (st := s_ToOne_seeks) l11 e11 k11
  have C_ToOne_seeks : Mcl l.prog w K mg base (fun c => if c = "Letter" then some (C_Letter, ns_Letter) else if c = "ToAll" then some (C_ToAll, ns_ToAll) else if c = "ToOne" then some (C_ToOne, ns_ToOne) else none) C_ToOne "seeks" 1 ["self"] m_ToOne_seeks := ⟨f11, _, ok_ToOne_seeks F_ToOne_seeks Z O_ToOne, ⟨a11, i11, k11⟩, (F_ToOne_seeks.binds (ps := ["self"]) fun _ _ _ _ _ _ us hl => match us, hl with | [_], _ => rfl)⟩
  have F_ToAll_seeks := fun_mk (st := s_ToAll_seeks) l12 e12 k12
  have C_ToAll_seeks : Mcl l.prog w K mg base (fun c => if c = "Letter" then some (C_Letter, ns_Letter) else if c = "ToAll" then some (C_ToAll, ns_ToAll) else if c = "ToOne" then some (C_ToOne, ns_ToOne) else none) C_ToAll "seeks" 1 ["self"] m_ToAll_seeks := ⟨f12, _, ok_ToAll_seeks F_ToAll_seeks Z , ⟨a12, i12, k12⟩, (F_ToAll_seeks.binds (ps := ["self"]) fun _ _ _ _ _ _ us hl => match us, hl with | [_], _ => rfl)⟩
  have F_Letter_meant := fun_mk (st := s_Letter_meant) l13 e13 k13
  have C_Letter_meant : Mcl l.prog w K mg base (fun c => if c = "Letter" then some (C_Letter, ns_Letter) else if c = "ToAll" then some (C_ToAll, ns_ToAll) else if c = "ToOne" then some (C_ToOne, ns_ToOne) else none) C_Letter "meant" 1 ["self", "caller"] m_Letter_meant := ⟨f13, _, ok_Letter_meant F_Letter_meant Z , ⟨a13, i13, k13⟩, (F_Letter_meant.binds (ps := ["self", "caller"]) fun _ _ _ _ _ _ us hl => match us, hl with | [_, _], _ => rfl)⟩
  have F_ToOne_meant := fun_mk (st := s_ToOne_meant) l14 e14 k14
  have C_ToOne_meant : Mcl l.prog w K mg base (fun c => if c = "Letter" then some (C_Letter, ns_Letter) else if c = "ToAll" then some (C_ToAll, ns_ToAll) else if c = "ToOne" then some (C_ToOne, ns_ToOne) else none) C_ToOne "meant" 1 ["self", "caller"] m_ToOne_meant := ⟨f14, _, ok_ToOne_meant F_ToOne_meant Z O_ToOne, ⟨a14, i14, k14⟩, (F_ToOne_meant.binds (ps := ["self", "caller"]) fun _ _ _ _ _ _ us hl => match us, hl with | [_, _], _ => rfl)⟩
  have F_ToAll_meant := fun_mk (st := s_ToAll_meant) l15 e15 k15
  have C_ToAll_meant : Mcl l.prog w K mg base (fun c => if c = "Letter" then some (C_Letter, ns_Letter) else if c = "ToAll" then some (C_ToAll, ns_ToAll) else if c = "ToOne" then some (C_ToOne, ns_ToOne) else none) C_ToAll "meant" 1 ["self", "caller"] m_ToAll_meant := ⟨f15, _, ok_ToAll_meant F_ToAll_meant Z O_ToAll, ⟨a15, i15, k15⟩, (F_ToAll_meant.binds (ps := ["self", "caller"]) fun _ _ _ _ _ _ us hl => match us, hl with | [_, _], _ => rfl)⟩
  have F_law_is := fun_mk (st := s_law_is) l16 e16 k16
  have C_law_is : Cal l.prog w K mg base (fun c => if c = "Letter" then some (C_Letter, ns_Letter) else if c = "ToAll" then some (C_ToAll, ns_ToAll) else if c = "ToOne" then some (C_ToOne, ns_ToOne) else none) "_law_is" 2 ["_law_letter", "_law_sender", "_law_to", "_law_kind", "_law_some"] m_law_is := Cal.of F_law_is (PySem.W.mg_of X G a16) (F_law_is.binds (ps := ["_law_letter", "_law_sender", "_law_to", "_law_kind", "_law_some"]) fun _ _ _ _ _ _ us hl => match us, hl with | [_, _, _, _, _], _ => rfl) (ok_law_is F_law_is Z O_Letter O_ToAll O_ToOne (PySem.W.mg_of X G cC_Letter) I_Letter_Letter I_ToOne_Letter I_ToAll_Letter (PySem.W.mg_of X G cC_ToAll) I_Letter_ToAll I_ToOne_ToAll I_ToAll_ToAll (PySem.W.mg_of X G cC_ToOne) I_Letter_ToOne I_ToOne_ToOne I_ToAll_ToOne C_law_whole C_law_truth C_Letter_meant C_ToOne_meant C_ToAll_meant C_Letter_number C_ToOne_number C_ToAll_number C_Letter_seeks C_ToOne_seeks C_ToAll_seeks)
  have F_law := fun_mk (st := s_law) l17 e17 k17
  have G_law := ok_law (P := l.prog) (w := w) (base := base) (ct := fun c => if c = "Letter" then some (C_Letter, ns_Letter) else if c = "ToAll" then some (C_ToAll, ns_ToAll) else if c = "ToOne" then some (C_ToOne, ns_ToOne) else none) F_law Z C_law_cell C_law_three C_law_is
  exact law_ok G_law hl
theorem walk {l : PySem.W.OpenLaw} {q : Program} {loose : List Str} {XP : (Str → Option Value) → Heap → Prop} {YP : World → Heap → Prop} {d : DefRec} {K : Params → PySem.W.Frag} (hn : l.most = some 63) (hdf : d.params.defaults = [])
    (hY : ∀ (w : World) (h : Heap), YP w h → (K w.params).In h)
    (F : ∀ (w : World) (mg : Str → Option Value) (fa : Addr) (h : Heap), (K w.params).In h → h.Ns mainGlobals mg → mg d.name = some (.ref fa) →
      ∃ fd : FuncData, (∀ (s : Shared) (u : Value), BindsTo s fd ⟨[u], []⟩ [("_law_script", u)]) ∧ ∀ base : Heap, (K w.params).In base → base.Ns mainGlobals mg → FnOk l.prog w (K w.params) mg base CX0 5 fa fd ["_law_script"] (spLaw (K w.params))) :
    PySem.W.WalkO q loose XP YP l.row.toRowW d [] (fun f vs => PySem.call f vs) :=
  L2.walk_of (n := 63) (k := 5) (x := "_law_script") (CX := fun _ => CX0) (sp := fun w => spLaw (K w.params)) hn (by decide) hdf ⟨rfl, by decide, by decide⟩ hY F (fun _ _ a ns hl _ hS => ⟨a, ns, rfl, hS, hl, fun _ => rfl⟩) fun _ _ _ _ _ z => z
end Law
open PySem PySem.W PyProof.Rows in
set_option maxRecDepth 100000 in
set_option maxHeartbeats 0 in
theorem PySem.Challenge.cw_knotless_k25_letters_holds : PySem.Challenge.rw_knotless_k25_letters.Holds := by
  w_on; o_law; k_head; (case hw => w_witness2)
  k_fill
  refine Law.walk (l := PySem.Challenge.rw_knotless_k25_letters) rfl rfl (fun w h Y => PySem.W.kIn_of Y) ?F
  case F =>
    intro w mg fa h KX G hmg
    refine' Law.all_mk KX G hmg ?cC_Letter ?pg_Letter ?hd_Letter ?po_Letter ?sa_Letter ?mk_Letter ?kc_Letter ?n_Letter_sender ?cC_ToAll ?pg_ToAll ?hd_ToAll ?po_ToAll ?sa_ToAll ?mk_ToAll ?kc_ToAll ?n_ToAll_sender ?cC_ToOne ?pg_ToOne ?hd_ToOne ?po_ToOne ?sa_ToOne ?mk_ToOne ?kc_ToOne ?n_ToOne_sender ?n_ToOne_to ?rd_Letter ?ga_Letter ?cv_Letter ?kgn ?kgt ?ha_Letter ?hm_Letter ?ha_ToAll ?hm_ToAll ?ha_ToOne ?hm_ToOne ?isc_Letter ?ty_Letter ?mro_Letter_Letter ?mro_ToOne_Letter ?mro_ToAll_Letter ?isc_ToAll ?ty_ToAll ?mro_Letter_ToAll ?mro_ToOne_ToAll ?mro_ToAll_ToAll ?isc_ToOne ?ty_ToOne ?mro_Letter_ToOne ?mro_ToOne_ToOne ?mro_ToAll_ToOne ?a0 ?l0 ?e0 ?k0 ?a1 ?i1 ?l1 ?e1 ?k1 ?a2 ?i2 ?l2 ?e2 ?k2 ?a3 ?i3 ?l3 ?e3 ?k3 ?a4 ?l4 ?e4 ?k4 ?a5 ?i5 ?l5 ?e5 ?k5 ?a6 ?i6 ?l6 ?e6 ?k6 ?a7 ?i7 ?l7 ?e7 ?k7 ?a8 ?l8 ?e8 ?k8 ?a9 ?l9 ?e9 ?k9 ?a10 ?i10 ?l10 ?e10 ?k10 ?a11 ?i11 ?l11 ?e11 ?k11 ?a12 ?i12 ?l12 ?e12 ?k12 ?a13 ?i13 ?l13 ?e13 ?k13 ?a14 ?i14 ?l14 ?e14 ?k14 ?a15 ?i15 ?l15 ?e15 ?k15 ?a16 ?l16 ?e16 ?k16 ?a17 ?l17 ?e17 ?k17 ?z_bool ?z_int ?z_isinstance ?z_len ?z_min ?z_range Law.law_true
    (case cC_Letter => k_is)
    (case pg_Letter => k_is)
    (case hd_Letter => k_is)
    (case po_Letter => k_is)
    (case sa_Letter => k_is)
    (case mk_Letter => k_is)
    (case kc_Letter => k_is)
    (case n_Letter_sender => k_is)
    (case cC_ToAll => k_is)
    (case pg_ToAll => k_is)
    (case hd_ToAll => k_is)
    (case po_ToAll => k_is)
    (case sa_ToAll => k_is)
    (case mk_ToAll => k_is)
    (case kc_ToAll => k_is)
    (case n_ToAll_sender => k_is)
    (case cC_ToOne => k_is)
    (case pg_ToOne => k_is)
    (case hd_ToOne => k_is)
    (case po_ToOne => k_is)
    (case sa_ToOne => k_is)
    (case mk_ToOne => k_is)
    (case kc_ToOne => k_is)
    (case n_ToOne_sender => k_is)
    (case n_ToOne_to => k_is)
    (case rd_Letter => k_is)
    (case ga_Letter => k_is)
    (case cv_Letter => k_is)
    (case kgn => k_is)
    (case kgt => k_is)
    (case ha_Letter => k_is)
    (case hm_Letter => k_is)
    (case ha_ToAll => k_is)
    (case hm_ToAll => k_is)
    (case ha_ToOne => k_is)
    (case hm_ToOne => k_is)
    (case isc_Letter => k_is)
    (case ty_Letter => k_is)
    (case mro_Letter_Letter => k_is)
    (case mro_ToOne_Letter => k_is)
    (case mro_ToAll_Letter => k_is)
    (case isc_ToAll => k_is)
    (case ty_ToAll => k_is)
    (case mro_Letter_ToAll => k_is)
    (case mro_ToOne_ToAll => k_is)
    (case mro_ToAll_ToAll => k_is)
    (case isc_ToOne => k_is)
    (case ty_ToOne => k_is)
    (case mro_Letter_ToOne => k_is)
    (case mro_ToOne_ToOne => k_is)
    (case mro_ToAll_ToOne => k_is)
    (case a0 => k_is)
    (case l0 => k_is)
    (case e0 => k_is)
    (case k0 => k_is)
    (case a1 => k_is)
    (case i1 => k_is)
    (case l1 => k_is)
    (case e1 => k_is)
    (case k1 => k_is)
    (case a2 => k_is)
    (case i2 => k_is)
    (case l2 => k_is)
    (case e2 => k_is)
    (case k2 => k_is)
    (case a3 => k_is)
    (case i3 => k_is)
    (case l3 => k_is)
    (case e3 => k_is)
    (case k3 => k_is)
    (case a4 => k_is)
    (case l4 => k_is)
    (case e4 => k_is)
    (case k4 => k_is)
    (case a5 => k_is)
    (case i5 => k_is)
    (case l5 => k_is)
    (case e5 => k_is)
    (case k5 => k_is)
    (case a6 => k_is)
    (case i6 => k_is)
    (case l6 => k_is)
    (case e6 => k_is)
    (case k6 => k_is)
    (case a7 => k_is)
    (case i7 => k_is)
    (case l7 => k_is)
    (case e7 => k_is)
    (case k7 => k_is)
    (case a8 => k_is)
    (case l8 => k_is)
    (case e8 => k_is)
    (case k8 => k_is)
    (case a9 => k_is)
    (case l9 => k_is)
    (case e9 => k_is)
    (case k9 => k_is)
    (case a10 => k_is)
    (case i10 => k_is)
    (case l10 => k_is)
    (case e10 => k_is)
    (case k10 => k_is)
    (case a11 => k_is)
    (case i11 => k_is)
    (case l11 => k_is)
    (case e11 => k_is)
    (case k11 => k_is)
    (case a12 => k_is)
    (case i12 => k_is)
    (case l12 => k_is)
    (case e12 => k_is)
    (case k12 => k_is)
    (case a13 => k_is)
    (case i13 => k_is)
    (case l13 => k_is)
    (case e13 => k_is)
    (case k13 => k_is)
    (case a14 => k_is)
    (case i14 => k_is)
    (case l14 => k_is)
    (case e14 => k_is)
    (case k14 => k_is)
    (case a15 => k_is)
    (case i15 => k_is)
    (case l15 => k_is)
    (case e15 => k_is)
    (case k15 => k_is)
    (case a16 => k_is)
    (case l16 => k_is)
    (case e16 => k_is)
    (case k16 => k_is)
    (case a17 => k_is)
    (case l17 => k_is)
    (case e17 => k_is)
    (case k17 => k_is)
    (case z_bool => k_is)
    (case z_int => k_is)
    (case z_isinstance => k_is)
    (case z_len => k_is)
    (case z_min => k_is)
    (case z_range => k_is)
