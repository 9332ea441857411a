import PyProof.Rows.All
import Wide.All
import OpenK.AllK
import Wide.FinOn
import HandS.ForMost
import HandS.IsInst
import HandS.Wide
import HandS.Deep
import HandS.Style
import HandS.SortInts
import HandS.Rev
import HandS.RevTup
import HandS.Conv
import PySem.Challenge.RW_knotless_k05_own_row_and_offer
set_option Elab.async false
set_option linter.all false
set_option maxRecDepth 100000
set_option maxHeartbeats 4000000
namespace Kn
open PySem L2

/-! data: what a value reads as -/
inductive D where
  | non | bl (b : Bool) | int (i : Int) | str (x : Str)
  | lst (ds : List D) | tup (ds : List D)
  | dic (kds : List (Key × D))
  | obj (c : Str) (ds : List D)
  | hnd (g : Nat)
  | scr (ns : List Int)

/-- shared heap and the objects by number -/
structure Wd where
  hs : Hp
  tp : Addr → Option (List V)
  rho : Nat → Option V
structure Wd.le (W W' : Wd) : Prop where
  hs : ∀ a o, W.hs a = some o → W'.hs a = some o
  tp : ∀ a o, W.tp a = some o → W'.tp a = some o
  rho : ∀ g v, W.rho g = some v → W'.rho g = some v
theorem Wd.le.refl (W : Wd) : W.le W := ⟨fun _ _ h => h, fun _ _ h => h, fun _ _ h => h⟩
theorem Wd.le.trans {A B C : Wd} (h : A.le B) (k : B.le C) : A.le C := ⟨fun a o e => k.1 a o (h.1 a o e), fun a o e => k.2 a o (h.2 a o e), fun g v e => k.3 g v (h.3 g v e)⟩

abbrev CT := Str → Option (Addr × List Str)
mutual
inductive Rep (K : PySem.W.Frag) (ct : CT) (W : Wd) : V → D → Prop
  | non : Rep K ct W .non .non
  | bl (b : Bool) : Rep K ct W (.bl b) (.bl b)
  | int (i : Int) : Rep K ct W (.int i) (.int i)
  | str (x : Str) : Rep K ct W (.str x) (.str x)
  | lst {a : Addr} {vs : List V} {ds : List D} : W.hs a = some (.lst vs) → RepL K ct W vs ds → Rep K ct W (.ref a) (.lst ds)
  | tup {a : Addr} {vs : List V} {ds : List D} : W.tp a = some vs → RepL K ct W vs ds → Rep K ct W (.ref a) (.tup ds)
  | dic {a : Addr} {kvs : List (Key × V)} {kds : List (Key × D)} : W.hs a = some (.dK kvs) → kvs.map (·.1) = kds.map (·.1) → RepL K ct W (kvs.map (·.2)) (kds.map (·.2)) → Rep K ct W (.ref a) (.dic kds)
  | obj {a C dx : Addr} {fs : List (Str × V)} {c : Str} {ns : List Str} {ds : List D} : W.hs a = some (.ins C dx fs) → ct c = some (C, ns) → fs.map (·.1) = ns.take ds.length → RepL K ct W (fs.map (·.2)) ds → Rep K ct W (.ref a) (.obj c ds)
  | hnd {g : Nat} {v : V} : W.rho g = some v → Rep K ct W v (.hnd g)
  | scr {a : Addr} {ns : List Int} : SqL K W.hs a (ns.map V.int) → Rep K ct W (.ref a) (.scr ns)
inductive RepL (K : PySem.W.Frag) (ct : CT) (W : Wd) : List V → List D → Prop
  | nil : RepL K ct W [] []
  | cons {v : V} {vs : List V} {d : D} {ds : List D} : Rep K ct W v d → RepL K ct W vs ds → RepL K ct W (v :: vs) (d :: ds)
end
section
variable {K : PySem.W.Frag} {ct : CT} {W W' : Wd}
theorem sq_mono {H H' : Hp} {a : Addr} {xs : List V} (e : ∀ a o, H a = some o → H' a = some o) (h : SqL K H a xs) : SqL K H' a xs := Same.seq (K := K) e h
mutual
theorem Rep.mono (l : W.le W') : ∀ {v : V} {d : D}, Rep K ct W v d → Rep K ct W' v d
  | _, _, .non => .non
  | _, _, .bl b => .bl b
  | _, _, .int i => .int i
  | _, _, .str x => .str x
  | _, _, .lst h r => .lst (l.1 _ _ h) (RepL.mono l r)
  | _, _, .scr h => .scr (sq_mono l.1 h)
  | _, _, .tup h r => .tup (l.2 _ _ h) (RepL.mono l r)
  | _, _, .dic h n r => .dic (l.1 _ _ h) n (RepL.mono l r)
  | _, _, .obj h c n r => .obj (l.1 _ _ h) c n (RepL.mono l r)
  | _, _, .hnd h => .hnd (l.3 _ _ h)
theorem RepL.mono (l : W.le W') : ∀ {vs : List V} {ds : List D}, RepL K ct W vs ds → RepL K ct W' vs ds
  | _, _, .nil => .nil
  | _, _, .cons h r => .cons (Rep.mono l h) (RepL.mono l r)
end
theorem RepL.length : ∀ {vs : List V} {ds : List D}, RepL K ct W vs ds → vs.length = ds.length
  | _, _, .nil => rfl
  | _, _, .cons _ r => congrArg (· + 1) (RepL.length r)
theorem RepL.get : ∀ {vs : List V} {ds : List D} {i : Nat} {d : D}, RepL K ct W vs ds → ds[i]? = some d → ∃ v, vs[i]? = some v ∧ Rep K ct W v d
  | _, _, _, _, .nil, e => by simp at e
  | _, _, 0, _, .cons h _, e => by simp at e; subst e; exact ⟨_, rfl, h⟩
  | _, _, i + 1, _, .cons _ r, e => RepL.get (i := i) r (by simpa using e)
theorem RepL.get2 : ∀ {vs : List V} {ds : List D} {i : Nat} {v : V}, RepL K ct W vs ds → vs[i]? = some v → ∃ d, ds[i]? = some d ∧ Rep K ct W v d
  | _, _, _, _, .nil, e => by simp at e
  | _, _, 0, _, .cons h _, e => by simp at e; subst e; exact ⟨_, rfl, h⟩
  | _, _, i + 1, _, .cons _ r, e => RepL.get2 (i := i) r (by simpa using e)
theorem RepL.append : ∀ {vs ws : List V} {ds es : List D}, RepL K ct W vs ds → RepL K ct W ws es → RepL K ct W (vs ++ ws) (ds ++ es)
  | _, _, _, _, .nil, s => s
  | _, _, _, _, .cons h r, s => .cons h (RepL.append r s)
theorem RepL.take : ∀ {vs : List V} {ds : List D} (n : Nat), RepL K ct W vs ds → RepL K ct W (vs.take n) (ds.take n)
  | _, _, 0, _ => .nil
  | _, _, _ + 1, .nil => .nil
  | _, _, n + 1, .cons h r => .cons h (RepL.take n r)
theorem RepL.drop : ∀ {vs : List V} {ds : List D} (n : Nat), RepL K ct W vs ds → RepL K ct W (vs.drop n) (ds.drop n)
  | _, _, 0, r => r
  | _, _, _ + 1, .nil => .nil
  | _, _, n + 1, .cons _ r => RepL.drop n r
theorem RepL.set : ∀ {vs : List V} {ds : List D} {v : V} {d : D} (i : Nat), RepL K ct W vs ds → Rep K ct W v d → RepL K ct W (vs.set i v) (ds.set i d)
  | _, _, _, _, _, .nil, _ => .nil
  | _, _, _, _, 0, .cons _ r, h => .cons h r
  | _, _, _, _, i + 1, .cons g r, h => .cons g (RepL.set i r h)
theorem RepL.eraseIdx : ∀ {vs : List V} {ds : List D} (i : Nat), RepL K ct W vs ds → RepL K ct W (vs.eraseIdx i) (ds.eraseIdx i)
  | _, _, _, .nil => .nil
  | _, _, 0, .cons _ r => r
  | _, _, i + 1, .cons g r => .cons g (RepL.eraseIdx i r)
theorem RepL.reverse {vs : List V} {ds : List D} (r : RepL K ct W vs ds) : RepL K ct W vs.reverse ds.reverse := by
  induction vs generalizing ds with
  | nil => cases r; exact .nil
  | cons v vs ih =>
    cases r with
    | cons h r =>
      rw [List.reverse_cons, List.reverse_cons]
      exact (ih r).append (.cons h .nil)
theorem RepL.rep {vs : List V} {ds : List D} (r : RepL K ct W vs ds) : ∀ k : Nat, RepL K ct W (List.replicate k vs).flatten (List.replicate k ds).flatten
  | 0 => .nil
  | k + 1 => by
    rw [List.replicate_succ, List.replicate_succ, List.flatten_cons, List.flatten_cons]
    exact r.append (RepL.rep r k)
theorem RepL.ints : ∀ {vs : List V} {ns : List Int}, RepL K ct W vs (ns.map D.int) → vs = ns.map V.int
  | _, [], .nil => rfl
  | _, n :: ns, .cons h r => by
    have e := RepL.ints (ns := ns) r
    cases h
    rw [e]; rfl
theorem RepL.bls : ∀ {vs : List V} {ns : List Bool}, RepL K ct W vs (ns.map D.bl) → vs = ns.map V.bl
  | _, [], .nil => rfl
  | _, n :: ns, .cons h r => by
    have e := RepL.bls (ns := ns) r
    cases h
    rw [e]; rfl
theorem RepL.strs : ∀ {vs : List V} {ns : List Str}, RepL K ct W vs (ns.map D.str) → vs = ns.map V.str
  | _, [], .nil => rfl
  | _, n :: ns, .cons h r => by
    have e := RepL.strs (ns := ns) r
    cases h
    rw [e]; rfl
theorem RepL.of_ints : ∀ ns : List Int, RepL K ct W (ns.map V.int) (ns.map D.int)
  | [] => .nil
  | n :: ns => .cons (.int n) (RepL.of_ints ns)
end

/-! the state -/
inductive Lab where
  | slot (i : Nat) | ob (g : Nat)
  deriving DecidableEq
inductive Slot where
  | no | sh (d : D) | ow (d : D) | o2 (dss : List (List D)) | me (a : Addr) (d : D)
/-- a kind of object of the store -/
structure Kd where
  P : PySem.W.Frag → CT → Wd → Hp → V → D → Prop
  mono : ∀ {K ct W W' F v d}, P K ct W F v d → W.le W' → P K ct W' F v d
abbrev Sto := List (Kd × D)

section
variable (K : PySem.W.Frag) (ct : CT)
/-- a list, a dict or an instance of one's own at a -/
inductive Cell (W : Wd) (H : Hp) (a : Addr) : D → Prop
  | lst {vs : List V} {ds : List D} : H a = some (.lst vs) → RepL K ct W vs ds → Cell W H a (.lst ds)
  | dic {kvs : List (Key × V)} {kds : List (Key × D)} : H a = some (.dK kvs) → kvs.map (·.1) = kds.map (·.1) → RepL K ct W (kvs.map (·.2)) (kds.map (·.2)) → Cell W H a (.dic kds)
  | obj {C dx : Addr} {fs : List (Str × V)} {c : Str} {ns : List Str} {ds : List D} : H a = some (.ins C dx fs) → ct c = some (C, ns) → fs.map (·.1) = ns.take ds.length → RepL K ct W (fs.map (·.2)) ds → Cell W H a (.obj c ds)
/-- rows of one's own -/
inductive Rows (W : Wd) (H : Hp) (L : Addr → Option Lab) (l : Lab) : List V → List (List D) → Prop
  | nil : Rows W H L l [] []
  | cons {a : Addr} {vs : List V} {ds : List D} {ws : List V} {dss : List (List D)} : H a = some (.lst vs) → L a = some l → RepL K ct W vs ds → V.ref a ∉ ws → Rows W H L l ws dss → Rows W H L l (.ref a :: ws) (ds :: dss)
def SlotOk (W : Wd) (L : Addr → Option Lab) (H : Hp) (σ : St) (i : Nat) : Slot → Prop
  | .no => True
  | .sh d => ∃ v, σ[i]? = some (some v) ∧ Rep K ct W v d
  | .ow d => ∃ a, σ[i]? = some (some (.ref a)) ∧ L a = some (.slot i) ∧ Cell K ct W H a d
  | .me a d => σ[i]? = some (some (.ref a)) ∧ L a = some (.slot i) ∧ Cell K ct W H a d
  | .o2 dss => ∃ a ws, σ[i]? = some (some (.ref a)) ∧ L a = some (.slot i) ∧ H a = some (.lst ws) ∧ V.ref a ∉ ws ∧ Rows K ct W H L (.slot i) ws dss
structure Rel (F : Hp) (W : Wd) (L : Addr → Option Lab) (env : List Slot) (st : Sto) (σ : St) (H : Hp) : Prop where
  fr : ∀ a o, F a = some o → H a = some o ∧ L a = none ∧ W.hs a = none
  hs : ∀ a o, W.hs a = some o → H a = some o ∧ L a = none
  tp : ∀ a vs, W.tp a = some vs → H a = some (.tup vs)
  ob : ∀ g κ d, st[g]? = some (κ, d) → ∃ v, W.rho g = some v ∧ κ.P K ct W (fun a => if L a = some (.ob g) then H a else none) v d
  rh : ∀ g v, W.rho g = some v → g < st.length
  len : σ.length = env.length
  sl : ∀ i s, env[i]? = some s → SlotOk K ct W L H σ i s
end

inductive R where
  | sh (d : D) | ow (d : D) | bw (i : Nat) (d : D)
def R.d : R → D
  | .sh d => d
  | .ow d => d
  | .bw _ d => d
/-- a thing just made is shared at once -/
def R.pin : R → R
  | .ow d => .sh d
  | r => r
section
variable (K : PySem.W.Frag) (ct : CT)
def RepR (F : Hp) (W : Wd) (L : Addr → Option Lab) (H : Hp) (env : List Slot) (σ : St) (v : V) : R → Prop
  | .sh d => Rep K ct W v d
  | .ow d => ∃ a, v = .ref a ∧ L a = none ∧ W.hs a = none ∧ F a = none ∧ Cell K ct W H a d
  | .bw i d => env[i]? = some (.ow d) ∧ σ[i]? = some (some v)
/-- what stays readable -/
def RdR (W : Wd) (env : List Slot) (σ : St) (v : V) : R → Prop
  | .sh d => Rep K ct W v d
  | .ow _ => False
  | .bw i d => env[i]? = some (.ow d) ∧ σ[i]? = some (some v)
/-- readable as the heap is now -/
def RdH (W : Wd) (H : Hp) (v : V) (d : D) : Prop := Rep K ct W v d ∨ ∃ a, v = .ref a ∧ Cell K ct W H a d
end

section
variable {K : PySem.W.Frag} {ct : CT} {F H H' : Hp} {W W' : Wd} {L L' : Addr → Option Lab} {env : List Slot} {st : Sto} {σ : St} {v : V} {d : D} {r : R} {a p : Addr} {o : HO}
theorem Cell.mono {W W' : Wd} {H H' : Hp} (c : Cell K ct W H a d) (l : W.le W') (e : ∀ o, H a = some o → H' a = some o) : Cell K ct W' H' a d := by
  cases c with
  | lst h q => exact .lst (e _ h) (q.mono l)
  | dic h n q => exact .dic (e _ h) n (q.mono l)
  | obj h c n q => exact .obj (e _ h) c n (q.mono l)
theorem Cell.there (c : Cell K ct W H a d) : ∃ o, H a = some o := by
  cases c with
  | lst h q => exact ⟨_, h⟩
  | dic h n q => exact ⟨_, h⟩
  | obj h c n q => exact ⟨_, h⟩
theorem Rows.mono {W W' : Wd} {H H' : Hp} {L L' : Addr → Option Lab} {l : Lab} (lw : W.le W') (e : ∀ a o, L a = some l → H a = some o → H' a = some o ∧ L' a = some l) : ∀ {ws : List V} {dss : List (List D)}, Rows K ct W H L l ws dss → Rows K ct W' H' L' l ws dss
  | _, _, .nil => .nil
  | _, _, .cons h hl q n r => .cons (e _ _ hl h).1 (e _ _ hl h).2 (q.mono lw) n (Rows.mono lw e r)

/-- more shared, labels of what is there kept, what is there kept -/
theorem SlotOk.mono {W W' : Wd} {H H' : Hp} {L L' : Addr → Option Lab} {σ : St} {i : Nat} (lw : W.le W') (e : ∀ a o, L a = some (.slot i) → H a = some o → H' a = some o ∧ L' a = some (.slot i)) : ∀ {s : Slot}, SlotOk K ct W L H σ i s → SlotOk K ct W' L' H' σ i s
  | .no, _ => trivial
  | .sh d, ⟨v, h, q⟩ => ⟨v, h, q.mono lw⟩
  | .ow d, ⟨a, h, hl, c⟩ => by
    obtain ⟨o, ho⟩ := c.there
    exact ⟨a, h, (e a o hl ho).2, c.mono lw fun o h => (e a o hl h).1⟩
  | .me a d, ⟨h, hl, c⟩ => by
    obtain ⟨o, ho⟩ := c.there
    exact ⟨h, (e a o hl ho).2, c.mono lw fun o h => (e a o hl h).1⟩
  | .o2 dss, ⟨a, ws, h, hl, hc, n, rr⟩ => ⟨a, ws, h, (e a _ hl hc).2, (e a _ hl hc).1, n, rr.mono lw e⟩

/-- the heap grows, nothing that was tracked is changed -/
theorem Rel.grow (I : Rel K ct F W L env st σ H) (e : ∀ a o, H a = some o → H' a = some o) : Rel K ct F W (fun a => if (H a).isSome then L a else none) env st σ H' := by
  have lab : ∀ a o, H a = some o → (if (H a).isSome then L a else none) = L a := fun a o h => by rw [h]; rfl
  refine ⟨fun a o h => ?_, fun a o h => ?_, fun a vs h => e a _ (I.tp a vs h), fun g κ d h => ?_, I.rh, I.len, fun i s h => ?_⟩
  · obtain ⟨h1, h2, h3⟩ := I.fr a o h
    exact ⟨e a o h1, (lab a o h1).trans h2, h3⟩
  · obtain ⟨h1, h2⟩ := I.hs a o h
    exact ⟨e a o h1, (lab a o h1).trans h2⟩
  · obtain ⟨v, h1, h2⟩ := I.ob g κ d h
    refine ⟨v, h1, ?_⟩
    have q : (fun a => if (if (H a).isSome then L a else none) = some (Lab.ob g) then H' a else none) = fun a => if L a = some (.ob g) then H a else none := by
      funext a
      cases h : H a with
      | none => simp
      | some o => simp [e a o h]
    rw [q]; exact h2
  · exact (I.sl i s h).mono (Wd.le.refl W) fun a o hl ho => ⟨e a o ho, (lab a o ho).trans hl⟩
/-- an object that is nobody's is shared -/
def Wd.add (W : Wd) (p : Addr) (o : HO) : Wd := ⟨upd W.hs p o, W.tp, W.rho⟩
def Wd.addT (W : Wd) (p : Addr) (vs : List V) : Wd := ⟨W.hs, fun a => if a = p then some vs else W.tp a, W.rho⟩
theorem Rel.le_add (I : Rel K ct F W L env st σ H) (h : H p = some o) : W.le (W.add p o) := by
  refine ⟨fun a u e => ?_, fun _ _ e => e, fun _ _ e => e⟩
  by_cases hp : a = p
  · subst hp
    have := (I.hs a u e).1
    rw [h] at this; cases this
    exact upd_same
  · show upd W.hs p o a = some u
    rw [upd_ne hp]; exact e
theorem Rel.share (I : Rel K ct F W L env st σ H) (h : H p = some o) (hl : L p = none) (hf : F p = none) : Rel K ct F (W.add p o) L env st σ H := by
  have le := I.le_add h
  refine ⟨fun a u e => ?_, fun a u e => ?_, I.tp, fun g κ d e => ?_, I.rh, I.len, fun i s e => (I.sl i s e).mono le fun a o hl ho => ⟨ho, hl⟩⟩
  · obtain ⟨h1, h2, h3⟩ := I.fr a u e
    refine ⟨h1, h2, ?_⟩
    have : a ≠ p := by rintro rfl; rw [hf] at e; cases e
    show upd W.hs p o a = none
    rw [upd_ne this]; exact h3
  · by_cases hp : a = p
    · subst hp
      have e : upd W.hs a o a = some u := e
      rw [upd_same] at e; cases e
      exact ⟨h, hl⟩
    · have e : upd W.hs p o a = some u := e
      rw [upd_ne hp] at e
      exact I.hs a u e
  · obtain ⟨v, h1, h2⟩ := I.ob g κ d e
    exact ⟨v, h1, κ.mono h2 le⟩
/-- a tuple is shared -/
theorem Rel.shareT {vs : List V} (I : Rel K ct F W L env st σ H) (h : H p = some (.tup vs)) : W.le (W.addT p vs) ∧ Rel K ct F (W.addT p vs) L env st σ H ∧ (W.addT p vs).tp p = some vs := by
  have le : W.le (W.addT p vs) := by
    refine ⟨fun _ _ e => e, fun a u e => ?_, fun _ _ e => e⟩
    show (if a = p then some vs else W.tp a) = some u
    by_cases hp : a = p
    · subst hp
      have := I.tp a u e
      rw [h] at this; cases this
      exact if_pos rfl
    · rw [if_neg hp]; exact e
  refine ⟨le, ⟨I.fr, I.hs, fun a u e => ?_, fun g κ d e => ?_, I.rh, I.len, fun i s e => (I.sl i s e).mono le fun a o hl ho => ⟨ho, hl⟩⟩, if_pos rfl⟩
  · have e : (if a = p then some vs else W.tp a) = some u := e
    by_cases hp : a = p
    · rw [if_pos hp] at e; cases e; rw [hp]; exact h
    · rw [if_neg hp] at e; exact I.tp a u e
  · obtain ⟨v, h1, h2⟩ := I.ob g κ d e
    exact ⟨v, h1, κ.mono h2 le⟩
/-- a new object -/
theorem Rel.laid (I : Rel K ct F W L env st σ H) (hp : H p = none) : Rel K ct F W (fun a => if (H a).isSome then L a else none) env st σ (upd H p o) ∧ (if (H p).isSome then L p else none) = none ∧ W.hs p = none ∧ F p = none := by
  refine ⟨I.grow fun a u e => by rw [upd_ne (ne_of_none e hp)]; exact e, by rw [hp]; rfl, ?_, ?_⟩
  · cases q : W.hs p with
    | none => rfl
    | some u => have := (I.hs p u q).1; rw [hp] at this; cases this
  · cases q : F p with
    | none => rfl
    | some u => have := (I.fr p u q).1; rw [hp] at this; cases this
/-- what was just made is shared -/
theorem Rel.pin (I : Rel K ct F W L env st σ H) (h : RepR K ct F W L H env σ v r) : ∃ W', W.le W' ∧ Rel K ct F W' L env st σ H ∧ RdR K ct W' env σ v r.pin := by
  cases r with
  | sh d => exact ⟨W, .refl W, I, h⟩
  | bw i d => exact ⟨W, .refl W, I, h⟩
  | ow d =>
    obtain ⟨a, rfl, hl, hw, hf, c⟩ := h
    cases c with
    | lst e q =>
      have le := I.le_add e
      refine ⟨_, le, I.share e hl hf, .lst ?_ (q.mono le)⟩
      exact upd_same
    | dic e n q =>
      have le := I.le_add e
      refine ⟨_, le, I.share e hl hf, .dic ?_ n (q.mono le)⟩
      exact upd_same
    | obj e c n q =>
      have le := I.le_add e
      exact ⟨_, le, I.share e hl hf, Rep.obj (show (W.add a _).hs a = some _ from upd_same) c n (q.mono le)⟩
theorem RdR.mono {W W' : Wd} (h : RdR K ct W env σ v r) (l : W.le W') : RdR K ct W' env σ v r := by
  cases r with
  | sh d => exact Rep.mono l h
  | ow d => exact h
  | bw i d => exact h
theorem Rel.look (I : Rel K ct F W L env st σ H) (h : RdR K ct W env σ v r) : RdH K ct W H v r.d := by
  cases r with
  | sh d => exact .inl h
  | ow d => exact h.elim
  | bw i d =>
    obtain ⟨h1, h2⟩ := h
    obtain ⟨a, e, _, c⟩ := I.sl i _ h1
    rw [h2] at e; cases e
    exact .inr ⟨a, rfl, c⟩
theorem RdH.list {ds : List D} (h : RdH K ct W H v (.lst ds)) (I : Rel K ct F W L env st σ H) : ∃ a vs, v = .ref a ∧ H a = some (.lst vs) ∧ RepL K ct W vs ds := by
  rcases h with h | ⟨a, rfl, c⟩
  · cases h with
    | lst h q => exact ⟨_, _, rfl, (I.hs _ _ h).1, q⟩
  · cases c with
    | lst h q => exact ⟨a, _, rfl, h, q⟩
/-- the items of a list -/
def D.seqL : D → Option (List D)
  | .lst ds => some ds
  | .scr ns => some (ns.map D.int)
  | _ => none
theorem RdH.seqL {ds : List D} (h : RdH K ct W H v d) (e : d.seqL = some ds) (I : Rel K ct F W L env st σ H) : ∃ a vs, v = .ref a ∧ SqL K H a vs ∧ RepL K ct W vs ds := by
  cases d <;> simp only [D.seqL, Option.some.injEq, reduceCtorEq] at e
  · subst e
    obtain ⟨a, vs, e1, e2, e3⟩ := h.list I
    exact ⟨a, vs, e1, SqL.of e2, e3⟩
  · subst e
    rcases h with h | ⟨a, rfl, c⟩
    · cases h with
      | scr h => exact ⟨_, _, rfl, sq_mono (fun a o e => (I.hs a o e).1) h, RepL.of_ints _⟩
    · cases c
theorem RdH.tup {ds : List D} (h : RdH K ct W H v (.tup ds)) (I : Rel K ct F W L env st σ H) : ∃ a vs, v = .ref a ∧ H a = some (.tup vs) ∧ RepL K ct W vs ds := by
  rcases h with h | ⟨a, rfl, c⟩
  · cases h with
    | tup h q => exact ⟨_, _, rfl, I.tp _ _ h, q⟩
  · cases c
theorem RdH.int {i : Int} (h : RdH K ct W H v (.int i)) : v = .int i := by
  rcases h with h | ⟨a, rfl, c⟩
  · cases h; rfl
  · cases c
theorem RdH.bl {i : Bool} (h : RdH K ct W H v (.bl i)) : v = .bl i := by
  rcases h with h | ⟨a, rfl, c⟩
  · cases h; rfl
  · cases c
theorem RdH.str {i : Str} (h : RdH K ct W H v (.str i)) : v = .str i := by
  rcases h with h | ⟨a, rfl, c⟩
  · cases h; rfl
  · cases c
theorem RdH.non (h : RdH K ct W H v .non) : v = .non := by
  rcases h with h | ⟨a, rfl, c⟩
  · cases h; rfl
  · cases c
end

/-! readings by functions -/
abbrev Sem := List Slot → Sto → Option (R × Sto)
abbrev SemA := List Slot → Sto → Option (List R × Sto)
section
variable (K : PySem.W.Frag) (ct : CT)
def tE (e : Sem) : TE := fun σ H Q => ∃ F W L env st r st', Rel K ct F W L env st σ H ∧ e env st = some (r, st') ∧
  ∀ v H' W' L', W.le W' → Rel K ct F W' L' env st' σ H' → RepR K ct F W' L' H' env σ v r → Q v H'
def tT (e : Sem) : TT := fun σ H Q => ∃ F W L env st b st', Rel K ct F W L env st σ H ∧ e env st = some (.sh (.bl b), st') ∧
  ∀ H' W' L', W.le W' → Rel K ct F W' L' env st' σ H' → Q b H'
inductive RdRs (W : Wd) (env : List Slot) (σ : St) : List V → List R → Prop
  | nil : RdRs W env σ [] []
  | cons {v : V} {vs : List V} {r : R} {rs : List R} : RdR K ct W env σ v r → RdRs W env σ vs rs → RdRs W env σ (v :: vs) (r :: rs)
def tA (e : SemA) : TA := fun σ H Q => ∃ F W L env st rs st', Rel K ct F W L env st σ H ∧ e env st = some (rs, st') ∧
  ∀ vs H' W' L', W.le W' → Rel K ct F W' L' env st' σ H' → RdRs K ct W' env σ vs rs → Q vs H'
end
structure SE (X : Cx) (ct : CT) (x : Expr) (e : Sem) : Prop where
  pe : PE X x (tE X.K ct e)
structure ST (X : Cx) (ct : CT) (x : Expr) (e : Sem) : Prop where
  pt : PT X x (tT X.K ct e)
structure SW (X : Cx) (ct : CT) (x : Expr) (e : Sem) : Prop where
  pw : PW X x (tT X.K ct e)
structure SA (X : Cx) (ct : CT) (xs : List Expr) (e : SemA) : Prop where
  pa : PA X xs (tA X.K ct e)
theorem pe_mono {X : Cx} {x : Expr} {t t' : TE} (h : PE X x t) (k : ∀ σ H Q, t' σ H Q → t σ H Q) : PE X x t' := ⟨fun pins s σ H Q I q => h.run pins s σ H Q I (k σ H Q q)⟩
theorem pt_mono {X : Cx} {x : Expr} {t t' : TT} (h : PT X x t) (k : ∀ σ H Q, t' σ H Q → t σ H Q) : PT X x t' := ⟨fun pins s σ H Q I q => h.run pins s σ H Q I (k σ H Q q)⟩
theorem pw_mono {X : Cx} {x : Expr} {t t' : TT} (h : PW X x t) (k : ∀ σ H Q, t' σ H Q → t σ H Q) : PW X x t' := ⟨fun wh pins s σ H Q I q => h.run wh pins s σ H Q I (k σ H Q q)⟩
theorem pa_mono {X : Cx} {x : List Expr} {t t' : TA} (h : PA X x t) (k : ∀ σ H Q, t' σ H Q → t σ H Q) : PA X x t' := ⟨fun pos pins s σ H Q I q => h.run pos pins s σ H Q I (k σ H Q q)⟩
theorem RdRs.mono {K : PySem.W.Frag} {ct : CT} {W W' : Wd} {env : List Slot} {σ : St} (l : W.le W') : ∀ {vs : List V} {rs : List R}, RdRs K ct W env σ vs rs → RdRs K ct W' env σ vs rs
  | _, _, .nil => .nil
  | _, _, .cons h r => .cons (h.mono l) (RdRs.mono l r)
end Kn
namespace Kn
open PySem L2

section
variable {X : Cx} {ct : CT} {pos : Pos}
theorem R.pin_d (r : R) : r.pin.d = r.d := by cases r <;> rfl
/-! names and constants -/
def eVar (i : Nat) : Sem := fun env st => match env[i]? with
  | some (.sh d) => some (.sh d, st)
  | some (.ow d) => some (.bw i d, st)
  | _ => none
def eC (d : D) : Sem := fun _ st => some (.sh d, st)
theorem se_var (i : Nat) {x : Str} (hN : X.N[i]? = some x := by rfl) (hv : Vis X.env.scope x := by first | exact Or.inl rfl | exact Or.inr (Or.inl rfl) | exact Or.inr (Or.inr rfl)) (hd : (x == ("__debug__" : Str)) = false := by decide)
    (hcd : (x == ("__classdict__" : Str)) = false := by decide) : SE X ct (.Name x pos) (eVar i) := by
  refine ⟨pe_mono (pe_var hN hv hd hcd) fun σ H Q ⟨F, W, L, env, st, r, st', I, e, k⟩ => ?_⟩
  unfold eVar at e
  split at e
  · rename_i d he
    cases e
    obtain ⟨v, h1, h2⟩ := I.sl i _ he
    exact ⟨v, h1, k v H W L (.refl W) I h2⟩
  · rename_i d he
    cases e
    obtain ⟨a, h1, h2⟩ := I.sl i _ he
    exact ⟨_, h1, k _ H W L (.refl W) I ⟨he, h1⟩⟩
  · cases e
theorem se_const {x : Expr} {v : V} {d : D} (h : PE X x (tC v)) (r : ∀ W, Rep X.K ct W v d) : SE X ct x (eC d) := by
  refine ⟨pe_mono h fun σ H Q ⟨F, W, L, env, st, r', st', I, e, k⟩ => ?_⟩
  cases e
  exact k v H W L (.refl W) I (r W)
theorem se_int {i j} : SE X ct (.Constant (.int i) j pos) (eC (.int i)) := se_const pe_int fun _ => .int i
theorem se_bl {i j} : SE X ct (.Constant (.bool i) j pos) (eC (.bl i)) := se_const pe_bl fun _ => .bl i
theorem se_str {i j} : SE X ct (.Constant (.str i) j pos) (eC (.str i)) := se_const pe_str fun _ => .str i
theorem se_non {j} : SE X ct (.Constant .none j pos) (eC .non) := se_const pe_non fun _ => .non

/-! two operands -/
def e2 (f : D → D → Option R) (a b : Sem) : Sem := fun env st => (a env st).bind fun p => (b env p.2).bind fun q => (f p.1.d q.1.d).map fun r => (r, q.2)
def e1 (f : D → Option R) (a : Sem) : Sem := fun env st => (a env st).bind fun p => (f p.1.d).map fun r => (r, p.2)
def OpS (K : PySem.W.Frag) (ct : CT) (rr : R2) (f : D → D → Option R) : Prop := ∀ F W L env st σ H x y d1 d2 r Q, Rel K ct F W L env st σ H → RdH K ct W H x d1 → RdH K ct W H y d2 → f d1 d2 = some r →
  (∀ v H' W' L', W.le W' → Rel K ct F W' L' env st σ H' → RepR K ct F W' L' H' env σ v r → Q v H') → rr x y H Q
def UnS (K : PySem.W.Frag) (ct : CT) (rr : V → Hp → VK → Prop) (f : D → Option R) : Prop := ∀ F W L env st σ H x d1 r Q, Rel K ct F W L env st σ H → RdH K ct W H x d1 → f d1 = some r →
  (∀ v H' W' L', W.le W' → Rel K ct F W' L' env st σ H' → RepR K ct F W' L' H' env σ v r → Q v H') → rr x H Q
theorem bind2 {α β : Type} {o : Option α} {f : α → Option β} {b : β} (h : o.bind f = some b) : ∃ a, o = some a ∧ f a = some b := by
  cases o with
  | none => cases h
  | some a => exact ⟨a, rfl, h⟩
theorem map2 {α β : Type} {o : Option α} {f : α → β} {b : β} (h : o.map f = some b) : ∃ a, o = some a ∧ f a = b := by
  cases o with
  | none => cases h
  | some a => exact ⟨a, rfl, Option.some.inj h⟩
theorem tE_e2 {K : PySem.W.Frag} {rr : R2} {f : D → D → Option R} {a b : Sem} (os : OpS K ct rr f) {σ : St} {H : Hp} {Q : VK} (h : tE K ct (e2 f a b) σ H Q) : tOp rr (tE K ct a) (tE K ct b) σ H Q := by
  obtain ⟨F, W, L, env, st, r, st', I, e, k⟩ := h
  obtain ⟨⟨r1, st1⟩, h1, e⟩ := bind2 e
  obtain ⟨⟨r2, st2⟩, h2, e⟩ := bind2 e
  obtain ⟨r3, h3, e⟩ := map2 e
  cases e
  refine ⟨F, W, L, env, st, r1, st1, I, h1, fun x H1 W1 L1 l1 I1 p1 => ?_⟩
  obtain ⟨W1', m1, J1, q1⟩ := I1.pin p1
  refine ⟨F, W1', L1, env, st1, r2, st2, J1, h2, fun y H2 W2 L2 l2 I2 p2 => ?_⟩
  obtain ⟨W2', m2, J2, q2⟩ := I2.pin p2
  have q1' := J2.look (q1.mono (l2.trans m2))
  have q2' := J2.look q2
  rw [R.pin_d] at q1' q2'
  exact os F W2' L2 env st2 σ H2 x y _ _ _ Q J2 q1' q2' h3 fun v H' W' L' l' I' p' => k v H' W' L' (l1.trans (m1.trans (l2.trans (m2.trans l')))) I' p'
theorem tE_e1 {K : PySem.W.Frag} {rr : V → Hp → VK → Prop} {f : D → Option R} {a : Sem} (os : UnS K ct rr f) {σ : St} {H : Hp} {Q : VK} (h : tE K ct (e1 f a) σ H Q) : tUn rr (tE K ct a) σ H Q := by
  obtain ⟨F, W, L, env, st, r, st', I, e, k⟩ := h
  obtain ⟨⟨r1, st1⟩, h1, e⟩ := bind2 e
  obtain ⟨r3, h3, e⟩ := map2 e
  cases e
  refine ⟨F, W, L, env, st, r1, st1, I, h1, fun x H1 W1 L1 l1 I1 p1 => ?_⟩
  obtain ⟨W1', m1, J1, q1⟩ := I1.pin p1
  have q1' := J1.look q1
  rw [R.pin_d] at q1'
  exact os F W1' L1 env st1 σ H1 x _ _ Q J1 q1' h3 fun v H' W' L' l' I' p' => k v H' W' L' (l1.trans (m1.trans l')) I' p'
theorem se_op {op : Operator} {rr : R2} {f : D → D → Option R} {x y : Expr} {a b : Sem} (ho : OpR X (binaryOp op) rr) (os : OpS X.K ct rr f) (ha : SE X ct x a) (hb : SE X ct y b) : SE X ct (.BinOp x op y pos) (e2 f a b) :=
  ⟨pe_mono (pe_op ho ha.pe hb.pe) fun _ _ _ h => tE_e2 os h⟩
theorem se_un {op : UnaryOp} {rr : V → Hp → VK → Prop} {f : D → Option R} {x : Expr} {a : Sem} (ho : UnR X (unaryOp op) rr) (os : UnS X.K ct rr f) (ha : SE X ct x a) : SE X ct (.UnaryOp op x pos) (e1 f a) :=
  ⟨pe_mono (pe_un ho ha.pe) fun _ _ _ h => tE_e1 os h⟩
theorem se_cmp {op : CmpOp} {rr : R2} {f : D → D → Option R} {x y : Expr} {a b : Sem} (ho : OpR X (compareOp op) rr) (os : OpS X.K ct rr f) (hm : behindInMarks op y = false) (ha : SE X ct x a) (hb : SE X ct y b) : SE X ct (.Compare x [op] [y] pos) (e2 f a b) :=
  ⟨pe_mono (pe_cmpR ho ha.pe hb.pe hm) fun _ _ _ h => tE_e2 os h⟩
theorem tT_tE {K : PySem.W.Frag} {a : Sem} {σ : St} {H : Hp} {Q : Bool → Hp → Prop} (h : tT K ct a σ H Q) : tE K ct a σ H (fun x H' => ∃ k, x = .bl k ∧ Q k H') := by
  obtain ⟨F, W, L, env, st, b, st', I, e, k⟩ := h
  refine ⟨F, W, L, env, st, _, st', I, e, fun v H' W' L' l I' p => ⟨b, ?_, k H' W' L' l I'⟩⟩
  cases (show Rep K ct W' v (.bl b) from p)
  rfl
theorem st_cmp {op : CmpOp} {rr : R2} {f : D → D → Option R} {x y : Expr} {a b : Sem} (ho : OpR X (compareOp op) rr) (os : OpS X.K ct rr f) (hm : behindInMarks op y = false) (ha : SE X ct x a) (hb : SE X ct y b) : ST X ct (.Compare x [op] [y] pos) (e2 f a b) :=
  ⟨pt_mono (pt_cmpR ho ha.pe hb.pe hm) fun _ _ _ h => tE_e2 os (tT_tE h)⟩
/-- a truth as a test -/
theorem st_val {x : Expr} {a : Sem} (h : SE X ct x a) (he : ∀ whole, isTrue x X.env whole = (do let v ← whole; standAt x.pos; holding [v] (truthy v)) := by intro _; rfl) : ST X ct x a :=
  ⟨pt_mono (pt_val h.pe he) fun _ _ _ h => tT_tE h⟩

/-! chains: a op b op' c -/
def eChain (f g : D → D → Option R) (a b c : Sem) : Sem := fun env st => (a env st).bind fun p => (b env p.2).bind fun q => (f p.1.d q.1.d).bind fun r => match r with
  | .sh (.bl true) => (c env q.2).bind fun u => (g q.1.d u.1.d).map fun r => (r, u.2)
  | .sh (.bl false) => some (.sh (.bl false), q.2)
  | _ => none
theorem tE_chain {K : PySem.W.Frag} {rr rr' : R2} {f g : D → D → Option R} {a b c : Sem} (os : OpS K ct rr f) (os' : OpS K ct rr' g) {σ : St} {H : Hp} {Q : VK} (h : tE K ct (eChain f g a b c) σ H Q) : tChain rr rr' (tE K ct a) (tE K ct b) (tE K ct c) σ H Q := by
  obtain ⟨F, W, L, env, st, r, st', I, e, k⟩ := h
  obtain ⟨⟨r1, st1⟩, h1, e⟩ := bind2 e
  obtain ⟨⟨r2, st2⟩, h2, e⟩ := bind2 e
  obtain ⟨r3, h3, e⟩ := bind2 e
  refine ⟨F, W, L, env, st, r1, st1, I, h1, fun x H1 W1 L1 l1 I1 p1 => ?_⟩
  obtain ⟨W1', m1, J1, q1⟩ := I1.pin p1
  refine ⟨F, W1', L1, env, st1, r2, st2, J1, h2, fun y H2 W2 L2 l2 I2 p2 => ?_⟩
  obtain ⟨W2', m2, J2, q2⟩ := I2.pin p2
  have q1' := J2.look (q1.mono (l2.trans m2))
  have q2' := J2.look q2
  rw [R.pin_d] at q1' q2'
  refine os F W2' L2 env st2 σ H2 x y _ _ _ _ J2 q1' q2' h3 fun v H3 W3 L3 l3 I3 p3 => ?_
  have le3 := l1.trans (m1.trans (l2.trans (m2.trans l3)))
  cases r3 with
  | ow d => cases e
  | bw i d => cases e
  | sh d =>
    cases d with
    | bl b =>
      cases (show Rep K ct W3 v (.bl b) from p3)
      refine ⟨b, rfl, ?_⟩
      cases b with
      | false =>
        cases e
        exact iteF (k _ _ _ _ le3 I3 (.bl false))
      | true =>
        refine iteT ?_
        obtain ⟨⟨r4, st4⟩, h4, e⟩ := bind2 e
        obtain ⟨r5, h5, e⟩ := map2 e
        cases e
        refine ⟨F, W3, L3, env, st2, r4, st4, I3, h4, fun z H4 W4 L4 l4 I4 p4 => ?_⟩
        obtain ⟨W4', m4, J4, q4⟩ := I4.pin p4
        have q4' := J4.look q4
        have q2'' := J4.look (q2.mono (l3.trans (l4.trans m4)))
        rw [R.pin_d] at q4' q2''
        exact os' F W4' L4 env st4 σ H4 y z _ _ _ Q J4 q2'' q4' h5 fun v H' W' L' l' I' p' => k v H' W' L' (le3.trans (l4.trans (m4.trans l'))) I' p'
    | _ => cases e
theorem se_chain {op op' : CmpOp} {rr rr' : R2} {f g : D → D → Option R} {x y z : Expr} {a b c : Sem} (ho : OpR X (compareOp op) rr) (os : OpS X.K ct rr f) (ho' : OpR X (compareOp op') rr') (os' : OpS X.K ct rr' g) (ha : SE X ct x a) (hb : SE X ct y b) (hc : SE X ct z c)
    (hm : lastMarks [op, op'] [y, z] = false := by with_unfolding_all rfl) : SE X ct (.Compare x [op, op'] [y, z] pos) (eChain f g a b c) := ⟨pe_mono (pe_chain ho ho' ha.pe hb.pe hc.pe hm) fun _ _ _ h => tE_chain os os' h⟩
theorem st_chain {op op' : CmpOp} {rr rr' : R2} {f g : D → D → Option R} {x y z : Expr} {a b c : Sem} (ho : OpR X (compareOp op) rr) (os : OpS X.K ct rr f) (ho' : OpR X (compareOp op') rr') (os' : OpS X.K ct rr' g) (ha : SE X ct x a) (hb : SE X ct y b) (hc : SE X ct z c)
    (hm : lastMarks [op, op'] [y, z] = false := by with_unfolding_all rfl) : ST X ct (.Compare x [op, op'] [y, z] pos) (eChain f g a b c) := ⟨pt_mono (pt_chain ho ho' ha.pe hb.pe hc.pe hm) fun _ _ _ h => tE_chain os os' (tT_tE h)⟩

/-! and, or, not, if-else -/
def eAnd (a b : Sem) : Sem := fun env st => (a env st).bind fun p => match p.1 with
  | .sh (.bl true) => b env p.2
  | .sh (.bl false) => some (.sh (.bl false), p.2)
  | _ => none
def eOr (a b : Sem) : Sem := fun env st => (a env st).bind fun p => match p.1 with
  | .sh (.bl false) => b env p.2
  | .sh (.bl true) => some (.sh (.bl true), p.2)
  | _ => none
def eNot (a : Sem) : Sem := fun env st => (a env st).bind fun p => match p.1 with
  | .sh (.bl b) => some (.sh (.bl (!b)), p.2)
  | _ => none
def eIf (c a b : Sem) : Sem := fun env st => (c env st).bind fun p => match p.1 with
  | .sh (.bl true) => a env p.2
  | .sh (.bl false) => b env p.2
  | _ => none
theorem eAnd_inv {a b : Sem} {env st r st'} (h : eAnd a b env st = some (r, st')) : (∃ st1, a env st = some (.sh (.bl true), st1) ∧ b env st1 = some (r, st')) ∨ (a env st = some (.sh (.bl false), st') ∧ r = .sh (.bl false)) := by
  obtain ⟨⟨r1, st1⟩, h1, h⟩ := bind2 h
  cases r1 with
  | sh d =>
    cases d with
    | bl b =>
      cases b with
      | true => exact .inl ⟨st1, h1, h⟩
      | false => cases h; exact .inr ⟨h1, rfl⟩
    | _ => cases h
  | _ => cases h
theorem eOr_inv {a b : Sem} {env st r st'} (h : eOr a b env st = some (r, st')) : (∃ st1, a env st = some (.sh (.bl false), st1) ∧ b env st1 = some (r, st')) ∨ (a env st = some (.sh (.bl true), st') ∧ r = .sh (.bl true)) := by
  obtain ⟨⟨r1, st1⟩, h1, h⟩ := bind2 h
  cases r1 with
  | sh d =>
    cases d with
    | bl b =>
      cases b with
      | false => exact .inl ⟨st1, h1, h⟩
      | true => cases h; exact .inr ⟨h1, rfl⟩
    | _ => cases h
  | _ => cases h
theorem eIf_inv {c a b : Sem} {env st r st'} (h : eIf c a b env st = some (r, st')) : ∃ k st1, c env st = some (.sh (.bl k), st1) ∧ (if k = true then a env st1 else b env st1) = some (r, st') := by
  obtain ⟨⟨r1, st1⟩, h1, h⟩ := bind2 h
  cases r1 with
  | sh d =>
    cases d with
    | bl k =>
      refine ⟨k, st1, h1, ?_⟩
      cases k with
      | false => exact h
      | true => exact h
    | _ => cases h
  | _ => cases h
theorem eNot_inv {a : Sem} {env st r st'} (h : eNot a env st = some (r, st')) : ∃ k, a env st = some (.sh (.bl k), st') ∧ r = .sh (.bl (!k)) := by
  obtain ⟨⟨r1, st1⟩, h1, h⟩ := bind2 h
  cases r1 with
  | sh d =>
    cases d with
    | bl k => cases h; exact ⟨k, h1, rfl⟩
    | _ => cases h
  | _ => cases h
theorem st_not {x : Expr} {a : Sem} (h : ST X ct x a) : ST X ct (.UnaryOp .Not x pos) (eNot a) := by
  refine ⟨pt_mono (pt_not h.pt) fun σ H Q ⟨F, W, L, env, st, b, st', I, e, k⟩ => ?_⟩
  obtain ⟨k', h1, h2⟩ := eNot_inv e
  cases h2
  refine ⟨F, W, L, env, st, k', st', I, h1, fun H' W' L' l I' => ?_⟩
  exact k H' W' L' l I'
theorem se_not {x : Expr} {a : Sem} (h : SE X ct x a) : SE X ct (.UnaryOp .Not x pos) (eNot a) := by
  refine ⟨pe_mono (pe_not h.pe) fun σ H Q ⟨F, W, L, env, st, r, st', I, e, k⟩ => ?_⟩
  obtain ⟨k', h1, h2⟩ := eNot_inv e
  cases h2
  refine ⟨F, W, L, env, st, _, st', I, h1, fun v H' W' L' l I' p => ?_⟩
  cases (show Rep X.K ct W' v (.bl k') from p)
  exact ⟨k', rfl, k _ H' W' L' l I' (.bl _)⟩
variable {rest : List Expr} {x y : Expr} {a b c : Sem}
theorem sw_and1 (h : ST X ct x a) : SW X ct (.BoolOp .And [x] pos) a := ⟨pw_and1 h.pt⟩
theorem sw_or1 (h : ST X ct x a) : SW X ct (.BoolOp .Or [x] pos) a := ⟨pw_or1 h.pt⟩
theorem sw_and (h : ST X ct x a) (k : SW X ct (.BoolOp .And (y :: rest) pos) b) : SW X ct (.BoolOp .And (x :: y :: rest) pos) (eAnd a b) := by
  refine ⟨pw_mono (pw_and h.pt k.pw) fun σ H Q ⟨F, W, L, env, st, r, st', I, e, k⟩ => ?_⟩
  rcases eAnd_inv e with ⟨st1, h1, h2⟩ | ⟨h1, h2⟩
  · refine ⟨F, W, L, env, st, true, st1, I, h1, fun H' W' L' l I' => ?_⟩
    exact iteT ⟨F, W', L', env, st1, r, st', I', h2, fun H2 W2 L2 l2 I2 => k H2 W2 L2 (l.trans l2) I2⟩
  · cases h2
    refine ⟨F, W, L, env, st, false, st', I, h1, fun H' W' L' l I' => ?_⟩
    exact iteF (k H' W' L' l I')
theorem sw_or (h : ST X ct x a) (k : SW X ct (.BoolOp .Or (y :: rest) pos) b) : SW X ct (.BoolOp .Or (x :: y :: rest) pos) (eOr a b) := by
  refine ⟨pw_mono (pw_or h.pt k.pw) fun σ H Q ⟨F, W, L, env, st, r, st', I, e, k⟩ => ?_⟩
  rcases eOr_inv e with ⟨st1, h1, h2⟩ | ⟨h1, h2⟩
  · refine ⟨F, W, L, env, st, false, st1, I, h1, fun H' W' L' l I' => ?_⟩
    exact iteF ⟨F, W', L', env, st1, r, st', I', h2, fun H2 W2 L2 l2 I2 => k H2 W2 L2 (l.trans l2) I2⟩
  · cases h2
    refine ⟨F, W, L, env, st, true, st', I, h1, fun H' W' L' l I' => ?_⟩
    exact iteT (k H' W' L' l I')
theorem se_one {op} (h : SE X ct x a) : SE X ct (.BoolOp op [x] pos) a := ⟨pe_one h.pe⟩
theorem se_and (h : SE X ct x a) (k : SE X ct (.BoolOp .And (y :: rest) pos) b) : SE X ct (.BoolOp .And (x :: y :: rest) pos) (eAnd a b) := by
  refine ⟨pe_mono (pe_and h.pe k.pe) fun σ H Q ⟨F, W, L, env, st, r, st', I, e, k⟩ => ?_⟩
  rcases eAnd_inv e with ⟨st1, h1, h2⟩ | ⟨h1, h2⟩
  · refine ⟨F, W, L, env, st, _, st1, I, h1, fun v H' W' L' l I' p => ?_⟩
    cases (show Rep X.K ct W' v (.bl true) from p)
    exact ⟨true, rfl, iteT ⟨F, W', L', env, st1, r, st', I', h2, fun v H2 W2 L2 l2 I2 => k v H2 W2 L2 (l.trans l2) I2⟩⟩
  · cases h2
    refine ⟨F, W, L, env, st, _, st', I, h1, fun v H' W' L' l I' p => ?_⟩
    cases (show Rep X.K ct W' v (.bl false) from p)
    exact ⟨false, rfl, iteF (k _ H' W' L' l I' (.bl false))⟩
theorem se_or (h : SE X ct x a) (k : SE X ct (.BoolOp .Or (y :: rest) pos) b) : SE X ct (.BoolOp .Or (x :: y :: rest) pos) (eOr a b) := by
  refine ⟨pe_mono (pe_or h.pe k.pe) fun σ H Q ⟨F, W, L, env, st, r, st', I, e, k⟩ => ?_⟩
  rcases eOr_inv e with ⟨st1, h1, h2⟩ | ⟨h1, h2⟩
  · refine ⟨F, W, L, env, st, _, st1, I, h1, fun v H' W' L' l I' p => ?_⟩
    cases (show Rep X.K ct W' v (.bl false) from p)
    exact ⟨false, rfl, iteF ⟨F, W', L', env, st1, r, st', I', h2, fun v H2 W2 L2 l2 I2 => k v H2 W2 L2 (l.trans l2) I2⟩⟩
  · cases h2
    refine ⟨F, W, L, env, st, _, st', I, h1, fun v H' W' L' l I' p => ?_⟩
    cases (show Rep X.K ct W' v (.bl true) from p)
    exact ⟨true, rfl, iteT (k _ H' W' L' l I' (.bl true))⟩
theorem se_if {z : Expr} (hc : ST X ct z c) (ha : SE X ct x a) (hb : SE X ct y b) : SE X ct (.IfExp z x y pos) (eIf c a b) := by
  refine ⟨pe_mono (pe_ifExp hc.pt ha.pe hb.pe) fun σ H Q ⟨F, W, L, env, st, r, st', I, e, k⟩ => ?_⟩
  obtain ⟨k', st1, h1, h2⟩ := eIf_inv e
  refine ⟨F, W, L, env, st, k', st1, I, h1, fun H' W' L' l I' => ?_⟩
  cases k' with
  | true => exact iteT ⟨F, W', L', env, st1, r, st', I', h2, fun v H2 W2 L2 l2 I2 => k v H2 W2 L2 (l.trans l2) I2⟩
  | false => exact iteF ⟨F, W', L', env, st1, r, st', I', h2, fun v H2 W2 L2 l2 I2 => k v H2 W2 L2 (l.trans l2) I2⟩
theorem SW.st (h : SW X ct x a) : ST X ct x a := ⟨h.pw.pt⟩
end
end Kn
namespace Kn
open PySem L2

/-! data as the library's -/
mutual
def D.py : D → PyData
  | .non => .none
  | .bl b => .bool b
  | .int i => .int i
  | .str x => .str x
  | .lst ds => .list (D.pyL ds)
  | .tup ds => .tuple (D.pyL ds)
  | .scr ns => .list (ns.map .int)
  | _ => .dict []
def D.pyL : List D → List PyData
  | [] => []
  | d :: ds => d.py :: D.pyL ds
end
theorem D.pyL_eq : ∀ ds : List D, D.pyL ds = ds.map D.py
  | [] => rfl
  | d :: ds => by rw [D.pyL, D.pyL_eq ds]; rfl
theorem dp_ints (K : PySem.W.Frag) (H : Hp) : ∀ ns : List Int, DpAll K H (ns.map V.int) (ns.map PyData.int)
  | [] => .nil
  | n :: ns => .cons (.int n) (dp_ints K H ns)
section
variable {K : PySem.W.Frag} {ct : CT} {W : Wd} {H : Hp}
mutual
theorem Rep.dp (e : ∀ a o, W.hs a = some o → H a = some o) (e' : ∀ a vs, W.tp a = some vs → H a = some (.tup vs)) : ∀ {v : V} {d : D}, Rep K ct W v d → d.py.canLay0 = true → Dp K H v d.py
  | _, _, .non, _ => .non
  | _, _, .bl b, _ => .bl b
  | _, _, .int i, _ => .int i
  | _, _, .str x, _ => .str x
  | _, _, .lst h r, c => by
    rw [D.py] at c ⊢
    exact .lst (SqL.of (e _ _ h)) (RepL.dp e e' r (by simpa [PyData.canLay0] using c))
  | _, _, .tup h r, c => by
    rw [D.py] at c ⊢
    exact .tup (SqT.of (e' _ _ h)) (RepL.dp e e' r (by simpa [PyData.canLay0] using c))
  | _, _, .scr h, c => by
    rw [D.py]
    exact .lst (sq_mono e h) (dp_ints K H _)
  | _, _, .dic h _ r, c => by simp [D.py, PyData.canLay0] at c
  | _, _, .obj h _ _ r, c => by simp [D.py, PyData.canLay0] at c
  | _, _, .hnd h, c => by simp [D.py, PyData.canLay0] at c
theorem RepL.dp (e : ∀ a o, W.hs a = some o → H a = some o) (e' : ∀ a vs, W.tp a = some vs → H a = some (.tup vs)) : ∀ {vs : List V} {ds : List D}, RepL K ct W vs ds → PyData.canLayAll0 (D.pyL ds) = true → DpAll K H vs (D.pyL ds)
  | _, _, .nil, _ => by rw [D.pyL]; exact .nil
  | _, _, .cons h r, c => by
    rw [D.pyL] at c ⊢
    rw [PyData.canLayAll0, Bool.and_eq_true] at c
    exact .cons (Rep.dp e e' h c.1) (RepL.dp e e' r c.2)
end
theorem RdH.dp {F : Hp} {L : Addr → Option Lab} {env : List Slot} {st : Sto} {σ : St} {v : V} {d : D} (h : RdH K ct W H v d) (I : Rel K ct F W L env st σ H) (c : SeqAt.shaped d.py = true) : Dp K H v d.py := by
  have c := SeqAt.canLay_of_shaped c
  rcases h with h | ⟨a, rfl, cl⟩
  · exact h.dp (fun a o e => (I.hs a o e).1) I.tp c
  · cases cl with
    | lst h q =>
      rw [D.py] at c ⊢
      exact .lst (SqL.of h) (q.dp (fun a o e => (I.hs a o e).1) I.tp (by simpa [PyData.canLay0] using c))
    | dic h _ q => simp [D.py, PyData.canLay0] at c
    | obj h _ _ q => simp [D.py, PyData.canLay0] at c
end

/-! operators -/
section
variable {X : Cx} {ct : CT} {pos : Pos}
theorem fresh_out {K : PySem.W.Frag} {F H : Hp} {W : Wd} {L : Addr → Option Lab} {env : List Slot} {st : Sto} {σ : St} {Q : VK} {d : D} {o : HO} {p : Addr} (I : Rel K ct F W L env st σ H) (hp : H p = none) (c : Cell K ct W (upd H p o) p d)
    (k : ∀ v H' W' L', W.le W' → Rel K ct F W' L' env st σ H' → RepR K ct F W' L' H' env σ v (.ow d) → Q v H') : Q (.ref p) (upd H p o) := by
  obtain ⟨I', h1, h2, h3⟩ := I.laid (o := o) hp
  exact k _ _ W _ (.refl W) I' ⟨p, rfl, h1, h2, h3, c⟩
theorem tup_out {K : PySem.W.Frag} {F H : Hp} {W : Wd} {L : Addr → Option Lab} {env : List Slot} {st : Sto} {σ : St} {Q : VK} {ds : List D} {vs : List V} {p : Addr} (I : Rel K ct F W L env st σ H) (hp : H p = none) (r : RepL K ct W vs ds)
    (k : ∀ v H' W' L', W.le W' → Rel K ct F W' L' env st σ H' → RepR K ct F W' L' H' env σ v (.sh (.tup ds)) → Q v H') : Q (.ref p) (upd H p (.tup vs)) := by
  obtain ⟨I', _⟩ := I.laid (o := .tup vs) hp
  obtain ⟨le, J, e⟩ := I'.shareT (p := p) upd_same
  exact k _ _ _ _ le J (Rep.tup e (r.mono le))

def fAdd : D → D → Option R
  | .int i, .int j => some (.sh (.int (i + j)))
  | .str a, .str b => if a.length + b.length ≤ sizeLine then some (.sh (.str (a ++ b))) else none
  | .lst a, .lst b => if a.length + b.length ≤ sizeLine then some (.ow (.lst (a ++ b))) else none
  | .tup (a :: as), .tup (b :: bs) => if (a :: as).length + (b :: bs).length ≤ sizeLine then some (.sh (.tup ((a :: as) ++ (b :: bs)))) else none
  | _, _ => none
def rrAdd (K : PySem.W.Frag) : R2 := fun x y H Q => (rI0 fun i j => .int (i + j)) x y H Q ∨ (∃ i j, x = .str i ∧ y = .str j ∧ i.length + j.length ≤ sizeLine ∧ Q (.str (i ++ j)) H) ∨ rCat x y H Q ∨ rCatT K x y H Q
theorem op_addA : OpR X (binaryOp .Add) (rrAdd X.K) := OpR.or op_add (OpR.or op_add_str (OpR.or op_cat op_catT))
theorem os_add {K : PySem.W.Frag} : OpS K ct (rrAdd K) fAdd := by
  intro F W L env st σ H x y d1 d2 r Q I h1 h2 e k
  unfold fAdd at e
  split at e
  · cases e
    exact .inl ⟨_, _, h1.int, h2.int, k _ H W L (.refl W) I (.int _)⟩
  · split at e <;> cases e
    rename_i c
    exact .inr (.inl ⟨_, _, h1.str, h2.str, c, k _ H W L (.refl W) I (.str _)⟩)
  · split at e <;> cases e
    rename_i c
    obtain ⟨a, vs, rfl, g1, q1⟩ := h1.list I
    obtain ⟨b, ws, rfl, g2, q2⟩ := h2.list I
    refine .inr (.inr (.inl ⟨a, b, vs, ws, rfl, rfl, g1, g2, by rw [q1.length, q2.length]; exact c, fun p hp => ?_⟩))
    exact fresh_out I hp (.lst upd_same (q1.append q2)) k
  · split at e <;> cases e
    rename_i c
    obtain ⟨a, vs, rfl, g1, q1⟩ := h1.tup I
    obtain ⟨b, ws, rfl, g2, q2⟩ := h2.tup I
    refine .inr (.inr (.inr ⟨a, b, vs, ws, rfl, rfl, SqT.of g1, SqT.of g2, ?_, by rw [q1.length, q2.length]; exact c, ?_⟩))
    · rintro rfl; cases q1
    · refine ⟨?_, fun _ p hp => tup_out I hp (q1.append q2) k⟩
      rintro rfl; cases q2
  · cases e
theorem se_add {x y : Expr} {a b : Sem} (ha : SE X ct x a) (hb : SE X ct y b) : SE X ct (.BinOp x .Add y pos) (e2 fAdd a b) := se_op op_addA os_add ha hb

/-- a rule over two ints -/
def fI (g : Int → Int → Option Int) : D → D → Option R
  | .int i, .int j => (g i j).map fun k => .sh (.int k)
  | _, _ => none
theorem os_I {K : PySem.W.Frag} {C : Int → Int → Prop} {f : Int → Int → Int} {g : Int → Int → Option Int} (h : ∀ i j k, g i j = some k → C i j ∧ k = f i j) : OpS K ct (rI C fun i j => .int (f i j)) (fI g) := by
  intro F W L env st σ H x y d1 d2 r Q I h1 h2 e k
  unfold fI at e
  split at e
  · obtain ⟨m, e1, e2⟩ := map2 e
    subst e2
    obtain ⟨c, rfl⟩ := h _ _ _ e1
    exact ⟨_, _, h1.int, h2.int, c, k _ H W L (.refl W) I (.int _)⟩
  · cases e
def gSub' : Int → Int → Option Int := fun i j => some (i - j)
def gMul : Int → Int → Option Int := fun i j => if i.natAbs.log2 + j.natAbs.log2 < 1000000 then some (i * j) else none
def gDiv : Int → Int → Option Int := fun i j => if 0 < j ∧ j.natAbs.log2 < 9000 then some (i / j) else none
def gMod : Int → Int → Option Int := fun i j => if 0 < j then some (i % j) else none
def gPow : Int → Int → Option Int := fun i j => if 0 ≤ j ∧ j ≤ 1000000 ∧ i.natAbs < 2 ^ 64 then some (i ^ j.toNat) else none
def gShl : Int → Int → Option Int := fun i j => if 0 ≤ j ∧ j ≤ 1000000 ∧ i.natAbs < 2 ^ 64 then some (i * 2 ^ j.toNat) else none
def gShr : Int → Int → Option Int := fun i j => if 0 ≤ j then some (i / 2 ^ j.toNat) else none
variable {x y : Expr} {a b : Sem}
theorem ifs {α : Type} {c : Prop} [Decidable c] {v w : α} (h : (if c then some v else none) = some w) : c ∧ w = v := by
  split at h
  · exact ⟨by assumption, (Option.some.inj h).symm⟩
  · cases h
theorem opI0' {f : Value → Value → PySem.Sem Value} {g : Int → Int → V} (h : OpR X f (rI0 g)) : OpR X f (rI (fun _ _ => True) g) := fun pins s σ H x y v u Q I rx ry ⟨i, j, e1, e2, _, q⟩ => h pins s σ H x y v u Q I rx ry ⟨i, j, e1, e2, q⟩
theorem se_sub (ha : SE X ct x a) (hb : SE X ct y b) : SE X ct (.BinOp x .Sub y pos) (e2 (fI gSub') a b) := se_op (opI0' op_sub) (os_I (f := fun i j => i - j) fun i j k h => ⟨trivial, (Option.some.inj h).symm⟩) ha hb
/-- a product of ints, or a list so many times -/
def fMul : D → D → Option R
  | .int i, .int j => (gMul i j).map fun k => .sh (.int k)
  | .lst ds, .int k => if -(2 ^ 63) ≤ k ∧ k < 2 ^ 63 ∧ ds.length * k.toNat ≤ sizeLine then some (.ow (.lst (List.replicate k.toNat ds).flatten)) else none
  | _, _ => none
theorem op_mulA : OpR X (binaryOp .Mult) (fun x y H Q => (rI CMulW fun i j => .int (i * j)) x y H Q ∨ rRep x y H Q) := OpR.or op_mulW op_rep
theorem os_mul {K : PySem.W.Frag} : OpS K ct (fun x y H Q => (rI CMulW fun i j => .int (i * j)) x y H Q ∨ rRep x y H Q) fMul := by
  intro F W L env st σ H x y d1 d2 r Q I h1 h2 e k
  unfold fMul at e
  split at e
  · obtain ⟨m, e1, e2⟩ := map2 e
    subst e2
    obtain ⟨c, rfl⟩ := ifs e1
    exact .inl ⟨_, _, h1.int, h2.int, c, k _ H W L (.refl W) I (.int _)⟩
  · obtain ⟨c, rfl⟩ := ifs e
    obtain ⟨a, vs, rfl, g1, q1⟩ := h1.list I
    refine .inr ⟨a, _, vs, rfl, h2.int, g1, c.1, c.2.1, by rw [q1.length]; exact c.2.2, fun p hp => ?_⟩
    exact fresh_out I hp (.lst upd_same (q1.rep _)) k
  · cases e
theorem se_mul (ha : SE X ct x a) (hb : SE X ct y b) : SE X ct (.BinOp x .Mult y pos) (e2 fMul a b) := se_op op_mulA os_mul ha hb
theorem se_div (ha : SE X ct x a) (hb : SE X ct y b) : SE X ct (.BinOp x .FloorDiv y pos) (e2 (fI gDiv) a b) := se_op op_fdivW (os_I (C := CDivW) (f := fun i j => i / j) fun i j k h => ⟨(ifs h).1, (ifs h).2⟩) ha hb
theorem se_mod (ha : SE X ct x a) (hb : SE X ct y b) : SE X ct (.BinOp x .Mod y pos) (e2 (fI gMod) a b) := se_op op_mod (os_I (C := fun _ j => 0 < j) (f := fun i j => i % j) fun i j k h => ⟨(ifs h).1, (ifs h).2⟩) ha hb
theorem se_pow (ha : SE X ct x a) (hb : SE X ct y b) : SE X ct (.BinOp x .Pow y pos) (e2 (fI gPow) a b) := se_op op_pow (os_I (C := CPow) (f := fun i j => i ^ j.toNat) fun i j k h => ⟨(ifs h).1, (ifs h).2⟩) ha hb
theorem se_shl (ha : SE X ct x a) (hb : SE X ct y b) : SE X ct (.BinOp x .LShift y pos) (e2 (fI gShl) a b) := se_op op_shl (os_I (C := CPow) (f := fun i j => i * 2 ^ j.toNat) fun i j k h => ⟨(ifs h).1, (ifs h).2⟩) ha hb
theorem se_shr (ha : SE X ct x a) (hb : SE X ct y b) : SE X ct (.BinOp x .RShift y pos) (e2 (fI gShr) a b) := se_op op_shr (os_I (C := fun _ j => 0 ≤ j) (f := fun i j => i / 2 ^ j.toNat) fun i j k h => ⟨(ifs h).1, (ifs h).2⟩) ha hb
theorem se_band (ha : SE X ct x a) (hb : SE X ct y b) : SE X ct (.BinOp x .BitAnd y pos) (e2 (fI fun i j => some (Builtin.bitAnd i j)) a b) := se_op (opI0' op_and) (os_I (f := fun i j => Builtin.bitAnd i j) fun i j k h => ⟨trivial, (Option.some.inj h).symm⟩) ha hb
theorem se_bor (ha : SE X ct x a) (hb : SE X ct y b) : SE X ct (.BinOp x .BitOr y pos) (e2 (fI fun i j => some (Builtin.bitOr i j)) a b) := se_op (opI0' op_or) (os_I (f := fun i j => Builtin.bitOr i j) fun i j k h => ⟨trivial, (Option.some.inj h).symm⟩) ha hb
def fNeg : D → Option R
  | .int i => some (.sh (.int (-i)))
  | _ => none
theorem se_neg (ha : SE X ct x a) : SE X ct (.UnaryOp .USub x pos) (e1 fNeg a) := by
  refine se_un un_neg (fun F W L env st σ H v d r Q I h e k => ?_) ha
  unfold fNeg at e
  split at e <;> cases e
  exact ⟨_, h.int, k _ H W L (.refl W) I (.int _)⟩

/-! comparisons -/
def fC (g : Int → Int → Bool) : D → D → Option R
  | .int i, .int j => some (.sh (.bl (g i j)))
  | _, _ => none
theorem os_C {K : PySem.W.Frag} {g : Int → Int → Bool} : OpS K ct (rI0 fun i j => .bl (g i j)) (fC g) := by
  intro F W L env st σ H x y d1 d2 r Q I h1 h2 e k
  unfold fC at e
  split at e <;> cases e
  exact ⟨_, _, h1.int, h2.int, k _ H W L (.refl W) I (.bl _)⟩
abbrev fLt := fC fun i j => decide (i < j)
abbrev fLe := fC fun i j => decide (i ≤ j)
abbrev fGt := fC fun i j => decide (j < i)
abbrev fGe := fC fun i j => decide (j ≤ i)
theorem se_lt (ha : SE X ct x a) (hb : SE X ct y b) : SE X ct (.Compare x [.Lt] [y] pos) (e2 fLt a b) := se_cmp op_lt os_C (nomark _) ha hb
theorem st_lt (ha : SE X ct x a) (hb : SE X ct y b) : ST X ct (.Compare x [.Lt] [y] pos) (e2 fLt a b) := st_cmp op_lt os_C (nomark _) ha hb
theorem se_le (ha : SE X ct x a) (hb : SE X ct y b) : SE X ct (.Compare x [.LtE] [y] pos) (e2 fLe a b) := se_cmp op_le os_C (nomark _) ha hb
theorem st_le (ha : SE X ct x a) (hb : SE X ct y b) : ST X ct (.Compare x [.LtE] [y] pos) (e2 fLe a b) := st_cmp op_le os_C (nomark _) ha hb
theorem se_gt (ha : SE X ct x a) (hb : SE X ct y b) : SE X ct (.Compare x [.Gt] [y] pos) (e2 fGt a b) := se_cmp op_gt os_C (nomark _) ha hb
theorem st_gt (ha : SE X ct x a) (hb : SE X ct y b) : ST X ct (.Compare x [.Gt] [y] pos) (e2 fGt a b) := st_cmp op_gt os_C (nomark _) ha hb
theorem se_ge (ha : SE X ct x a) (hb : SE X ct y b) : SE X ct (.Compare x [.GtE] [y] pos) (e2 fGe a b) := se_cmp op_ge os_C (nomark _) ha hb
theorem st_ge (ha : SE X ct x a) (hb : SE X ct y b) : ST X ct (.Compare x [.GtE] [y] pos) (e2 fGe a b) := st_cmp op_ge os_C (nomark _) ha hb
theorem se_chLL {z : Expr} {c : Sem} (ha : SE X ct x a) (hb : SE X ct y b) (hc : SE X ct z c) (hm : lastMarks [.LtE, .LtE] [y, z] = false := by with_unfolding_all rfl) : SE X ct (.Compare x [.LtE, .LtE] [y, z] pos) (eChain fLe fLe a b c) := se_chain op_le os_C op_le os_C ha hb hc hm
theorem st_chLL {z : Expr} {c : Sem} (ha : SE X ct x a) (hb : SE X ct y b) (hc : SE X ct z c) (hm : lastMarks [.LtE, .LtE] [y, z] = false := by with_unfolding_all rfl) : ST X ct (.Compare x [.LtE, .LtE] [y, z] pos) (eChain fLe fLe a b c) := st_chain op_le os_C op_le os_C ha hb hc hm
theorem se_chLT {z : Expr} {c : Sem} (ha : SE X ct x a) (hb : SE X ct y b) (hc : SE X ct z c) (hm : lastMarks [.LtE, .Lt] [y, z] = false := by with_unfolding_all rfl) : SE X ct (.Compare x [.LtE, .Lt] [y, z] pos) (eChain fLe fLt a b c) := se_chain op_le os_C op_lt os_C ha hb hc hm
theorem st_chLT {z : Expr} {c : Sem} (ha : SE X ct x a) (hb : SE X ct y b) (hc : SE X ct z c) (hm : lastMarks [.LtE, .Lt] [y, z] = false := by with_unfolding_all rfl) : ST X ct (.Compare x [.LtE, .Lt] [y, z] pos) (eChain fLe fLt a b c) := st_chain op_le os_C op_lt os_C ha hb hc hm

def D.ok (d : D) : Bool := SeqAt.shaped d.py
def D.eq (d e : D) : Bool := PyData.eqv d.py e.py
def fEq (d e : D) : Option R := if d.ok = true ∧ e.ok = true then some (.sh (.bl (d.eq e))) else none
def fNe (d e : D) : Option R := if d.ok = true ∧ e.ok = true then some (.sh (.bl (!d.eq e))) else none
theorem os_eq {K : PySem.W.Frag} : OpS K ct (rEqD K) fEq := by
  intro F W L env st σ H x y d1 d2 r Q I h1 h2 e k
  obtain ⟨c, rfl⟩ := ifs e
  exact ⟨_, _, h1.dp I c.1, h2.dp I c.2, c.1, c.2, k _ H W L (.refl W) I (.bl _)⟩
theorem os_ne {K : PySem.W.Frag} : OpS K ct (rNeD K) fNe := by
  intro F W L env st σ H x y d1 d2 r Q I h1 h2 e k
  obtain ⟨c, rfl⟩ := ifs e
  exact ⟨_, _, h1.dp I c.1, h2.dp I c.2, c.1, c.2, k _ H W L (.refl W) I (.bl _)⟩
theorem se_eq {k : Nat} (hr : Room k X.A) (ha : SE X ct x a) (hb : SE X ct y b) : SE X ct (.Compare x [.Eq] [y] pos) (e2 fEq a b) := se_cmp (op_eqD hr.units) os_eq (nomark _) ha hb
theorem st_eq {k : Nat} (hr : Room k X.A) (ha : SE X ct x a) (hb : SE X ct y b) : ST X ct (.Compare x [.Eq] [y] pos) (e2 fEq a b) := st_cmp (op_eqD hr.units) os_eq (nomark _) ha hb
theorem se_ne {k : Nat} (hr : Room k X.A) (ha : SE X ct x a) (hb : SE X ct y b) : SE X ct (.Compare x [.NotEq] [y] pos) (e2 fNe a b) := se_cmp (op_neD hr.units) os_ne (nomark _) ha hb
theorem st_ne {k : Nat} (hr : Room k X.A) (ha : SE X ct x a) (hb : SE X ct y b) : ST X ct (.Compare x [.NotEq] [y] pos) (e2 fNe a b) := st_cmp (op_neD hr.units) os_ne (nomark _) ha hb
/-- is None -/
def D.isN : D → Bool
  | .non => true
  | _ => false
def fIsN (d : D) : Option R := match d with
  | .hnd _ => none
  | d => some (.sh (.bl d.isN))
def fNotN (d : D) : Option R := match d with
  | .hnd _ => none
  | d => some (.sh (.bl (!d.isN)))
theorem RdH.isN {K : PySem.W.Frag} {W : Wd} {H : Hp} {v : V} {d : D} (h : RdH K ct W H v d) (n : ∀ g, d ≠ .hnd g) : decide (v = .non) = d.isN := by
  rcases h with h | ⟨a, rfl, c⟩
  · cases h <;> first | rfl | (rename_i g _; exact absurd rfl (n _))
  · cases c <;> rfl
theorem us_isN {K : PySem.W.Frag} : UnS K ct (fun x H Q => Q (.bl (decide (x = .non))) H) fIsN := by
  intro F W L env st σ H x d r Q I h e k
  unfold fIsN at e
  split at e
  · cases e
  · rename_i n
    cases e
    show Q (.bl (decide (x = .non))) H
    rw [h.isN n]
    exact k _ H W L (.refl W) I (.bl _)
theorem us_notN {K : PySem.W.Frag} : UnS K ct (fun x H Q => Q (.bl (!decide (x = .non))) H) fNotN := by
  intro F W L env st σ H x d r Q I h e k
  unfold fNotN at e
  split at e
  · cases e
  · rename_i n
    cases e
    show Q (.bl (!decide (x = .non))) H
    rw [h.isN n]
    exact k _ H W L (.refl W) I (.bl _)
theorem se_isN {j pos'} (ha : SE X ct x a) : SE X ct (.Compare x [.Is] [.Constant .none j pos'] pos) (e1 fIsN a) := ⟨pe_mono (pe_cmp (pc_isN ha.pe) rfl) fun _ _ _ h => tE_e1 us_isN h⟩
theorem se_notN {j pos'} (ha : SE X ct x a) : SE X ct (.Compare x [.IsNot] [.Constant .none j pos'] pos) (e1 fNotN a) := ⟨pe_mono (pe_cmp (pc_notN ha.pe) rfl) fun _ _ _ h => tE_e1 us_notN h⟩
theorem st_isN {j pos'} (ha : SE X ct x a) : ST X ct (.Compare x [.Is] [.Constant .none j pos'] pos) (e1 fIsN a) := ⟨pt_mono (pt_cmp (pc_isN ha.pe) rfl) fun _ _ _ h => tE_e1 us_isN (tT_tE h)⟩
theorem st_notN {j pos'} (ha : SE X ct x a) : ST X ct (.Compare x [.IsNot] [.Constant .none j pos'] pos) (e1 fNotN a) := ⟨pt_mono (pt_cmp (pc_notN ha.pe) rfl) fun _ _ _ h => tE_e1 us_notN (tT_tE h)⟩
/-- in, not in: a list, a tuple of flat things, a dict -/
def D.flat : D → Bool
  | .non | .bl _ | .int _ | .str _ => true
  | _ => false
def D.key : D → Option Key
  | .int i => some (.inl i)
  | .str x => some (.inr x)
  | _ => none
def valD (kds : List (Key × D)) (k : Key) : Option D := (kds.find? fun kv => decide (kv.1 = k)).map (·.2)
def fInB (x y : D) : Option Bool := match y with
  | .lst ds => if x.ok = true ∧ y.ok = true then some (ds.any fun z => z.eq x) else none
  | .scr ns => if x.ok = true then some ((ns.map D.int).any fun z => z.eq x) else none
  | .tup ds => if x.flat = true ∧ ds.all D.flat = true then some (ds.any fun z => z.eq x) else none
  | .dic kds => x.key.map fun k => (valD kds k).isSome
  | _ => none
def fIn (x y : D) : Option R := (fInB x y).map fun b => .sh (.bl b)
def fNin (x y : D) : Option R := (fInB x y).map fun b => .sh (.bl (!b))
theorem RdH.dic {K : PySem.W.Frag} {F H : Hp} {W : Wd} {L : Addr → Option Lab} {env : List Slot} {st : Sto} {σ : St} {v : V} {kds : List (Key × D)} (h : RdH K ct W H v (.dic kds)) (I : Rel K ct F W L env st σ H) :
    ∃ a kvs, v = .ref a ∧ H a = some (.dK kvs) ∧ kvs.map (·.1) = kds.map (·.1) ∧ RepL K ct W (kvs.map (·.2)) (kds.map (·.2)) := by
  rcases h with h | ⟨a, rfl, c⟩
  · cases h with
    | dic h n q => exact ⟨_, _, rfl, (I.hs _ _ h).1, n, q⟩
  · cases c with
    | dic h n q => exact ⟨a, _, rfl, h, n, q⟩
theorem valD_rep {K : PySem.W.Frag} {W : Wd} (k : Key) : ∀ {kvs : List (Key × V)} {kds : List (Key × D)}, kvs.map (·.1) = kds.map (·.1) → RepL K ct W (kvs.map (·.2)) (kds.map (·.2)) →
    (valV kvs k = none ∧ valD kds k = none) ∨ ∃ v d, valV kvs k = some v ∧ valD kds k = some d ∧ Rep K ct W v d
  | [], [], _, _ => .inl ⟨rfl, rfl⟩
  | [], _ :: _, n, _ => by cases n
  | _ :: _, [], n, _ => by cases n
  | (k1, v) :: kvs, (k2, d) :: kds, n, r => by
    simp only [List.map_cons, List.cons.injEq] at n
    obtain ⟨n1, n2⟩ := n
    cases r with
    | cons h r =>
      by_cases e : k1 = k
      · have e2 : k2 = k := n1.symm.trans e
        exact .inr ⟨v, d, valV_pos e, by simp [valD, List.find?_cons, e2], h⟩
      · have e2 : ¬ k2 = k := fun q => e (n1.trans q)
        have q1 : valV ((k1, v) :: kvs) k = valV kvs k := valV_neg e
        have q2 : valD ((k2, d) :: kds) k = valD kds k := by simp [valD, List.find?_cons, e2]
        rw [q1, q2]
        exact valD_rep k n2 r
theorem D.key_v {K : PySem.W.Frag} {W : Wd} {H : Hp} {v : V} {d : D} {k : Key} (h : RdH K ct W H v d) (e : d.key = some k) : v = kV k := by
  cases d <;> simp only [D.key, Option.some.injEq, reduceCtorEq] at e
  · subst e; exact h.int
  · subst e; exact h.str
theorem any_pyL (x : D) : ∀ ds : List D, (D.pyL ds).any (fun z => PyData.eqv z x.py) = ds.any fun z => z.eq x
  | [] => rfl
  | d :: ds => by rw [D.pyL, List.any_cons, List.any_cons, any_pyL x ds]; rfl
theorem Rep.flat {K : PySem.W.Frag} {W : Wd} {v : V} {d : D} (h : Rep K ct W v d) (f : d.flat = true) : flatV v = true := by
  cases h <;> first | rfl | (cases f; done)
theorem Rep.eqV {K : PySem.W.Frag} {W : Wd} {v w : V} {d e : D} (h : Rep K ct W v d) (k : Rep K ct W w e) (f : d.flat = true) (g : e.flat = true) : eqV v w = d.eq e := by
  cases h <;> first | (cases f; done) | (cases k <;> first | (cases g; done) | (unfold D.eq; simp only [D.py, PyData.eqv, L2.eqV]))
theorem RdH.rep {K : PySem.W.Frag} {W : Wd} {H : Hp} {v : V} {d : D} (h : RdH K ct W H v d) (f : d.flat = true) : Rep K ct W v d := by
  rcases h with h | ⟨a, rfl, c⟩
  · exact h
  · cases c <;> cases f
theorem inV_eq {K : PySem.W.Frag} {W : Wd} {x : V} {d : D} (h : Rep K ct W x d) (f : d.flat = true) : ∀ {vs : List V} {ds : List D}, RepL K ct W vs ds → ds.all D.flat = true → vs.all flatV = true ∧ inV x vs = ds.any fun z => z.eq d
  | _, _, .nil, _ => ⟨rfl, rfl⟩
  | _, _, .cons q r, g => by
    rw [List.all_cons, Bool.and_eq_true] at g
    obtain ⟨h1, h2⟩ := inV_eq h f r g.2
    unfold inV at h2 ⊢
    rw [List.all_cons, List.any_cons, List.any_cons, q.flat g.1, h1, h2, q.eqV h g.1 f]
    exact ⟨rfl, rfl⟩
theorem shaped_ints : ∀ ns : List Int, SeqAt.shaped (.list (ns.map PyData.int)) = true := fun ns => by
  have c : ∀ ns : List Int, PyData.canLayAll0 (ns.map PyData.int) = true := fun ns => by
    induction ns with
    | nil => rfl
    | cons n ns ih =>
      rw [List.map_cons, PyData.canLayAll0, ih]
      rfl
  have d : ∀ ns : List Int, PyData.depthAll (ns.map PyData.int) = 0 := fun ns => by
    induction ns with
    | nil => rfl
    | cons n ns ih =>
      rw [List.map_cons, PyData.depthAll, ih]
      rfl
  unfold SeqAt.shaped
  rw [PyData.canLay0, PyData.depth, c, d]
  rfl
theorem os_in {K : PySem.W.Frag} (neg : Bool) : OpS K ct (fun x y H Q => (if neg then rNotInD K else rInD K) x y H Q ∨ rIn K neg x y H Q ∨ ∃ a o, y = .ref a ∧ DGet H a x o ∧ Q (.bl (if neg then !o.isSome else o.isSome)) H) (fun x y => (fInB x y).map fun b => .sh (.bl (if neg then !b else b))) := by
  intro F W L env st σ H x y d1 d2 r Q I h1 h2 e k
  obtain ⟨m, e1, e2⟩ := map2 e
  subst e2
  unfold fInB at e1
  split at e1
  · rename_i ds
    obtain ⟨c, rfl⟩ := ifs e1
    have g2 := h2.dp I c.2
    have s2 : SeqAt.shaped (D.py (.lst ds)) = true := c.2
    rw [D.py] at g2 s2
    refine .inl ?_
    rw [← any_pyL] at k
    cases neg with
    | true => exact ⟨_, _, h1.dp I c.1, g2, c.1, s2, k _ H W L (.refl W) I (.bl _)⟩
    | false => exact ⟨_, _, h1.dp I c.1, g2, c.1, s2, k _ H W L (.refl W) I (.bl _)⟩
  · rename_i ns
    obtain ⟨c, rfl⟩ := ifs e1
    have s2 : SeqAt.shaped (D.py (.scr ns)) = true := by rw [D.py]; exact shaped_ints ns
    have g2 := h2.dp I s2
    rw [D.py] at g2 s2
    have pe : (ns.map PyData.int) = D.pyL (ns.map D.int) := by rw [D.pyL_eq, List.map_map]; exact List.map_congr_left fun n _ => rfl
    rw [pe] at g2 s2
    refine .inl ?_
    rw [← any_pyL] at k
    cases neg with
    | true => exact ⟨_, _, h1.dp I c, g2, c, s2, k _ H W L (.refl W) I (.bl _)⟩
    | false => exact ⟨_, _, h1.dp I c, g2, c, s2, k _ H W L (.refl W) I (.bl _)⟩
  · obtain ⟨c, rfl⟩ := ifs e1
    obtain ⟨a, vs, rfl, g, q⟩ := h2.tup I
    obtain ⟨f1, f2⟩ := inV_eq (h1.rep c.1) c.1 q c.2
    refine .inr (.inl ⟨a, vs, rfl, .inr (SqT.of g), (h1.rep c.1).flat c.1, f1, ?_⟩)
    rw [f2]
    exact k _ H W L (.refl W) I (.bl _)
  · rename_i kds
    obtain ⟨ky, ek, rfl⟩ := map2 e1
    obtain ⟨a, kvs, rfl, g, n, q⟩ := h2.dic I
    refine .inr (.inr ⟨a, valV kvs ky, rfl, ?_, ?_⟩)
    · rw [D.key_v h1 ek]; exact DGet.k g
    · have e : (valV kvs ky).isSome = (valD kds ky).isSome := by
        rcases valD_rep ky n q with ⟨e1, e2⟩ | ⟨v, d, e1, e2, _⟩ <;> rw [e1, e2] <;> rfl
      rw [e]
      exact k _ H W L (.refl W) I (.bl _)
  · cases e1
theorem op_inDict (hu : X.A.units + 1 < cLine) : OpR X (compareOp .In) (fun x y H Q => ∃ a o, y = .ref a ∧ DGet H a x o ∧ Q (.bl o.isSome) H) := by
  intro pins s σ H x y v u Q I rx ry ⟨a, o, e, g, q⟩
  subst e
  cases (show u = Value.ref a from ry)
  exact d_in hu I g rx fun s' I' => ⟨.bl _, H, I', rfl, q⟩
theorem op_ninDict (hu : X.A.units + 1 < cLine) : OpR X (compareOp .NotIn) (fun x y H Q => ∃ a o, y = .ref a ∧ DGet H a x o ∧ Q (.bl (!o.isSome)) H) := by
  intro pins s σ H x y v u Q I rx ry ⟨a, o, e, g, q⟩
  subst e
  cases (show u = Value.ref a from ry)
  exact d_notIn hu I g rx fun s' I' => ⟨.bl _, H, I', rfl, q⟩
theorem op_inA {k : Nat} (hr : Room k X.A) : OpR X (compareOp .In) (fun x y H Q => rInD X.K x y H Q ∨ rIn X.K false x y H Q ∨ ∃ a o, y = .ref a ∧ DGet H a x o ∧ Q (.bl o.isSome) H) := OpR.or (op_inD (by have := hr.un; omega)) (OpR.or op_in_seq (op_inDict (hu_of hr)))
theorem op_ninA {k : Nat} (hr : Room k X.A) : OpR X (compareOp .NotIn) (fun x y H Q => rNotInD X.K x y H Q ∨ rIn X.K true x y H Q ∨ ∃ a o, y = .ref a ∧ DGet H a x o ∧ Q (.bl (!o.isSome)) H) := OpR.or (op_notInD (by have := hr.un; omega)) (OpR.or op_notIn_seq (op_ninDict (hu_of hr)))
theorem se_in {k : Nat} (hr : Room k X.A) (ha : SE X ct x a) (hb : SE X ct y b) (hm : behindInMarks .In y = false := by with_unfolding_all rfl) : SE X ct (.Compare x [.In] [y] pos) (e2 fIn a b) := se_cmp (op_inA hr) (os_in false) hm ha hb
theorem st_in {k : Nat} (hr : Room k X.A) (ha : SE X ct x a) (hb : SE X ct y b) (hm : behindInMarks .In y = false := by with_unfolding_all rfl) : ST X ct (.Compare x [.In] [y] pos) (e2 fIn a b) := st_cmp (op_inA hr) (os_in false) hm ha hb
theorem se_nin {k : Nat} (hr : Room k X.A) (ha : SE X ct x a) (hb : SE X ct y b) (hm : behindInMarks .NotIn y = false := by with_unfolding_all rfl) : SE X ct (.Compare x [.NotIn] [y] pos) (e2 fNin a b) := se_cmp (op_ninA hr) (os_in true) hm ha hb
theorem st_nin {k : Nat} (hr : Room k X.A) (ha : SE X ct x a) (hb : SE X ct y b) (hm : behindInMarks .NotIn y = false := by with_unfolding_all rfl) : ST X ct (.Compare x [.NotIn] [y] pos) (e2 fNin a b) := st_cmp (op_ninA hr) (os_in true) hm ha hb
end
end Kn
namespace Kn
open PySem L2

section
variable {X : Cx} {ct : CT} {pos : Pos} {x y : Expr} {a b : Sem}
/-! an item -/
def fIdx : D → D → Option R
  | .lst ds, .int i => (atI ds i).map .sh
  | .scr ns, .int i => (atI ns i).map fun n => .sh (.int n)
  | .tup ds, .int i => (atI ds i).map .sh
  | .str z, .int i => if z.length ≤ sizeLine then (atI z.cps.toList i).map fun c => .sh (.str ⟨#[c]⟩) else none
  | .dic kds, d => d.key.bind fun k => (valD kds k).map .sh
  | _, _ => none
theorem atI_rep {K : PySem.W.Frag} {W : Wd} {vs : List V} {ds : List D} {i : Int} {d : D} (r : RepL K ct W vs ds) (h : atI ds i = some d) : ∃ v, atI vs i = some v ∧ Rep K ct W v d := by
  unfold atI at h ⊢
  obtain ⟨j, h1, h2⟩ := bind2 h
  obtain ⟨v, h3, h4⟩ := r.get h2
  refine ⟨v, ?_, h4⟩
  rw [r.length, h1]
  exact h3
theorem ix_dict (hu : X.A.units + 1 < cLine) : IxR X (fun x y H Q => ∃ a v, x = .ref a ∧ DGet H a y (some v) ∧ Q v H) := by
  intro value slice pins s σ H x y v u Q I rx ry ⟨a, w, e, g, q⟩ hs
  subst e
  cases (show v = Value.ref a from rx)
  exact PyProof.Rows.tail_any (dict_typeIs I g) PySem.F.slot_dict_getitem.lookup (d_getItem hu I g ry fun w' s3 I3 rw' => ⟨w, H, I3, rw', q⟩) hs
theorem os_idx {K : PySem.W.Frag} : OpS K ct (fun x y H Q => (∃ a v, x = .ref a ∧ DGet H a y (some v) ∧ Q v H) ∨ rIx K x y H Q) fIdx := by
  intro F W L env st σ H x y d1 d2 r Q I h1 h2 e k
  have go : ∀ (v : V) (d : D), Rep K ct W v d → r = .sh d → Q v H := fun v d h e => k v H W L (.refl W) I (by rw [e]; exact h)
  unfold fIdx at e
  split at e
  · obtain ⟨d, e1, rfl⟩ := map2 e
    obtain ⟨a, vs, rfl, g, q⟩ := h1.list I
    obtain ⟨v, h3, h4⟩ := atI_rep q e1
    exact .inr (.inl ⟨a, vs, _, v, rfl, h2.int, SqL.of g, h3, go v d h4 rfl⟩)
  · rename_i ns i
    obtain ⟨n, e1, rfl⟩ := map2 e
    obtain ⟨a, vs, rfl, g, q⟩ := h1.seqL (ds := ns.map D.int) rfl I
    have e2 : atI (ns.map D.int) i = some (.int n) := by
      unfold atI at e1 ⊢
      obtain ⟨j, e3, e4⟩ := bind2 e1
      rw [List.length_map, e3]
      show (ns.map D.int)[j]? = _
      rw [List.getElem?_map, e4]; rfl
    obtain ⟨v, h3, h4⟩ := atI_rep q e2
    exact .inr (.inl ⟨a, vs, _, v, rfl, h2.int, g, h3, go v _ h4 rfl⟩)
  · obtain ⟨d, e1, rfl⟩ := map2 e
    obtain ⟨a, vs, rfl, g, q⟩ := h1.tup I
    obtain ⟨v, h3, h4⟩ := atI_rep q e1
    exact .inr (.inr (.inl ⟨a, vs, _, v, rfl, h2.int, SqT.of g, h3, go v d h4 rfl⟩))
  · split at e
    · rename_i c
      obtain ⟨m, e1, rfl⟩ := map2 e
      exact .inr (.inr (.inr ⟨_, _, m, h1.str, h2.int, c, e1, go _ _ (.str _) rfl⟩))
    · cases e
  · obtain ⟨ky, ek, e⟩ := bind2 e
    obtain ⟨d, e1, rfl⟩ := map2 e
    obtain ⟨a, kvs, rfl, g, n, q⟩ := h1.dic I
    rcases valD_rep ky n q with ⟨_, e2⟩ | ⟨v, d', e2, e3, h⟩
    · rw [e1] at e2; cases e2
    · rw [e1] at e3; cases e3
      refine .inl ⟨a, v, rfl, ?_, go v d h rfl⟩
      rw [D.key_v h2 ek, ← e2]
      exact DGet.k g
  · cases e
theorem se_idx {k : Nat} (hr : Room k X.A) (ha : SE X ct x a) (hb : SE X ct y b) (hs : PlainIx y := by exact fun _ _ => rfl) : SE X ct (.Subscript x y pos) (e2 fIdx a b) :=
  ⟨pe_mono (pe_ix (IxR.or (ix_dict (hu_of hr)) ix_seq) ha.pe hb.pe hs) fun _ _ _ h => tE_e2 os_idx h⟩

/-! slices -/
def cutG {α : Type} (xs : List α) (lo hi : Option Int) : List α := (xs.drop (HT.sIx xs.length 0 lo)).take (HT.sIx xs.length xs.length hi - HT.sIx xs.length 0 lo)
theorem RepL.cut {K : PySem.W.Frag} {W : Wd} {vs : List V} {ds : List D} (r : RepL K ct W vs ds) (lo hi : Option Int) : RepL K ct W (cutV vs lo hi) (cutG ds lo hi) := by
  unfold cutV cutG
  rw [r.length]
  exact (r.drop _).take _
theorem cutG_map {α β : Type} (f : α → β) (xs : List α) (lo hi : Option Int) : cutG (xs.map f) lo hi = (cutG xs lo hi).map f := by
  unfold cutG
  rw [List.length_map, List.map_take, List.map_drop]
abbrev SemP := List Slot → Sto → Option (Option Int × Sto)
def pNo : SemP := fun _ st => some (none, st)
def pSome (e : Sem) : SemP := fun env st => (e env st).bind fun p => match p.1.d with
  | .int i => some (some i, p.2)
  | _ => none
def tP (K : PySem.W.Frag) (ct : CT) (e : SemP) : TO := fun σ H Q => ∃ F W L env st r st', Rel K ct F W L env st σ H ∧ e env st = some (r, st') ∧
  ∀ H' W' L', W.le W' → Rel K ct F W' L' env st' σ H' → Q r H'
structure SP' (X : Cx) (ct : CT) (x : Option Expr) (e : SemP) : Prop where
  po : PO X x (tP X.K ct e)
theorem po_mono {x : Option Expr} {t t' : TO} (h : PO X x t) (k : ∀ σ H Q, t' σ H Q → t σ H Q) : PO X x t' := ⟨fun pins s σ H Q I q => h.run pins s σ H Q I (k σ H Q q)⟩
theorem sp_no : SP' X ct none pNo := ⟨po_mono po_none fun σ H Q ⟨F, W, L, env, st, r, st', I, e, k⟩ => by cases e; exact k H W L (.refl W) I⟩
theorem sp_some (ha : SE X ct x a) : SP' X ct (some x) (pSome a) := by
  refine ⟨po_mono (po_some ha.pe) fun σ H Q ⟨F, W, L, env, st, r, st', I, e, k⟩ => ?_⟩
  obtain ⟨⟨r1, st1⟩, h1, e⟩ := bind2 e
  refine ⟨F, W, L, env, st, r1, st1, I, h1, fun v H1 W1 L1 l1 I1 p1 => ?_⟩
  obtain ⟨W1', m1, J1, q1⟩ := I1.pin p1
  have q1' := J1.look q1
  rw [R.pin_d] at q1'
  split at e
  · rename_i i ei
    cases e
    have ei : r1.d = .int i := ei
    rw [ei] at q1'
    exact ⟨i, q1'.int, k _ _ _ (l1.trans m1) J1⟩
  · cases e
def fSlc (d : D) (lo hi : Option Int) : Option R := match d with
  | .lst ds => some (.ow (.lst (cutG ds lo hi)))
  | .scr ns => some (.ow (.lst ((cutG ns lo hi).map .int)))
  | .tup ds => if ¬ (HT.sIx ds.length 0 lo = 0 ∧ HT.sIx ds.length ds.length hi = ds.length) then some (.sh (.tup (cutG ds lo hi))) else none
  | _ => none
def eSlc (a : Sem) (lo hi : SemP) : Sem := fun env st => (a env st).bind fun p => (lo env p.2).bind fun l => (hi env l.2).bind fun h => (fSlc p.1.d l.1 h.1).map fun r => (r, h.2)
theorem se_slc {lo hi : Option Expr} {l h : SemP} {p2 : Pos} (ha : SE X ct x a) (hl : SP' X ct lo l) (hh : SP' X ct hi h) : SE X ct (.Subscript x (.Slice lo hi none p2) pos) (eSlc a l h) := by
  refine ⟨pe_mono (pe_slice (SlR.or sl_list sl_tup) ha.pe hl.po hh.po) fun σ H Q ⟨F, W, L, env, st, r, st', I, e, k⟩ => ?_⟩
  obtain ⟨⟨r1, st1⟩, h1, e⟩ := bind2 e
  obtain ⟨⟨o1, st2⟩, h2, e⟩ := bind2 e
  obtain ⟨⟨o2, st3⟩, h3, e⟩ := bind2 e
  obtain ⟨r4, h4, e⟩ := map2 e
  cases e
  refine ⟨F, W, L, env, st, r1, st1, I, h1, fun v H1 W1 L1 l1 I1 p1 => ?_⟩
  obtain ⟨W1', m1, J1, q1⟩ := I1.pin p1
  refine ⟨F, W1', L1, env, st1, o1, st2, J1, h2, fun H2 W2 L2 l2 I2 => ?_⟩
  refine ⟨F, W2, L2, env, st2, o2, st3, I2, h3, fun H3 W3 L3 l3 I3 => ?_⟩
  have q3 := I3.look (q1.mono (l2.trans l3))
  rw [R.pin_d] at q3
  have k' : ∀ v H' W' L', W3.le W' → Rel X.K ct F W' L' env st3 σ H' → RepR X.K ct F W' L' H' env σ v r → Q v H' := fun v H' W' L' l' => k v H' W' L' (l1.trans (m1.trans (l2.trans (l3.trans l'))))
  have h4 : fSlc r1.d o1 o2 = some r := h4
  unfold fSlc at h4
  split at h4
  · rename_i ds ed
    cases h4
    rw [ed] at q3
    obtain ⟨a, vs, rfl, g, q⟩ := q3.list I3
    exact .inl ⟨a, vs, rfl, SqL.of g, fun p hp => fresh_out I3 hp (.lst upd_same (q.cut o1 o2)) k'⟩
  · rename_i ns ed
    cases h4
    rw [ed] at q3
    obtain ⟨a, vs, rfl, g, q⟩ := q3.seqL (ds := ns.map D.int) rfl I3
    refine .inl ⟨a, vs, rfl, g, fun p hp => fresh_out I3 hp (.lst upd_same ?_) k'⟩
    rw [← cutG_map]
    exact q.cut o1 o2
  · rename_i ds ed
    obtain ⟨c, rfl⟩ := ifs h4
    rw [ed] at q3
    obtain ⟨a, vs, rfl, g, q⟩ := q3.tup I3
    exact .inr ⟨a, vs, rfl, SqT.of g, by rw [q.length]; exact c, fun p hp => tup_out I3 hp (q.cut o1 o2) k'⟩
  · cases h4
/-- xs[::-1] -/
def fRev : D → Option R
  | .lst ds => some (.ow (.lst ds.reverse))
  | _ => none
theorem se_revs {k : Nat} {p1 p2 p3 : Pos} (ha : SE X ct x a) : SE X ct (.Subscript x (.Slice none none (some (.UnaryOp .USub (.Constant (.int 1) k p1) p2)) p3) pos) (e1 fRev a) := by
  refine ⟨pe_mono (pe_revL ha.pe) fun σ H Q h => ?_⟩
  refine tE_e1 (rr := fun x H1 Q => ∃ a xs, x = .ref a ∧ SqL X.K H1 a xs ∧ ∀ p, H1 p = none → Q (.ref p) (upd H1 p (.lst xs.reverse))) ?_ h
  intro F W L env st σ H x d r Q I h e k
  unfold fRev at e
  split at e <;> cases e
  obtain ⟨a, vs, rfl, g, q⟩ := h.list I
  exact ⟨a, vs, rfl, SqL.of g, fun p hp => fresh_out I hp (.lst upd_same q.reverse) k⟩

/-! argument lists, displays -/
def aNil : SemA := fun _ st => some ([], st)
def aCons (e : Sem) (as : SemA) : SemA := fun env st => (e env st).bind fun p => (as env p.2).map fun q => (p.1.pin :: q.1, q.2)
theorem sa_nil : SA X ct [] aNil := ⟨pa_mono pa_nil fun σ H Q ⟨F, W, L, env, st, r, st', I, e, k⟩ => by cases e; exact k [] H W L (.refl W) I .nil⟩
theorem sa_cons {es : List Expr} {as : SemA} (ha : SE X ct x a) (hr : SA X ct es as) (hs : starEach (x :: es) X.env = (false, eval x X.env) :: starEach es X.env := by rfl) : SA X ct (x :: es) (aCons a as) := by
  refine ⟨pa_mono (pa_cons ha.pe hr.pa hs) fun σ H Q ⟨F, W, L, env, st, r, st', I, e, k⟩ => ?_⟩
  obtain ⟨⟨r1, st1⟩, h1, e⟩ := bind2 e
  obtain ⟨⟨rs, st2⟩, h2, e⟩ := map2 e
  cases e
  refine ⟨F, W, L, env, st, r1, st1, I, h1, fun v H1 W1 L1 l1 I1 p1 => ?_⟩
  obtain ⟨W1', m1, J1, q1⟩ := I1.pin p1
  refine ⟨F, W1', L1, env, st1, rs, st2, J1, h2, fun vs H2 W2 L2 l2 I2 qs => ?_⟩
  exact k _ H2 W2 L2 (l1.trans (m1.trans l2)) I2 (.cons (q1.mono l2) qs)
/-- all shared -/
def valsR : List R → Option (List D)
  | [] => some []
  | .sh d :: rs => (valsR rs).map fun ds => d :: ds
  | _ :: _ => none
theorem RdRs.vals {K : PySem.W.Frag} {W : Wd} {env : List Slot} {σ : St} : ∀ {vs : List V} {rs : List R} {ds : List D}, RdRs K ct W env σ vs rs → valsR rs = some ds → RepL K ct W vs ds
  | _, _, _, .nil, e => by cases e; exact .nil
  | _, _, _, .cons (r := .sh d) h q, e => by
    obtain ⟨ds', e1, rfl⟩ := map2 e
    exact .cons h (q.vals e1)
  | _, _, _, .cons (r := .ow d) h q, e => by cases e
  | _, _, _, .cons (r := .bw i d) h q, e => by cases e
def eTup (as : SemA) : Sem := fun env st => (as env st).bind fun p => (valsR p.1).bind fun ds => if ds.length ≤ sizeLine then some (.sh (.tup ds), p.2) else none
def eLst (as : SemA) : Sem := fun env st => (as env st).bind fun p => (valsR p.1).bind fun ds => if ds.length ≤ sizeLine then some (.ow (.lst ds), p.2) else none
variable {es : List Expr} {as : SemA}
theorem se_tup {x1} (ha : SA X ct es as) : SE X ct (.Tuple es x1 pos) (eTup as) := by
  refine ⟨pe_mono (pe_tup ha.pa) fun σ H Q ⟨F, W, L, env, st, r, st', I, e, k⟩ => ?_⟩
  obtain ⟨⟨rs, st1⟩, h1, e⟩ := bind2 e
  obtain ⟨ds, h2, e⟩ := bind2 e
  obtain ⟨c, e⟩ := ifs e
  cases e
  refine ⟨F, W, L, env, st, rs, st1, I, h1, fun vs H1 W1 L1 l1 I1 qs => ?_⟩
  have q := qs.vals h2
  exact ⟨by rw [q.length]; exact c, fun p hp => tup_out I1 hp q fun v H' W' L' l' => k v H' W' L' (l1.trans l')⟩
theorem se_lst (ha : SA X ct es as) : SE X ct (.List es pos) (eLst as) := by
  refine ⟨pe_mono (pe_lst ha.pa) fun σ H Q ⟨F, W, L, env, st, r, st', I, e, k⟩ => ?_⟩
  obtain ⟨⟨rs, st1⟩, h1, e⟩ := bind2 e
  obtain ⟨ds, h2, e⟩ := bind2 e
  obtain ⟨c, e⟩ := ifs e
  cases e
  refine ⟨F, W, L, env, st, rs, st1, I, h1, fun vs H1 W1 L1 l1 I1 qs => ?_⟩
  have q := qs.vals h2
  exact ⟨by rw [q.length]; exact c, fun p hp => fresh_out I1 hp (.lst upd_same q) fun v H' W' L' l' => k v H' W' L' (l1.trans l')⟩

/-! calls of built-ins -/
theorem se_b1 {id : String} {n : Str} {rr : List V → Hp → VK → Prop} {f : D → Option R} {p : Pos} (hc : CallR X (.builtin id) rr) (os : UnS X.K ct (fun x H Q => rr [x] H Q) f) (hg : Gl X n) (hm : X.mg n = none) (hv : bootBuiltins n = some (.builtin id)) (ha : SE X ct x a)
    (hn : n ≠ "__name__" := by decide) (hdb : (n == ("__debug__" : Str)) = false := by decide) (he : starEach [x] X.env = (false, eval x X.env) :: starEach [] X.env := by rfl) (hpl : (backTo pos (starEach [] X.env)).any (·.1) = false := by rfl) : SE X ct (.Call (.Name n p) [x] [] pos) (e1 f a) :=
  ⟨pe_mono (pe_callB hc hg hm hv (pa_cons ha.pe pa_nil he) hn hdb he hpl) fun _ _ _ h => tE_e1 os h⟩
theorem se_b2 {id : String} {n : Str} {rr : List V → Hp → VK → Prop} {f : D → D → Option R} {p : Pos} (hc : CallR X (.builtin id) rr) (os : OpS X.K ct (fun x y H Q => rr [x, y] H Q) f) (hg : Gl X n) (hm : X.mg n = none) (hv : bootBuiltins n = some (.builtin id)) (ha : SE X ct x a) (hb : SE X ct y b)
    (hn : n ≠ "__name__" := by decide) (hdb : (n == ("__debug__" : Str)) = false := by decide) (he : starEach [x, y] X.env = (false, eval x X.env) :: starEach [y] X.env := by rfl) (he2 : starEach [y] X.env = (false, eval y X.env) :: starEach [] X.env := by rfl) (hpl : (backTo pos (starEach [y] X.env)).any (·.1) = false := by rfl) : SE X ct (.Call (.Name n p) [x, y] [] pos) (e2 f a b) :=
  ⟨pe_mono (pe_callB hc hg hm hv (pa_cons ha.pe (pa_cons hb.pe pa_nil he2) he) hn hdb he hpl) fun _ _ _ h => tE_e2 os h⟩
theorem se_t1 {T : String} {n : Str} {rr : List V → Hp → VK → Prop} {f : D → Option R} {p : Pos} (hc : CallR X (.type T) rr) (os : UnS X.K ct (fun x H Q => rr [x] H Q) f) (hg : Gl X n) (hm : X.mg n = none) (hv : bootBuiltins n = some (.type T)) (ha : SE X ct x a)
    (hn : n ≠ "__name__" := by decide) (hdb : (n == ("__debug__" : Str)) = false := by decide) (he : starEach [x] X.env = (false, eval x X.env) :: starEach [] X.env := by rfl) (hpl : (backTo pos (starEach [] X.env)).any (·.1) = false := by rfl) : SE X ct (.Call (.Name n p) [x] [] pos) (e1 f a) :=
  ⟨pe_mono (pe_callTy hc hg hm hv (pa_cons ha.pe pa_nil he) hn hdb he hpl) fun _ _ _ h => tE_e1 os h⟩
variable {p : Pos}
def fLen : D → Option R
  | .lst ds => some (.sh (.int ds.length))
  | .scr ns => some (.sh (.int ns.length))
  | .tup ds => some (.sh (.int ds.length))
  | .dic kds => some (.sh (.int kds.length))
  | .str z => if z.length ≤ sizeLine then some (.sh (.int z.length)) else none
  | _ => none
theorem us_len : UnS X.K ct (fun x H Q => (∃ p ys, [x] = [V.ref p] ∧ (SqL X.K H p ys ∨ SqT X.K H p ys) ∧ Q (.int ys.length) H) ∨ (∃ d kvs, [x] = [V.ref d] ∧ H d = some (.dK kvs) ∧ Q (.int kvs.length) H) ∨ ∃ z, [x] = [V.str z] ∧ z.length ≤ sizeLine ∧ Q (.int z.length) H) fLen := by
  intro F W L env st σ H x d r Q I h e k
  have go : ∀ n : Nat, r = .sh (.int n) → Q (.int n) H := fun n e => k _ H W L (.refl W) I (by rw [e]; exact .int _)
  unfold fLen at e
  split at e
  · cases e
    obtain ⟨a, vs, rfl, g, q⟩ := h.list I
    exact .inl ⟨a, vs, rfl, .inl (SqL.of g), by rw [q.length]; exact go _ rfl⟩
  · rename_i ns
    cases e
    obtain ⟨a, vs, rfl, g, q⟩ := h.seqL (ds := ns.map D.int) rfl I
    exact .inl ⟨a, vs, rfl, .inl g, by rw [q.length, List.length_map]; exact go _ rfl⟩
  · cases e
    obtain ⟨a, vs, rfl, g, q⟩ := h.tup I
    exact .inl ⟨a, vs, rfl, .inr (SqT.of g), by rw [q.length]; exact go _ rfl⟩
  · cases e
    obtain ⟨a, kvs, rfl, g, n, q⟩ := h.dic I
    refine .inr (.inl ⟨a, kvs, rfl, g, ?_⟩)
    have := congrArg List.length n
    rw [List.length_map, List.length_map] at this
    rw [this]; exact go _ rfl
  · obtain ⟨c, rfl⟩ := ifs e
    exact .inr (.inr ⟨_, by rw [h.str], c, go _ rfl⟩)
  · cases e
theorem se_len (hg : Gl X "len") (hm : X.mg "len" = none) (ha : SE X ct x a) (he : starEach [x] X.env = (false, eval x X.env) :: starEach [] X.env := by rfl) (hpl : (backTo pos (starEach [] X.env)).any (·.1) = false := by rfl) :
    SE X ct (.Call (.Name "len" p) [x] [] pos) (e1 fLen a) := se_b1 (CallR.or call_len_seq (CallR.or call_lenD call_len_str)) us_len hg hm PySem.boot_len ha (by decide) (by decide) he hpl
def fLofs : D → Option R
  | .lst ds => some (.ow (.lst ds))
  | .scr ns => some (.ow (.lst (ns.map .int)))
  | .tup ds => some (.ow (.lst ds))
  | _ => none
theorem se_list (hg : Gl X "list") (hm : X.mg "list" = none) (ha : SE X ct x a) (he : starEach [x] X.env = (false, eval x X.env) :: starEach [] X.env := by rfl) (hpl : (backTo pos (starEach [] X.env)).any (·.1) = false := by rfl) :
    SE X ct (.Call (.Name "list" p) [x] [] pos) (e1 fLofs a) := by
  refine se_t1 call_list_of ?_ hg hm PyProof.Rows.boot_list ha (by decide) (by decide) he hpl
  intro F W L env st σ H x d r Q I h e k
  unfold fLofs at e
  split at e
  · cases e
    obtain ⟨a, vs, rfl, g, q⟩ := h.list I
    exact ⟨a, vs, rfl, .inl (SqL.of g), fun p hp => fresh_out I hp (.lst upd_same q) k⟩
  · rename_i ns
    cases e
    obtain ⟨a, vs, rfl, g, q⟩ := h.seqL (ds := ns.map D.int) rfl I
    exact ⟨a, vs, rfl, .inl g, fun p hp => fresh_out I hp (.lst upd_same q) k⟩
  · cases e
    obtain ⟨a, vs, rfl, g, q⟩ := h.tup I
    exact ⟨a, vs, rfl, .inr (SqT.of g), fun p hp => fresh_out I hp (.lst upd_same q) k⟩
  · cases e
def fTofs : D → Option R
  | .lst ds => some (.sh (.tup ds))
  | .tup ds => some (.sh (.tup ds))
  | _ => none
theorem se_tuple (hg : Gl X "tuple") (hm : X.mg "tuple" = none) (ha : SE X ct x a) (he : starEach [x] X.env = (false, eval x X.env) :: starEach [] X.env := by rfl) (hpl : (backTo pos (starEach [] X.env)).any (·.1) = false := by rfl) :
    SE X ct (.Call (.Name "tuple" p) [x] [] pos) (e1 fTofs a) := by
  refine se_t1 call_tuple_of ?_ hg hm PyProof.Rows.boot_tuple ha (by decide) (by decide) he hpl
  intro F W L env st σ H x d r Q I h e k
  unfold fTofs at e
  split at e
  · cases e
    obtain ⟨a, vs, rfl, g, q⟩ := h.list I
    exact ⟨a, vs, rfl, .inl ⟨SqL.of g, fun p hp => tup_out I hp q k⟩⟩
  · cases e
    have h0 := h
    obtain ⟨a, vs, rfl, g, q⟩ := h.tup I
    refine ⟨a, vs, rfl, .inr ⟨SqT.of g, k _ H W L (.refl W) I ?_⟩⟩
    rcases h0 with h | ⟨a', e', c⟩
    · exact h
    · cases c
  · cases e
/-- two ints -/
theorem os_ii {K : PySem.W.Frag} {g : Int → Int → Int} : OpS K ct (fun x y H Q => ∃ i j, [x, y] = [V.int i, V.int j] ∧ Q (.int (g i j)) H) (fI fun i j => some (g i j)) := by
  intro F W L env st σ H x y d1 d2 r Q I h1 h2 e k
  unfold fI at e
  split at e
  · cases e
    exact ⟨_, _, by rw [h1.int, h2.int], k _ H W L (.refl W) I (.int _)⟩
  · cases e
theorem se_max2 (hc : X.calm = true) (hg : Gl X "max") (hm : X.mg "max" = none) (ha : SE X ct x a) (hb : SE X ct y b) (he : starEach [x, y] X.env = (false, eval x X.env) :: starEach [y] X.env := by rfl) (he2 : starEach [y] X.env = (false, eval y X.env) :: starEach [] X.env := by rfl) (hpl : (backTo pos (starEach [y] X.env)).any (·.1) = false := by rfl) :
    SE X ct (.Call (.Name "max" p) [x, y] [] pos) (e2 (fI fun i j => some (if j > i then j else i)) a b) := se_b2 (call_max2 hc) (os_ii (g := fun i j => if j > i then j else i)) hg hm (by decide +kernel) ha hb (by decide) (by decide) he he2 hpl
theorem se_min2 (hc : X.calm = true) (hg : Gl X "min") (hm : X.mg "min" = none) (ha : SE X ct x a) (hb : SE X ct y b) (he : starEach [x, y] X.env = (false, eval x X.env) :: starEach [y] X.env := by rfl) (he2 : starEach [y] X.env = (false, eval y X.env) :: starEach [] X.env := by rfl) (hpl : (backTo pos (starEach [y] X.env)).any (·.1) = false := by rfl) :
    SE X ct (.Call (.Name "min" p) [x, y] [] pos) (e2 (fI fun i j => some (if j < i then j else i)) a b) := se_b2 (call_min2 hc) (os_ii (g := fun i j => if j < i then j else i)) hg hm (by decide +kernel) ha hb (by decide) (by decide) he he2 hpl
def fInt : D → Option R
  | .int i => some (.sh (.int i))
  | .bl k => some (.sh (.int (if k then 1 else 0)))
  | _ => none
theorem se_toint (hg : Gl X "int") (hm : X.mg "int" = none) (ha : SE X ct x a) (he : starEach [x] X.env = (false, eval x X.env) :: starEach [] X.env := by rfl) (hpl : (backTo pos (starEach [] X.env)).any (·.1) = false := by rfl) :
    SE X ct (.Call (.Name "int" p) [x] [] pos) (e1 fInt a) := by
  refine se_t1 call_int1 ?_ hg hm PyProof.Rows.boot_int ha (by decide) (by decide) he hpl
  intro F W L env st σ H x d r Q I h e k
  unfold fInt at e
  split at e <;> cases e
  · exact .inl ⟨_, by rw [h.int], k _ H W L (.refl W) I (.int _)⟩
  · exact .inr ⟨_, by rw [h.bl], k _ H W L (.refl W) I (.int _)⟩
/-- a list of ints, of bools -/
def D.ints : D → Option (List Int)
  | .int i => some [i]
  | _ => none
def intsL : List D → Option (List Int)
  | [] => some []
  | .int i :: ds => (intsL ds).map fun ns => i :: ns
  | _ :: _ => none
theorem intsL_eq : ∀ {ds : List D} {ns : List Int}, intsL ds = some ns → ds = ns.map .int
  | [], _, e => by cases e; rfl
  | .int i :: ds, _, e => by
    obtain ⟨m, e1, rfl⟩ := map2 e
    rw [intsL_eq e1]; rfl
theorem intsL_map : ∀ ns : List Int, intsL (ns.map D.int) = some ns
  | [] => rfl
  | n :: ns => by rw [List.map_cons, intsL, intsL_map ns]; rfl
def blsL : List D → Option (List Bool)
  | [] => some []
  | .bl i :: ds => (blsL ds).map fun ns => i :: ns
  | _ :: _ => none
theorem blsL_eq : ∀ {ds : List D} {ns : List Bool}, blsL ds = some ns → ds = ns.map .bl
  | [], _, e => by cases e; rfl
  | .bl i :: ds, _, e => by
    obtain ⟨m, e1, rfl⟩ := map2 e
    rw [blsL_eq e1]; rfl
theorem blsL_map : ∀ ns : List Bool, blsL (ns.map D.bl) = some ns
  | [] => rfl
  | n :: ns => by rw [List.map_cons, blsL, blsL_map ns]; rfl
def fInts (g : List Int → Option R) (d : D) : Option R := match d with
  | .lst ds => (intsL ds).bind g
  | _ => none
def fBls (g : List Bool → Option R) (d : D) : Option R := match d with
  | .lst ds => (blsL ds).bind g
  | _ => none
theorem fInts_out {K : PySem.W.Frag} {F H : Hp} {W : Wd} {L : Addr → Option Lab} {env : List Slot} {st : Sto} {σ : St} {v : V} {d : D} {r : R} {g : List Int → Option R} (I : Rel K ct F W L env st σ H) (h : RdH K ct W H v d) (e : fInts g d = some r) :
    ∃ a ns, v = .ref a ∧ H a = some (.lst (ns.map V.int)) ∧ g ns = some r := by
  unfold fInts at e
  split at e
  · obtain ⟨ns, e1, e2⟩ := bind2 e
    obtain ⟨a, vs, rfl, h1, q⟩ := h.list I
    rw [intsL_eq e1] at q
    rw [q.ints] at h1
    exact ⟨a, ns, rfl, h1, e2⟩
  · cases e
theorem fBls_out {K : PySem.W.Frag} {F H : Hp} {W : Wd} {L : Addr → Option Lab} {env : List Slot} {st : Sto} {σ : St} {v : V} {d : D} {r : R} {g : List Bool → Option R} (I : Rel K ct F W L env st σ H) (h : RdH K ct W H v d) (e : fBls g d = some r) :
    ∃ a ns, v = .ref a ∧ H a = some (.lst (ns.map V.bl)) ∧ g ns = some r := by
  unfold fBls at e
  split at e
  · obtain ⟨ns, e1, e2⟩ := bind2 e
    obtain ⟨a, vs, rfl, h1, q⟩ := h.list I
    rw [blsL_eq e1] at q
    rw [q.bls] at h1
    exact ⟨a, ns, rfl, h1, e2⟩
  · cases e
theorem se_sum (hc : X.calm = true) (hg : Gl X "sum") (hm : X.mg "sum" = none) (ha : SE X ct x a) (he : starEach [x] X.env = (false, eval x X.env) :: starEach [] X.env := by rfl) (hpl : (backTo pos (starEach [] X.env)).any (·.1) = false := by rfl) :
    SE X ct (.Call (.Name "sum" p) [x] [] pos) (e1 (fInts fun ns => some (.sh (.int ns.sum))) a) := by
  refine se_b1 (cr_sum hc) ?_ hg hm (by decide +kernel) ha (by decide) (by decide) he hpl
  intro F W L env st σ H x d r Q I h e k
  obtain ⟨a, ns, rfl, h1, e⟩ := fInts_out I h e
  cases e
  exact ⟨a, ns, rfl, SqL.of h1, k _ H W L (.refl W) I (.int _)⟩
theorem se_all (hc : X.calm = true) (hg : Gl X "all") (hm : X.mg "all" = none) (ha : SE X ct x a) (he : starEach [x] X.env = (false, eval x X.env) :: starEach [] X.env := by rfl) (hpl : (backTo pos (starEach [] X.env)).any (·.1) = false := by rfl) :
    SE X ct (.Call (.Name "all" p) [x] [] pos) (e1 (fBls fun ns => some (.sh (.bl (ns.all id)))) a) := by
  refine se_b1 (cr_all hc) ?_ hg hm (by decide +kernel) ha (by decide) (by decide) he hpl
  intro F W L env st σ H x d r Q I h e k
  obtain ⟨a, ns, rfl, h1, e⟩ := fBls_out I h e
  cases e
  exact ⟨a, ns, rfl, SqL.of h1, k _ H W L (.refl W) I (.bl _)⟩
theorem se_any (hc : X.calm = true) (hg : Gl X "any") (hm : X.mg "any" = none) (ha : SE X ct x a) (he : starEach [x] X.env = (false, eval x X.env) :: starEach [] X.env := by rfl) (hpl : (backTo pos (starEach [] X.env)).any (·.1) = false := by rfl) :
    SE X ct (.Call (.Name "any" p) [x] [] pos) (e1 (fBls fun ns => some (.sh (.bl (ns.any id)))) a) := by
  refine se_b1 (cr_any hc) ?_ hg hm (by decide +kernel) ha (by decide) (by decide) he hpl
  intro F W L env st σ H x d r Q I h e k
  obtain ⟨a, ns, rfl, h1, e⟩ := fBls_out I h e
  cases e
  exact ⟨a, ns, rfl, SqL.of h1, k _ H W L (.refl W) I (.bl _)⟩
/-- the greatest, the least of a list of ints -/
def maxI : Int → List Int → Int
  | m, [] => m
  | m, n :: ns => maxI (if n > m then n else m) ns
def minI : Int → List Int → Int
  | m, [] => m
  | m, n :: ns => minI (if n < m then n else m) ns
theorem maxI_spec : ∀ (ns : List Int) (m : Int), (maxI m ns = m ∨ maxI m ns ∈ ns) ∧ m ≤ maxI m ns ∧ ∀ n ∈ ns, n ≤ maxI m ns
  | [], m => ⟨.inl rfl, Int.le_refl _, fun n h => by cases h⟩
  | n :: ns, m => by
    obtain ⟨h1, h2, h3⟩ := maxI_spec ns (if n > m then n else m)
    unfold maxI
    refine ⟨?_, ?_, fun k hk => ?_⟩
    · rcases h1 with h1 | h1
      · rw [h1]; split
        · exact .inr List.mem_cons_self
        · exact .inl rfl
      · exact .inr (List.mem_cons_of_mem _ h1)
    · refine Int.le_trans ?_ h2; split <;> omega
    · rcases List.mem_cons.mp hk with rfl | hk
      · refine Int.le_trans ?_ h2; split <;> omega
      · exact h3 k hk
theorem minI_spec : ∀ (ns : List Int) (m : Int), (minI m ns = m ∨ minI m ns ∈ ns) ∧ minI m ns ≤ m ∧ ∀ n ∈ ns, minI m ns ≤ n
  | [], m => ⟨.inl rfl, Int.le_refl _, fun n h => by cases h⟩
  | n :: ns, m => by
    obtain ⟨h1, h2, h3⟩ := minI_spec ns (if n < m then n else m)
    unfold minI
    refine ⟨?_, ?_, fun k hk => ?_⟩
    · rcases h1 with h1 | h1
      · rw [h1]; split
        · exact .inr List.mem_cons_self
        · exact .inl rfl
      · exact .inr (List.mem_cons_of_mem _ h1)
    · refine Int.le_trans h2 ?_; split <;> omega
    · rcases List.mem_cons.mp hk with rfl | hk
      · refine Int.le_trans h2 ?_; split <;> omega
      · exact h3 k hk
def fMaxL : D → Option R := fInts fun ns => match ns with
  | [] => none
  | n :: ns => some (.sh (.int (maxI n ns)))
def fMinL : D → Option R := fInts fun ns => match ns with
  | [] => none
  | n :: ns => some (.sh (.int (minI n ns)))
theorem se_maxL (hc : X.calm = true) (hg : Gl X "max") (hm : X.mg "max" = none) (ha : SE X ct x a) (he : starEach [x] X.env = (false, eval x X.env) :: starEach [] X.env := by rfl) (hpl : (backTo pos (starEach [] X.env)).any (·.1) = false := by rfl) :
    SE X ct (.Call (.Name "max" p) [x] [] pos) (e1 fMaxL a) := by
  refine se_b1 (cr_max hc) ?_ hg hm (by decide +kernel) ha (by decide) (by decide) he hpl
  intro F W L env st σ H x d r Q I h e k
  obtain ⟨a, ns, rfl, h1, e⟩ := fInts_out I h e
  split at e
  · cases e
  · rename_i n ns
    cases e
    refine ⟨a, _, rfl, SqL.of h1, Nat.succ_pos _, fun m hm hle => ?_⟩
    obtain ⟨s1, s2, s3⟩ := maxI_spec ns n
    have e1 : m = maxI n ns := by
      have g1 : m ≤ maxI n ns := by
        rcases List.mem_cons.mp hm with rfl | hm
        · exact s2
        · exact s3 m hm
      have g2 : maxI n ns ≤ m := by
        refine hle _ ?_
        rcases s1 with s1 | s1
        · rw [s1]; exact List.mem_cons_self
        · exact List.mem_cons_of_mem _ s1
      omega
    rw [e1]
    exact k _ H W L (.refl W) I (.int _)
theorem se_minL (hc : X.calm = true) (hg : Gl X "min") (hm : X.mg "min" = none) (ha : SE X ct x a) (he : starEach [x] X.env = (false, eval x X.env) :: starEach [] X.env := by rfl) (hpl : (backTo pos (starEach [] X.env)).any (·.1) = false := by rfl) :
    SE X ct (.Call (.Name "min" p) [x] [] pos) (e1 fMinL a) := by
  refine se_b1 (cr_min hc) ?_ hg hm (by decide +kernel) ha (by decide) (by decide) he hpl
  intro F W L env st σ H x d r Q I h e k
  obtain ⟨a, ns, rfl, h1, e⟩ := fInts_out I h e
  split at e
  · cases e
  · rename_i n ns
    cases e
    refine ⟨a, _, rfl, SqL.of h1, Nat.succ_pos _, fun m hm hle => ?_⟩
    obtain ⟨s1, s2, s3⟩ := minI_spec ns n
    have e1 : m = minI n ns := by
      have g1 : minI n ns ≤ m := by
        rcases List.mem_cons.mp hm with rfl | hm
        · exact s2
        · exact s3 m hm
      have g2 : m ≤ minI n ns := by
        refine hle _ ?_
        rcases s1 with s1 | s1
        · rw [s1]; exact List.mem_cons_self
        · exact List.mem_cons_of_mem _ s1
      omega
    rw [e1]
    exact k _ H W L (.refl W) I (.int _)
/-- isinstance(x, T), T a built-in class -/
def D.ty : D → Option String
  | .non => some "NoneType"
  | .bl _ => some "bool"
  | .int _ => some "int"
  | .str _ => some "str"
  | .lst _ => some "list"
  | .tup _ => some "tuple"
  | .dic _ => some "dict"
  | _ => none
def fIsi (T : String) (d : D) : Option R := d.ty.bind fun t => (kitB t T).map fun b => .sh (.bl b)
theorem us_isi {K : PySem.W.Frag} {T : String} : UnS K ct (fun x H Q => rIsi K [x, .ty T] H Q) (fIsi T) := by
  intro F W L env st σ H x d r Q I h e k
  obtain ⟨t, e1, e⟩ := bind2 e
  obtain ⟨b, e2, rfl⟩ := map2 e
  refine ⟨x, _, .type t, .type T, b, rfl, .ty T, ?_, kit_ty e2, k _ H W L (.refl W) I (.bl _)⟩
  unfold D.ty at e1
  split at e1 <;> cases e1
  · rw [h.non]; exact .base .non
  · rw [h.bl]; exact .base (.bl _)
  · rw [h.int]; exact .base (.int _)
  · rw [h.str]; exact .base (.str _)
  · obtain ⟨a, vs, rfl, g, q⟩ := h.list I; exact .base (.lst g)
  · obtain ⟨a, vs, rfl, g, q⟩ := h.tup I; exact .base (.tup g)
  · obtain ⟨a, vs, rfl, g, n, q⟩ := h.dic I; exact .base (.dK g)
theorem se_isi {T : String} {n : Str} {p2 : Pos} (hg : Gl X "isinstance") (hm : X.mg "isinstance" = none) (hg2 : Gl X n) (hm2 : X.mg n = none) (hv : bootBuiltins n = some (.type T)) (ha : SE X ct x a) (hn : n ≠ "__name__" := by decide) (hdb : (n == ("__debug__" : Str)) = false := by decide)
    (he : starEach [x, .Name n p2] X.env = (false, eval x X.env) :: starEach [.Name n p2] X.env := by rfl) (he2 : starEach [Expr.Name n p2] X.env = (false, eval (.Name n p2) X.env) :: starEach [] X.env := by rfl) (hpl : (backTo pos (starEach [Expr.Name n p2] X.env)).any (·.1) = false := by rfl) :
    SE X ct (.Call (.Name "isinstance" p) [x, .Name n p2] [] pos) (e1 (fIsi T) a) :=
  ⟨pe_mono (pe_callB call_isi hg hm PyProof.Rows.boot_isinstance (pa_cons ha.pe (pa_cons (pe_bltn (v := .ty T) hg2 hm2 hv rfl hn hdb) pa_nil he2) he) (by decide) (by decide) he hpl) fun _ _ _ h => tE_e1 us_isi h⟩
end
end Kn
namespace Kn
open PySem L2

inductive Out where
  | nx | rt (r : R) | bk | ct
abbrev SemS := List Slot → Sto → Option (Out × List Slot × Sto)
abbrev SemG := D → List Slot → Option (List Slot)
abbrev SemI := List Slot → Sto → Option (List D × Sto)
section
variable (K : PySem.W.Frag) (ct : CT)
def OutOk (F : Hp) (W : Wd) (env' : List Slot) (st' : Sto) (D : Ends) : Out → Prop
  | .nx => ∀ σ' H' W' L', W.le W' → Rel K ct F W' L' env' st' σ' H' → D.nx σ' H'
  | .bk => ∀ σ' H' W' L', W.le W' → Rel K ct F W' L' env' st' σ' H' → D.bk σ' H'
  | .ct => ∀ σ' H' W' L', W.le W' → Rel K ct F W' L' env' st' σ' H' → D.ct σ' H'
  | .rt r => ∀ v σ' H' W' L', W.le W' → Rel K ct F W' L' env' st' σ' H' → RepR K ct F W' L' H' env' σ' v r → D.rt v H'
def tSm (s : SemS) : TS := fun D σ H => ∃ F W L env st o env' st', Rel K ct F W L env st σ H ∧ s env st = some (o, env', st') ∧ OutOk K ct F W env' st' D o
/-- only the slots ts differ -/
def OffTs (ts : List Nat) (σ σ' : St) : Prop := σ'.length = σ.length ∧ ∀ j : Nat, j ∉ ts → σ'[j]? = σ[j]?
def OffTe (ts : List Nat) (e e' : List Slot) : Prop := e'.length = e.length ∧ ∀ j : Nat, j ∉ ts → e'[j]? = e[j]?
def tG (ts : List Nat) (g : SemG) : TG := fun v σ H Q => ∃ F W L env st d env', Rel K ct F W L env st σ H ∧ Rep K ct W v d ∧ g d env = some env' ∧
  ∀ σ', OffTs ts σ σ' → OffTe ts env env' → Rel K ct F W L env' st σ' H → Q σ' H
def tGs (ts : List Nat) (g : List D → List Slot → Option (List Slot)) : TGs := fun vs σ H Q => ∃ F W L env st ds env', Rel K ct F W L env st σ H ∧ RepL K ct W vs ds ∧ g ds env = some env' ∧
  ∀ σ', OffTs ts σ σ' → OffTe ts env env' → Rel K ct F W L env' st σ' H → Q σ' H
/-- J walks ds -/
def Wk (J : It) (W0 : Wd) (ds : List D) : Prop := ∀ F W L env st σ H (i : Nat), W0.le W → Rel K ct F W L env st σ H →
  (∀ d, ds[i]? = some d → J.go i H ∧ ∀ x H', J.yld i H x H' → ∃ W' L', W.le W' ∧ Rel K ct F W' L' env st σ H' ∧ Rep K ct W' x d) ∧ (ds.length ≤ i → J.stop i H)
def tI (e : SemI) : TI := fun σ H R => ∃ F W L env st ds st', Rel K ct F W L env st σ H ∧ e env st = some (ds, st') ∧
  ∀ J H' W' L', W.le W' → Rel K ct F W' L' env st' σ H' → Wk K ct J W' ds → R J H'
end
structure SS (X : Cx) (ct : CT) (x : Stmt) (s : SemS) : Prop where
  ps : PS X x (tSm X.K ct s)
structure SB (X : Cx) (ct : CT) (x : List Stmt) (s : SemS) : Prop where
  pss : PSs X x (tSm X.K ct s)
structure SG (X : Cx) (ct : CT) (x : Expr) (ts : List Nat) (g : SemG) : Prop where
  pg : PG X x (tG X.K ct ts g)
structure SGs (X : Cx) (ct : CT) (x : List Expr) (ts : List Nat) (g : List D → List Slot → Option (List Slot)) : Prop where
  pgs : PGs X x (tGs X.K ct ts g)
structure SI (X : Cx) (ct : CT) (tg x : Expr) (e : SemI) : Prop where
  pi : PI X tg x (tI X.K ct e)
theorem ps_mono {X : Cx} {x : Stmt} {t t' : TS} (h : PS X x t) (k : ∀ D σ H, t' D σ H → t D σ H) : PS X x t' := ⟨fun pins s σ H D I q => h.run pins s σ H D I (k D σ H q)⟩
theorem pss_mono {X : Cx} {x : List Stmt} {t t' : TS} (h : PSs X x t) (k : ∀ D σ H, t' D σ H → t D σ H) : PSs X x t' := ⟨fun pins s σ H D I q => h.run pins s σ H D I (k D σ H q)⟩
theorem pg_mono {X : Cx} {x : Expr} {t t' : TG} (h : PG X x t) (k : ∀ v σ H Q, t' v σ H Q → t v σ H Q) : PG X x t' := ⟨fun pins s σ H v u Q I r q => h.run pins s σ H v u Q I r (k v σ H Q q)⟩
theorem pgs_mono {X : Cx} {x : List Expr} {t t' : TGs} (h : PGs X x t) (k : ∀ v σ H Q, t' v σ H Q → t v σ H Q) : PGs X x t' := ⟨fun pins s σ H v u Q I r q => h.run pins s σ H v u Q I r (k v σ H Q q)⟩
theorem pi_mono {X : Cx} {tg x : Expr} {t t' : TI} (h : PI X tg x t) (k : ∀ σ H R, t' σ H R → t σ H R) : PI X tg x t' := ⟨fun pins s σ H R I q => h.run pins s σ H R I (k σ H R q)⟩
theorem ps_or {X : Cx} {x : Stmt} {t t' : TS} (h : PS X x t) (h' : PS X x t') : PS X x (fun D σ H => t D σ H ∨ t' D σ H) := ⟨fun pins s σ H D I q => q.elim (h.run pins s σ H D I) (h'.run pins s σ H D I)⟩
theorem pi_or {X : Cx} {tg x : Expr} {t t' : TI} (h : PI X tg x t) (h' : PI X tg x t') : PI X tg x (fun σ H R => t σ H R ∨ t' σ H R) := ⟨fun pins s σ H R I q => q.elim (h.run pins s σ H R I) (h'.run pins s σ H R I)⟩

section
variable {K : PySem.W.Frag} {ct : CT} {F H H' : Hp} {W W' : Wd} {L L' : Addr → Option Lab} {env env' : List Slot} {st st' : Sto} {σ : St} {v : V} {d : D} {r : R} {a p : Addr} {o : HO} {D : Ends} {u : Out}
theorem OutOk.mono (h : OutOk K ct F W env' st' D u) (l : W.le W') : OutOk K ct F W' env' st' D u := by
  cases u with
  | nx => exact fun σ' H' W2 L2 l2 => h σ' H' W2 L2 (l.trans l2)
  | bk => exact fun σ' H' W2 L2 l2 => h σ' H' W2 L2 (l.trans l2)
  | ct => exact fun σ' H' W2 L2 l2 => h σ' H' W2 L2 (l.trans l2)
  | rt r => exact fun v σ' H' W2 L2 l2 => h v σ' H' W2 L2 (l.trans l2)
theorem getset {α : Type} {l : List α} {i j : Nat} {x y : α} (h : (l.set i x)[j]? = some y) : (j = i ∧ y = x ∧ i < l.length) ∨ (j ≠ i ∧ l[j]? = some y) := by
  by_cases e : i = j
  · subst e
    by_cases hi : i < l.length
    · rw [List.getElem?_set_self hi] at h
      exact .inl ⟨rfl, (Option.some.inj h).symm, hi⟩
    · rw [List.getElem?_eq_none (by simpa using hi)] at h
      cases h
  · rw [List.getElem?_set_ne e] at h
    exact .inr ⟨fun z => e z.symm, h⟩
theorem SlotOk.at' {σ' : St} {i : Nat} {s : Slot} (h : SlotOk K ct W L H σ i s) (e : σ'[i]? = σ[i]?) : SlotOk K ct W L H σ' i s := by
  cases s with
  | no => trivial
  | sh d => obtain ⟨v, h1, h2⟩ := h; exact ⟨v, e.trans h1, h2⟩
  | ow d => obtain ⟨a, h1, h2⟩ := h; exact ⟨a, e.trans h1, h2⟩
  | o2 d => obtain ⟨a, ws, h1, h2⟩ := h; exact ⟨a, ws, e.trans h1, h2⟩
  | me a d => obtain ⟨h1, h2⟩ := h; exact ⟨e.trans h1, h2⟩
/-- a slot takes a shared value -/
theorem Rel.setSh (I : Rel K ct F W L env st σ H) (i : Nat) (h : Rep K ct W v d) : Rel K ct F W L (env.set i (.sh d)) st (σ.set i (some v)) H := by
  refine ⟨I.fr, I.hs, I.tp, I.ob, I.rh, by rw [List.length_set, List.length_set]; exact I.len, fun j s e => ?_⟩
  rcases getset e with ⟨rfl, rfl, hi⟩ | ⟨hj, e⟩
  · refine ⟨v, ?_, h⟩
    rw [List.getElem?_set_self (by rw [I.len]; exact hi)]
  · exact (I.sl j s e).at' (List.getElem?_set_ne (Ne.symm hj))
/-- a slot takes a thing just made for one's own -/
theorem Rel.setOw (I : Rel K ct F W L env st σ H) (i : Nat) (hl : L a = none) (hw : W.hs a = none) (hf : F a = none) (c : Cell K ct W H a d) :
    Rel K ct F W (fun b => if b = a then some (.slot i) else L b) (env.set i (.ow d)) st (σ.set i (some (.ref a))) H := by
  have lab : ∀ b, b ≠ a → (if b = a then some (Lab.slot i) else L b) = L b := fun b h => if_neg h
  refine ⟨fun b u e => ?_, fun b u e => ?_, I.tp, fun g κ x e => ?_, I.rh, by rw [List.length_set, List.length_set]; exact I.len, fun j s e => ?_⟩
  · have nb : b ≠ a := by rintro rfl; rw [hf] at e; cases e
    obtain ⟨h1, h2, h3⟩ := I.fr b u e
    exact ⟨h1, (lab b nb).trans h2, h3⟩
  · have nb : b ≠ a := by rintro rfl; rw [hw] at e; cases e
    obtain ⟨h1, h2⟩ := I.hs b u e
    exact ⟨h1, (lab b nb).trans h2⟩
  · obtain ⟨v, h1, h2⟩ := I.ob g κ x e
    refine ⟨v, h1, ?_⟩
    have q : (fun b => if (if b = a then some (Lab.slot i) else L b) = some (.ob g) then H b else none) = fun b => if L b = some (.ob g) then H b else none := by
      funext b
      by_cases hb : b = a
      · subst hb; simp [hl]
      · rw [lab b hb]
    rw [q]; exact h2
  · rcases getset e with ⟨rfl, rfl, hi⟩ | ⟨hj, e⟩
    · exact ⟨a, by rw [List.getElem?_set_self (by rw [I.len]; exact hi)], if_pos rfl, c⟩
    · refine SlotOk.at' (σ := σ) ?_ (List.getElem?_set_ne (Ne.symm hj))
      refine (I.sl j s e).mono (.refl W) fun b u hb hu => ⟨hu, ?_⟩
      have nb : b ≠ a := by rintro rfl; rw [hl] at hb; cases hb
      exact (lab b nb).trans hb
/-- a slot's own thing is changed -/
theorem Rel.updOw' (I : Rel K ct F W L env st σ H) {i : Nat} (hs : σ[i]? = some (some (.ref a))) (hl : L a = some (.slot i)) (hn : ∀ xs, H a ≠ some (.tup xs)) {d' : Kn.D} (c' : Cell K ct W (upd H a o) a d') :
    Rel K ct F W L (env.set i (.ow d')) st σ (upd H a o) := by
  have ne : ∀ b, L b ≠ some (.slot i) → (upd H a o) b = H b := fun b h => upd_ne (by rintro rfl; exact h hl)
  refine ⟨fun b u e => ?_, fun b u e => ?_, fun b vs e => ?_, fun g κ x e => ?_, I.rh, by rw [List.length_set]; exact I.len, fun j s e => ?_⟩
  · obtain ⟨h1, h2, h3⟩ := I.fr b u e
    exact ⟨by rw [ne b (by rw [h2]; exact fun z => nomatch z)]; exact h1, h2, h3⟩
  · obtain ⟨h1, h2⟩ := I.hs b u e
    exact ⟨by rw [ne b (by rw [h2]; exact fun z => nomatch z)]; exact h1, h2⟩
  · rw [upd_ne (by rintro rfl; exact hn _ (I.tp _ _ e))]
    exact I.tp b vs e
  · obtain ⟨v, h1, h2⟩ := I.ob g κ x e
    refine ⟨v, h1, ?_⟩
    have q : (fun b => if L b = some (.ob g) then (upd H a o) b else none) = fun b => if L b = some (.ob g) then H b else none := by
      funext b
      by_cases hb : L b = some (.ob g)
      · rw [if_pos hb, if_pos hb, ne b (by rw [hb]; exact fun z => nomatch z)]
      · rw [if_neg hb, if_neg hb]
    rw [q]; exact h2
  · rcases getset e with ⟨rfl, rfl, hi⟩ | ⟨hj, e⟩
    · exact ⟨a, hs, hl, c'⟩
    · refine (I.sl j s e).mono (.refl W) fun b u hb hu => ⟨?_, hb⟩
      rw [ne b (by rw [hb]; intro z; cases z; exact hj rfl)]; exact hu
/-- a label is taken away -/
theorem Rel.unlab (I : Rel K ct F W L env st σ H) {i : Nat} (hl : L a = some (.slot i)) : Rel K ct F W (fun b => if b = a then none else L b) (env.set i .no) st σ H := by
  have lab : ∀ b, b ≠ a → (if b = a then none else L b) = L b := fun b h => if_neg h
  refine ⟨fun b u e => ?_, fun b u e => ?_, I.tp, fun g κ x e => ?_, I.rh, by rw [List.length_set]; exact I.len, fun j s e => ?_⟩
  · obtain ⟨h1, h2, h3⟩ := I.fr b u e
    refine ⟨h1, ?_, h3⟩
    by_cases hb : b = a
    · exact if_pos hb
    · exact (lab b hb).trans h2
  · obtain ⟨h1, h2⟩ := I.hs b u e
    refine ⟨h1, ?_⟩
    by_cases hb : b = a
    · exact if_pos hb
    · exact (lab b hb).trans h2
  · obtain ⟨v, h1, h2⟩ := I.ob g κ x e
    refine ⟨v, h1, ?_⟩
    have q : (fun b => if (if b = a then none else L b) = some (.ob g) then H b else none) = fun b => if L b = some (.ob g) then H b else none := by
      funext b
      by_cases hb : b = a
      · subst hb; simp [hl]
      · rw [lab b hb]
    rw [q]; exact h2
  · rcases getset e with ⟨rfl, rfl, hi⟩ | ⟨hj, e⟩
    · trivial
    · refine (I.sl j s e).mono (.refl W) fun b u hb hu => ⟨hu, ?_⟩
      have nb : b ≠ a := by rintro rfl; rw [hl] at hb; cases hb; exact hj rfl
      exact (lab b nb).trans hb
/-- a slot's own thing is shared -/
theorem Rel.freeze (I : Rel K ct F W L env st σ H) {i : Nat} (he : env[i]? = some (.ow d)) : ∃ W' L', W.le W' ∧ Rel K ct F W' L' (env.set i (.sh d)) st σ H := by
  obtain ⟨a, h1, h2, c⟩ := I.sl i _ he
  have J := I.unlab h2
  have na : (fun b => if b = a then none else L b) a = none := if_pos rfl
  have hf : F a = none := by
    cases q : F a with
    | none => rfl
    | some u => have := (I.fr a u q).2.1; rw [h2] at this; cases this
  have hw : W.hs a = none := by
    cases q : W.hs a with
    | none => rfl
    | some u => have := (I.hs a u q).2; rw [h2] at this; cases this
  obtain ⟨W', le, J', q⟩ := J.pin (v := .ref a) (r := .ow d) ⟨a, rfl, na, hw, hf, c⟩
  refine ⟨W', (fun b => if b = a then none else L b), le, ?_⟩
  have s := J'.setSh (v := .ref a) (d := d) i q
  rw [List.set_set] at s
  have e : σ.set i (some (.ref a)) = σ := by
    refine List.ext_getElem? fun j => ?_
    by_cases hj : i = j
    · subst hj
      rw [List.getElem?_set_self (List.getElem?_eq_some_iff.mp h1).1, h1]
    · rw [List.getElem?_set_ne hj]
  rw [e] at s
  exact s
end

section
variable {X : Cx} {ct : CT} {pos : Pos} {x y : Expr} {a b c : Sem} {sx : Stmt} {sxs rest : List Stmt} {f g : SemS}
/-! blocks -/
def sNil : SemS := fun env st => some (.nx, env, st)
def sSeq (f g : SemS) : SemS := fun env st => (f env st).bind fun p => match p with
  | (.nx, env', st') => g env' st'
  | q => some q
theorem sb_nil : SB X ct [] sNil := ⟨pss_mono pss_nil fun D σ H ⟨F, W, L, env, st, o, env', st', I, e, k⟩ => by cases e; exact k σ H W L (.refl W) I⟩
theorem tSm_seq {K : PySem.W.Frag} {D : Ends} {σ : St} {H : Hp} (h : tSm K ct (sSeq f g) D σ H) : tSeq (tSm K ct f) (tSm K ct g) D σ H := by
  obtain ⟨F, W, L, env, st, o, env', st', I, e, k⟩ := h
  obtain ⟨⟨o1, env1, st1⟩, h1, e⟩ := bind2 e
  cases o1 with
  | nx => exact ⟨F, W, L, env, st, .nx, env1, st1, I, h1, fun σ' H' W' L' l I' => ⟨F, W', L', env1, st1, o, env', st', I', e, k.mono l⟩⟩
  | bk => cases e; exact ⟨F, W, L, env, st, .bk, _, _, I, h1, k⟩
  | ct => cases e; exact ⟨F, W, L, env, st, .ct, _, _, I, h1, k⟩
  | rt r => cases e; exact ⟨F, W, L, env, st, .rt r, _, _, I, h1, k⟩
theorem sb_cons (h : SS X ct sx f) (k : SB X ct rest g) : SB X ct (sx :: rest) (sSeq f g) := ⟨pss_mono (pss_cons h.ps k.pss) fun _ _ _ h => tSm_seq h⟩
theorem sb_one (h : SS X ct sx f) : SB X ct [sx] f := ⟨pss_one h.ps⟩
/-- own things shared ahead of a statement -/
def sFrz (i : Nat) (f : SemS) : SemS := fun env st => match env[i]? with
  | some (.ow d) => f (env.set i (.sh d)) st
  | _ => f env st
theorem ss_frz (i : Nat) (h : SS X ct sx f) : SS X ct sx (sFrz i f) := by
  refine ⟨ps_mono h.ps fun D σ H ⟨F, W, L, env, st, o, env', st', I, e, k⟩ => ?_⟩
  unfold sFrz at e
  split at e
  · rename_i d he
    obtain ⟨W', L', le, J⟩ := I.freeze he
    exact ⟨F, W', L', _, st, o, env', st', J, e, k.mono le⟩
  · exact ⟨F, W, L, env, st, o, env', st', I, e, k⟩

/-! targets -/
def gNm (i : Nat) : SemG := fun d env => some (env.set i (.sh d))
def gL : List SemG → List D → List Slot → Option (List Slot)
  | [], [], env => some env
  | g :: gs, d :: ds, env => (g d env).bind fun env' => gL gs ds env'
  | _, _, _ => none
def gTp (gs : List SemG) : SemG := fun d env => match d with
  | .tup ds => gL gs ds env
  | _ => none
theorem offSet {α : Type} (l : List α) (i : Nat) (x : α) : (l.set i x).length = l.length ∧ ∀ j : Nat, j ∉ [i] → (l.set i x)[j]? = l[j]? :=
  ⟨List.length_set, fun j hj => List.getElem?_set_ne (by rintro rfl; exact hj List.mem_cons_self)⟩
theorem sg_nm (i : Nat) {n : Str} (hN : X.N.Nodup) (hi : X.N[i]? = some n := by rfl) (hx : Loc X.env.scope n := by first | exact .inl rfl | exact .inr rfl) (hf : X.fn n = true ∨ X.env.scope.names.lookup n = some .local := by first | exact .inl rfl | exact .inr rfl) : SG X ct (.Name n pos) [i] (gNm i) := by
  refine ⟨pg_mono (pg_name hN hi hx hf) fun v σ H Q ⟨F, W, L, env, st, d, env', I, r, e, k⟩ => ?_⟩
  cases e
  exact k _ (offSet _ _ _) (offSet _ _ _) (I.setSh i r)
theorem sgs_nil : SGs X ct [] [] (gL []) := by
  refine ⟨pgs_mono pgs_nil fun v σ H Q ⟨F, W, L, env, st, ds, env', I, r, e, k⟩ => ?_⟩
  cases r with
  | nil => cases e; exact ⟨rfl, k σ ⟨rfl, fun _ _ => rfl⟩ ⟨rfl, fun _ _ => rfl⟩ I⟩
  | cons => cases e
theorem offTrans {α : Type} {ts us : List Nat} {l m n : List α} (h : m.length = l.length ∧ ∀ j : Nat, j ∉ ts → m[j]? = l[j]?) (k : n.length = m.length ∧ ∀ j : Nat, j ∉ us → n[j]? = m[j]?) : n.length = l.length ∧ ∀ j : Nat, j ∉ ts ++ us → n[j]? = l[j]? :=
  ⟨k.1.trans h.1, fun j hj => (k.2 j fun z => hj (List.mem_append_right _ z)).trans (h.2 j fun z => hj (List.mem_append_left _ z))⟩
theorem sgs_cons {xs : List Expr} {ts us : List Nat} {g : SemG} {gs : List SemG} (h : SG X ct x ts g) (k : SGs X ct xs us (gL gs)) (hs : (assignEach (x :: xs) X.env).map (·.2) = assign x X.env :: (assignEach xs X.env).map (·.2) := by rfl) : SGs X ct (x :: xs) (ts ++ us) (gL (g :: gs)) := by
  refine ⟨pgs_mono (pgs_cons h.pg k.pgs hs) fun v σ H Q ⟨F, W, L, env, st, ds, env', I, r, e, k⟩ => ?_⟩
  cases r with
  | nil => cases e
  | cons h r =>
    obtain ⟨env1, e1, e⟩ := bind2 e
    refine ⟨_, _, rfl, F, W, L, env, st, _, env1, I, h, e1, fun σ' o1 o2 I1 => ?_⟩
    exact ⟨F, W, L, env1, st, _, env', I1, r, e, fun σ2 o3 o4 I2 => k σ2 (offTrans o1 o3) (offTrans o2 o4) I2⟩
theorem gL_len : ∀ {gs : List SemG} {ds : List D} {e e' : List Slot}, gL gs ds e = some e' → ds.length = gs.length
  | [], [], _, _, _ => rfl
  | [], _ :: _, _, _, h => by cases h
  | _ :: _, [], _, _, h => by cases h
  | g :: gs, d :: ds, e, e', h => by
    obtain ⟨e1, _, h⟩ := bind2 h
    exact congrArg (· + 1) (gL_len h)
theorem sg_tup {xs : List Expr} {n : Nat} {ts : List Nat} {gs : List SemG} (hc : X.calm = true) (h : SGs X ct xs ts (gL gs)) (hn : (assignEach xs X.env).length = gs.length := by rfl) (hst : (assignEach xs X.env).findIdx? (·.1) = none := by rfl) : SG X ct (.Tuple xs n pos) ts (gTp gs) := by
  refine ⟨pg_mono (pg_tup hc h.pgs hn hst) fun v σ H Q ⟨F, W, L, env, st, d, env', I, r, e, k⟩ => ?_⟩
  cases d <;> try (cases e; done)
  cases r with
  | tup h q =>
    refine ⟨_, _, rfl, SqT.of (I.tp _ _ h), by rw [q.length]; exact gL_len e, F, W, L, env, st, _, env', I, q, e, k⟩

/-! assignments -/
def sSet (i : Nat) (e : Sem) : SemS := fun env st => (e env st).bind fun p => match p.1 with
  | .sh d => some (.nx, env.set i (.sh d), p.2)
  | .ow d => some (.nx, env.set i (.ow d), p.2)
  | .bw _ _ => none
theorem tSm_set {K : PySem.W.Frag} {i : Nat} {D : Ends} {σ : St} {H : Hp} (h : tSm K ct (sSet i a) D σ H) : tAsg (tE K ct a) (gName i) D σ H := by
  obtain ⟨F, W, L, env, st, o, env', st', I, e, k⟩ := h
  obtain ⟨⟨r1, st1⟩, h1, e⟩ := bind2 e
  refine ⟨F, W, L, env, st, r1, st1, I, h1, fun v H1 W1 L1 l1 I1 p1 => ?_⟩
  cases r1 with
  | sh d => cases e; exact k _ H1 W1 L1 l1 (I1.setSh i p1)
  | ow d =>
    cases e
    obtain ⟨a, rfl, h1, h2, h3, c⟩ := p1
    exact k _ H1 W1 _ l1 (I1.setOw i h1 h2 h3 c)
  | bw j d => cases e
theorem ss_set (i : Nat) {n : Str} {pos' : Pos} (hN : X.N.Nodup) (he : SE X ct x a) (hi : X.N[i]? = some n := by rfl) (hx : Loc X.env.scope n := by first | exact .inl rfl | exact .inr rfl) (hs : swapsWith x (some (.Name n pos')) pos.line X.env = pure false := by rfl)
    (hf : X.fn n = true ∨ X.env.scope.names.lookup n = some .local := by first | exact .inl rfl | exact .inr rfl) : SS X ct (.Assign [.Name n pos'] x pos) (sSet i a) := ⟨ps_mono (ps_set hN hi hx he.pe hs hf) fun _ _ _ h => tSm_set h⟩
/-- into a tuple of names -/
def sAsg (e : Sem) (g : SemG) : SemS := fun env st => (e env st).bind fun p => match p.1.pin with
  | .sh d => (g d env).map fun env' => (.nx, env', p.2)
  | _ => none
theorem ss_asg {tg : Expr} {ts : List Nat} {g : SemG} (he : SE X ct x a) (hg : SG X ct tg ts g) (hs : swapsWithSole [tg] x pos.line X.env = pure false := by rfl) (hw : swappedStores [tg] x X.env = pure none := by rfl)
    (h1 : (assignEach [tg] X.env).map (·.2) = [assign tg X.env] := by rfl) : SS X ct (.Assign [tg] x pos) (sAsg a g) := by
  refine ⟨ps_mono (ps_asg he.pe hg.pg hs hw h1) fun D σ H ⟨F, W, L, env, st, o, env', st', I, e, k⟩ => ?_⟩
  obtain ⟨⟨r1, st1⟩, h1, e⟩ := bind2 e
  refine ⟨F, W, L, env, st, r1, st1, I, h1, fun v H1 W1 L1 l1 I1 p1 => ?_⟩
  obtain ⟨W1', m1, J1, q1⟩ := I1.pin p1
  obtain ⟨d, env1, hr, e1, rfl, rfl, rfl⟩ : ∃ d env1, r1.pin = .sh d ∧ g d env = some env1 ∧ o = .nx ∧ env' = env1 ∧ st' = st1 := by
    clear p1 q1 J1 I1 k h1
    dsimp only at e
    split at e
    · rename_i d hr
      obtain ⟨env1, e1, e2⟩ := map2 e
      cases e2
      exact ⟨d, _, hr, e1, rfl, rfl, rfl⟩
    · cases e
  rw [hr] at q1
  exact ⟨F, W1', L1, env, _, d, _, J1, q1, e1, fun σ' _ _ I' => k σ' H1 W1' L1 (l1.trans m1) I'⟩
/-- a, b = x, y -/
def sPar (i j : Nat) (as : SemA) : SemS := fun env st => (as env st).bind fun p => match p.1 with
  | [.sh d, .sh e] => some (.nx, (env.set i (.sh d)).set j (.sh e), p.2)
  | _ => none
theorem ss_par (i j : Nat) {n m : Str} {as : SemA} {px py pt : Pos} {kt k2 pt2} (hc : X.calm = true) (hN : X.N.Nodup) (hi : X.N[i]? = some n := by rfl) (hj : X.N[j]? = some m := by rfl) (hij : i ≠ j := by decide)
    (hx : X.env.scope.names.lookup n = some .local := by rfl) (hy : X.env.scope.names.lookup m = some .local := by rfl) (ha : SA X ct [x, y] as)
    (hw : swappedStores [.Tuple [.Name n px, .Name m py] kt pt] (.Tuple [x, y] k2 pt2) X.env = pure (some [n, m]) := by rfl)
    (hs : swapsWithSole [.Tuple [.Name n px, .Name m py] kt pt] (.Tuple [x, y] k2 pt2) pos.line X.env = pure false := by rfl) :
    SS X ct (.Assign [.Tuple [.Name n px, .Name m py] kt pt] (.Tuple [x, y] k2 pt2) pos) (sPar i j as) := by
  refine ⟨ps_mono (ps_par hc hN hi hj hij hx hy ha.pa hw hs) fun D σ H ⟨F, W, L, env, st, o, env', st', I, e, k⟩ => ?_⟩
  obtain ⟨⟨rs, st1⟩, h1, e⟩ := bind2 e
  refine ⟨F, W, L, env, st, rs, st1, I, h1, fun vs H1 W1 L1 l1 I1 qs => ?_⟩
  obtain ⟨d1, d2, rfl, rfl, rfl, rfl⟩ : ∃ d1 d2, rs = [.sh d1, .sh d2] ∧ o = .nx ∧ env' = (env.set i (.sh d1)).set j (.sh d2) ∧ st' = st1 := by
    clear qs I1 k h1
    dsimp only at e
    split at e
    · cases e
      exact ⟨_, _, rfl, rfl, rfl, rfl⟩
    · cases e
  cases qs with
  | cons q1 qs =>
    cases qs with
    | cons q2 qs =>
      cases qs
      exact ⟨_, _, rfl, k _ H1 W1 L1 l1 ((I1.setSh i q1).setSh j q2)⟩
/-- x op= e -/
def sAug (i : Nat) (f : D → D → Option R) (e : Sem) : SemS := fun env st => match env[i]? with
  | some (.sh d) => (e env st).bind fun p => (f d p.1.d).bind fun r => match r with
    | .sh d' => some (.nx, env.set i (.sh d'), p.2)
    | _ => none
  | _ => none
theorem ss_aug (i : Nat) {n : Str} {op : Operator} {g : Int → Int → Int} {pos' : Pos} (ho : PIp X op (ipI g)) (hN : X.N.Nodup) (he : SE X ct x a) (hi : X.N[i]? = some n := by rfl) (hx : Loc X.env.scope n := by first | exact .inl rfl | exact .inr rfl)
    (hf : X.fn n = true ∨ X.env.scope.names.lookup n = some .local := by first | exact .inl rfl | exact .inr rfl) : SS X ct (.AugAssign (.Name n pos') op x pos) (sAug i (fI fun i j => some (g i j)) a) := by
  refine ⟨ps_mono (ps_aug hN hi hx he.pe ho hf) fun D σ H ⟨F, W, L, env, st, o, env', st', I, e, k⟩ => ?_⟩
  unfold sAug at e
  split at e
  · rename_i d hd
    obtain ⟨v, hv, rv⟩ := I.sl i _ hd
    obtain ⟨⟨r1, st1⟩, h1, e⟩ := bind2 e
    obtain ⟨r2, h2, e⟩ := bind2 e
    refine ⟨v, hv, F, W, L, env, st, r1, st1, I, h1, fun w H1 W1 L1 l1 I1 p1 => ?_⟩
    obtain ⟨W1', m1, J1, q1⟩ := I1.pin p1
    have q1' := J1.look q1
    rw [R.pin_d] at q1'
    unfold fI at h2
    split at h2
    · rename_i n m _ e2 _
      cases h2
      cases e
      have e2 : r1.d = _ := e2
      rw [e2] at q1'
      cases rv
      exact ⟨_, _, rfl, q1'.int, k _ _ _ _ (l1.trans m1) (J1.setSh i (.int _))⟩
    · cases h2
  · cases e
theorem ss_augadd (i : Nat) {n : Str} {pos' : Pos} (hN : X.N.Nodup) (he : SE X ct x a) (hi : X.N[i]? = some n := by rfl) (hx : Loc X.env.scope n := by first | exact .inl rfl | exact .inr rfl)
    (hf : X.fn n = true ∨ X.env.scope.names.lookup n = some .local := by first | exact .inl rfl | exact .inr rfl) : SS X ct (.AugAssign (.Name n pos') .Add x pos) (sAug i (fI fun i j => some (i + j)) a) := ss_aug i (g := fun i j => i + j) ip_add hN he hi hx hf

/-! small statements -/
def sEx (e : Sem) : SemS := fun env st => (e env st).map fun p => (.nx, env, p.2)
theorem ss_ex (he : SE X ct x a) (hs : swapsWith x none pos.line X.env = pure false := by rfl) : SS X ct (.Expr x pos) (sEx a) := by
  refine ⟨ps_mono (ps_expr he.pe hs) fun D σ H ⟨F, W, L, env, st, o, env', st', I, e, k⟩ => ?_⟩
  obtain ⟨⟨r1, st1⟩, h1, e⟩ := map2 e
  cases e
  exact ⟨F, W, L, env, st, r1, _, I, h1, fun v H1 W1 L1 l1 I1 _ => k _ H1 W1 L1 l1 I1⟩
def sRet (e : Sem) : SemS := fun env st => (e env st).map fun p => (.rt p.1, env, p.2)
theorem ss_ret (he : SE X ct x a) : SS X ct (.Return (some x) pos) (sRet a) := by
  refine ⟨ps_mono (ps_ret he.pe) fun D σ H ⟨F, W, L, env, st, o, env', st', I, e, k⟩ => ?_⟩
  obtain ⟨⟨r1, st1⟩, h1, e⟩ := map2 e
  cases e
  exact ⟨F, W, L, env, st, r1, _, I, h1, fun v H1 W1 L1 l1 I1 p => k v _ H1 W1 L1 l1 I1 p⟩
def sRetN : SemS := fun env st => some (.rt (.sh .non), env, st)
theorem ss_retN : SS X ct (.Return none pos) sRetN := ⟨ps_mono ps_retN fun D σ H ⟨F, W, L, env, st, o, env', st', I, e, k⟩ => by cases e; exact k _ σ H W L (.refl W) I .non⟩
theorem ss_pass : SS X ct (.Pass pos) sNil := ⟨ps_mono ps_pass fun D σ H ⟨F, W, L, env, st, o, env', st', I, e, k⟩ => by cases e; exact k σ H W L (.refl W) I⟩
def sBrk : SemS := fun env st => some (.bk, env, st)
def sCnt : SemS := fun env st => some (.ct, env, st)
theorem ss_brk : SS X ct (.Break pos) sBrk := ⟨ps_mono ps_break fun D σ H ⟨F, W, L, env, st, o, env', st', I, e, k⟩ => by cases e; exact k σ H W L (.refl W) I⟩
theorem ss_cnt : SS X ct (.Continue pos) sCnt := ⟨ps_mono ps_continue fun D σ H ⟨F, W, L, env, st, o, env', st', I, e, k⟩ => by cases e; exact k σ H W L (.refl W) I⟩
/-- what is never come to -/
def sNever : SemS := fun _ _ => none
theorem ss_never : SS X ct sx sNever := ⟨ps_mono ps_never fun D σ H ⟨F, W, L, env, st, o, env', st', I, e, k⟩ => by cases e⟩
theorem sb_never : SB X ct sxs sNever := ⟨pss_mono pss_never fun D σ H ⟨F, W, L, env, st, o, env', st', I, e, k⟩ => by cases e⟩
theorem ss_doc {x j pos pos'} : SS X ct (.Expr (.Constant (.str x) j pos) pos') sNil := ⟨ps_mono ps_doc fun D σ H ⟨F, W, L, env, st, o, env', st', I, e, k⟩ => by cases e; exact k σ H W L (.refl W) I⟩
def R.tr : R → Option Bool
  | .sh (.bl b) => some b
  | _ => none
theorem R.tr_eq : ∀ {r : R} {b : Bool}, r.tr = some b → r = .sh (.bl b)
  | .sh (.bl _), _, e => by cases e; rfl
  | .sh .non, _, e => nomatch e
  | .sh (.int _), _, e => nomatch e
  | .sh (.str _), _, e => nomatch e
  | .sh (.lst _), _, e => nomatch e
  | .sh (.tup _), _, e => nomatch e
  | .sh (.dic _), _, e => nomatch e
  | .sh (.obj _ _), _, e => nomatch e
  | .sh (.hnd _), _, e => nomatch e
  | .sh (.scr _), _, e => nomatch e
  | .ow _, _, e => nomatch e
  | .bw _ _, _, e => nomatch e
def sIf (c : Sem) (f g : SemS) : SemS := fun env st => (c env st).bind fun p => p.1.tr.bind fun k => if k = true then f env p.2 else g env p.2
theorem ss_if {s1 s2 : List Stmt} (hc : ST X ct x c) (hf : SB X ct s1 f) (hg : SB X ct s2 g) : SS X ct (.If x s1 s2 pos) (sIf c f g) := by
  refine ⟨ps_mono (ps_if hc.pt hf.pss hg.pss) fun D σ H ⟨F, W, L, env, st, o, env', st', I, e, k⟩ => ?_⟩
  obtain ⟨⟨r1, st1⟩, h1, e⟩ := bind2 e
  obtain ⟨b, hb, e⟩ := bind2 e
  have hb := R.tr_eq hb
  rw [show r1 = _ from hb] at h1
  refine ⟨F, W, L, env, st, b, st1, I, h1, fun H1 W1 L1 l1 I1 => ?_⟩
  cases b with
  | true => exact iteT ⟨F, W1, L1, env, st1, o, env', st', I1, e, k.mono l1⟩
  | false => exact iteF ⟨F, W1, L1, env, st1, o, env', st', I1, e, k.mono l1⟩
/-- while, at most n turns -/
def whL (c : Sem) (f : SemS) : Nat → List Slot → Sto → Option (Out × List Slot × Sto)
  | 0, _, _ => none
  | n + 1, env, st => (c env st).bind fun p => p.1.tr.bind fun k => if k = true then (f env p.2).bind fun q => match q with
      | (.nx, env', st') => whL c f n env' st'
      | (.ct, env', st') => whL c f n env' st'
      | (.bk, env', st') => some (.nx, env', st')
      | (.rt r, env', st') => some (.rt r, env', st')
    else some (.nx, env, p.2)
def sWhl (n : Nat) (c : Sem) (f : SemS) : SemS := fun env st => whL c f n env st
theorem ss_whl (n : Nat) {s1 : List Stmt} (hp : PassesOwn (model X.prog X.w) X.A X.env X.xe) (hc : ST X ct x c) (hf : SB X ct s1 f) : SS X ct (.While x s1 [] pos) (sWhl n c f) := by
  refine ⟨ps_mono (ps_while hp hc.pt hf.pss) fun D σ H ⟨F, W, L, env, st, o, env', st', I, e, k⟩ => ?_⟩
  refine ⟨fun m σ H => ∃ W1 L1 env1 st1, W.le W1 ∧ Rel X.K ct F W1 L1 env1 st1 σ H ∧ whL c f m env1 st1 = some (o, env', st'), ⟨n, W, L, env, st, .refl W, I, e⟩, ?_⟩
  rintro m σ H ⟨W1, L1, env1, st1, l1, I1, e1⟩
  cases m with
  | zero => cases e1
  | succ m =>
    obtain ⟨⟨r1, st2⟩, h1, e1⟩ := bind2 e1
    obtain ⟨b, hb, e1⟩ := bind2 e1
    have hb := R.tr_eq hb
    rw [show r1 = _ from hb] at h1
    cases b with
    | false =>
      have e1 : some (Out.nx, env1, st2) = some (o, env', st') := e1
      cases e1
      exact ⟨F, W1, L1, _, st1, false, _, I1, h1, fun H2 W2 L2 l2 I2 => iteF (k _ _ _ _ (l1.trans l2) I2)⟩
    | true =>
      have e1 : ((f env1 st2).bind fun q => match q with
        | (.nx, env', st') => whL c f m env' st'
        | (.ct, env', st') => whL c f m env' st'
        | (.bk, env', st') => some (.nx, env', st')
        | (.rt r, env', st') => some (.rt r, env', st')) = some (o, env', st') := e1
      obtain ⟨⟨o2, env2, st3⟩, h2, e2⟩ := bind2 e1
      refine ⟨F, W1, L1, env1, st1, true, st2, I1, h1, fun H2 W2 L2 l2 I2 => iteT ?_⟩
      refine ⟨fun σ' H' => ∃ W3 L3 env3 st3, W.le W3 ∧ Rel X.K ct F W3 L3 env3 st3 σ' H' ∧ whL c f m env3 st3 = some (o, env', st'), fun σ' H' q => ⟨m, Nat.lt_succ_self m, q⟩, ?_⟩
      refine ⟨F, W2, L2, env1, st2, o2, env2, st3, I2, h2, ?_⟩
      cases o2 with
      | nx => exact fun σ' H' W3 L3 l3 I3 => ⟨W3, L3, env2, st3, l1.trans (l2.trans l3), I3, e2⟩
      | ct => exact fun σ' H' W3 L3 l3 I3 => ⟨W3, L3, env2, st3, l1.trans (l2.trans l3), I3, e2⟩
      | bk => cases e2; exact fun σ' H' W3 L3 l3 I3 => k _ _ _ _ (l1.trans (l2.trans l3)) I3
      | rt r => cases e2; exact fun v σ' H' W3 L3 l3 I3 => k v _ _ _ _ (l1.trans (l2.trans l3)) I3

/-! for -/
def forL (g : SemG) (f : SemS) : List D → List Slot → Sto → Option (Out × List Slot × Sto)
  | [], env, st => some (.nx, env, st)
  | d :: ds, env, st => (g d env).bind fun env1 => (f env1 st).bind fun q => match q with
    | (.nx, env', st') => forL g f ds env' st'
    | (.ct, env', st') => forL g f ds env' st'
    | (.bk, env', st') => some (.nx, env', st')
    | (.rt r, env', st') => some (.rt r, env', st')
def sFor (it : SemI) (g : SemG) (f : SemS) : SemS := fun env st => (it env st).bind fun p => forL g f p.1 env p.2
theorem ss_for {tg : Expr} {ts : List Nat} {g : SemG} {it : SemI} {s1 : List Stmt} (hp : PassesOwn (model X.prog X.w) X.A X.env X.xe) (hc : X.calm = true) (hi : SI X ct tg x it) (hg : SG X ct tg ts g) (hf : SB X ct s1 f) (hs : ∀ z, foldedSetIterable x X.env z = pure z := by intro _; rfl) :
    SS X ct (.For tg x s1 [] pos) (sFor it g f) := by
  refine ⟨ps_mono (ps_for hp hc hi.pi hg.pg hf.pss hs) fun D σ H ⟨F, W, L, env, st, o, env', st', I, e, k⟩ => ?_⟩
  obtain ⟨⟨ds, st1⟩, h1, e⟩ := bind2 e
  refine ⟨F, W, L, env, st, ds, st1, I, h1, fun J H1 W1 L1 l1 I1 wk => ?_⟩
  refine ⟨fun i m σ H => m = ds.length - i ∧ i ≤ ds.length ∧ ∃ W2 L2 env2 st2, W1.le W2 ∧ Rel X.K ct F W2 L2 env2 st2 σ H ∧ forL g f (ds.drop i) env2 st2 = some (o, env', st'), ⟨_, rfl, Nat.zero_le _, W1, L1, env, st1, .refl W1, I1, e⟩, ?_⟩
  rintro i m σ H ⟨rfl, hi, W2, L2, env2, st2, l2, I2, e2⟩
  have wk2 := wk F W2 L2 env2 st2 σ H i l2 I2
  by_cases hlt : i < ds.length
  · rw [List.drop_eq_getElem_cons hlt] at e2
    obtain ⟨env3, h3, e2⟩ := bind2 e2
    obtain ⟨⟨o4, env4, st4⟩, h4, e2⟩ := bind2 e2
    obtain ⟨go, yl⟩ := wk2.1 ds[i] (List.getElem?_eq_getElem hlt)
    refine .inr ⟨go, fun σ' H' => i + 1 ≤ ds.length ∧ ∃ W2 L2 env2 st2, W1.le W2 ∧ Rel X.K ct F W2 L2 env2 st2 σ' H' ∧ forL g f (ds.drop (i + 1)) env2 st2 = some (o, env', st'), fun σ' H' q => ⟨_, by omega, rfl, q⟩, fun v H' y => ?_⟩
    obtain ⟨W3, L3, l3, I3, r3⟩ := yl v H' y
    refine ⟨F, W3, L3, env2, st2, _, env3, I3, r3, h3, fun σ3 _ _ I3' => ?_⟩
    refine ⟨F, W3, L3, env3, st2, o4, env4, st4, I3', h4, ?_⟩
    have ll := l2.trans l3
    cases o4 with
    | nx => exact fun σ' H' W5 L5 l5 I5 => ⟨hlt, W5, L5, env4, st4, ll.trans l5, I5, e2⟩
    | ct => exact fun σ' H' W5 L5 l5 I5 => ⟨hlt, W5, L5, env4, st4, ll.trans l5, I5, e2⟩
    | bk => cases e2; exact fun σ' H' W5 L5 l5 I5 => k _ _ _ _ (l1.trans (ll.trans l5)) I5
    | rt r => cases e2; exact fun v σ' H' W5 L5 l5 I5 => k v _ _ _ _ (l1.trans (ll.trans l5)) I5
  · have ei : i = ds.length := by omega
    rw [ei, List.drop_length] at e2
    cases e2
    exact .inl ⟨wk2.2 (by omega), k _ _ _ _ (l1.trans l2) I2⟩
end
end Kn
namespace Kn
open PySem L2

section
variable {X : Cx} {ct : CT} {pos : Pos} {x y : Expr} {a b c : Sem} {es : List Expr} {as : SemA}
/-! a list of one's own is changed by its methods -/
def MuS (rr : V → List V → Hp → VK → Prop) (f : List D → List D → Option (List D)) : Prop := ∀ K ct W H l vs ds ws xs ds' Q, H l = some (.lst vs) → RepL K ct W vs ds → RepL K ct W ws xs → f xs ds = some ds' →
  (∀ v vs', RepL K ct W vs' ds' → Q v (upd H l (.lst vs'))) → rr (.ref l) ws H Q
def sMut (i : Nat) (f : List D → List D → Option (List D)) (as : SemA) : SemS := fun env st => (as env st).bind fun p => (valsR p.1).bind fun xs => match env[i]? with
  | some (.ow (.lst ds)) => (f xs ds).map fun ds' => (.nx, env.set i (.ow (.lst ds')), p.2)
  | _ => none
theorem tSm_mut {K : PySem.W.Frag} {i : Nat} {rr : V → List V → Hp → VK → Prop} {f : List D → List D → Option (List D)} (ms : MuS rr f) {D : Ends} {σ : St} {H : Hp} (h : tSm K ct (sMut i f as) D σ H) :
    ∃ l vs, σ[i]? = some (some (.ref l)) ∧ H l = some (.lst vs) ∧ tA K ct as σ H fun ws H2 => rr (.ref l) ws H2 fun _ H3 => D.nx σ H3 := by
  obtain ⟨F, W, L, env, st, o, env', st', I, e, k⟩ := h
  obtain ⟨⟨rs, st1⟩, h1, e⟩ := bind2 e
  obtain ⟨xs, h2, e⟩ := bind2 e
  split at e
  · rename_i ds he
    obtain ⟨ds', h3, e3⟩ := map2 e
    cases e3
    obtain ⟨l, s1, s2, c⟩ := I.sl i _ he
    cases c with
    | lst g q =>
      refine ⟨l, _, s1, g, F, W, L, env, st, rs, _, I, h1, fun ws H2 W2 L2 l2 I2 qs => ?_⟩
      obtain ⟨l', t1, t2, c2⟩ := I2.sl i _ he
      rw [s1] at t1; cases t1
      cases c2 with
      | lst g2 q2 =>
        refine ms _ _ _ _ _ _ _ _ _ _ _ g2 q2 (qs.vals h2) h3 fun v vs' q' => ?_
        exact k _ _ _ _ l2 (I2.updOw' s1 t2 (fun xs z => by rw [g2] at z; cases z) (.lst upd_same q'))
  · cases e
theorem ss_mut1 {id : String} {name n : Str} {rr : V → List V → Hp → VK → Prop} {f : List D → List D → Option (List D)} {apos cpos npos : Pos} (i : Nat) (slot : PySem.Slot "list" name id) (hty : typeOf (.builtin id) = pure (.type "method_descriptor")) (hm : MtR X id rr) (ms : MuS rr f) (ha : SA X ct (x :: es) as)
    (hN : X.N[i]? = some n := by rfl) (hv : Vis X.env.scope n := by first | exact Or.inl rfl | exact Or.inr (Or.inl rfl) | exact Or.inr (Or.inr rfl)) (hd : (n == ("__debug__" : Str)) = false := by decide)
    (hcd : (n == ("__classdict__" : Str)) = false := by decide) (hbase : attributeBase (.Name n npos) name X.env (eval (.Name n npos) X.env) = eval (.Name n npos) X.env := by rfl)
    (hfew : ((backTo cpos (starEach (x :: es) X.env)).all (fun x => !x.1) && (backToKw cpos (keywordEach [] X.env)).all (fun x => x.1.isSome)
      && decide ((x :: es).length + ([] : List Keyword).length + (if ([] : List Keyword).isEmpty then 0 else 1) < 30)) = true := by rfl)
    (hline : (apos.endLine == cpos.line) = true := by rfl) (hs : starEach (x :: es) X.env = (false, eval x X.env) :: starEach es X.env := by rfl) (hplain : (backTo cpos (starEach es X.env)).any (·.1) = false := by rfl)
    (hsw : swapsWith (.Call (.Attribute (.Name n npos) name apos) (x :: es) [] cpos) none pos.line X.env = pure false := by rfl) :
    SS X ct (.Expr (.Call (.Attribute (.Name n npos) name apos) (x :: es) [] cpos) pos) (sMut i f as) := by
  refine ⟨ps_mono (ps_expr (pe_bm PySem.F.plainAttrs_list slot hty hm (pe_var hN hv hd hcd) ha.pa hbase hfew hline hs hplain) hsw) fun D σ H h => ?_⟩
  obtain ⟨l, vs, s1, g, t⟩ := tSm_mut ms h
  exact ⟨_, s1, .inl ⟨rfl, _, SqL.of g⟩, t⟩
theorem ss_mut0 {id : String} {name n : Str} {rr : V → List V → Hp → VK → Prop} {f : List D → List D → Option (List D)} {apos cpos npos : Pos} (i : Nat) (slot : PySem.Slot "list" name id) (hty : typeOf (.builtin id) = pure (.type "method_descriptor")) (hm : MtR X id rr) (ms : MuS rr f)
    (hN : X.N[i]? = some n := by rfl) (hv : Vis X.env.scope n := by first | exact Or.inl rfl | exact Or.inr (Or.inl rfl) | exact Or.inr (Or.inr rfl)) (hd : (n == ("__debug__" : Str)) = false := by decide)
    (hcd : (n == ("__classdict__" : Str)) = false := by decide) (hbase : attributeBase (.Name n npos) name X.env (eval (.Name n npos) X.env) = eval (.Name n npos) X.env := by rfl)
    (hline : (apos.endLine == cpos.line) = true := by rfl)
    (hsw : swapsWith (.Call (.Attribute (.Name n npos) name apos) [] [] cpos) none pos.line X.env = pure false := by rfl) :
    SS X ct (.Expr (.Call (.Attribute (.Name n npos) name apos) [] [] cpos) pos) (sMut i f aNil) := by
  refine ⟨ps_mono (ps_expr (pe_bm0 PySem.F.plainAttrs_list slot hty hm (pe_var hN hv hd hcd) hbase hline) hsw) fun D σ H h => ?_⟩
  obtain ⟨l, vs, s1, g, t⟩ := tSm_mut ms h
  refine ⟨_, s1, .inl ⟨rfl, _, SqL.of g⟩, ?_⟩
  exact sa_nil_use t
where
  sa_nil_use {K : PySem.W.Frag} {σ : St} {H : Hp} {Q : List V → Hp → Prop} (h : tA K ct aNil σ H Q) : Q [] H := by
    obtain ⟨F, W, L, env, st, rs, st', I, e, k⟩ := h
    cases e
    exact k [] H W L (.refl W) I .nil
def fApp (xs ds : List D) : Option (List D) := match xs with
  | [d] => if ds.length < sizeLine then some (ds ++ [d]) else none
  | _ => none
theorem ms_app : MuS rAppend fApp := by
  intro K ct W H l vs ds ws xs ds' Q g q qx e k
  unfold fApp at e
  split at e
  · obtain ⟨c, rfl⟩ := ifs e
    cases qx with
    | cons h r =>
      cases r
      exact ⟨l, vs, _, rfl, rfl, g, by rw [q.length]; exact c, k _ _ (q.append (.cons h .nil))⟩
  · cases e
def fClr (xs _ : List D) : Option (List D) := match xs with
  | [] => some []
  | _ => none
theorem ms_clr : MuS rClear fClr := by
  intro K ct W H l vs ds ws xs ds' Q g q qx e k
  unfold fClr at e
  split at e
  · cases e; cases qx
    exact ⟨l, vs, rfl, rfl, g, k _ _ .nil⟩
  · cases e
def fPop (xs ds : List D) : Option (List D) := match xs with
  | [] => if ds ≠ [] then some ds.dropLast else none
  | _ => none
theorem RepL.dropLast {K : PySem.W.Frag} {W : Wd} {vs : List V} {ds : List D} (r : RepL K ct W vs ds) : RepL K ct W vs.dropLast ds.dropLast := by
  rw [List.dropLast_eq_take, List.dropLast_eq_take, r.length]
  exact r.take _
theorem ms_pop : MuS rPop fPop := by
  intro K ct W H l vs ds ws xs ds' Q g q qx e k
  unfold fPop at e
  split at e
  · obtain ⟨c, rfl⟩ := ifs e
    cases qx
    have hl := q.length
    have hd : 0 < ds.length := List.length_pos_iff.mpr c
    exact ⟨l, vs, _, rfl, rfl, g, List.getElem?_eq_getElem (by omega), k _ _ q.dropLast⟩
  · cases e
def fIns (xs ds : List D) : Option (List D) := match xs with
  | [.int i, d] => if ds.length < sizeLine ∧ 0 ≤ i ∧ i < 2 ^ 63 then some (ds.take i.toNat ++ [d] ++ ds.drop i.toNat) else none
  | _ => none
theorem ms_ins : MuS (fun x vs H Q => ∃ (l : Addr) (xs : List V) (i : Int) (y : V), x = .ref l ∧ vs = [.int i, y] ∧ H l = some (.lst xs) ∧ xs.length < sizeLine ∧ 0 ≤ i ∧ i < 2 ^ 63 ∧ Q .non (upd H l (.lst (xs.take i.toNat ++ [y] ++ xs.drop i.toNat)))) fIns := by
  intro K ct W H l vs ds ws xs ds' Q g q qx e k
  unfold fIns at e
  split at e
  · obtain ⟨c, rfl⟩ := ifs e
    cases qx with
    | cons h r =>
      cases r with
      | cons h2 r =>
        cases r
        cases h
        exact ⟨l, vs, _, _, rfl, rfl, g, by rw [q.length]; exact c.1, c.2.1, c.2.2, k _ _ (((q.take _).append (.cons h2 .nil)).append (q.drop _))⟩
  · cases e

/-! an item of one's own list or dict is stored -/
def putD (kds : List (Key × D)) (k : Key) (d : D) : List (Key × D) := if (valD kds k).isSome = true then kds.map fun kv => if kv.1 = k then (kv.1, d) else kv else kds ++ [(k, d)]
def setItm : D → D → D → Option D
  | .lst ds, .int k, d => (ixN ds.length k).map fun j => .lst (ds.set j d)
  | .dic kds, i, d => i.key.bind fun k => if kds.length < sizeLine then some (.dic (putD kds k d)) else none
  | _, _, _ => none
def sSub (i : Nat) (ix e : Sem) : SemS := fun env st => (e env st).bind fun p => (ix env p.2).bind fun q => match p.1.pin, env[i]? with
  | .sh d, some (.ow c) => (setItm c q.1.d d).map fun c' => (.nx, env.set i (.ow c'), q.2)
  | _, _ => none
theorem put_rep {K : PySem.W.Frag} {W : Wd} {k : Key} {v : V} {d : D} (h : Rep K ct W v d) {kvs : List (Key × V)} {kds : List (Key × D)} (n : kvs.map (·.1) = kds.map (·.1)) (r : RepL K ct W (kvs.map (·.2)) (kds.map (·.2))) :
    (putK kvs k v).map (·.1) = (putD kds k d).map (·.1) ∧ RepL K ct W ((putK kvs k v).map (·.2)) ((putD kds k d).map (·.2)) := by
  have sm : (valV kvs k).isSome = (valD kds k).isSome := by
    rcases valD_rep k n r with ⟨e1, e2⟩ | ⟨v, d, e1, e2, _⟩ <;> rw [e1, e2] <;> rfl
  have mp : ∀ {kvs : List (Key × V)} {kds : List (Key × D)}, kvs.map (·.1) = kds.map (·.1) → RepL K ct W (kvs.map (·.2)) (kds.map (·.2)) →
      (kvs.map fun kv => if kv.1 = k then (kv.1, v) else kv).map (·.1) = (kds.map fun kv => if kv.1 = k then (kv.1, d) else kv).map (·.1) ∧
      RepL K ct W ((kvs.map fun kv => if kv.1 = k then (kv.1, v) else kv).map (·.2)) ((kds.map fun kv => if kv.1 = k then (kv.1, d) else kv).map (·.2)) := by
    intro kvs
    induction kvs with
    | nil =>
      intro kds n r
      cases kds with
      | nil => exact ⟨rfl, .nil⟩
      | cons => cases n
    | cons p kvs ih =>
      intro kds n r
      cases kds with
      | nil => cases n
      | cons q kds =>
        simp only [List.map_cons, List.cons.injEq] at n
        cases r with
        | cons h1 r =>
          obtain ⟨i1, i2⟩ := ih n.2 r
          simp only [List.map_cons]
          by_cases e : p.1 = k
          · have e2 : q.1 = k := n.1.symm.trans e
            rw [if_pos e, if_pos e2]
            exact ⟨by rw [i1]; show p.1 :: _ = q.1 :: _; rw [n.1], .cons h i2⟩
          · have e2 : ¬ q.1 = k := fun z => e (n.1.trans z)
            rw [if_neg e, if_neg e2]
            exact ⟨by rw [i1, n.1], .cons h1 i2⟩
  unfold putK putD
  rw [valV_any, sm]
  split
  · exact mp n r
  · rw [List.map_append, List.map_append, List.map_append, List.map_append, n]
    exact ⟨rfl, r.append (.cons h .nil)⟩
theorem ss_sub (i : Nat) {n : Str} {npos tpos : Pos} {k : Nat} (hr : Room k X.A) (hix : SE X ct y b) (he : SE X ct x a)
    (hN : X.N[i]? = some n := by rfl) (hv : Vis X.env.scope n := by first | exact Or.inl rfl | exact Or.inr (Or.inl rfl) | exact Or.inr (Or.inr rfl)) (hd : (n == ("__debug__" : Str)) = false := by decide) (hcd : (n == ("__classdict__" : Str)) = false := by decide)
    (ha : ∀ v, assign (.Subscript (.Name n npos) y tpos) X.env v = (do
      let ov ← holding [v] (eval (.Name n npos) X.env)
      let iv ← holding [v, ov] (eval y X.env)
      standAt tpos
      holding [v, ov, iv] (setItem ov iv v)
      release [v, ov, iv] []) := by intro _; rfl)
    (hs : swapsWithSole [.Subscript (.Name n npos) y tpos] x pos.line X.env = pure false := by rfl) (hw : swappedStores [.Subscript (.Name n npos) y tpos] x X.env = pure none := by rfl)
    (h1 : (assignEach [.Subscript (.Name n npos) y tpos] X.env).map (·.2) = [assign (.Subscript (.Name n npos) y tpos) X.env] := by rfl)
    (hsd : swapsWith x (some (.Subscript (.Name n npos) y tpos)) pos.line X.env = pure false := by rfl) : SS X ct (.Assign [.Subscript (.Name n npos) y tpos] x pos) (sSub i b a) := by
  have hvr : PE X (.Name n npos) (tVar i) := pe_var hN hv hd hcd
  refine ⟨ps_mono (ps_or (ps_asg he.pe (pg_sub hvr hix.pe set_list ha) hs hw h1) (ps_dput (hu_of hr) hvr hix.pe he.pe hsd)) fun D σ H ⟨F, W, L, env, st, o, env', st', I, e, k⟩ => ?_⟩
  obtain ⟨⟨r1, st1⟩, h1, e⟩ := bind2 e
  obtain ⟨⟨r2, st2⟩, h2, e⟩ := bind2 e
  obtain ⟨d, c, c', hr1, hc, hset, rfl, rfl, rfl⟩ : ∃ d c c', r1.pin = .sh d ∧ env[i]? = some (.ow c) ∧ setItm c r2.d d = some c' ∧ o = .nx ∧ env' = env.set i (.ow c') ∧ st' = st2 := by
    clear k h1 h2
    dsimp only at e
    split at e
    · rename_i d c e1 e2
      obtain ⟨c', e3, e4⟩ := map2 e
      cases e4
      exact ⟨d, c, c', e1, e2, e3, rfl, rfl, rfl⟩
    · cases e
  obtain ⟨l, s1, s2, cl⟩ := I.sl i _ hc
  have go : ∀ {H2 : Hp} {W2 : Wd} {L2 : Addr → Option Lab} {HH : HO}, W.le W2 → Rel X.K ct F W2 L2 env st' σ H2 → Cell X.K ct W2 (upd H2 l HH) l c' → L2 l = some (.slot i) → (∀ xs, H2 l ≠ some (.tup xs)) → D.nx σ (upd H2 l HH) := fun l2 I2 c2 hl hn => k _ _ _ _ l2 (I2.updOw' s1 hl hn c2)
  cases cl with
  | lst g q =>
    rename_i vs ds
    refine .inl ⟨F, W, L, env, st, r1, st1, I, h1, fun v H1 W1 L1 l1 I1 p1 => ⟨_, s1, ?_⟩⟩
    obtain ⟨W1', m1, J1, q1⟩ := I1.pin p1
    rw [hr1] at q1
    refine ⟨F, W1', L1, env, st1, r2, _, J1, h2, fun w H2 W2 L2 l2 I2 p2 => ?_⟩
    obtain ⟨W2', m2, J2, q2⟩ := I2.pin p2
    have q2' := J2.look q2
    rw [R.pin_d] at q2'
    have hset : setItm (.lst ds) r2.d d = some c' := hset
    cases hr2 : r2.d <;> rw [hr2] at hset q2' <;> try (cases hset; done)
    obtain ⟨j, e1, rfl⟩ := map2 hset
    obtain ⟨l', t1, t2, c2⟩ := J2.sl i _ hc
    rw [s1] at t1; cases t1
    cases c2 with
    | lst g2 q3 =>
      refine ⟨l, _, _, j, rfl, q2'.int, g2, by rw [q3.length]; exact e1, ?_⟩
      exact go (l1.trans (m1.trans (l2.trans m2))) J2 (.lst upd_same (q3.set j (q1.mono (l2.trans m2)))) t2 (fun xs z => by rw [g2] at z; cases z)
  | dic g n q =>
    rename_i kvs kds
    refine .inr ⟨F, W, L, env, st, r1, st1, I, h1, fun v H1 W1 L1 l1 I1 p1 => ⟨_, s1, ?_⟩⟩
    obtain ⟨W1', m1, J1, q1⟩ := I1.pin p1
    rw [hr1] at q1
    refine ⟨F, W1', L1, env, st1, r2, _, J1, h2, fun w H2 W2 L2 l2 I2 p2 => ?_⟩
    obtain ⟨W2', m2, J2, q2⟩ := I2.pin p2
    have q2' := J2.look q2
    rw [R.pin_d] at q2'
    have hset : setItm (.dic kds) r2.d d = some c' := hset
    obtain ⟨ky, ek, hset⟩ := bind2 hset
    obtain ⟨cz, rfl⟩ := ifs hset
    obtain ⟨l', t1, t2, c2⟩ := J2.sl i _ hc
    rw [s1] at t1; cases t1
    cases c2 with
    | dic g2 n2 q3 =>
      rename_i kvs2
      have hlen : kvs2.length = kds.length := by
        have := congrArg List.length n2
        rw [List.length_map, List.length_map] at this
        exact this
      refine ⟨l, _, rfl, by rw [Kn.D.key_v q2' ek]; exact DPut.k g2 (by rw [hlen]; exact cz), ?_⟩
      obtain ⟨z1, z2⟩ := put_rep (k := ky) (q1.mono (l2.trans m2)) n2 q3
      exact go (l1.trans (m1.trans (l2.trans m2))) J2 (.dic upd_same z1 z2) t2 (fun xs z => by rw [g2] at z; cases z)
  | obj => cases hset
/-- {} -/
def eDnew : Sem := fun _ st => some (.ow (.dic []), st)
theorem se_dnew : SE X ct (.Dict [] [] pos) eDnew := ⟨pe_mono pe_dnewK fun σ H Q ⟨F, W, L, env, st, r, st', I, e, k⟩ p hp => by
  cases e
  exact fresh_out I hp (.dic (kvs := []) (kds := []) upd_same rfl .nil) k⟩

/-! what is walked -/
variable {tg : Expr}
theorem wk_list {K : PySem.W.Frag} {W0 : Wd} {l : Addr} {vs : List V} {ds : List D} (h : SqL K W0.hs l vs) (r : RepL K ct W0 vs ds) : Wk K ct (Itl K l) W0 ds := by
  intro F W L env st σ H i le I
  have hs : SqL K H l vs := sq_mono (fun a o e => (I.hs a o (le.1 a o e)).1) h
  refine ⟨fun d hd => ?_, fun hi => ⟨vs, hs, by rw [r.length]; exact hi⟩⟩
  obtain ⟨v, hv, hr⟩ := r.get hd
  exact ⟨⟨vs, v, hs, hv⟩, fun x H' ⟨e, y⟩ => by
    subst e
    have e2 := y vs hs
    rw [hv] at e2; cases e2
    exact ⟨W, L, .refl W, I, hr.mono le⟩⟩
theorem wk_tup {K : PySem.W.Frag} {W0 : Wd} {l : Addr} {vs : List V} {ds : List D} (h : W0.tp l = some vs) (r : RepL K ct W0 vs ds) : Wk K ct (Itt K l) W0 ds := by
  intro F W L env st σ H i le I
  have hs : SqT K H l vs := SqT.of (I.tp _ _ (le.2 _ _ h))
  refine ⟨fun d hd => ?_, fun hi => ⟨vs, hs, by rw [r.length]; exact hi⟩⟩
  obtain ⟨v, hv, hr⟩ := r.get hd
  exact ⟨⟨vs, v, hs, hv⟩, fun x H' ⟨e, y⟩ => by
    subst e
    have e2 := y vs hs
    rw [hv] at e2; cases e2
    exact ⟨W, L, .refl W, I, hr.mono le⟩⟩
def D.seq : D → Option (List D)
  | .lst ds => some ds
  | .scr ns => some (ns.map D.int)
  | .tup ds => some ds
  | _ => none
def R.sh? : R → Option D
  | .sh d => some d
  | .ow d => some d
  | .bw _ _ => none
theorem R.sh_pin : ∀ {r : R} {d : D}, r.sh? = some d → r.pin = .sh d
  | .sh _, _, e => by cases e; rfl
  | .ow _, _, e => by cases e; rfl
  | .bw _ _, _, e => by cases e
def iSeq (a : Sem) : SemI := fun env st => (a env st).bind fun p => p.1.sh?.bind fun d => d.seq.map fun ds => (ds, p.2)
theorem si_seq (ha : SE X ct x a) : SI X ct tg x (iSeq a) := by
  refine ⟨pi_mono (pi_or (pi_list ha.pe) (pi_tup ha.pe)) fun σ H RR ⟨F, W, L, env, st, ds, st', I, e, k⟩ => ?_⟩
  obtain ⟨⟨r1, st1⟩, h1, e⟩ := bind2 e
  obtain ⟨d, h2, e⟩ := bind2 e
  obtain ⟨ds', h3, e⟩ := map2 e
  cases e
  have hp := R.sh_pin h2
  have out : (∀ v H1 W1 L1, W.le W1 → Rel X.K ct F W1 L1 env st1 σ H1 → Rep X.K ct W1 v d → ∃ a, v = .ref a ∧ (∃ vs, SqL X.K W1.hs a vs ∧ RepL X.K ct W1 vs ds)) ∨
      (∀ v H1 W1 L1, W.le W1 → Rel X.K ct F W1 L1 env st1 σ H1 → Rep X.K ct W1 v d → ∃ a, v = .ref a ∧ (∃ vs, W1.tp a = some vs ∧ RepL X.K ct W1 vs ds)) := by
    cases d <;> simp only [D.seq, Option.some.injEq, reduceCtorEq] at h3
    · subst h3
      refine .inl fun v H1 W1 L1 _ _ r => ?_
      cases r with
      | lst h q => exact ⟨_, rfl, _, SqL.of h, q⟩
    · subst h3
      refine .inr fun v H1 W1 L1 _ _ r => ?_
      cases r with
      | tup h q => exact ⟨_, rfl, _, h, q⟩
    · subst h3
      refine .inl fun v H1 W1 L1 _ _ r => ?_
      cases r with
      | scr h => exact ⟨_, rfl, _, h, RepL.of_ints _⟩
  rcases out with out | out
  · refine .inl ⟨F, W, L, env, st, r1, st1, I, h1, fun v H1 W1 L1 l1 I1 p1 => ?_⟩
    obtain ⟨W1', m1, J1, q1⟩ := I1.pin p1
    rw [hp] at q1
    obtain ⟨l, rfl, vs, g, q⟩ := out v H1 W1' L1 (l1.trans m1) J1 q1
    exact ⟨l, rfl, ⟨vs, sq_mono (fun a o e => (J1.hs a o e).1) g⟩, k _ H1 W1' L1 (l1.trans m1) J1 (wk_list g q)⟩
  · refine .inr ⟨F, W, L, env, st, r1, st1, I, h1, fun v H1 W1 L1 l1 I1 p1 => ?_⟩
    obtain ⟨W1', m1, J1, q1⟩ := I1.pin p1
    rw [hp] at q1
    obtain ⟨l, rfl, vs, g, q⟩ := out v H1 W1' L1 (l1.trans m1) J1 q1
    exact ⟨l, rfl, ⟨vs, SqT.of (J1.tp _ _ g)⟩, k _ H1 W1' L1 (l1.trans m1) J1 (wk_tup g q)⟩
/-- lo, lo + 1, .. -/
def rngD (lo : Int) (n : Nat) : List D := (List.range n).map fun (k : Nat) => D.int (lo + k)
theorem wk_rng {K : PySem.W.Frag} {W0 : Wd} (lo : Int) (n : Nat) : Wk K ct (Itr lo n) W0 (rngD lo n) := by
  intro F W L env st σ H i le I
  have hl : (rngD lo n).length = n := by unfold rngD; rw [List.length_map, List.length_range]
  refine ⟨fun d hd => ?_, fun hi => by rw [hl] at hi; exact hi⟩
  have hi : i < n := by
    have := (List.getElem?_eq_some_iff.mp hd).1
    rw [hl] at this; exact this
  have e : d = .int (lo + i) := by
    unfold rngD at hd
    rw [List.getElem?_map, List.getElem?_range hi] at hd
    exact (Option.some.inj hd).symm
  subst e
  exact ⟨hi, fun x H' ⟨e1, e2⟩ => by subst e1; subst e2; exact ⟨W, L, .refl W, I, .int _⟩⟩
/-- within the bounds of a range -/
structure Rg (j : Int) : Prop where
  lo : -(2 ^ 62) ≤ j
  hi : j < 2 ^ 62
noncomputable instance (j : Int) : Decidable (Rg j) := Classical.propDecidable _
theorem Rg.of {j : Int} (h : -1000000 ≤ j ∧ j ≤ 1000000) : Rg j := ⟨by omega, by omega⟩
noncomputable def iRng1' (a : Sem) : SemI := fun env st => (a env st).bind fun p => match p.1.d with
  | .int j => if Rg j then some (rngD 0 j.toNat, p.2) else none
  | _ => none
theorem si_rng1 {p : Pos} (hg : Gl X "range") (hm : X.mg "range" = none) (ha : SE X ct x a) (he : starEach [x] X.env = (false, eval x X.env) :: starEach [] X.env := by rfl) (hs : starEach [x] X.env = [(false, eval x X.env)] := by rfl) : SI X ct tg (.Call (.Name "range" p) [x] [] pos) (iRng1' a) := by
  refine ⟨pi_mono (pi_range1 hg hm (pa_cons ha.pe pa_nil he) hs) fun σ H RR ⟨F, W, L, env, st, ds, st', I, e, k⟩ => ?_⟩
  obtain ⟨⟨r1, st1⟩, h1, e⟩ := bind2 e
  refine ⟨F, W, L, env, st, r1, st1, I, h1, fun v H1 W1 L1 l1 I1 p1 => ?_⟩
  obtain ⟨W1', m1, J1, q1⟩ := I1.pin p1
  have q1' := J1.look q1
  rw [R.pin_d] at q1'
  cases hr : r1.d <;> rw [show ((r1, st1) : R × Sto).1.d = _ from hr] at e <;> try (cases e; done)
  obtain ⟨c, e⟩ := ifs e
  cases e
  rw [hr] at q1'
  exact ⟨_, by rw [q1'.int], c.1, c.2, k _ _ _ _ (l1.trans m1) J1 (wk_rng 0 _)⟩
noncomputable def iRng2' (a b : Sem) : SemI := fun env st => (a env st).bind fun p => (b env p.2).bind fun q => match p.1.d, q.1.d with
  | .int i, .int j => if Rg i ∧ Rg j then some (rngD i (j - i).toNat, q.2) else none
  | _, _ => none
theorem si_rng2 {p : Pos} (hg : Gl X "range") (hm : X.mg "range" = none) (ha : SE X ct x a) (hb : SE X ct y b) (he : starEach [x, y] X.env = (false, eval x X.env) :: starEach [y] X.env := by rfl) (he2 : starEach [y] X.env = (false, eval y X.env) :: starEach [] X.env := by rfl)
    (hs : starEach [x, y] X.env = [(false, eval x X.env), (false, eval y X.env)] := by rfl) (hs2 : starEach [y] X.env = [(false, eval y X.env)] := by rfl) : SI X ct tg (.Call (.Name "range" p) [x, y] [] pos) (iRng2' a b) := by
  refine ⟨pi_mono (pi_range2 hg hm (pa_cons ha.pe (pa_cons hb.pe pa_nil he2) he) hs hs2) fun σ H RR ⟨F, W, L, env, st, ds, st', I, e, k⟩ => ?_⟩
  obtain ⟨⟨r1, st1⟩, h1, e⟩ := bind2 e
  obtain ⟨⟨r2, st2⟩, h2, e⟩ := bind2 e
  refine ⟨F, W, L, env, st, r1, st1, I, h1, fun v H1 W1 L1 l1 I1 p1 => ?_⟩
  obtain ⟨W1', m1, J1, q1⟩ := I1.pin p1
  refine ⟨F, W1', L1, env, st1, r2, st2, J1, h2, fun w H2 W2 L2 l2 I2 p2 => ?_⟩
  obtain ⟨W2', m2, J2, q2⟩ := I2.pin p2
  have q1' := J2.look (q1.mono (l2.trans m2))
  have q2' := J2.look q2
  rw [R.pin_d] at q1' q2'
  cases hr : r1.d <;> rw [show ((r1, st1) : R × Sto).1.d = _ from hr] at e <;> try (cases e; done)
  cases hr2 : r2.d <;> rw [show ((r2, st2) : R × Sto).1.d = _ from hr2] at e <;> try (cases e; done)
  obtain ⟨c, e⟩ := ifs e
  cases e
  rw [hr] at q1'
  rw [hr2] at q2'
  exact ⟨_, _, by rw [q1'.int, q2'.int], ⟨c.1.1, c.1.2, c.2.1, c.2.2⟩, k _ _ _ _ (l1.trans (m1.trans (l2.trans m2))) J2 (wk_rng _ _)⟩
def enumF : Nat → List D → List D
  | _, [] => []
  | k, d :: ds => .tup [.int k, d] :: enumF (k + 1) ds
theorem enumF_len : ∀ (k : Nat) (ds : List D), (enumF k ds).length = ds.length
  | _, [] => rfl
  | k, d :: ds => congrArg (· + 1) (enumF_len (k + 1) ds)
theorem enumF_get : ∀ (k : Nat) (ds : List D) (i : Nat) (d : D), (enumF k ds)[i]? = some d → ∃ e, ds[i]? = some e ∧ d = .tup [.int ((k + i : Nat) : Int), e]
  | _, [], i, d, h => by simp [enumF] at h
  | k, e :: ds, 0, d, h => ⟨e, rfl, by simp [enumF] at h; exact h.symm⟩
  | k, e :: ds, i + 1, d, h => by
    obtain ⟨e', h1, h2⟩ := enumF_get (k + 1) ds i d (by simpa [enumF] using h)
    exact ⟨e', by simpa using h1, by rw [h2]; congr 4; omega⟩
theorem tup_new {K : PySem.W.Frag} {F H : Hp} {W : Wd} {L : Addr → Option Lab} {env : List Slot} {st : Sto} {σ : St} {ds : List D} {vs : List V} {p : Addr} (I : Rel K ct F W L env st σ H) (hp : H p = none) (r : RepL K ct W vs ds) :
    ∃ W' L', W.le W' ∧ Rel K ct F W' L' env st σ (upd H p (.tup vs)) ∧ Rep K ct W' (.ref p) (.tup ds) := by
  obtain ⟨I', _⟩ := I.laid (o := .tup vs) hp
  obtain ⟨le, J, e⟩ := I'.shareT (p := p) upd_same
  exact ⟨_, _, le, J, Rep.tup e (r.mono le)⟩
theorem wk_enum {K : PySem.W.Frag} {W0 : Wd} {l : Addr} {vs : List V} {ds : List D} (h : SqL K W0.hs l vs) (r : RepL K ct W0 vs ds) : Wk K ct (Ite K l) W0 (enumF 0 ds) := by
  intro F W L env st σ H i le I
  have hs : SqL K H l vs := sq_mono (fun a o e => (I.hs a o (le.1 a o e)).1) h
  refine ⟨fun d hd => ?_, fun hi => ⟨vs, hs, by rw [r.length]; rw [enumF_len] at hi; exact hi⟩⟩
  obtain ⟨e, he, rfl⟩ := enumF_get 0 ds i d hd
  obtain ⟨v, hv, hr⟩ := r.get he
  refine ⟨⟨vs, v, hs, hv⟩, fun x H' ⟨T, w, e1, e2, e3, e4⟩ => ?_⟩
  subst e1 e3
  have e5 := e4 vs hs
  rw [hv] at e5; cases e5
  rw [Nat.zero_add]
  exact tup_new I e2 (.cons (.int _) (.cons (hr.mono le) .nil))
def iEnum' (a : Sem) : SemI := fun env st => (a env st).bind fun p => p.1.sh?.bind fun d => d.seqL.map fun ds => (enumF 0 ds, p.2)
theorem rep_seqL {K : PySem.W.Frag} {W : Wd} {v : V} {d : D} {ds : List D} (h : Rep K ct W v d) (e : d.seqL = some ds) : ∃ a vs, v = .ref a ∧ SqL K W.hs a vs ∧ RepL K ct W vs ds := by
  cases d <;> simp only [D.seqL, Option.some.injEq, reduceCtorEq] at e
  · subst e
    cases h with
    | lst h q => exact ⟨_, _, rfl, SqL.of h, q⟩
  · subst e
    cases h with
    | scr h => exact ⟨_, _, rfl, h, RepL.of_ints _⟩
theorem si_enum {p tpos : Pos} {elts : List Expr} {kk : Nat} (hg : Gl X "enumerate") (hm : X.mg "enumerate" = none) (ha : SE X ct x a) (he : starEach [x] X.env = (false, eval x X.env) :: starEach [] X.env := by rfl) (hs : starEach [x] X.env = [(false, eval x X.env)] := by rfl) :
    SI X ct (.Tuple elts kk tpos) (.Call (.Name "enumerate" p) [x] [] pos) (iEnum' a) := by
  refine ⟨pi_mono (pi_enum hg hm (pa_cons ha.pe pa_nil he) hs) fun σ H RR ⟨F, W, L, env, st, ds, st', I, e, k⟩ => ?_⟩
  obtain ⟨⟨r1, st1⟩, h1, e⟩ := bind2 e
  obtain ⟨d, h2, e⟩ := bind2 e
  obtain ⟨ds', h3, e⟩ := map2 e
  cases e
  refine ⟨F, W, L, env, st, r1, st1, I, h1, fun v H1 W1 L1 l1 I1 p1 => ?_⟩
  obtain ⟨W1', m1, J1, q1⟩ := I1.pin p1
  rw [R.sh_pin h2] at q1
  obtain ⟨l, vs, rfl, g, q⟩ := rep_seqL q1 h3
  exact ⟨l, vs, rfl, sq_mono (fun a o e => (J1.hs a o e).1) g, k _ _ _ _ (l1.trans m1) J1 (wk_enum g q)⟩
def zipD : List D → List D → List D
  | d :: ds, e :: es => .tup [d, e] :: zipD ds es
  | _, _ => []
theorem zipD_get : ∀ (ds es : List D) (i : Nat) (d : D), (zipD ds es)[i]? = some d → ∃ a b, ds[i]? = some a ∧ es[i]? = some b ∧ d = .tup [a, b]
  | [], _, i, d, h => by simp [zipD] at h
  | _ :: _, [], i, d, h => by simp [zipD] at h
  | a :: ds, b :: es, 0, d, h => ⟨a, b, rfl, rfl, by simp [zipD] at h; exact h.symm⟩
  | a :: ds, b :: es, i + 1, d, h => by
    obtain ⟨a', b', h1, h2, h3⟩ := zipD_get ds es i d (by simpa [zipD] using h)
    exact ⟨a', b', by simpa using h1, by simpa using h2, h3⟩
theorem zipD_len : ∀ (ds es : List D) (i : Nat), (zipD ds es).length ≤ i → ds.length ≤ i ∨ es.length ≤ i
  | [], _, i, _ => .inl (Nat.zero_le _)
  | _ :: _, [], i, _ => .inr (Nat.zero_le _)
  | a :: ds, b :: es, 0, h => by simp [zipD] at h
  | a :: ds, b :: es, i + 1, h => by
    rcases zipD_len ds es i (by simpa [zipD] using h) with h | h
    · exact .inl (Nat.succ_le_succ h)
    · exact .inr (Nat.succ_le_succ h)
theorem wk_zip {K : PySem.W.Frag} {W0 : Wd} {l m : Addr} {vs ws : List V} {ds es : List D} (h : SqL K W0.hs l vs) (r : RepL K ct W0 vs ds) (h' : SqL K W0.hs m ws) (r' : RepL K ct W0 ws es) : Wk K ct (Itz K l m) W0 (zipD ds es) := by
  intro F W L env st σ H i le I
  have hs : SqL K H l vs := sq_mono (fun a o e => (I.hs a o (le.1 a o e)).1) h
  have hs' : SqL K H m ws := sq_mono (fun a o e => (I.hs a o (le.1 a o e)).1) h'
  refine ⟨fun d hd => ?_, fun hi => ⟨vs, ws, hs, hs', by rw [r.length, r'.length]; exact zipD_len _ _ _ hi⟩⟩
  obtain ⟨e, e', he, he', rfl⟩ := zipD_get ds es i d hd
  obtain ⟨v, hv, hr⟩ := r.get he
  obtain ⟨v', hv', hr'⟩ := r'.get he'
  refine ⟨⟨vs, ws, v, v', hs, hs', hv, hv'⟩, fun x H' ⟨T, w, w', e1, e2, e3, e4, e5⟩ => ?_⟩
  subst e1 e3
  have e6 := e4 vs hs
  rw [hv] at e6; cases e6
  have e7 := e5 ws hs'
  rw [hv'] at e7; cases e7
  exact tup_new I e2 (.cons (hr.mono le) (.cons (hr'.mono le) .nil))
def iZip' (a b : Sem) : SemI := fun env st => (a env st).bind fun p => p.1.sh?.bind fun d => d.seqL.bind fun ds => (b env p.2).bind fun q => q.1.sh?.bind fun e => e.seqL.map fun es => (zipD ds es, q.2)
theorem si_zip {p tpos : Pos} {elts : List Expr} {kk : Nat} (hg : Gl X "zip") (hm : X.mg "zip" = none) (ha : SE X ct x a) (hb : SE X ct y b) (he : starEach [x, y] X.env = (false, eval x X.env) :: starEach [y] X.env := by rfl) (he2 : starEach [y] X.env = (false, eval y X.env) :: starEach [] X.env := by rfl)
    (hpl : (backTo pos (starEach [y] X.env)).any (·.1) = false := by rfl) : SI X ct (.Tuple elts kk tpos) (.Call (.Name "zip" p) [x, y] [] pos) (iZip' a b) := by
  refine ⟨pi_mono (pi_zip hg hm (pa_cons ha.pe (pa_cons hb.pe pa_nil he2) he) he hpl) fun σ H RR ⟨F, W, L, env, st, ds, st', I, e, k⟩ => ?_⟩
  obtain ⟨⟨r1, st1⟩, h1, e⟩ := bind2 e
  obtain ⟨d, h2, e⟩ := bind2 e
  obtain ⟨ds', h3, e⟩ := bind2 e
  obtain ⟨⟨r2, st2⟩, h4, e⟩ := bind2 e
  obtain ⟨d2, h5, e⟩ := bind2 e
  obtain ⟨es', h6, e⟩ := map2 e
  cases e
  refine ⟨F, W, L, env, st, r1, st1, I, h1, fun v H1 W1 L1 l1 I1 p1 => ?_⟩
  obtain ⟨W1', m1, J1, q1⟩ := I1.pin p1
  rw [R.sh_pin h2] at q1
  refine ⟨F, W1', L1, env, st1, r2, _, J1, h4, fun w H2 W2 L2 l2 I2 p2 => ?_⟩
  obtain ⟨W2', m2, J2, q2⟩ := I2.pin p2
  rw [R.sh_pin h5] at q2
  have q1' := q1.mono (l2.trans m2)
  obtain ⟨l, vs, rfl, g, q⟩ := rep_seqL q1' h3
  obtain ⟨l', vs', rfl, g', q'⟩ := rep_seqL q2 h6
  have mo := fun (a : Addr) (o : HO) (e : W2'.hs a = some o) => (J2.hs a o e).1
  exact ⟨l, l', vs, vs', rfl, sq_mono mo g, sq_mono mo g', k _ _ _ _ (l1.trans (m1.trans (l2.trans m2))) J2 (wk_zip g q g' q')⟩
end
end Kn
namespace Kn
open PySem L2

section
variable {X : Cx} {ct : CT} {pos : Pos} {x y : Expr} {a b c : Sem} {es : List Expr} {as : SemA}
/-! list comprehensions -/
def wipeE (env : List Slot) : List Nat → List Slot
  | [] => env
  | v :: vs => (wipeE env vs).set v .no
theorem wipeE_len (env : List Slot) : ∀ vs, (wipeE env vs).length = env.length
  | [] => rfl
  | v :: vs => by rw [wipeE, List.length_set, wipeE_len env vs]
theorem wipeE_out {env : List Slot} {i : Nat} : ∀ {vs : List Nat}, i ∉ vs → (wipeE env vs)[i]? = env[i]?
  | [], _ => rfl
  | v :: vs, h => by
    rw [wipeE, List.getElem?_set_ne fun e => h (by rw [e]; exact List.mem_cons_self)]
    exact wipeE_out fun m => h (List.mem_cons_of_mem _ m)
theorem wipeE_in {env : List Slot} {i : Nat} {s : Slot} : ∀ {vs : List Nat}, i ∈ vs → (wipeE env vs)[i]? = some s → s = .no
  | v :: vs, h, e => by
    rw [wipeE] at e
    rcases getset e with ⟨_, e, _⟩ | ⟨hj, e⟩
    · exact e
    · rcases List.mem_cons.mp h with h | h
      · exact absurd h hj
      · exact wipeE_in h e
theorem wipe_in {σ : St} {i : Nat} : ∀ {vs : List Nat}, i ∈ vs → i < σ.length → (wipe σ vs)[i]? = some none
  | v :: vs, h, hi => by
    unfold wipe
    by_cases e : v = i
    · subst e
      rw [List.getElem?_set_self (by rw [wipe_length]; exact hi)]
    · rw [List.getElem?_set_ne e]
      rcases List.mem_cons.mp h with h | h
      · exact absurd h.symm e
      · exact wipe_in h hi
theorem wipe_again {σ σ' : St} {vs : List Nat} (hl : σ'.length = σ.length) (h : ∀ j : Nat, j ∉ vs → σ'[j]? = (wipe σ vs)[j]?) : wipe σ' vs = wipe σ vs := by
  refine List.ext_getElem? fun j => ?_
  by_cases hj : j ∈ vs
  · by_cases hi : j < σ.length
    · rw [wipe_in hj hi, wipe_in hj (by rw [hl]; exact hi)]
    · rw [List.getElem?_eq_none (by rw [wipe_length]; omega), List.getElem?_eq_none (by rw [wipe_length]; omega)]
  · rw [wipe_out hj, h j hj]
theorem Rel.wiped {K : PySem.W.Frag} {F H : Hp} {W : Wd} {L : Addr → Option Lab} {env : List Slot} {st : Sto} {σ : St} (I : Rel K ct F W L env st σ H) (vs : List Nat) : Rel K ct F W L (wipeE env vs) st (wipe σ vs) H := by
  refine ⟨I.fr, I.hs, I.tp, I.ob, I.rh, by rw [wipe_length, wipeE_len]; exact I.len, fun j s e => ?_⟩
  by_cases hj : j ∈ vs
  · rw [wipeE_in hj e]; trivial
  · rw [wipeE_out hj] at e
    exact (I.sl j s e).at' (wipe_out hj)
def Slot.okW : Slot → Bool
  | .no => true
  | .sh _ => true
  | _ => false
/-- back out of the block -/
theorem Rel.back {K : PySem.W.Frag} {F H1 H : Hp} {W W1 : Wd} {L L1 : Addr → Option Lab} {env env1 : List Slot} {st st1 : Sto} {σ σ1 : St} {F0 : Hp} {vs : List Nat} (I0 : Rel K ct F0 W L env st σ H) (le : W.le W1) (I1 : Rel K ct F W1 L1 env1 st1 σ1 H1)
    (hs : ∀ j : Nat, j ∉ vs → σ1[j]? = σ[j]?) (he : ∀ j : Nat, j ∉ vs → env1[j]? = env[j]?) (hv : ∀ j : Nat, j ∈ vs → ∀ s, env[j]? = some s → s.okW = true) : Rel K ct F W1 L1 env st1 σ H1 := by
  refine ⟨I1.fr, I1.hs, I1.tp, I1.ob, I1.rh, I0.len, fun j s e => ?_⟩
  by_cases hj : j ∈ vs
  · have h0 := I0.sl j s e
    have ok := hv j hj s e
    cases s with
    | no => trivial
    | sh d =>
      obtain ⟨v, h1, h2⟩ := h0
      exact ⟨v, h1, h2.mono le⟩
    | ow d => cases ok
    | o2 d => cases ok
    | me a d => cases ok
  · rw [← he j hj] at e
    exact (I1.sl j s e).at' (hs j hj).symm
def lcL (g : SemG) (c a : Sem) (vs : List Nat) (env : List Slot) : List D → Sto → Option (List D × Sto)
  | [], st => some ([], st)
  | d :: ds, st => (g d (wipeE env vs)).bind fun env1 => (c env1 st).bind fun p => p.1.tr.bind fun k => if k = true then (a env1 p.2).bind fun q => q.1.sh?.bind fun e => (lcL g c a vs env ds q.2).map fun r => (e :: r.1, r.2)
    else lcL g c a vs env ds p.2
def eLc (it : SemI) (vs : List Nat) (g : SemG) (c a : Sem) : Sem := fun env st => (it env st).bind fun p => if vs.all (fun j => (env[j]?.map Slot.okW).getD true) = true then (lcL g c a vs env p.1 p.2).bind fun q => if q.1.length ≤ sizeLine then some (.ow (.lst q.1), q.2) else none else none
/-- the tests of a clause -/
structure STs (X : Cx) (ct : CT) (x : List Expr) (e : Sem) : Prop where
  pts : PTs X x (tT X.K ct e)
def eYes : Sem := fun _ st => some (.sh (.bl true), st)
theorem pts_mono {x : List Expr} {t t' : TT} (h : PTs X x t) (k : ∀ σ H Q, t' σ H Q → t σ H Q) : PTs X x t' := ⟨fun pins s σ H Q I q => h.run pins s σ H Q I (k σ H Q q)⟩
theorem sts_nil : STs X ct [] eYes := ⟨pts_mono pts_nil fun σ H Q ⟨F, W, L, env, st, r, st', I, e, k⟩ => by cases e; exact k H W L (.refl W) I⟩
theorem sts_one (h : ST X ct x a) : STs X ct [x] a := ⟨pts_one h.pt⟩
theorem frame_add {K : PySem.W.Frag} {F H : Hp} {W : Wd} {L : Addr → Option Lab} {env : List Slot} {st : Sto} {σ : St} {p : Addr} {o : HO} (I : Rel K ct F W L env st σ H) (h : H p = some o) (hl : L p = none) (hw : W.hs p = none) : Rel K ct (upd F p o) W L env st σ H := by
  refine ⟨fun b u e => ?_, I.hs, I.tp, I.ob, I.rh, I.len, I.sl⟩
  by_cases hb : b = p
  · subst hb; rw [upd_same] at e; cases e; exact ⟨h, hl, hw⟩
  · rw [upd_ne hb] at e; exact I.fr b u e
theorem frame_sub {K : PySem.W.Frag} {F H : Hp} {W : Wd} {L : Addr → Option Lab} {env : List Slot} {st : Sto} {σ : St} {p : Addr} {o : HO} (I : Rel K ct (upd F p o) W L env st σ H) (hf : F p = none) : Rel K ct F W L env st σ H := by
  refine ⟨fun b u e => ?_, I.hs, I.tp, I.ob, I.rh, I.len, I.sl⟩
  have nb : b ≠ p := by rintro rfl; rw [hf] at e; cases e
  exact I.fr b u (by rw [upd_ne nb]; exact e)
/-- the frame's own list is changed -/
theorem frame_upd {K : PySem.W.Frag} {F H : Hp} {W : Wd} {L : Addr → Option Lab} {env : List Slot} {st : Sto} {σ : St} {p : Addr} {o o' : HO} (hn : ∀ xs, o ≠ .tup xs) (I : Rel K ct (upd F p o) W L env st σ H) : Rel K ct (upd F p o') W L env st σ (upd H p o') := by
  obtain ⟨h1, h2, h3⟩ := I.fr p o upd_same
  refine ⟨fun b u e => ?_, fun b u e => ?_, fun b vs e => ?_, fun g κ d e => ?_, I.rh, I.len, fun i s e => (I.sl i s e).mono (.refl W) fun b u hl hu => ⟨?_, hl⟩⟩
  · by_cases hb : b = p
    · subst hb; rw [upd_same] at e; cases e; exact ⟨upd_same, h2, h3⟩
    · rw [upd_ne hb] at e
      rw [upd_ne hb]
      exact I.fr b u (by rw [upd_ne hb]; exact e)
  · have nb : b ≠ p := by rintro rfl; rw [h3] at e; cases e
    rw [upd_ne nb]
    exact I.hs b u e
  · have g := I.tp b vs e
    rw [upd_ne (by rintro rfl; rw [h1] at g; cases g; exact hn _ rfl)]
    exact g
  · obtain ⟨v, e1, e2⟩ := I.ob g κ d e
    refine ⟨v, e1, ?_⟩
    have q : (fun b => if L b = some (.ob g) then (upd H p o') b else none) = fun b => if L b = some (.ob g) then H b else none := by
      funext b
      by_cases hb : b = p
      · subst hb; simp [h2]
      · rw [upd_ne hb]
    rw [q]; exact e2
  · have nb : b ≠ p := by rintro rfl; rw [h2] at hl; cases hl
    rw [upd_ne nb]; exact hu
theorem tE_lc {K : PySem.W.Frag} {it : SemI} {vs ts : List Nat} {g : SemG} (hts : ∀ j ∈ ts, j ∈ vs) {σ : St} {H : Hp} {Q : VK} (h : tE K ct (eLc it vs g c a) σ H Q) : tLc (tI K ct it) (tG K ct ts g) (tT K ct c) (tE K ct a) vs σ H Q := by
  obtain ⟨F, W, L, env, st, r, st', I, e, k⟩ := h
  obtain ⟨⟨ds, st1⟩, h1, e⟩ := bind2 e
  have okv : vs.all (fun j => (env[j]?.map Slot.okW).getD true) = true ∧ ((lcL g c a vs env ds st1).bind fun q => if q.1.length ≤ sizeLine then some (R.ow (.lst q.1), q.2) else none) = some (r, st') := by
    dsimp only at e
    split at e
    · exact ⟨by assumption, e⟩
    · cases e
  obtain ⟨okv, e⟩ := okv
  obtain ⟨⟨out, st2⟩, h2, e⟩ := bind2 e
  obtain ⟨hz, e⟩ := ifs e
  cases e
  have hz : out.length ≤ sizeLine := hz
  have ok : ∀ j : Nat, j ∈ vs → ∀ s, env[j]? = some s → s.okW = true := fun j hj s e => by
    have := List.all_eq_true.mp okv j hj
    rw [e] at this
    exact this
  refine ⟨F, W, L, env, st, ds, st1, I, h1, fun J H1 W1 L1 l1 I1 wk p hp => ?_⟩
  -- the new list at p
  obtain ⟨I2, n1, n2, n3⟩ := I1.laid (o := HO.lst []) hp
  have I3 := frame_add I2 (p := p) (o := HO.lst []) upd_same n1 n2
  refine ⟨fun i m H => m = ds.length - i ∧ i ≤ ds.length ∧ ∃ W2 L2 st5 acc accd rest, W1.le W2 ∧ Rel K ct (upd F p (.lst acc)) W2 L2 env st5 σ H ∧ RepL K ct W2 acc accd ∧ lcL g c a vs env (ds.drop i) st5 = some (rest, st2) ∧ accd ++ rest = out,
    ⟨_, rfl, Nat.zero_le _, W1, _, st1, [], [], out, .refl W1, I3, .nil, h2, rfl⟩, ?_⟩
  rintro i m H ⟨rfl, hi, W2, L2, st3, acc, accd, rest, l2, I4, ra, e2, eo⟩
  have wk2 := wk _ W2 L2 env st3 σ H i l2 I4
  have wk3 := wk _ W2 L2 (wipeE env vs) st3 (wipe σ vs) H i l2 (I4.wiped vs)
  by_cases hlt : i < ds.length
  · rw [List.drop_eq_getElem_cons hlt] at e2
    obtain ⟨env3, h3, e2⟩ := bind2 e2
    obtain ⟨⟨r4, st4⟩, h4, e2⟩ := bind2 e2
    obtain ⟨kb, hkb, e2⟩ := bind2 e2
    have hkb := R.tr_eq hkb
    rw [show r4 = _ from hkb] at h4
    obtain ⟨go, yl⟩ := wk3.1 ds[i] (List.getElem?_eq_getElem hlt)
    refine .inr ⟨go, fun H' => i + 1 ≤ ds.length ∧ ∃ W2 L2 st5 acc accd rest, W1.le W2 ∧ Rel K ct (upd F p (.lst acc)) W2 L2 env st5 σ H' ∧ RepL K ct W2 acc accd ∧ lcL g c a vs env (ds.drop (i + 1)) st5 = some (rest, st2) ∧ accd ++ rest = out, fun H' q => ⟨_, by omega, rfl, q⟩, fun v H' y => ?_⟩
    obtain ⟨W3, L3, l3, I5, r5⟩ := yl v H' y
    refine ⟨_, W3, L3, wipeE env vs, st3, _, env3, I5, r5, h3, fun σ3 o1 o2 I6 => ?_⟩
    have hs : ∀ j : Nat, j ∉ vs → σ3[j]? = (wipe σ vs)[j]? := fun j hj => o1.2 j fun z => hj (hts j z)
    have hs' : ∀ j : Nat, j ∉ vs → σ3[j]? = σ[j]? := fun j hj => (hs j hj).trans (wipe_out hj)
    have he : ∀ j : Nat, j ∉ vs → env3[j]? = env[j]? := fun j hj => (o2.2 j fun z => hj (hts j z)).trans (wipeE_out hj)
    refine ⟨wipe_again (by rw [o1.1, wipe_length]) hs, ?_⟩
    refine ⟨_, W3, L3, env3, st3, kb, st4, I6, h4, fun H6 W6 L6 l6 I7 => ?_⟩
    have ll := l2.trans (l3.trans l6)
    cases kb with
    | true =>
      refine iteT ?_
      have e2 : ((a env3 st4).bind fun q => q.1.sh?.bind fun e => (lcL g c a vs env (ds.drop (i + 1)) q.2).map fun r => (e :: r.1, r.2)) = some (rest, st2) := e2
      obtain ⟨⟨r7, st7⟩, h7, e2⟩ := bind2 e2
      obtain ⟨d7, h8, e2⟩ := bind2 e2
      obtain ⟨⟨rest', st8⟩, h9, e2⟩ := map2 e2
      cases e2
      refine ⟨_, W6, L6, env3, st4, r7, st7, I7, h7, fun v7 H7 W7 L7 l7 I8 p8 => ?_⟩
      obtain ⟨W8, m8, J8, q8⟩ := I8.pin p8
      rw [R.sh_pin h8] at q8
      have le := l3.trans (l6.trans (l7.trans m8))
      have hacc : H7 p = some (.lst acc) := (J8.fr p _ upd_same).1
      have I9 := Rel.back (vs := vs) I4 le J8 hs' he ok
      refine ⟨acc, hacc, ?_, hlt, W8, L7, st7, acc ++ [v7], accd ++ [d7], rest', l2.trans le, frame_upd (o := HO.lst acc) (fun xs z => nomatch z) I9, (ra.mono le).append (.cons q8 .nil), h9, ?_⟩
      · rw [ra.length]
        have := congrArg List.length eo
        rw [List.length_append, List.length_cons] at this
        omega
      · rw [← eo, List.append_assoc]; rfl
    | false =>
      refine iteF ?_
      have e2 : lcL g c a vs env (ds.drop (i + 1)) st4 = some (rest, st2) := e2
      have I9 := Rel.back (vs := vs) I4 (l3.trans l6) I7 hs' he ok
      exact ⟨hlt, W6, L6, st4, acc, accd, rest, ll, I9, ra.mono (l3.trans l6), e2, eo⟩
  · have ei : i = ds.length := by omega
    rw [ei, List.drop_length] at e2
    cases e2
    rw [List.append_nil] at eo
    subst eo
    refine .inl ⟨wk2.2 (by omega), ?_⟩
    obtain ⟨f1, f2, f3⟩ := I4.fr p _ upd_same
    exact k _ _ _ _ (l1.trans l2) (frame_sub I4 n3) ⟨p, rfl, f2, f3, n3, .lst f1 ra⟩
theorem se_lc {tg : Expr} {ifs : List Expr} {scope : Scope} {own : List (Str × Nat)} {it : SemI} {ts : List Nat} {g : SemG} (hc : X.calm = true) (hN : X.N.Nodup) (hi : SI X ct tg x it) (ok : BlkOk X.N X.env.scope scope own)
    (hg : ∀ (s : Shared) (H : Hp) (C : Addr) (cl : List (Str × Addr)) (fp : List Addr), SG (X.blk s H scope (compEnvC scope cl C X.env) fp) ct tg ts g) (ht : ∀ (s : Shared) (H : Hp) (C : Addr) (cl : List (Str × Addr)) (fp : List Addr), STs (X.blk s H scope (compEnvC scope cl C X.env) fp) ct ifs c)
    (he : ∀ (s : Shared) (H : Hp) (C : Addr) (cl : List (Str × Addr)) (fp : List Addr), SE (X.blk s H scope (compEnvC scope cl C X.env) fp) ct y a) (hts : ∀ j ∈ ts, j ∈ own.map (·.2) := by decide) (hs : ∀ z, foldedSetIterable x X.env z = pure z := by intro _; rfl) :
    SE X ct (.ListComp y [⟨tg, x, ifs, 0⟩] scope pos) (eLc it (own.map (·.2)) g c a) :=
  ⟨pe_mono (pe_lc (te := tE X.K ct a) (tt := tT X.K ct c) (g := tG X.K ct ts g) hc hN hi.pi ok (fun s H C cl fp => (hg s H C cl fp).pg) (fun s H C cl fp => (ht s H C cl fp).pts) (fun s H C cl fp => (he s H C cl fp).pe) hs) fun _ _ _ h => tE_lc hts h⟩
theorem ss_setLc (i : Nat) {n : Str} {py spos : Pos} {tg : Expr} {ifs : List Expr} {scope : Scope} {own : List (Str × Nat)} {it : SemI} {ts : List Nat} {g : SemG} (hc : X.calm = true) (hN : X.N.Nodup) (hi : SI X ct tg x it) (ok : BlkOk X.N X.env.scope scope own)
    (hg : ∀ (s : Shared) (H : Hp) (C : Addr) (cl : List (Str × Addr)) (fp : List Addr), SG (X.blk s H scope (compEnvC scope cl C X.env) fp) ct tg ts g) (ht : ∀ (s : Shared) (H : Hp) (C : Addr) (cl : List (Str × Addr)) (fp : List Addr), STs (X.blk s H scope (compEnvC scope cl C X.env) fp) ct ifs c)
    (he : ∀ (s : Shared) (H : Hp) (C : Addr) (cl : List (Str × Addr)) (fp : List Addr), SE (X.blk s H scope (compEnvC scope cl C X.env) fp) ct y a) (hy : X.N[i]? = some n := by rfl) (hyl : X.env.scope.names.lookup n = some .local := by rfl)
    (hsw : swapsWith (.ListComp y [⟨tg, x, ifs, 0⟩] scope pos) (some (.Name n py)) spos.line X.env = pure true := by exact sw_true rfl rfl rfl (by decide +kernel)) (hts : ∀ j ∈ ts, j ∈ own.map (·.2) := by decide) (hs : ∀ z, foldedSetIterable x X.env z = pure z := by intro _; rfl) :
    SS X ct (.Assign [.Name n py] (.ListComp y [⟨tg, x, ifs, 0⟩] scope pos) spos) (sSet i (eLc it (own.map (·.2)) g c a)) := by
  refine ⟨ps_mono (ps_setLc (te := tE X.K ct a) (tt := tT X.K ct c) (g := tG X.K ct ts g) hc hN hy hyl hsw hi.pi ok (fun s H C cl fp => (hg s H C cl fp).pg) (fun s H C cl fp => (ht s H C cl fp).pts) (fun s H C cl fp => (he s H C cl fp).pe) hs) fun D σ H h => ?_⟩
  exact tE_lc hts (tSm_set h)
end

/-! ### what a def promises -/
abbrev Fn := List D → Sto → Option (R × Sto)
def spD (K : PySem.W.Frag) (ct : CT) (n : Nat) (m : Fn) : Sp := fun vs H Q _ => ∃ F W L st ds r st', Rel K ct F W L [] st [] H ∧ RepL K ct W vs ds ∧ ds.length = n ∧ m ds st = some (r, st') ∧
  ∀ v H' W' L', W.le W' → Rel K ct F W' L' [] st' [] H' → RepR K ct F W' L' H' [] [] v r → Q v H'
def R.outR : R → R
  | .bw _ d => .ow d
  | r => r
/-- a body as a function; k: how many names -/
def runB (k : Nat) (f : SemS) : Fn := fun ds st => (f (ds.map .sh ++ List.replicate (k - ds.length) .no) st).bind fun p => match p.1 with
  | .nx => some (.sh .non, p.2.2)
  | .rt r => some (r.outR, p.2.2)
  | _ => none
section
variable {K : PySem.W.Frag} {ct : CT}
theorem spD_imp {n : Nat} {m m' : Fn} (h : ∀ ds st r st', ds.length = n → m' ds st = some (r, st') → m ds st = some (r, st')) : ∀ vs H Q E, spD K ct n m' vs H Q E → spD K ct n m vs H Q E := by
  rintro vs H Q E ⟨F, W, L, st, ds, r, st', I, q, hl, e, k⟩
  exact ⟨F, W, L, st, ds, r, st', I, q, hl, h _ _ _ _ hl e, k⟩
theorem rel_start {F H : Hp} {W : Wd} {L : Addr → Option Lab} {st : Sto} {vs : List V} {ds : List D} {N : List Str} (I : Rel K ct F W L [] st [] H) (q : RepL K ct W vs ds) (hN : vs.length ≤ N.length) :
    Rel K ct F W L (ds.map .sh ++ List.replicate (N.length - ds.length) .no) st (L2.start N vs) H := by
  have hl := q.length
  refine ⟨I.fr, I.hs, I.tp, I.ob, I.rh, ?_, fun i s e => ?_⟩
  · unfold L2.start
    rw [List.length_append, List.length_map, List.length_replicate, List.length_append, List.length_map, List.length_replicate, hl]
  · by_cases hi : i < ds.length
    · rw [List.getElem?_append_left (by simpa using hi), List.getElem?_map] at e
      obtain ⟨d, hd, rfl⟩ := Option.map_eq_some_iff.mp e
      obtain ⟨v, hv, hr⟩ := q.get hd
      refine ⟨v, ?_, hr⟩
      unfold L2.start
      rw [List.getElem?_append_left (by rw [List.length_map]; omega), List.getElem?_map, hv]
      rfl
    · rw [List.getElem?_append_right (by simpa using hi), List.getElem?_replicate] at e
      split at e
      · cases e; trivial
      · cases e
/-- the slots are forgotten -/
theorem rel_end {F H : Hp} {W : Wd} {L : Addr → Option Lab} {env : List Slot} {st : Sto} {σ : St} {v : V} {r : R} (I : Rel K ct F W L env st σ H) (p : RepR K ct F W L H env σ v r) :
    ∃ L', Rel K ct F W L' [] st [] H ∧ RepR K ct F W L' H [] [] v r.outR := by
  refine ⟨fun b => match L b with | some (.slot _) => none | z => z, ?_, ?_⟩
  · refine ⟨fun b u e => ?_, fun b u e => ?_, I.tp, fun g κ d e => ?_, I.rh, rfl, fun i s e => by simp at e⟩
    · obtain ⟨h1, h2, h3⟩ := I.fr b u e
      exact ⟨h1, by simp only [h2], h3⟩
    · obtain ⟨h1, h2⟩ := I.hs b u e
      exact ⟨h1, by simp only [h2]⟩
    · obtain ⟨v, h1, h2⟩ := I.ob g κ d e
      refine ⟨v, h1, ?_⟩
      have q : (fun b => if (match L b with | some (.slot _) => none | z => z) = some (Lab.ob g) then H b else none) = fun b => if L b = some (.ob g) then H b else none := by
        funext b
        cases hb : L b with
        | none => rfl
        | some l => cases l with
          | slot i => simp
          | ob g' => rfl
      rw [q]; exact h2
  · cases r with
    | sh d => exact p
    | ow d =>
      obtain ⟨a, h1, h2, h3⟩ := p
      exact ⟨a, h1, by simp only [h2], h3⟩
    | bw i d =>
      obtain ⟨h1, h2⟩ := p
      obtain ⟨a, e1, e2, c⟩ := I.sl i _ h1
      rw [h2] at e1; cases e1
      refine ⟨a, rfl, by simp only [e2], ?_, ?_, c⟩
      · cases q : W.hs a with
        | none => rfl
        | some u => have := (I.hs a u q).2; rw [e2] at this; cases this
      · cases q : F a with
        | none => rfl
        | some u => have := (I.fr a u q).2.1; rw [e2] at this; cases this
/-- THE RULE for a def: its body as a function -/
theorem fn_ok {P : Program} {w : World} {mg : Str → Option Value} {base : Heap} {name qual : Str} {st : Stmt} {f : Addr} {fd : FuncData} {N ps : List Str} {k : Nat} {b : SemS} (F : Fun K name qual st f fd) (S : FnScope N ps (defScope st))
    (hb : ∀ (cdv : Value) (A : Around) (outer : List Env) (s : Shared) (H : Hp) (E : XK), Room k (A.deeper (PyProof.Rows.envOfC qual (defScope st) s.heap.objs.size f cdv)) → SB (cxOf CX0 P w K mg base N qual (defScope st) f cdv A outer s H E).nox ct (defBody st) b) :
    FnOk P w K mg base CX0 (k + 1) f fd ps (spD K ct ps.length (runB N.length b)) := by
  refine F.ok S (fun vs H Q E h => ?_) (fun cdv A outer s H vs Q E hr h => ?_)
  · obtain ⟨F, W, L, st, ds, r, st', I, q, hl, e, k⟩ := h
    rw [q.length]; exact hl
  · obtain ⟨F, W, L, st, ds, r, st', I, q, hl, e, kk⟩ := h
    refine ⟨_, (hb cdv A outer s H E hr).pss, ?_⟩
    obtain ⟨⟨o, env', st1⟩, h1, e⟩ := bind2 e
    have hpl : ps.length ≤ N.length := by have := congrArg List.length S.pre; rw [List.length_take] at this; omega
    refine ⟨F, W, L, _, st, o, env', st1, rel_start I q (by rw [q.length, hl]; exact hpl), h1, ?_⟩
    cases o with
    | nx =>
      cases e
      intro σ' H' W' L' l I'
      obtain ⟨L2, I2, p2⟩ := rel_end I' (v := .non) (r := .sh .non) .non
      exact kk _ _ _ _ l I2 p2
    | rt r1 =>
      cases e
      intro v σ' H' W' L' l I' p
      obtain ⟨L2, I2, p2⟩ := rel_end I' p
      exact kk _ _ _ _ l I2 p2
    | bk => cases e
    | ct => cases e
end

/-! ### calls of defs -/
section
variable {X : Cx} {ct : CT} {pos : Pos} {x y : Expr} {a b c : Sem} {es : List Expr} {as : SemA}
def eCall (n : Nat) (m : Fn) (as : SemA) : Sem := fun env st => (as env st).bind fun p => (valsR p.1).bind fun ds => if ds.length = n then m ds p.2 else none
/-- the call by shared values -/
theorem call_out {K : PySem.W.Frag} {F H : Hp} {W : Wd} {L : Addr → Option Lab} {env : List Slot} {st st' : Sto} {σ : St} {vs : List V} {ds : List D} {n : Nat} {m : Fn} {r : R} {Q : VK} {E : XK} (I : Rel K ct F W L env st σ H) (q : RepL K ct W vs ds) (hl : ds.length = n) (e : m ds st = some (r, st'))
    (k : ∀ v H' W' L', W.le W' → Rel K ct F W' L' env st' σ H' → RepR K ct F W' L' H' env σ v r → Q v H') : spD K ct n m vs H Q E := by
  -- all that is no object's and not shared is the frame's
  refine ⟨fun b => match L b, W.hs b with | some (.ob _), _ => none | _, some _ => none | _, none => H b, W, fun b => match L b with | some (.ob g) => some (.ob g) | _ => none, st, ds, r, st', ?_, q, hl, e, ?_⟩
  · refine ⟨fun b u e => ?_, fun b u e => ?_, I.tp, fun g κ d e => ?_, I.rh, rfl, fun i s e => by simp at e⟩
    · cases hb : L b with
      | none =>
        cases hw : W.hs b with
        | none => simp only [hb, hw] at e; exact ⟨e, rfl, rfl⟩
        | some z => simp only [hb, hw] at e; cases e
      | some l =>
        cases l with
        | slot i =>
          cases hw : W.hs b with
          | none => simp only [hb, hw] at e; exact ⟨e, rfl, rfl⟩
          | some z => simp only [hb, hw] at e; cases e
        | ob g => simp only [hb] at e; cases e
    · obtain ⟨h1, h2⟩ := I.hs b u e
      exact ⟨h1, by simp only [h2]⟩
    · obtain ⟨v, h1, h2⟩ := I.ob g κ d e
      refine ⟨v, h1, ?_⟩
      have q : (fun b => if (match L b with | some (.ob g) => some (Lab.ob g) | _ => none) = some (Lab.ob g) then H b else none) = fun b => if L b = some (.ob g) then H b else none := by
        funext b
        cases hb : L b with
        | none => simp
        | some l => cases l with
          | slot i => simp
          | ob g' => rfl
      rw [q]; exact h2
  · intro v H' W' L' l I' p
    -- the frame's part
    have own : ∀ b i u, L b = some (.slot i) → H b = some u → H' b = some u ∧ L' b = none ∧ W'.hs b = none := fun b i u hb hu => by
      have hw : W.hs b = none := by
        cases q : W.hs b with
        | none => rfl
        | some z => have := (I.hs b z q).2; rw [hb] at this; cases this
      exact I'.fr b u (by simp only [hb, hw]; exact hu)
    refine k v H' W' (fun b => match L b, H b with | some (.slot i), some _ => some (.slot i) | _, _ => L' b) l ?_ ?_
    · have off : ∀ b, L' b = none ∨ (∀ i u, ¬ (L b = some (.slot i) ∧ H b = some u)) := fun b => by
        by_cases z : ∃ i u, L b = some (.slot i) ∧ H b = some u
        · obtain ⟨i, u, z1, z2⟩ := z
          exact .inl (own b i u z1 z2).2.1
        · exact .inr fun i u q => z ⟨i, u, q⟩
      have lab : ∀ b, (∀ i u, ¬ (L b = some (.slot i) ∧ H b = some u)) → (match L b, H b with | some (.slot i), some _ => some (Lab.slot i) | _, _ => L' b) = L' b := fun b z => by
        split
        · rename_i i u h1 h2
          exact absurd ⟨h1, h2⟩ (z i u)
        · rfl
      refine ⟨fun b u e => ?_, fun b u e => ?_, I'.tp, fun g κ d e => ?_, I'.rh, I.len, fun i s e => ?_⟩
      · obtain ⟨h1, h2, h3⟩ := I.fr b u e
        obtain ⟨g1, g2, g3⟩ := I'.fr b u (by simp only [h2, h3]; exact h1)
        exact ⟨g1, by simp only [h2]; exact g2, g3⟩
      · obtain ⟨g1, g2⟩ := I'.hs b u e
        refine ⟨g1, ?_⟩
        have z : ∀ i w, ¬ (L b = some (.slot i) ∧ H b = some w) := fun i w ⟨z1, z2⟩ => by
          rw [(own b i w z1 z2).2.2] at e; cases e
        rw [lab b z]; exact g2
      · obtain ⟨w, g1, g2⟩ := I'.ob g κ d e
        refine ⟨w, g1, ?_⟩
        have q : (fun b => if (match L b, H b with | some (.slot i), some _ => some (Lab.slot i) | _, _ => L' b) = some (Lab.ob g) then H' b else none) = fun b => if L' b = some (.ob g) then H' b else none := by
          funext b
          by_cases z : ∃ i u, L b = some (.slot i) ∧ H b = some u
          · obtain ⟨i, u, z1, z2⟩ := z
            simp only [z1, z2, (own b i u z1 z2).2.1]
            simp
          · rw [lab b fun i u q => z ⟨i, u, q⟩]
        rw [q]; exact g2
      · refine (I.sl i s e).mono l fun b u hb hu => ?_
        exact ⟨(own b i u hb hu).1, by simp only [hb, hu]⟩
    · cases r with
      | sh d => exact p
      | ow d =>
        obtain ⟨b, h1, h2, h3, h4, h5⟩ := p
        have hb : ∀ i u, ¬ (L b = some (.slot i) ∧ H b = some u) := fun i u ⟨z1, z2⟩ => by
          have hw : W.hs b = none := by
            cases q : W.hs b with
            | none => rfl
            | some z => have := (I.hs b z q).2; rw [z1] at this; cases this
          simp only [z1, hw, z2] at h4
          cases h4
        refine ⟨b, h1, ?_, h3, ?_, h5⟩
        · dsimp only
          split
          · rename_i i u z1 z2; exact absurd ⟨z1, z2⟩ (hb i u)
          · exact h2
        · cases q : F b with
          | none => rfl
          | some u =>
            obtain ⟨g1, g2, g3⟩ := I.fr b u q
            simp only [g2, g3] at h4
            rw [h4] at g1; cases g1
      | bw i d => exact absurd p.1 (by simp)
theorem tE_call {K : PySem.W.Frag} {n : Nat} {m : Fn} {E : XK} {σ : St} {H : Hp} {Q : VK} (h : tE K ct (eCall n m as) σ H Q) : tCall (spD K ct n m) [] E (tA K ct as) σ H Q := by
  obtain ⟨F, W, L, env, st, r, st', I, e, k⟩ := h
  obtain ⟨⟨rs, st1⟩, h1, e⟩ := bind2 e
  obtain ⟨ds, h2, e⟩ := bind2 e
  have hl : ds.length = n ∧ m ds st1 = some (r, st') := by
    dsimp only at e
    split at e
    · exact ⟨by assumption, e⟩
    · cases e
  refine ⟨F, W, L, env, st, rs, st1, I, h1, fun vs H1 W1 L1 l1 I1 qs => ?_⟩
  show spD K ct n m (vs ++ []) H1 Q E
  rw [List.append_nil]
  exact call_out I1 (qs.vals h2) hl.1 hl.2 fun v H' W' L' l' => k v H' W' L' (l1.trans l')
theorem se_call {k n : Nat} {f : Addr} {fd : FuncData} {ps : List Str} {m : Fn} {nm : Str} {p : Pos} (G : FnOk X.prog X.w X.K X.mg X.base CX0 k f fd ps (spD X.K ct n m)) (hr : Room k X.A) (hm : X.mg nm = some (.ref f)) (hk : PySem.W.keepIn X.K (.ref f) = true) (hb : Binds X.K fd ps []) (ha : SA X ct (x :: es) as) (hg : Gl X nm := by rfl)
    (hdb : (nm == ("__debug__" : Str)) = false := by decide) (he : starEach (x :: es) X.env = (false, eval x X.env) :: starEach es X.env := by rfl) (hpl : (backTo pos (starEach es X.env)).any (·.1) = false := by rfl) :
    SE X ct (.Call (.Name nm p) (x :: es) [] pos) (eCall n m as) := ⟨pe_mono (pe_call G hr hg hm hk hb .nil pass0 ha.pa hdb he hpl) fun _ _ _ h => tE_call h⟩
/-! flat things and tuples of such -/
mutual
def D.imm : D → Bool
  | .non | .bl _ | .int _ | .str _ => true
  | .tup ds => D.immL ds
  | _ => false
def D.immL : List D → Bool
  | [] => true
  | d :: ds => d.imm && D.immL ds
end
/-! no number of an object is in it -/
mutual
def D.nh : D → Bool
  | .hnd _ => false
  | .dic _ => false
  | .lst ds => D.nhL ds
  | .tup ds => D.nhL ds
  | .obj _ ds => D.nhL ds
  | _ => true
def D.nhL : List D → Bool
  | [] => true
  | d :: ds => d.nh && D.nhL ds
end
mutual
theorem Rep.nh {K : PySem.W.Frag} {W W' : Wd} (l : ∀ a o, W.hs a = some o → W'.hs a = some o) (l2 : ∀ a o, W.tp a = some o → W'.tp a = some o) : ∀ {v : V} {d : D}, Rep K ct W v d → d.nh = true → Rep K ct W' v d
  | _, _, .non, _ => .non
  | _, _, .bl b, _ => .bl b
  | _, _, .int i, _ => .int i
  | _, _, .str x, _ => .str x
  | _, _, .lst h r, n => .lst (l _ _ h) (RepL.nh l l2 r (by rw [D.nh] at n; exact n))
  | _, _, .tup h r, n => .tup (l2 _ _ h) (RepL.nh l l2 r (by rw [D.nh] at n; exact n))
  | _, _, .dic h _ r, n => by simp [D.nh] at n
  | _, _, .obj h c z r, n => .obj (l _ _ h) c z (RepL.nh l l2 r (by rw [D.nh] at n; exact n))
  | _, _, .hnd h, n => by simp [D.nh] at n
  | _, _, .scr h, _ => .scr (sq_mono l h)
theorem RepL.nh {K : PySem.W.Frag} {W W' : Wd} (l : ∀ a o, W.hs a = some o → W'.hs a = some o) (l2 : ∀ a o, W.tp a = some o → W'.tp a = some o) : ∀ {vs : List V} {ds : List D}, RepL K ct W vs ds → D.nhL ds = true → RepL K ct W' vs ds
  | _, _, .nil, _ => .nil
  | _, _, .cons h r, n => by
    rw [D.nhL, Bool.and_eq_true] at n
    exact .cons (Rep.nh l l2 h n.1) (RepL.nh l l2 r n.2)
end
/-- by things of one's own too, where the answer is flat and the store is not asked -/
def eCallP (n : Nat) (m : Fn) (as : SemA) : Sem := fun env st => (as env st).bind fun p => if p.1.length = n ∧ D.nhL (p.1.map R.d) = true then (m (p.1.map R.d) []).bind fun q => match q.1 with
  | .sh d => if d.imm = true then some (.sh d, p.2) else none
  | _ => none else none
theorem RepL.of_rd {K : PySem.W.Frag} {F H : Hp} {W : Wd} {L : Addr → Option Lab} {env : List Slot} {st : Sto} {σ : St} (I : Rel K ct F W L env st σ H) : ∀ {vs : List V} {rs : List R}, RdRs K ct W env σ vs rs → D.nhL (rs.map R.d) = true → RepL K ct ⟨H, W.tp, fun _ => none⟩ vs (rs.map R.d)
  | _, _, .nil, _ => .nil
  | _, _, .cons (r := r) h q, n => by
    rw [List.map_cons, D.nhL, Bool.and_eq_true] at n
    refine .cons ?_ (RepL.of_rd I q n.2)
    have le : ∀ a o, W.hs a = some o → (Wd.mk H W.tp fun _ => none).hs a = some o := fun a o e => (I.hs a o e).1
    have nd := n.1
    rcases I.look h with r | ⟨b, e, c⟩
    · exact Rep.nh le (fun _ _ e => e) r nd
    · subst e
      revert c nd
      generalize r.d = d
      intro nd c
      cases c with
      | lst g q => exact .lst g (RepL.nh le (fun _ _ e => e) q (by rw [D.nh] at nd; exact nd))
      | dic g n q => simp [D.nh] at nd
      | obj g n z q => exact .obj g n z (RepL.nh le (fun _ _ e => e) q (by rw [D.nh] at nd; exact nd))
theorem Rep.immAll_aux : True := trivial
mutual
theorem Rep.immAll {K : PySem.W.Frag} {W W' : Wd} (l : ∀ a o, W.tp a = some o → W'.tp a = some o) : ∀ {v : V} {d : D}, Rep K ct W v d → d.imm = true → Rep K ct W' v d
  | _, _, .non, _ => .non
  | _, _, .bl b, _ => .bl b
  | _, _, .int i, _ => .int i
  | _, _, .str x, _ => .str x
  | _, _, .tup h r, n => .tup (l _ _ h) (RepL.immAll l r (by rw [D.imm] at n; exact n))
  | _, _, .lst h r, n => by simp [D.imm] at n
  | _, _, .dic h _ r, n => by simp [D.imm] at n
  | _, _, .obj h c z r, n => by simp [D.imm] at n
  | _, _, .hnd h, n => by simp [D.imm] at n
  | _, _, .scr h, n => by simp [D.imm] at n
theorem RepL.immAll {K : PySem.W.Frag} {W W' : Wd} (l : ∀ a o, W.tp a = some o → W'.tp a = some o) : ∀ {vs : List V} {ds : List D}, RepL K ct W vs ds → D.immL ds = true → RepL K ct W' vs ds
  | _, _, .nil, _ => .nil
  | _, _, .cons h r, n => by
    rw [D.immL, Bool.and_eq_true] at n
    exact .cons (Rep.immAll l h n.1) (RepL.immAll l r n.2)
end
theorem tE_callP {K : PySem.W.Frag} {n : Nat} {m : Fn} {E : XK} {σ : St} {H : Hp} {Q : VK} (h : tE K ct (eCallP n m as) σ H Q) : tCall (spD K ct n m) [] E (tA K ct as) σ H Q := by
  obtain ⟨F, W, L, env, st, r, st', I, e, k⟩ := h
  obtain ⟨⟨rs, st1⟩, h1, e⟩ := bind2 e
  obtain ⟨d, stx, hl, h2, hf, e3⟩ : ∃ d stx, (rs.length = n ∧ D.nhL (rs.map R.d) = true) ∧ m (rs.map R.d) [] = some (.sh d, stx) ∧ d.imm = true ∧ (r = .sh d ∧ st' = st1) := by
    clear h1
    dsimp only at e
    split at e
    · obtain ⟨⟨r2, st2⟩, h2, e⟩ := bind2 e
      dsimp only at e
      split at e
      · split at e
        · cases e
          exact ⟨_, _, by assumption, h2, by assumption, rfl, rfl⟩
        · cases e
      · cases e
    · cases e
  obtain ⟨e3, e4⟩ := e3
  rw [e3, e4] at k
  refine ⟨F, W, L, env, st, rs, st1, I, h1, fun vs H1 W1 L1 l1 I1 qs => ?_⟩
  show spD K ct n m (vs ++ []) H1 Q E
  rw [List.append_nil]
  refine ⟨fun _ => none, ⟨H1, W1.tp, fun _ => none⟩, fun _ => none, [], rs.map R.d, .sh d, stx, ?_, RepL.of_rd I1 qs hl.2, by rw [List.length_map]; exact hl.1, h2, fun v H' W' L' l' I' p => ?_⟩
  · exact ⟨fun _ _ e => (nomatch e), fun b u e => ⟨e, rfl⟩, I1.tp, fun g κ d e => by simp at e, fun g v e => (nomatch e), rfl, fun i s e => by simp at e⟩
  · have same : ∀ b u, H1 b = some u → H' b = some u := fun b u e => (I'.hs b u (l'.1 b u e)).1
    have J := I1.grow same
    have le : W1.le ⟨W1.hs, W'.tp, W1.rho⟩ := ⟨fun _ _ e => e, l'.2, fun _ _ e => e⟩
    have J' : Rel K ct F ⟨W1.hs, W'.tp, W1.rho⟩ (fun a => if (H1 a).isSome then L1 a else none) env st1 σ H' :=
      ⟨J.fr, J.hs, I'.tp, fun g κ d e => let ⟨v, e1, e2⟩ := J.ob g κ d e; ⟨v, e1, κ.mono e2 le⟩, J.rh, J.len, fun i s e => (J.sl i s e).mono le fun a o hl ho => ⟨ho, hl⟩⟩
    exact k v H' _ _ (l1.trans le) J' (by
      have p : Rep K ct W' v d := p
      have le2 : ∀ a o, W'.tp a = some o → (Wd.mk W1.hs W'.tp W1.rho).tp a = some o := fun _ _ e => e
      exact Rep.immAll le2 p hf)
theorem se_callP {k n : Nat} {f : Addr} {fd : FuncData} {ps : List Str} {m : Fn} {nm : Str} {p : Pos} (G : FnOk X.prog X.w X.K X.mg X.base CX0 k f fd ps (spD X.K ct n m)) (hr : Room k X.A) (hm : X.mg nm = some (.ref f)) (hk : PySem.W.keepIn X.K (.ref f) = true) (hb : Binds X.K fd ps []) (ha : SA X ct (x :: es) as) (hg : Gl X nm := by rfl)
    (hdb : (nm == ("__debug__" : Str)) = false := by decide) (he : starEach (x :: es) X.env = (false, eval x X.env) :: starEach es X.env := by rfl) (hpl : (backTo pos (starEach es X.env)).any (·.1) = false := by rfl) :
    SE X ct (.Call (.Name nm p) (x :: es) [] pos) (eCallP n m as) := ⟨pe_mono (pe_call G hr hg hm hk hb .nil pass0 ha.pa hdb he hpl) fun _ _ _ h => tE_callP h⟩
end
end Kn
namespace Kn
open PySem L2

/-! a def that may be called, by its name -/
structure Cal (P : Program) (w : World) (K : PySem.W.Frag) (mg : Str → Option Value) (base : Heap) (ct : CT) (nm : Str) (k : Nat) (ps : List Str) (m : Fn) : Prop where
  ex : ∃ f fd, FnOk P w K mg base CX0 k f fd ps (spD K ct ps.length m) ∧ mg nm = some (.ref f) ∧ PySem.W.keepIn K (.ref f) = true ∧ Binds K fd ps []
theorem Cal.of {P : Program} {w : World} {K : PySem.W.Frag} {mg : Str → Option Value} {base : Heap} {ct : CT} {nm qual : Str} {k : Nat} {ps : List Str} {m : Fn} {st : Stmt} {f : Addr} {fd : FuncData} (F : Fun K nm qual st f fd) (hm : mg nm = some (.ref f)) (hb : Binds K fd ps [])
    (G : FnOk P w K mg base CX0 k f fd ps (spD K ct ps.length m)) : Cal P w K mg base ct nm k ps m := ⟨f, fd, G, hm, F.kp, hb⟩
/-- by a function that says less -/
theorem Cal.imp {P : Program} {w : World} {K : PySem.W.Frag} {mg : Str → Option Value} {base : Heap} {ct : CT} {nm : Str} {k : Nat} {ps : List Str} {m m' : Fn} (c : Cal P w K mg base ct nm k ps m) (h : ∀ ds st r st', ds.length = ps.length → m' ds st = some (r, st') → m ds st = some (r, st')) : Cal P w K mg base ct nm k ps m' := by
  obtain ⟨f, fd, G, h1, h2, h3⟩ := c.ex
  exact ⟨f, fd, G.imp (spD_imp h), h1, h2, h3⟩
section
variable {X : Cx} {ct : CT} {pos : Pos} {x : Expr} {es : List Expr} {as : SemA} {k : Nat} {ps : List Str} {m : Fn} {nm : Str} {p : Pos}
theorem sc_call (n : Nat) (c : Cal X.prog X.w X.K X.mg X.base ct nm k ps m) (hr : Room k X.A) (ha : SA X ct (x :: es) as) (hn : ps.length = n := by rfl) (hg : Gl X nm := by rfl)
    (hdb : (nm == ("__debug__" : Str)) = false := by decide) (he : starEach (x :: es) X.env = (false, eval x X.env) :: starEach es X.env := by rfl) (hpl : (backTo pos (starEach es X.env)).any (·.1) = false := by rfl) :
    SE X ct (.Call (.Name nm p) (x :: es) [] pos) (eCall n m as) := by
  subst hn
  obtain ⟨f, fd, G, h1, h2, h3⟩ := c.ex
  exact se_call G hr h1 h2 h3 ha hg hdb he hpl
theorem sc_callP (n : Nat) (c : Cal X.prog X.w X.K X.mg X.base ct nm k ps m) (hr : Room k X.A) (ha : SA X ct (x :: es) as) (hn : ps.length = n := by rfl) (hg : Gl X nm := by rfl)
    (hdb : (nm == ("__debug__" : Str)) = false := by decide) (he : starEach (x :: es) X.env = (false, eval x X.env) :: starEach es X.env := by rfl) (hpl : (backTo pos (starEach es X.env)).any (·.1) = false := by rfl) :
    SE X ct (.Call (.Name nm p) (x :: es) [] pos) (eCallP n m as) := by
  subst hn
  obtain ⟨f, fd, G, h1, h2, h3⟩ := c.ex
  exact se_callP G hr h1 h2 h3 ha hg hdb he hpl
end

/-! the law's own entry -/
def spLaw (K : PySem.W.Frag) : Sp := fun vs H Q _ => ∃ (a : Addr) (ns : List Int), vs = [.ref a] ∧ SqL K H a (ns.map V.int) ∧ ns.length ≤ 63 ∧ ∀ H', Q (.bl true) H'
theorem law_ok {P : Program} {w : World} {K : PySem.W.Frag} {mg : Str → Option Value} {base : Heap} {ct : CT} {x : Str} {k : Nat} {m : Fn} {f : Addr} {fd : FuncData} (G : FnOk P w K mg base CX0 k f fd [x] (spD K ct 1 m)) (h : ∀ ns : List Int, ns.length ≤ 63 → ∃ st', m [.scr ns] [] = some (.sh (.bl true), st')) :
    FnOk P w K mg base CX0 k f fd [x] (spLaw K) := by
  refine G.imp fun vs H Q E q => ?_
  obtain ⟨a, ns, rfl, hs, hl, q⟩ := q
  obtain ⟨st', e⟩ := h ns hl
  refine ⟨fun _ => none, ⟨H, fun _ => none, fun _ => none⟩, fun _ => none, [], [.scr ns], _, st', ?_, .cons (.scr hs) .nil, rfl, e, fun v H' W' L' l I' p => ?_⟩
  · exact ⟨fun _ _ e => (nomatch e), fun b u e => ⟨e, rfl⟩, fun _ _ e => (nomatch e), fun g κ d e => by simp at e, fun g v e => (nomatch e), rfl, fun i s e => by simp at e⟩
  · cases (show Rep K ct W' v (.bl true) from p)
    exact q H'
end Kn
namespace Kn
open PySem L2

/-! ### evaluating the functions (no program in sight) -/
theorem sSeq_nx {f g : SemS} {env st env' st'} (h : f env st = some (.nx, env', st')) : sSeq f g env st = g env' st' := by unfold sSeq; rw [h]; rfl
theorem sSeq_rt {f g : SemS} {env st env' st' r} (h : f env st = some (.rt r, env', st')) : sSeq f g env st = some (.rt r, env', st') := by unfold sSeq; rw [h]; rfl
theorem forL_nil {g f env st} : forL g f [] env st = some (.nx, env, st) := rfl
theorem forL_nx {g : SemG} {f : SemS} {d ds env env1 st env' st'} (h1 : g d env = some env1) (h : f env1 st = some (.nx, env', st')) : forL g f (d :: ds) env st = forL g f ds env' st' := by
  rw [forL, h1]; show ((f env1 st).bind _) = _; rw [h]; rfl
theorem forL_rt {g : SemG} {f : SemS} {d ds env env1 st env' st' r} (h1 : g d env = some env1) (h : f env1 st = some (.rt r, env', st')) : forL g f (d :: ds) env st = some (.rt r, env', st') := by
  rw [forL, h1]; show ((f env1 st).bind _) = _; rw [h]; rfl
/-- a loop as a fold -/
theorem forL_fold {α : Type} (E : α → List Slot) (step : α → D → α) {g : SemG} {f : SemS} {st : Sto} : ∀ {ds : List D} {a : α}, (∀ a d, d ∈ ds → ∃ env1, g d (E a) = some env1 ∧ f env1 st = some (.nx, E (step a d), st)) → forL g f ds (E a) st = some (.nx, E (ds.foldl step a), st)
  | [], _, _ => rfl
  | d :: ds, a, h => by
    obtain ⟨env1, h1, h2⟩ := h a d List.mem_cons_self
    rw [forL_nx h1 h2, List.foldl_cons]
    exact forL_fold E step fun a d hd => h a d (List.mem_cons_of_mem _ hd)
/-- a list comprehension without effects -/
theorem lcL_map {α : Type} {g : SemG} {c a : Sem} {vs : List Nat} {env : List Slot} {st : Sto} (F : α → D) (G : α → D) : ∀ {xs : List α}, (∀ x ∈ xs, ∃ env1 r, g (F x) (wipeE env vs) = some env1 ∧ c env1 st = some (.sh (.bl true), st) ∧ a env1 st = some (r, st) ∧ r.sh? = some (G x)) →
    lcL g c a vs env (xs.map F) st = some (xs.map G, st)
  | [], _ => rfl
  | x :: xs, h => by
    obtain ⟨env1, r, h1, h2, h3, h4⟩ := h x List.mem_cons_self
    have ih := lcL_map F G (xs := xs) fun y hy => h y (List.mem_cons_of_mem _ hy)
    rw [List.map_cons, lcL, h1]
    show ((c env1 st).bind _) = _
    rw [h2]
    show ((a env1 st).bind _) = _
    rw [h3]
    show (r.sh?.bind _) = _
    rw [h4]
    show (lcL g c a vs env (xs.map F) st).map _ = _
    rw [ih]; rfl
theorem eqv_int (i j : Int) : (D.int i).eq (.int j) = decide (i = j) := by unfold D.eq; simp [D.py, PyData.eqv]; exact Bool.beq_eq_decide_eq i j
theorem ok_int (i : Int) : (D.int i).ok = true := rfl
theorem ok_non : D.non.ok = true := rfl
theorem ok_bl (b : Bool) : (D.bl b).ok = true := rfl
theorem fEq_int (i j : Int) : fEq (.int i) (.int j) = some (.sh (.bl (decide (i = j)))) := by unfold fEq; rw [eqv_int]; rfl
theorem fNe_int (i j : Int) : fNe (.int i) (.int j) = some (.sh (.bl (!decide (i = j)))) := by unfold fNe; rw [eqv_int]; rfl
theorem ok_ints (ns : List Int) : (D.lst (ns.map .int)).ok = true := by
  unfold D.ok
  rw [D.py, D.pyL_eq, List.map_map]
  exact shaped_ints ns
theorem eqvAll_ints : ∀ ns ms : List Int, PyData.eqvAll (D.pyL (ns.map .int)) (D.pyL (ms.map .int)) = decide (ns = ms)
  | [], [] => rfl
  | [], _ :: _ => rfl
  | _ :: _, [] => rfl
  | n :: ns, m :: ms => by
    simp only [List.map_cons, D.pyL, PyData.eqvAll, D.py, PyData.eqv]
    rw [eqvAll_ints ns ms]
    by_cases h : n = m
    · subst h; simp
    · simp [h]
theorem eq_ints (ns ms : List Int) : (D.lst (ns.map .int)).eq (.lst (ms.map .int)) = decide (ns = ms) := by
  unfold D.eq
  rw [D.py, D.py, PyData.eqv, eqvAll_ints]
theorem fEq_ints (ns ms : List Int) : fEq (.lst (ns.map .int)) (.lst (ms.map .int)) = some (.sh (.bl (decide (ns = ms)))) := by unfold fEq; rw [eq_ints, ok_ints, ok_ints]; rfl
theorem fNe_ints (ns ms : List Int) : fNe (.lst (ns.map .int)) (.lst (ms.map .int)) = some (.sh (.bl (!decide (ns = ms)))) := by unfold fNe; rw [eq_ints, ok_ints, ok_ints]; rfl
theorem atI_map {α β : Type} (f : α → β) (xs : List α) (i : Int) : atI (xs.map f) i = (atI xs i).map f := by
  unfold atI
  rw [List.length_map]
  cases ixN xs.length i with
  | none => rfl
  | some j => show (xs.map f)[j]? = (xs[j]?).map f; rw [List.getElem?_map]
theorem kit_int_int : kitB "int" "int" = some true := by decide +kernel
theorem kit_int_bool : kitB "int" "bool" = some false := by decide +kernel
theorem kit_bool_bool : kitB "bool" "bool" = some true := by decide +kernel
theorem kit_bool_int : kitB "bool" "int" = some true := by decide +kernel
theorem kit_list_list : kitB "list" "list" = some true := by decide +kernel
theorem kit_tuple_tuple : kitB "tuple" "tuple" = some true := by decide +kernel
theorem cutG_to {α : Type} (xs : List α) (k : Nat) : cutG xs none (some (k : Int)) = xs.take k := by
  unfold cutG
  rw [HT.sIx_none, HT.sIx_nat, List.drop_zero, Nat.sub_zero]
  by_cases h : k ≤ xs.length
  · rw [Nat.min_eq_left h]
  · rw [Nat.min_eq_right (by omega), List.take_of_length_le (Nat.le_refl _)]
    exact (List.take_of_length_le (by omega)).symm

section
variable {env env' : List Slot} {st st' : Sto} {a b c : Sem} {f g : SemS} {i j n : Nat} {d : D} {as : SemA}
@[simp] theorem x_seq : sSeq f g env st = (f env st).bind fun p => match p with
  | (.nx, env', st') => g env' st'
  | q => some q := rfl
@[simp] theorem x_nil : sNil env st = some (.nx, env, st) := rfl
@[simp] theorem x_set : sSet i a env st = (a env st).bind fun p => match p.1 with
  | .sh d => some (.nx, env.set i (.sh d), p.2)
  | .ow d => some (.nx, env.set i (.ow d), p.2)
  | .bw _ _ => none := rfl
@[simp] theorem x_var : eVar i env st = match env[i]? with
  | some (.sh d) => some (.sh d, st)
  | some (.ow d) => some (.bw i d, st)
  | _ => none := rfl
@[simp] theorem x_c : eC d env st = some (.sh d, st) := rfl
@[simp] theorem x_e2 {o} : e2 o a b env st = (a env st).bind fun p => (b env p.2).bind fun q => (o p.1.d q.1.d).map fun r => (r, q.2) := rfl
@[simp] theorem x_e1 {o} : e1 o a env st = (a env st).bind fun p => (o p.1.d).map fun r => (r, p.2) := rfl
@[simp] theorem x_d1 : (R.sh d).d = d := rfl
@[simp] theorem x_d2 : (R.ow d).d = d := rfl
@[simp] theorem x_d3 : (R.bw i d).d = d := rfl
@[simp] theorem x_p1 : (R.sh d).pin = .sh d := rfl
@[simp] theorem x_p2 : (R.ow d).pin = .sh d := rfl
@[simp] theorem x_p3 : (R.bw i d).pin = .bw i d := rfl
@[simp] theorem x_s1 : (R.sh d).sh? = some d := rfl
@[simp] theorem x_s2 : (R.ow d).sh? = some d := rfl
@[simp] theorem x_o1 : (R.sh d).outR = .sh d := rfl
@[simp] theorem x_o2 : (R.ow d).outR = .ow d := rfl
@[simp] theorem x_o3 : (R.bw i d).outR = .ow d := rfl
@[simp] theorem x_if : sIf c f g env st = (c env st).bind fun p => p.1.tr.bind fun k => if k = true then f env p.2 else g env p.2 := rfl
@[simp] theorem x_tr {k : Bool} : (R.sh (.bl k)).tr = some k := rfl
@[simp] theorem x_ret : sRet a env st = (a env st).map fun p => (.rt p.1, env, p.2) := rfl
@[simp] theorem x_retN : sRetN env st = some (.rt (.sh .non), env, st) := rfl
@[simp] theorem x_ex : sEx a env st = (a env st).map fun p => (.nx, env, p.2) := rfl
@[simp] theorem x_frz : sFrz i f env st = match env[i]? with
  | some (.ow d) => f (env.set i (.sh d)) st
  | _ => f env st := rfl
@[simp] theorem x_aug {o} : sAug i o a env st = match env[i]? with
  | some (.sh d) => (a env st).bind fun p => (o d p.1.d).bind fun r => match r with
    | .sh d' => some (.nx, env.set i (.sh d'), p.2)
    | _ => none
  | _ => none := rfl
@[simp] theorem x_sub : sSub i a b env st = (b env st).bind fun p => (a env p.2).bind fun q => match p.1.pin, env[i]? with
  | .sh d, some (.ow c) => (setItm c q.1.d d).map fun c' => (.nx, env.set i (.ow c'), q.2)
  | _, _ => none := rfl
@[simp] theorem x_asg {o} : sAsg a o env st = (a env st).bind fun p => match p.1.pin with
  | .sh d => (o d env).map fun env' => (.nx, env', p.2)
  | _ => none := rfl
@[simp] theorem x_par : sPar i j as env st = (as env st).bind fun p => match p.1 with
  | [.sh d, .sh e] => some (.nx, (env.set i (.sh d)).set j (.sh e), p.2)
  | _ => none := rfl
@[simp] theorem x_mut {o} : sMut i o as env st = (as env st).bind fun p => (valsR p.1).bind fun xs => match env[i]? with
  | some (.ow (.lst ds)) => (o xs ds).map fun ds' => (.nx, env.set i (.ow (.lst ds')), p.2)
  | _ => none := rfl
@[simp] theorem x_anil : aNil env st = some ([], st) := rfl
@[simp] theorem x_acons : aCons a as env st = (a env st).bind fun p => (as env p.2).map fun q => (p.1.pin :: q.1, q.2) := rfl
@[simp] theorem x_v0 : valsR [] = some [] := rfl
@[simp] theorem x_v1 {rs} : valsR (.sh d :: rs) = (valsR rs).map fun ds => d :: ds := rfl
@[simp] theorem x_tup : eTup as env st = (as env st).bind fun p => (valsR p.1).bind fun ds => if ds.length ≤ sizeLine then some (.sh (.tup ds), p.2) else none := rfl
@[simp] theorem x_lst : eLst as env st = (as env st).bind fun p => (valsR p.1).bind fun ds => if ds.length ≤ sizeLine then some (.ow (.lst ds), p.2) else none := rfl
@[simp] theorem x_dnew : eDnew env st = some (.ow (.dic []), st) := rfl
@[simp] theorem x_call {m} : eCall n m as env st = (as env st).bind fun p => (valsR p.1).bind fun ds => if ds.length = n then m ds p.2 else none := rfl
@[simp] theorem x_for {it o} : sFor it o f env st = (it env st).bind fun p => forL o f p.1 env p.2 := rfl
@[simp] theorem x_whl : sWhl n c f env st = whL c f n env st := rfl
@[simp] theorem x_nm : gNm i d env = some (env.set i (.sh d)) := rfl
@[simp] theorem x_tp {gs} {ds} : gTp gs (.tup ds) env = gL gs ds env := rfl
@[simp] theorem x_gl0 : gL [] [] env = some env := rfl
@[simp] theorem x_gl1 {o gs ds} : gL (o :: gs) (d :: ds) env = (o d env).bind fun env' => gL gs ds env' := rfl
@[simp] theorem x_iseq : iSeq a env st = (a env st).bind fun p => p.1.sh?.bind fun d => d.seq.map fun ds => (ds, p.2) := rfl
@[simp] theorem x_seq1 {ds} : (D.lst ds).seq = some ds := rfl
@[simp] theorem x_seq2 {ds} : (D.tup ds).seq = some ds := rfl
@[simp] theorem x_seq3 {ns} : (D.scr ns).seq = some (ns.map D.int) := rfl
@[simp] theorem x_seql1 {ds} : (D.lst ds).seqL = some ds := rfl
@[simp] theorem x_seql2 {ns} : (D.scr ns).seqL = some (ns.map D.int) := rfl
@[simp] theorem x_rng1 : iRng1' a env st = (a env st).bind fun p => match p.1.d with
  | .int j => if Rg j then some (rngD 0 j.toNat, p.2) else none
  | _ => none := rfl
@[simp] theorem x_rng2 : iRng2' a b env st = (a env st).bind fun p => (b env p.2).bind fun q => match p.1.d, q.1.d with
  | .int i, .int j => if Rg i ∧ Rg j then some (rngD i (j - i).toNat, q.2) else none
  | _, _ => none := rfl
@[simp] theorem x_enum : iEnum' a env st = (a env st).bind fun p => p.1.sh?.bind fun d => d.seqL.map fun ds => (enumF 0 ds, p.2) := rfl
@[simp] theorem x_zip : iZip' a b env st = (a env st).bind fun p => p.1.sh?.bind fun d => d.seqL.bind fun ds => (b env p.2).bind fun q => q.1.sh?.bind fun e => e.seqL.map fun es => (zipD ds es, q.2) := rfl
@[simp] theorem x_slc {l h} : eSlc a l h env st = (a env st).bind fun p => (l env p.2).bind fun l => (h env l.2).bind fun h => (fSlc p.1.d l.1 h.1).map fun r => (r, h.2) := rfl
@[simp] theorem x_pno : pNo env st = some (none, st) := rfl
@[simp] theorem x_psome : pSome a env st = (a env st).bind fun p => match p.1.d with
  | .int i => some (some i, p.2)
  | _ => none := rfl
@[simp] theorem x_yes : eYes env st = some (.sh (.bl true), st) := rfl
@[simp] theorem x_lc {it vs o} : eLc it vs o c a env st = (it env st).bind fun p => if vs.all (fun j => (env[j]?.map Slot.okW).getD true) = true then (lcL o c a vs env p.1 p.2).bind fun q => if q.1.length ≤ sizeLine then some (.ow (.lst q.1), q.2) else none else none := rfl
@[simp] theorem x_and : eAnd a b env st = (a env st).bind fun p => match p.1 with
  | .sh (.bl true) => b env p.2
  | .sh (.bl false) => some (.sh (.bl false), p.2)
  | _ => none := rfl
@[simp] theorem x_or : eOr a b env st = (a env st).bind fun p => match p.1 with
  | .sh (.bl false) => b env p.2
  | .sh (.bl true) => some (.sh (.bl true), p.2)
  | _ => none := rfl
@[simp] theorem x_not : eNot a env st = (a env st).bind fun p => match p.1 with
  | .sh (.bl b) => some (.sh (.bl (!b)), p.2)
  | _ => none := rfl
@[simp] theorem x_eif : eIf c a b env st = (c env st).bind fun p => match p.1 with
  | .sh (.bl true) => a env p.2
  | .sh (.bl false) => b env p.2
  | _ => none := rfl
@[simp] theorem x_okw1 : Slot.okW .no = true := rfl
@[simp] theorem x_okw2 : Slot.okW (.sh d) = true := rfl
@[simp] theorem x_add {i j : Int} : fAdd (.int i) (.int j) = some (.sh (.int (i + j))) := rfl
@[simp] theorem x_I {o} {i j : Int} : fI o (.int i) (.int j) = (o i j).map fun k => .sh (.int k) := rfl
@[simp] theorem x_gsub {i j : Int} : gSub' i j = some (i - j) := rfl
@[simp] theorem x_C {o} {i j : Int} : fC o (.int i) (.int j) = some (.sh (.bl (o i j))) := rfl
@[simp] theorem x_eqi {i j : Int} : fEq (.int i) (.int j) = some (.sh (.bl (decide (i = j)))) := fEq_int i j
@[simp] theorem x_nei {i j : Int} : fNe (.int i) (.int j) = some (.sh (.bl (!decide (i = j)))) := fNe_int i j
@[simp] theorem x_len1 {ds : List D} : fLen (.lst ds) = some (.sh (.int ds.length)) := rfl
@[simp] theorem x_len2 {ds : List D} : fLen (.tup ds) = some (.sh (.int ds.length)) := rfl
@[simp] theorem x_len3 {ns : List Int} : fLen (.scr ns) = some (.sh (.int ns.length)) := rfl
@[simp] theorem x_len4 {kds : List (Key × D)} : fLen (.dic kds) = some (.sh (.int kds.length)) := rfl
@[simp] theorem x_idx1 {ds : List D} {i : Int} : fIdx (.lst ds) (.int i) = (atI ds i).map .sh := rfl
@[simp] theorem x_idx2 {ds : List D} {i : Int} : fIdx (.tup ds) (.int i) = (atI ds i).map .sh := rfl
@[simp] theorem x_idx3 {ns : List Int} {i : Int} : fIdx (.scr ns) (.int i) = (atI ns i).map fun n => .sh (.int n) := rfl
@[simp] theorem x_isn1 : fIsN .non = some (.sh (.bl true)) := rfl
@[simp] theorem x_isn2 {i : Int} : fIsN (.int i) = some (.sh (.bl false)) := rfl
@[simp] theorem x_isn3 {ds} : fIsN (.tup ds) = some (.sh (.bl false)) := rfl
@[simp] theorem x_isn4 {ds} : fIsN (.lst ds) = some (.sh (.bl false)) := rfl
@[simp] theorem x_ntn1 : fNotN .non = some (.sh (.bl false)) := rfl
@[simp] theorem x_ntn2 {i : Int} : fNotN (.int i) = some (.sh (.bl true)) := rfl
@[simp] theorem x_ntn3 {ds} : fNotN (.tup ds) = some (.sh (.bl true)) := rfl
@[simp] theorem x_ntn4 {ds} : fNotN (.lst ds) = some (.sh (.bl true)) := rfl
@[simp] theorem x_int1 {i : Int} : fInt (.int i) = some (.sh (.int i)) := rfl
@[simp] theorem x_int2 {k : Bool} : fInt (.bl k) = some (.sh (.int (if k then 1 else 0))) := rfl
@[simp] theorem x_isi_ii {i : Int} : fIsi "int" (.int i) = some (.sh (.bl true)) := by unfold fIsi; simp [D.ty, kit_int_int]
@[simp] theorem x_isi_bi {i : Int} : fIsi "bool" (.int i) = some (.sh (.bl false)) := by unfold fIsi; simp [D.ty, kit_int_bool]
@[simp] theorem x_isi_bb {i : Bool} : fIsi "bool" (.bl i) = some (.sh (.bl true)) := by unfold fIsi; simp [D.ty, kit_bool_bool]
@[simp] theorem x_isi_ib {i : Bool} : fIsi "int" (.bl i) = some (.sh (.bl true)) := by unfold fIsi; simp [D.ty, kit_bool_int]
@[simp] theorem x_isi_ll {ds} : fIsi "list" (.lst ds) = some (.sh (.bl true)) := by unfold fIsi; simp [D.ty, kit_list_list]
@[simp] theorem x_isi_tt {ds} : fIsi "tuple" (.tup ds) = some (.sh (.bl true)) := by unfold fIsi; simp [D.ty, kit_tuple_tuple]
@[simp] theorem x_slc1 {ds l h} : fSlc (.lst ds) l h = some (.ow (.lst (cutG ds l h))) := rfl
@[simp] theorem x_slc2 {ns : List Int} {l h} : fSlc (.scr ns) l h = some (.ow (.lst ((cutG ns l h).map .int))) := rfl
@[simp] theorem x_tofs1 {ds} : fLofs (.lst ds) = some (.ow (.lst ds)) := rfl
@[simp] theorem x_tofs2 {ds} : fLofs (.tup ds) = some (.ow (.lst ds)) := rfl
@[simp] theorem x_gmod {i j : Int} : gMod i j = if 0 < j then some (i % j) else none := rfl
@[simp] theorem x_wipe0 : wipeE env [] = env := rfl
@[simp] theorem x_wipe1 {v vs} : wipeE env (v :: vs) = (wipeE env vs).set v .no := rfl
@[simp] theorem x_app : fApp [d] ds = if ds.length < sizeLine then some (ds ++ [d]) else none := rfl
end
theorem gDiv_of {i j : Int} (h : 0 < j) (h2 : j < 2 ^ 8000) : gDiv i j = some (i / j) := by
  unfold gDiv
  rw [if_pos]
  refine ⟨h, ?_⟩
  have := PySem.Flt.log2_lt_of (n := j.natAbs) (k := 8000) (by decide) (by omega)
  omega
theorem gMul_of {i j : Int} (h1 : i.natAbs < 2 ^ 400000) (h2 : j.natAbs < 2 ^ 400000) : gMul i j = some (i * j) := by
  unfold gMul
  rw [if_pos]
  have a := PySem.Flt.log2_lt_of (k := 400000) (by decide) h1
  have b := PySem.Flt.log2_lt_of (k := 400000) (by decide) h2
  omega
/-- a loop that keeps a word -/
theorem forL_inv (P : List Slot → Prop) {g : SemG} {f : SemS} {st : Sto} : ∀ {ds : List D} {env : List Slot}, (∀ d ∈ ds, ∀ env, P env → ∃ env1 env2, g d env = some env1 ∧ f env1 st = some (.nx, env2, st) ∧ P env2) → P env → ∃ env', forL g f ds env st = some (.nx, env', st) ∧ P env'
  | [], env, _, p => ⟨env, rfl, p⟩
  | d :: ds, env, h, p => by
    obtain ⟨env1, env2, h1, h2, p2⟩ := h d List.mem_cons_self env p
    obtain ⟨env', h3, p3⟩ := forL_inv P (ds := ds) (env := env2) (fun d hd => h d (List.mem_cons_of_mem _ hd)) p2
    exact ⟨env', by rw [forL_nx h1 h2, h3], p3⟩
/-- data that may be compared, so deep at most -/
def D.okN (k : Nat) (d : D) : Prop := d.py.canLay0 = true ∧ d.py.depth ≤ k
theorem okN_ok {k : Nat} {d : D} (h : d.okN k) (hk : k ≤ 64) : d.ok = true := by
  unfold D.ok SeqAt.shaped
  rw [h.1, decide_eq_true (Nat.le_trans h.2 hk)]; rfl
theorem okN_mono {k m : Nat} {d : D} (h : d.okN k) (hk : k ≤ m) : d.okN m := ⟨h.1, Nat.le_trans h.2 hk⟩
theorem okN_int {k : Nat} (i : Int) : (D.int i).okN k := ⟨rfl, Nat.zero_le _⟩
theorem okN_non {k : Nat} : D.non.okN k := ⟨rfl, Nat.zero_le _⟩
theorem okN_bl {k : Nat} (b : Bool) : (D.bl b).okN k := ⟨rfl, Nat.zero_le _⟩
theorem okN_all {k : Nat} : ∀ {ds : List D}, (∀ d ∈ ds, d.okN k) → PyData.canLayAll0 (D.pyL ds) = true ∧ PyData.depthAll (D.pyL ds) ≤ k
  | [], _ => ⟨rfl, Nat.zero_le _⟩
  | d :: ds, h => by
    obtain ⟨h1, h2⟩ := okN_all (ds := ds) fun e he => h e (List.mem_cons_of_mem _ he)
    obtain ⟨h3, h4⟩ := h d List.mem_cons_self
    rw [D.pyL, PyData.canLayAll0, PyData.depthAll, h1, h3]
    exact ⟨rfl, Nat.max_le.mpr ⟨h4, h2⟩⟩
theorem okN_lst {k : Nat} {ds : List D} (h : ∀ d ∈ ds, d.okN k) : (D.lst ds).okN (k + 1) := by
  obtain ⟨h1, h2⟩ := okN_all h
  exact ⟨by rw [D.py, PyData.canLay0]; exact h1, by rw [D.py, PyData.depth]; omega⟩
theorem okN_tup {k : Nat} {ds : List D} (h : ∀ d ∈ ds, d.okN k) : (D.tup ds).okN (k + 1) := by
  obtain ⟨h1, h2⟩ := okN_all h
  exact ⟨by rw [D.py, PyData.canLay0]; exact h1, by rw [D.py, PyData.depth]; omega⟩
theorem maxI_eq {n m : Int} {ns : List Int} (h1 : m ∈ n :: ns) (h2 : ∀ k ∈ n :: ns, k ≤ m) : maxI n ns = m := by
  obtain ⟨s1, s2, s3⟩ := maxI_spec ns n
  have g1 : m ≤ maxI n ns := by
    rcases List.mem_cons.mp h1 with rfl | h
    · exact s2
    · exact s3 m h
  have g2 : maxI n ns ≤ m := by
    rcases s1 with s1 | s1
    · rw [s1]; exact h2 n List.mem_cons_self
    · exact h2 _ (List.mem_cons_of_mem _ s1)
  omega
theorem minI_eq {n m : Int} {ns : List Int} (h1 : m ∈ n :: ns) (h2 : ∀ k ∈ n :: ns, m ≤ k) : minI n ns = m := by
  obtain ⟨s1, s2, s3⟩ := minI_spec ns n
  have g1 : minI n ns ≤ m := by
    rcases List.mem_cons.mp h1 with rfl | h
    · exact s2
    · exact s3 m h
  have g2 : m ≤ minI n ns := by
    rcases s1 with s1 | s1
    · rw [s1]; exact h2 n List.mem_cons_self
    · exact h2 _ (List.mem_cons_of_mem _ s1)
  omega
theorem fMaxL_of {m : Int} {ns : List Int} (h1 : m ∈ ns) (h2 : ∀ k ∈ ns, k ≤ m) : fMaxL (.lst (ns.map .int)) = some (.sh (.int m)) := by
  cases ns with
  | nil => cases h1
  | cons n ns =>
    show ((intsL ((n :: ns).map D.int)).bind _) = _
    rw [intsL_map]
    show some (R.sh (.int (maxI n ns))) = _
    rw [maxI_eq h1 h2]
theorem fMinL_of {m : Int} {ns : List Int} (h1 : m ∈ ns) (h2 : ∀ k ∈ ns, m ≤ k) : fMinL (.lst (ns.map .int)) = some (.sh (.int m)) := by
  cases ns with
  | nil => cases h1
  | cons n ns =>
    show ((intsL ((n :: ns).map D.int)).bind _) = _
    rw [intsL_map]
    show some (R.sh (.int (minI n ns))) = _
    rw [minI_eq h1 h2]
theorem whL_stop {c : Sem} {f : SemS} {n : Nat} {env st st'} (h : c env st = some (.sh (.bl false), st')) : whL c f (n + 1) env st = some (.nx, env, st') := by
  rw [whL, h]; rfl
theorem whL_nx {c : Sem} {f : SemS} {n : Nat} {env st st1 env' st'} (h : c env st = some (.sh (.bl true), st1)) (h2 : f env st1 = some (.nx, env', st')) : whL c f (n + 1) env st = whL c f n env' st' := by
  rw [whL, h]; show ((f env st1).bind _) = _; rw [h2]; rfl
theorem whL_rt {c : Sem} {f : SemS} {n : Nat} {env st st1 env' st' r} (h : c env st = some (.sh (.bl true), st1)) (h2 : f env st1 = some (.rt r, env', st')) : whL c f (n + 1) env st = some (.rt r, env', st') := by
  rw [whL, h]; show ((f env st1).bind _) = _; rw [h2]; rfl
theorem rngD_eq (n : Nat) : rngD 0 n = (List.range n).map fun k => D.int ((k : Nat) : Int) := List.map_congr_left fun k _ => by rw [Int.zero_add]
theorem cutG_mid {α : Type} (xs : List α) (i k : Nat) : cutG xs (some (i : Int)) (some (k : Int)) = (xs.take k).drop i := by
  unfold cutG
  rw [HT.sIx_nat, HT.sIx_nat, List.drop_take]
  by_cases h : i ≤ xs.length
  · rw [Nat.min_eq_left h]
    by_cases h2 : k ≤ xs.length
    · rw [Nat.min_eq_left h2]
    · rw [Nat.min_eq_right (show xs.length ≤ k by omega), List.take_of_length_le (by simp), List.take_of_length_le (by simp; omega)]
  · have e1 : xs.drop i = [] := List.drop_of_length_le (by omega)
    have e2 : xs.drop (min i xs.length) = [] := List.drop_of_length_le (by omega)
    rw [e1, e2]; simp
theorem gDiv_s {i j : Int} (h : 0 < j) (h2 : j ≤ 1000) : gDiv i j = some (i / j) := by
  refine gDiv_of h ?_
  have e : (2 : Int) ^ 8000 = ((2 ^ 8000 : Nat) : Int) := (Int.natCast_pow 2 8000).symm
  have : 2 ^ 10 ≤ 2 ^ 8000 := Nat.pow_le_pow_right (by decide) (by decide)
  rw [e]
  generalize 2 ^ 8000 = z at this
  omega
@[simp] theorem x_sz {k : Nat} (h : k ≤ 1000) : k ≤ sizeLine := Nat.le_trans h (by decide)
@[simp] theorem x_sz2 {k : Nat} (h : k ≤ 1000) : k < sizeLine := Nat.lt_of_le_of_lt h (by decide)
end Kn
namespace Kn
open PySem L2

/-! ### list(range(..)), list(reversed(..)), {k: v}, reversed walks -/
section
open PySem.Spec PyProof.Rows
variable {prog : Program} {w : World} {A : Around} {s : Shared}
theorem rv_init {R : Result → Shared → Prop} {S it l : Addr} {items : Array Value} (hh : A.handled = none) (hi : s.heap.IsRevIter it l ((items.size : Int) - 1)) (hl : s.heap.IsList l items)
    (n1 : S ≠ it) (n2 : S ≠ l) (n3 : l ≠ it) (hz : items.size ≤ sizeLine) (hS : s.heap.get? S = some { cls := .type "list", data := .seq #[] })
    (hR : ∀ g tk acc' c', (∀ b o, b ≠ S → b ≠ it → s.heap.get? b = some o → g.get? b = some o) → g.get? S = some { cls := .type "list", dict := none, data := .seq acc' c', slots := #[] } →
      ItemsOf (fun j v => items[items.size - 1 - j]? = some v) acc' items.size → R (.ok (.ret .none)) { s with heap := g, toks := tk }) :
    wpAny (model prog w) A.in1 (Builtin.«list.__init__» ⟨[.ref S, .ref it], []⟩)
      (fun fin s1 => match fin with | .done f => R (.ok f) s1 | .again c1 => c1.quiet = true ∧ codeAny (model prog w) A c1 R s1) (fun e s1 => R (.error e) s1) s := by
  have W := (Walks.listRev (prog := prog) (w := w) (A := A.in1) hh it l n3 items).toS
  have nf : S ∉ [it, l] := by
    intro hm
    rcases List.mem_cons.mp hm with h | h
    · exact n1 h
    · exact n2 (List.mem_singleton.mp h)
  show wpAny _ A.in1 (do let was ← Builtin.List.listItems (.ref S); Builtin.List.listUpdate (.ref S) (fun _ => #[]); letGo was.toList.reverse; Builtin.List.listExtendWith (.ref S) (.ref it) .none) _ _ s
  refine wpAny_bind ?_
  unfold Builtin.List.listItems
  refine wpAny_bind (wpAny_seqItems hS rfl (wpAny_pure ?_))
  refine wpAny_bind (m := updateSeq S (fun _ => #[])) (wpAny_updateSeq hS rfl ?_)
  have g1 := Heap.get?_update_self (Obj.mapSeq fun _ => (#[] : Array Value)) hS rfl
  have o1 : ∀ b o, b ≠ S → s.heap.get? b = some o → (s.heap.update S (Obj.mapSeq fun _ => (#[] : Array Value))).get? b = some o := fun b o hb e => (Heap.get?_update_other _ _ (Ne.symm hb)).trans e
  refine wpAny_bind (m := letGo (#[] : Array Value).toList.reverse) (wpAny_letGo ?_)
  have hi1 : (s.heap.update S (Obj.mapSeq fun _ => (#[] : Array Value))).IsRevIter it l ((items.size : Int) - 1) := hi.at fun o e => o1 it o (Ne.symm n1) e
  have hl1 : (s.heap.update S (Obj.mapSeq fun _ => (#[] : Array Value))).IsList l items := by
    obtain ⟨o, ho, hr⟩ := hl
    exact ⟨o, o1 l o (Ne.symm n2) ho, hr⟩
  generalize s.heap.update S (Obj.mapSeq fun _ => (#[] : Array Value)) = h0 at g1 o1 hi1 hl1 ⊢
  have ty : ({ s with heap := h0 } : Shared).TypeIs (.ref it) "list_reverseiterator" := Heap.IsRevIter.typeIs (s := { s with heap := h0 }) hi1
  unfold Builtin.List.listExtendWith
  refine wpAny_bind (wpAny_typeOf ty ?_)
  rw [if_neg (by rw [show Builtin.List.listSameRef (.ref S) (.ref it) = false from by simp [Builtin.List.listSameRef, n1]]; decide)]
  refine wpAny_bind (wpAny_pyIter_revIter (s := { s with heap := h0 }) hi1 ?_)
  refine wpAny_bind (wpAny_holding ?_)
  unfold Builtin.List.listLengthHint
  refine wpAny_bind (wpAny_specialOf ty RT.nolen_lri ?_)
  refine wpAny_bind (m := specialOf (Value.ref it) (Str.ofString "__length_hint__")) (wpAny_specialOf ty RT.hint_lri ?_)
  generalize hid : ("list_reverseiterator.__length_hint__" : String) = id0
  wp_delta
  rw [show splitId id0 = some ("list_reverseiterator", "__length_hint__") from by subst hid; decide +kernel]
  subst hid
  refine wpAny_bind (wpAny_isInstance (b := true) ty (by rw [isSubtype_type]; kernel_rfl) ?_)
  refine wpAny_pure ?_
  rw [if_neg (by decide)]
  have z0 : ((items.size : Nat) : Int) - 1 - ((0 : Nat) : Int) = (items.size : Int) - 1 := by omega
  refine wpAny_pure ⟨plainId_quiet F.plain_extend_loop _, codeAny_extend_loopS W hz _ nf _ items.size 0 _ _ _ rfl (Nat.zero_le _) ⟨Nat.zero_le _, by rw [z0]; exact hi1, hl1⟩ g1 (ItemsOf.nil _) fun s2 acc' c' hm hS' hacc => ?_⟩
  rw [Moved.eq_with hm]
  refine hR s2.heap s2.toks acc' c' (fun b o b1 b2 e => hm.heap b o (fun hmem => ?_) (o1 b o b1 e)) hS' hacc
  rcases List.mem_cons.mp hmem with h | h
  · exact b1 h
  · exact b2 (List.mem_singleton.mp h)
theorem rv_list {E : Value → Shared → Prop} {Q : Value → Shared → Prop} {it l : Addr} {items : Array Value} (hh : A.handled = none) (hi : s.heap.IsRevIter it l ((items.size : Int) - 1)) (hl : s.heap.IsList l items) (n3 : l ≠ it) (hz : items.size ≤ sizeLine)
    (hQ : ∀ g tk acc' c', (∀ b o, b ≠ it → s.heap.get? b = some o → g.get? b = some o) → g.get? s.heap.objs.size = some { cls := .type "list", dict := none, data := .seq acc' c', slots := #[] } →
      ItemsOf (fun j v => items[items.size - 1 - j]? = some v) acc' items.size → Q (.ref s.heap.objs.size) { s with heap := g, toks := tk }) : wpAny (model prog w) A (call (.type "list") [.ref it]) Q E s := by
  obtain ⟨oi, hoi, _⟩ := id hi
  obtain ⟨ol, hol, _⟩ := id hl
  refine callType_codes (Q₁ := fun z s1 => z = .ref s.heap.objs.size ∧ s1 = { s with heap := s.heap.push { cls := .type "list", data := .seq #[] } }) F.called_list (F.typeCall_list_1 _) F.entry_list_init (code_list_new _ ⟨rfl, rfl⟩) fun z s1 h1 => ?_
  obtain ⟨rfl, rfl⟩ := h1
  have hS : (s.heap.push { cls := .type "list", data := .seq #[] }).get? s.heap.objs.size = some { cls := .type "list", data := .seq #[] } := Heap.get?_push_size _ rfl
  refine ⟨⟨_, hS, rfl⟩, F.args_list_init_2 _ _, rv_init (A := A.in1) (s := { s with heap := s.heap.push { cls := .type "list", data := .seq #[] } }) hh (hi.at fun o e => Heap.get?_push_of_some _ e) (hl.push _) (Nat.ne_of_gt (Heap.lt_size hoi)) (Nat.ne_of_gt (Heap.lt_size hol)) n3 hz hS fun g tk acc' c' hk hS' hacc => ?_⟩
  exact ⟨rfl, hQ g tk acc' c' (fun b o hb e => hk b o (Nat.ne_of_lt (Heap.lt_size e)) hb (Heap.get?_push_of_some _ e)) hS' hacc⟩
end
section
open PySem.Spec PyProof.Rows
def tLstRev (K : PySem.W.Frag) (te : TE) : TE := fun σ H Q => te σ H fun v H1 => ∃ (a : Addr) (xs : List V), v = .ref a ∧ SqL K H1 a xs ∧ ∀ b, H1 b = none → Q (.ref b) (upd H1 b (.lst xs.reverse))
theorem pe_lstRev {X : Cx} {e : Expr} {te : TE} {p p2 pos pos2 : Pos} (hc : X.calm = true) (hg : Gl X "list") (hm : X.mg "list" = none) (hg2 : Gl X "reversed") (hm2 : X.mg "reversed" = none) (he : PE X e te)
    (a1 : starEach [e] X.env = (false, eval e X.env) :: starEach [] X.env := by rfl)
    (a2 : starEach [.Call (.Name "reversed" p2) [e] [] pos2] X.env = (false, eval (.Call (.Name "reversed" p2) [e] [] pos2) X.env) :: starEach [] X.env := by rfl) :
    PE X (.Call (.Name "list" p) [.Call (.Name "reversed" p2) [e] [] pos2] [] pos) (tLstRev X.K te) := by
  refine ⟨fun pins s σ H Q I h => Call_ (ld_blt I hg hm boot_list (PyProof.Rows.callWith_type1 (args_cons (Call_ (ld_blt I hg2 hm2 PyProof.Rows.boot_reversed (PyProof.Rows.callWith_type1 (args_cons (thn (he.run pins s σ H _ I h) fun u s1 ⟨v, H1, I1, r1, a, xs, ev, hq, q⟩ => args_nil ?_) a1) a1 rfl))) a2) a2 rfl))⟩
  subst ev
  obtain rfl : u = Value.ref a := r1
  obtain ⟨its, rv, p1, hz⟩ := I1.list hq
  refine call_reversed_list p1.isList (args_nil ?_)
  have hl := p1.isList
  obtain ⟨ol, hol, _⟩ := id hl
  have fp := I1.fpOk (H' := H1) (b := s1.heap.objs.size) (Nat.le_refl _) (I1.hok.fresh (Nat.le_refl _))
  have I2 : Inv X pins σ H1 { s1 with heap := s1.heap.push (revObj a ((its.toArray.size : Int) - 1)) } := I1.kept (t' := s1.toks) fun b o e => Heap.get?_push_of_some _ e
  have hn : its.toArray.size ≤ sizeLine := by rw [List.size_toArray, ← rv.length]; exact hz
  refine rv_list (s := { s1 with heap := s1.heap.push (revObj a ((its.toArray.size : Int) - 1)) }) (I1.ok.hd hc) ⟨_, Heap.get?_push_size _ rfl, rfl, rfl⟩ (hl.push _) (Nat.ne_of_lt (Heap.lt_size hol)) hn fun g tk acc c' hk hS hi => ?_
  have sz := I2.hok.fresh (Nat.le_refl _)
  refine ⟨_, upd H1 _ (.lst xs.reverse), I2.turnedNew (t' := tk) (ch := [s1.heap.objs.size]) (fun b o hb e => hk b o (fun z => hb (by rw [z]; exact List.mem_singleton.mpr rfl)) e) (fun b hb => by rw [List.mem_singleton.mp hb]; exact fp) (Nat.le_refl _)
    (show ObjOk X.prog X.w _ _ _ (.lst xs.reverse) from ⟨by rw [List.length_reverse]; exact hz, acc.toList, c', RT.vals_rev rv hi, ?_⟩), ?_, q _ sz⟩
  rotate_left
  · exact rfl
  rw [Array.toArray_toList]
  exact hS
end
section
variable {X : Cx} {ct : CT} {x y : Expr} {a b : Sem} {pos p p2 pos2 : Pos} {tg : Expr}
noncomputable def eLrg (a : Sem) : Sem := fun env st => (a env st).bind fun p => match p.1.d with
  | .int j => if Rg j ∧ j ≤ 1000 then some (.ow (.lst (rngD 0 j.toNat)), p.2) else none
  | _ => none
theorem rgV_rep {K : PySem.W.Frag} {W : Wd} (j : Int) : RepL K ct W (rgV 0 j) (rngD 0 j.toNat) := by
  unfold rngD rgV
  have : ∀ l : List Nat, RepL K ct W (l.map fun k => V.int (0 + (k : Nat))) (l.map fun k => D.int (0 + (k : Nat))) := fun l => by
    induction l with
    | nil => exact .nil
    | cons k l ih => exact .cons (.int _) ih
  simpa using this (List.range j.toNat)
theorem se_lrg (hc : X.calm = true) (hg : Gl X "list") (hm : X.mg "list" = none) (hg2 : Gl X "range") (hm2 : X.mg "range" = none) (ha : SE X ct x a) (s1 : starEach [x] X.env = (false, eval x X.env) :: starEach [] X.env := by rfl)
    (s2 : starEach [.Call (.Name "range" p2) [x] [] pos2] X.env = (false, eval (.Call (.Name "range" p2) [x] [] pos2) X.env) :: starEach [] X.env := by rfl) :
    SE X ct (.Call (.Name "list" p) [.Call (.Name "range" p2) [x] [] pos2] [] pos) (eLrg a) := by
  refine ⟨pe_mono (pe_listRg hc hg hm (prg_1 hg2 hm2 ha.pe s1) s2) fun σ H Q ⟨F, W, L, env, st, r, st', I, e, k⟩ => ?_⟩
  obtain ⟨⟨r1, st1⟩, h1, e⟩ := bind2 e
  refine ⟨F, W, L, env, st, r1, st1, I, h1, fun v H1 W1 L1 l1 I1 p1 => ?_⟩
  obtain ⟨W1', m1, J1, q1⟩ := I1.pin p1
  have q1' := J1.look q1
  rw [R.pin_d] at q1'
  cases hr : r1.d <;> rw [show ((r1, st1) : R × Sto).1.d = _ from hr] at e <;> try (cases e; done)
  rename_i j
  obtain ⟨c, e⟩ := ifs e
  cases e
  rw [hr] at q1'
  refine ⟨j, q1'.int, ?_, fun q hq => fresh_out J1 hq (.lst upd_same (rgV_rep j)) fun v H' W' L' l' => k v H' W' L' (l1.trans (m1.trans l'))⟩
  exact ⟨by decide, by decide, c.1.1, c.1.2, by have := c.2; omega⟩
def fLrev : D → Option R
  | .lst ds => some (.ow (.lst ds.reverse))
  | _ => none
theorem se_lrev (hc : X.calm = true) (hg : Gl X "list") (hm : X.mg "list" = none) (hg2 : Gl X "reversed") (hm2 : X.mg "reversed" = none) (ha : SE X ct x a) (s1 : starEach [x] X.env = (false, eval x X.env) :: starEach [] X.env := by rfl)
    (s2 : starEach [.Call (.Name "reversed" p2) [x] [] pos2] X.env = (false, eval (.Call (.Name "reversed" p2) [x] [] pos2) X.env) :: starEach [] X.env := by rfl) :
    SE X ct (.Call (.Name "list" p) [.Call (.Name "reversed" p2) [x] [] pos2] [] pos) (e1 fLrev a) := by
  refine ⟨pe_mono (pe_lstRev hc hg hm hg2 hm2 ha.pe s1 s2) fun σ H Q ⟨F, W, L, env, st, r, st', I, e, k⟩ => ?_⟩
  obtain ⟨⟨r1, st1⟩, h1, e⟩ := bind2 e
  obtain ⟨r3, h3, e⟩ := map2 e
  cases e
  refine ⟨F, W, L, env, st, r1, st1, I, h1, fun v H1 W1 L1 l1 I1 p1 => ?_⟩
  obtain ⟨W1', m1, J1, q1⟩ := I1.pin p1
  have q1' := J1.look q1
  rw [R.pin_d] at q1'
  obtain ⟨ds, ed, rfl⟩ : ∃ ds, r1.d = .lst ds ∧ r = .ow (.lst ds.reverse) := by
    have h3 : fLrev r1.d = some r := h3
    unfold fLrev at h3
    split at h3 <;> cases h3
    exact ⟨_, by assumption, rfl⟩
  rw [ed] at q1'
  obtain ⟨a, vs, rfl, g, q⟩ := q1'.list J1
  exact ⟨a, vs, rfl, SqL.of g, fun b hb => fresh_out J1 hb (.lst upd_same q.reverse) fun v H' W' L' l' => k v H' W' L' (l1.trans (m1.trans l'))⟩
/-- for x in reversed(xs) -/
def iRevd (a : Sem) : SemI := fun env st => (a env st).bind fun p => p.1.sh?.bind fun d => match d with
  | .lst ds => some (ds.reverse, p.2)
  | _ => none
theorem wk_rev {K : PySem.W.Frag} {W0 : Wd} {l : Addr} {vs : List V} {ds : List D} (h : SqL K W0.hs l vs) (r : RepL K ct W0 vs ds) : Wk K ct (Itv K l vs.length) W0 ds.reverse := by
  intro F W L env st σ H i le I
  have hs : SqL K H l vs := sq_mono (fun a o e => (I.hs a o (le.1 a o e)).1) h
  refine ⟨fun d hd => ?_, fun hi => by rw [List.length_reverse, ← r.length] at hi; exact hi⟩
  have hi : i < vs.length := by
    have := (List.getElem?_eq_some_iff.mp hd).1
    rw [List.length_reverse, ← r.length] at this; exact this
  rw [List.getElem?_reverse (by rw [← r.length]; exact hi), ← r.length] at hd
  obtain ⟨v, hv, hr⟩ := r.get hd
  exact ⟨⟨hi, vs, v, hs, hv⟩, fun x H' ⟨e, y⟩ => by
    subst e
    have e2 := y vs hs
    rw [hv] at e2; cases e2
    exact ⟨W, L, .refl W, I, hr.mono le⟩⟩
theorem si_revd (hg : Gl X "reversed") (hm : X.mg "reversed" = none) (ha : SE X ct x a) (he : starEach [x] X.env = (false, eval x X.env) :: starEach [] X.env := by rfl) (hs : starEach [x] X.env = [(false, eval x X.env)] := by rfl) : SI X ct tg (.Call (.Name "reversed" p) [x] [] pos) (iRevd a) := by
  refine ⟨pi_mono (pi_reversed hg hm (pa_cons ha.pe pa_nil he) hs) fun σ H RR ⟨F, W, L, env, st, ds, st', I, e, k⟩ => ?_⟩
  obtain ⟨⟨r1, st1⟩, h1, e⟩ := bind2 e
  obtain ⟨d, h2, e⟩ := bind2 e
  cases d <;> try (cases e; done)
  cases e
  have hp := R.sh_pin h2
  refine ⟨F, W, L, env, st, r1, st1, I, h1, fun v H1 W1 L1 l1 I1 p1 => ?_⟩
  obtain ⟨W1', m1, J1, q1⟩ := I1.pin p1
  rw [hp] at q1
  have q1 : Rep X.K ct W1' v (.lst _) := q1
  cases q1 with
  | lst g q => exact ⟨_, _, rfl, SqL.of (J1.hs _ _ g).1, k _ _ _ _ (l1.trans m1) J1 (wk_rev (SqL.of g) q)⟩
/-- one that is nobody's is changed -/
theorem Rel.updFree {K : PySem.W.Frag} {F F' H : Hp} {W : Wd} {L : Addr → Option Lab} {env : List Kn.Slot} {st : Sto} {σ : St} {q : Addr} {o : HO} (I : Rel K ct F' W L env st σ H) (hF : ∀ b u, F b = some u → F' b = some u ∧ b ≠ q) (hl : L q = none) (hw : W.hs q = none) (hn : ∀ xs, H q ≠ some (.tup xs)) :
    Rel K ct F W L env st σ (upd H q o) := by
  have ne : ∀ b l, L b = some l → (upd H q o) b = H b := fun b l h => upd_ne (by rintro rfl; rw [hl] at h; cases h)
  refine ⟨fun b u e => ?_, fun b u e => ?_, fun b vs e => ?_, fun g κ x e => ?_, I.rh, I.len, fun j s e => (I.sl j s e).mono (.refl W) fun b u hb hu => ⟨by rw [ne b _ hb]; exact hu, hb⟩⟩
  · obtain ⟨e', hb⟩ := hF b u e
    obtain ⟨h1, h2, h3⟩ := I.fr b u e'
    exact ⟨by rw [upd_ne hb]; exact h1, h2, h3⟩
  · obtain ⟨h1, h2⟩ := I.hs b u e
    exact ⟨by rw [upd_ne (by rintro rfl; rw [hw] at e; cases e)]; exact h1, h2⟩
  · rw [upd_ne (by rintro rfl; exact hn _ (I.tp _ _ e))]
    exact I.tp b vs e
  · obtain ⟨v, h1, h2⟩ := I.ob g κ x e
    refine ⟨v, h1, ?_⟩
    have z : (fun b => if L b = some (.ob g) then (upd H q o) b else none) = fun b => if L b = some (.ob g) then H b else none := by
      funext b
      by_cases hb : L b = some (.ob g)
      · rw [if_pos hb, if_pos hb, ne b _ hb]
      · rw [if_neg hb, if_neg hb]
    rw [z]; exact h2
/-- one that stands aside -/
theorem Rel.aside {K : PySem.W.Frag} {F H : Hp} {W : Wd} {L : Addr → Option Lab} {env : List Kn.Slot} {st : Sto} {σ : St} {q : Addr} {o : HO} (I : Rel K ct F W L env st σ H) (hq : H q = none) :
    Rel K ct (upd F q o) W (fun a => if (H a).isSome then L a else none) env st σ (upd H q o) := by
  obtain ⟨I', h1, h2, h3⟩ := I.laid (o := o) hq
  refine ⟨fun b u e => ?_, I'.hs, I'.tp, I'.ob, I'.rh, I'.len, I'.sl⟩
  by_cases hb : b = q
  · subst hb
    rw [upd_same] at e; cases e
    exact ⟨upd_same, h1, h2⟩
  · rw [upd_ne hb] at e
    exact I'.fr b u e
/-- {k: v} -/
def eD1 (a b : Sem) : Sem := fun env st => (a env st).bind fun p => (b env p.2).bind fun q => match p.1.pin, q.1.pin with
  | .sh d, .sh d' => d.key.map fun ky => (.ow (.dic [(ky, d')]), q.2)
  | _, _ => none
theorem se_d1 (ha : SE X ct x a) (hb : SE X ct y b) : SE X ct (.Dict [some x] [y] pos) (eD1 a b) := by
  refine ⟨pe_mono (pe_disp (pps_cons ha.pe hb.pe pps_nil) rfl rfl (by simp) (by simp)) fun σ H Q ⟨F, W, L, env, st, r, st', I, e, k⟩ q hq => ?_⟩
  obtain ⟨⟨r1, st1⟩, h1, e⟩ := bind2 e
  obtain ⟨⟨r2, st2⟩, h2, e⟩ := bind2 e
  obtain ⟨d, d', hr1, hr2, e⟩ : ∃ d d', r1.pin = .sh d ∧ r2.pin = .sh d' ∧ (d.key.map fun ky => ((.ow (.dic [(ky, d')]) : R), st2)) = some (r, st') := by
    dsimp only at e
    split at e
    · rename_i d d' e1 e2
      exact ⟨d, d', e1, e2, e⟩
    · cases e
  obtain ⟨ky, hk, e⟩ := map2 e
  cases e
  have I0 := I.aside (o := .dK []) hq
  have hFq : F q = none := by
    cases z : F q with
    | none => rfl
    | some u => have := (I.fr q u z).1; rw [hq] at this; cases this
  refine ⟨_, W, _, env, st, r1, st1, I0, h1, fun v H1 W1 L1 l1 I1 p1 => ?_⟩
  obtain ⟨W1', m1, J1, q1⟩ := I1.pin p1
  rw [hr1] at q1
  refine ⟨_, W1', L1, env, st1, r2, _, J1, h2, fun w H2 W2 L2 l2 I2 p2 => ?_⟩
  obtain ⟨W2', m2, J2, q2⟩ := I2.pin p2
  rw [hr2] at q2
  have q1 : Rep X.K ct W1' v d := q1
  have q2 : Rep X.K ct W2' w d' := q2
  obtain ⟨f1, f2, f3⟩ := J2.fr q _ upd_same
  have ev : v = kV ky := Kn.D.key_v (H := H2) (.inl (q1.mono (l2.trans m2))) hk
  subst ev
  refine ⟨f1, [(ky, w)], rfl, by simp, ?_⟩
  have J3 := J2.updFree (F := F) (o := .dK (mergeK [] [(ky, w)])) (fun b u e => by
    have : b ≠ q := by rintro rfl; rw [hFq] at e; cases e
    exact ⟨by rw [upd_ne this]; exact e, this⟩) f2 f3 fun xs z => by rw [f1] at z; cases z
  exact k _ _ _ _ (l1.trans (m1.trans (l2.trans m2))) J3 ⟨q, rfl, f2, f3, hFq, .dic (kvs := [(ky, w)]) upd_same rfl (.cons q2 .nil)⟩
/-! evaluating -/
variable {env env' : List Kn.Slot} {st st' : Sto} {ds : List D}
@[simp] theorem x_lrev : fLrev (.lst ds) = some (.ow (.lst ds.reverse)) := rfl
@[simp] theorem x_lrg : eLrg a env st = (a env st).bind fun p => match p.1.d with
  | .int j => if Rg j ∧ j ≤ 1000 then some (.ow (.lst (rngD 0 j.toNat)), p.2) else none
  | _ => none := rfl
@[simp] theorem x_revd : iRevd a env st = (a env st).bind fun p => p.1.sh?.bind fun d => match d with
  | .lst ds => some (ds.reverse, p.2)
  | _ => none := rfl
@[simp] theorem x_d1e : eD1 a b env st = (a env st).bind fun p => (b env p.2).bind fun q => match p.1.pin, q.1.pin with
  | .sh d, .sh d' => d.key.map fun ky => (.ow (.dic [(ky, d')]), q.2)
  | _, _ => none := rfl
@[simp] theorem x_key1 {i : Int} : (D.int i).key = some (.inl i) := rfl
end
end Kn
namespace Kn
open PySem L2

/-! ### plain lemmas -/
/-- a loop's turns, each to its end -/
inductive Runs (g : SemG) (f : SemS) (st : Sto) : List D → List Slot → List Slot → Prop
  | nil {env : List Slot} : Runs g f st [] env env
  | cons {d : D} {ds : List D} {env env1 env2 env' : List Slot} : g d env = some env1 → f env1 st = some (.nx, env2, st) → Runs g f st ds env2 env' → Runs g f st (d :: ds) env env'
theorem Runs.forL {g : SemG} {f : SemS} {st : Sto} {ds : List D} {env env' : List Slot} (h : Runs g f st ds env env') : Kn.forL g f ds env st = some (.nx, env', st) := by
  induction h with
  | nil => rfl
  | cons h1 h2 _ ih => rw [forL_nx h1 h2, ih]
theorem Runs.app {g : SemG} {f : SemS} {st : Sto} {ds es : List D} {env env' env2 : List Slot} (h : Runs g f st ds env env') (k : Runs g f st es env' env2) : Runs g f st (ds ++ es) env env2 := by
  induction h with
  | nil => exact k
  | cons h1 h2 _ ih => exact .cons h1 h2 (ih k)
/-- a loop that keeps a word of what was done -/
theorem forL_rel {α β : Type} (P : α → List Slot → Prop) (step : α → β → α) (F : β → D) {g : SemG} {f : SemS} {st : Sto} : ∀ {xs : List β} {a : α} {env : List Slot}, P a env → (∀ a x env, x ∈ xs → P a env → ∃ env1 env2, g (F x) env = some env1 ∧ f env1 st = some (.nx, env2, st) ∧ P (step a x) env2) →
    ∃ env', forL g f (xs.map F) env st = some (.nx, env', st) ∧ P (xs.foldl step a) env'
  | [], a, env, p, _ => ⟨env, rfl, p⟩
  | x :: xs, a, env, p, h => by
    obtain ⟨env1, env2, h1, h2, p2⟩ := h a x env List.mem_cons_self p
    obtain ⟨env', h3, p3⟩ := forL_rel P step F (xs := xs) p2 fun a y env hy => h a y env (List.mem_cons_of_mem _ hy)
    exact ⟨env', by rw [List.map_cons, forL_nx h1 h2, h3], p3⟩
def nI (k : Nat) : D := .int (k : Nat)
theorem atI_map_nat {α : Type} (F : α → D) {l : List α} {i : Nat} (z : α) (h : i < l.length) : atI (l.map F) (i : Int) = some (F (l.getD i z)) := by
  rw [atI_map, atI_nat (List.getElem?_eq_getElem h), List.getD_eq_getElem?_getD, List.getElem?_eq_getElem h]; rfl
theorem ixN_nat {n i : Nat} (h : i < n) : ixN n (i : Int) = some i := by
  unfold ixN
  simp; omega
theorem setItm_map {α : Type} (F : α → D) {l : List α} {i : Nat} {z : α} (h : i < l.length) : setItm (.lst (l.map F)) (.int (i : Nat)) (F z) = some (.lst ((l.set i z).map F)) := by
  show ((ixN (l.map F).length (i : Int)).map _) = _
  rw [List.length_map, ixN_nat h, List.map_set]; rfl
theorem any_ints (S : List Int) (x : Int) : (S.map D.int).any (fun z => z.eq (.int x)) = decide (x ∈ S) := by
  rw [List.any_map, Bool.eq_iff_iff, List.any_eq_true, decide_eq_true_eq]
  constructor
  · rintro ⟨k, hk, e⟩
    have e : (D.int k).eq (.int x) = true := e
    rw [eqv_int] at e
    rw [← of_decide_eq_true e]; exact hk
  · intro h
    exact ⟨x, h, by show (D.int x).eq (.int x) = true; rw [eqv_int]; exact decide_eq_true rfl⟩
theorem any_nats (S : List Nat) (x : Nat) : (S.map nI).any (fun z => z.eq (.int (x : Nat))) = decide (x ∈ S) := by
  have e : S.map nI = (S.map fun (k : Nat) => (k : Int)).map D.int := by rw [List.map_map]; rfl
  rw [e, any_ints]
  refine decide_eq_decide.mpr ⟨fun h => ?_, fun h => List.mem_map.mpr ⟨x, h, rfl⟩⟩
  obtain ⟨k, hk, e⟩ := List.mem_map.mp h
  have : k = x := by omega
  rw [← this]; exact hk
theorem ok_nats (S : List Nat) : (D.lst (S.map nI)).ok = true := by
  have e : S.map nI = (S.map fun (k : Nat) => (k : Int)).map D.int := by rw [List.map_map]; rfl
  rw [e]; exact ok_ints _
theorem fInB_nats (S : List Nat) (x : Nat) : fInB (.int (x : Nat)) (.lst (S.map nI)) = some (decide (x ∈ S)) := by
  unfold fInB
  simp only [ok_nats, ok_int, and_self, if_true, any_nats]
theorem fIn_nats (S : List Nat) (x : Nat) : fIn (.int (x : Nat)) (.lst (S.map nI)) = some (.sh (.bl (decide (x ∈ S)))) := by unfold fIn; rw [fInB_nats]; rfl
theorem fNin_nats (S : List Nat) (x : Nat) : fNin (.int (x : Nat)) (.lst (S.map nI)) = some (.sh (.bl (!decide (x ∈ S)))) := by unfold fNin; rw [fInB_nats]; rfl
theorem flat_int (i : Int) : (D.int i).flat = true := rfl
theorem fInB_tnats (S : List Nat) (x : Nat) : fInB (.int (x : Nat)) (.tup (S.map nI)) = some (decide (x ∈ S)) := by
  unfold fInB
  have : (S.map nI).all D.flat = true := by rw [List.all_map, List.all_eq_true]; intro k _; rfl
  simp only [this, flat_int, and_self, if_true, any_nats]
theorem fNin_tnats (S : List Nat) (x : Nat) : fNin (.int (x : Nat)) (.tup (S.map nI)) = some (.sh (.bl (!decide (x ∈ S)))) := by unfold fNin; rw [fInB_tnats]; rfl
theorem fIn_tnats (S : List Nat) (x : Nat) : fIn (.int (x : Nat)) (.tup (S.map nI)) = some (.sh (.bl (decide (x ∈ S)))) := by unfold fIn; rw [fInB_tnats]; rfl
/-- dicts by whole numbers -/
def dN {α : Type} (F : α → D) (C : List (Nat × α)) : List (Key × D) := C.map fun p => (Sum.inl (p.1 : Int), F p.2)
theorem valD_dN {α : Type} (F : α → D) (x : Nat) : ∀ C : List (Nat × α), valD (dN F C) (Sum.inl (x : Int)) = (C.find? fun p => decide (p.1 = x)).map fun p => F p.2
  | [] => rfl
  | (k, v) :: C => by
    unfold valD dN
    rw [List.map_cons, List.find?_cons, List.find?_cons]
    by_cases h : k = x
    · subst h; simp
    · have h1 : ¬ ((k : Int) = (x : Int)) := by omega
      have h2 : ¬ ((Sum.inl (k : Int) : Key) = Sum.inl (x : Int)) := fun q => h1 (Sum.inl.inj q)
      simp only [h, h2, decide_false]
      exact valD_dN F x C
theorem find_key {α : Type} (x : Nat) (C : List (Nat × α)) : (C.find? fun p => decide (p.1 = x)).isSome = decide (x ∈ C.map (·.1)) := by
  rw [Bool.eq_iff_iff, List.find?_isSome, decide_eq_true_eq]
  constructor
  · rintro ⟨p, hp, e⟩
    exact List.mem_map.mpr ⟨p, hp, of_decide_eq_true e⟩
  · intro h
    obtain ⟨p, hp, e⟩ := List.mem_map.mp h
    exact ⟨p, hp, decide_eq_true e⟩
theorem fNin_dN {α : Type} (F : α → D) (x : Nat) (C : List (Nat × α)) : fNin (.int (x : Nat)) (.dic (dN F C)) = some (.sh (.bl (!decide (x ∈ C.map (·.1))))) := by
  unfold fNin fInB
  show some (R.sh (.bl (!(valD (dN F C) (Sum.inl (x : Int))).isSome))) = _
  rw [valD_dN, Option.isSome_map, find_key]
theorem fIn_dN {α : Type} (F : α → D) (x : Nat) (C : List (Nat × α)) : fIn (.int (x : Nat)) (.dic (dN F C)) = some (.sh (.bl (decide (x ∈ C.map (·.1))))) := by
  unfold fIn fInB
  show some (R.sh (.bl ((valD (dN F C) (Sum.inl (x : Int))).isSome))) = _
  rw [valD_dN, Option.isSome_map, find_key]
theorem find_at {α : Type} {x : Nat} {v : α} : ∀ {C : List (Nat × α)}, (C.map (·.1)).Nodup → (x, v) ∈ C → (C.find? fun p => decide (p.1 = x)) = some (x, v)
  | [], _, h => by cases h
  | (k, u) :: C, n, h => by
    rw [List.map_cons, List.nodup_cons] at n
    rw [List.find?_cons]
    rcases List.mem_cons.mp h with h | h
    · cases h; simp
    · have : k ≠ x := fun e => n.1 (by rw [e]; exact List.mem_map.mpr ⟨_, h, rfl⟩)
      simp only [this, decide_false]
      exact find_at n.2 h
theorem fIdx_dN {α : Type} (F : α → D) {x : Nat} {v : α} {C : List (Nat × α)} (n : (C.map (·.1)).Nodup) (h : (x, v) ∈ C) : fIdx (.dic (dN F C)) (.int (x : Nat)) = some (.sh (F v)) := by
  show (((D.int (x : Nat)).key.bind fun k => (valD (dN F C) k).map R.sh)) = _
  show (valD (dN F C) (Sum.inl (x : Int))).map R.sh = _
  rw [valD_dN, find_at n h]; rfl
theorem putD_new {α : Type} (F : α → D) {x : Nat} {v : α} {C : List (Nat × α)} (h : x ∉ C.map (·.1)) (hz : C.length < sizeLine) : setItm (.dic (dN F C)) (.int (x : Nat)) (F v) = some (.dic (dN F (C ++ [(x, v)]))) := by
  show (if (dN F C).length < sizeLine then some (D.dic (putD (dN F C) (Sum.inl (x : Int)) (F v))) else none) = _
  rw [if_pos (by unfold dN; rw [List.length_map]; exact hz)]
  unfold putD
  rw [valD_dN, Option.isSome_map, find_key, if_neg (by simp only [decide_eq_true_eq]; exact h)]
  unfold dN; rw [List.map_append]; rfl
section
variable {d : D} {i j k : Int} {f g : D → D → Option R} {a b c : Sem} {env : List Slot} {st : Sto} {n : Nat} {m : Fn} {as : SemA} {ds : List D}
@[simp] theorem x_neg : fNeg (.int i) = some (.sh (.int (-i))) := rfl
@[simp] theorem x_chain : eChain f g a b c env st = (a env st).bind fun p => (b env p.2).bind fun q => (f p.1.d q.1.d).bind fun r => match r with
  | .sh (.bl true) => (c env q.2).bind fun u => (g q.1.d u.1.d).map fun r => (r, u.2)
  | .sh (.bl false) => some (.sh (.bl false), q.2)
  | _ => none := rfl
@[simp] theorem x_callp : eCallP n m as env st = (as env st).bind fun p => if p.1.length = n ∧ D.nhL (p.1.map R.d) = true then (m (p.1.map R.d) []).bind fun q => match q.1 with
  | .sh d => if d.imm = true then some (.sh d, p.2) else none
  | _ => none else none := rfl
@[simp] theorem x_clr : fClr [] ds = some [] := rfl
@[simp] theorem x_pop : fPop [] ds = if ds ≠ [] then some ds.dropLast else none := rfl
end
/-! ### equality of plain data -/
mutual
def D.pl : D → Bool
  | .non => true
  | .int _ => true
  | .lst ds => D.plL ds
  | .tup ds => D.plL ds
  | _ => false
def D.plL : List D → Bool
  | [] => true
  | d :: ds => d.pl && D.plL ds
end
mutual
theorem eq_pl : ∀ {d e : D}, d.pl = true → e.pl = true → (PyData.eqv d.py e.py = true ↔ d = e)
  | .non, .non, _, _ => by simp [D.py, PyData.eqv]
  | .non, .int _, _, _ => by simp [D.py, PyData.eqv]
  | .non, .lst _, _, _ => by simp [D.py, PyData.eqv]
  | .non, .tup _, _, _ => by simp [D.py, PyData.eqv]
  | .int _, .non, _, _ => by simp [D.py, PyData.eqv]
  | .int _, .int _, _, _ => by simp [D.py, PyData.eqv]
  | .int _, .lst _, _, _ => by simp [D.py, PyData.eqv]
  | .int _, .tup _, _, _ => by simp [D.py, PyData.eqv]
  | .lst _, .non, _, _ => by simp [D.py, PyData.eqv]
  | .lst _, .int _, _, _ => by simp [D.py, PyData.eqv]
  | .lst ds, .lst es, h, k => by
    rw [D.pl] at h k
    rw [D.py, D.py, PyData.eqv, eqL_pl h k]; simp
  | .lst _, .tup _, _, _ => by simp [D.py, PyData.eqv]
  | .tup _, .non, _, _ => by simp [D.py, PyData.eqv]
  | .tup _, .int _, _, _ => by simp [D.py, PyData.eqv]
  | .tup _, .lst _, _, _ => by simp [D.py, PyData.eqv]
  | .tup ds, .tup es, h, k => by
    rw [D.pl] at h k
    rw [D.py, D.py, PyData.eqv, eqL_pl h k]; simp
theorem eqL_pl : ∀ {ds es : List D}, D.plL ds = true → D.plL es = true → (PyData.eqvAll (D.pyL ds) (D.pyL es) = true ↔ ds = es)
  | [], [], _, _ => by simp [D.pyL, PyData.eqvAll]
  | [], _ :: _, _, _ => by simp [D.pyL, PyData.eqvAll]
  | _ :: _, [], _, _ => by simp [D.pyL, PyData.eqvAll]
  | d :: ds, e :: es, h, k => by
    rw [D.plL, Bool.and_eq_true] at h k
    rw [D.pyL, D.pyL, PyData.eqvAll, Bool.and_eq_true, eq_pl h.1 k.1, eqL_pl h.2 k.2]; simp
end
theorem plL_all {ds : List D} (h : ∀ d ∈ ds, d.pl = true) : D.plL ds = true := by
  induction ds with
  | nil => rfl
  | cons d ds ih => rw [D.plL, h d List.mem_cons_self, ih fun e he => h e (List.mem_cons_of_mem _ he)]; rfl
theorem plL_mem {ds : List D} (h : D.plL ds = true) : ∀ d ∈ ds, d.pl = true := by
  induction ds with
  | nil => intro d hd; cases hd
  | cons d ds ih =>
    rw [D.plL, Bool.and_eq_true] at h
    intro e he
    rcases List.mem_cons.mp he with rfl | he
    · exact h.1
    · exact ih h.2 e he
/-- plain, so deep at most -/
structure D.Pn (k : Nat) (d : D) : Prop where
  pl : d.pl = true
  ok : d.okN k
theorem Pn_int {k : Nat} (i : Int) : (D.int i).Pn k := ⟨rfl, okN_int i⟩
theorem Pn_non {k : Nat} : D.non.Pn k := ⟨rfl, okN_non⟩
theorem Pn_lst {k : Nat} {ds : List D} (h : ∀ d ∈ ds, d.Pn k) : (D.lst ds).Pn (k + 1) := ⟨by rw [D.pl]; exact plL_all fun d hd => (h d hd).pl, okN_lst fun d hd => (h d hd).ok⟩
theorem Pn_tup {k : Nat} {ds : List D} (h : ∀ d ∈ ds, d.Pn k) : (D.tup ds).Pn (k + 1) := ⟨by rw [D.pl]; exact plL_all fun d hd => (h d hd).pl, okN_tup fun d hd => (h d hd).ok⟩
theorem Pn_mono {k m : Nat} {d : D} (h : d.Pn k) (hk : k ≤ m) : d.Pn m := ⟨h.pl, okN_mono h.ok hk⟩
theorem eq_Pn {k m : Nat} {d e : D} (h : d.Pn k) (h' : e.Pn m) [Decidable (d = e)] : d.eq e = decide (d = e) := by
  rw [Bool.eq_iff_iff, decide_eq_true_eq]
  exact eq_pl h.pl h'.pl
theorem fEq_Pn {k m : Nat} {d e : D} (h : d.Pn k) (h' : e.Pn m) (hk : k ≤ 64) (hm : m ≤ 64) [Decidable (d = e)] : fEq d e = some (.sh (.bl (decide (d = e)))) := by
  unfold fEq
  rw [okN_ok h.ok hk, okN_ok h'.ok hm, eq_Pn h h']; rfl
theorem fNe_Pn {k m : Nat} {d e : D} (h : d.Pn k) (h' : e.Pn m) (hk : k ≤ 64) (hm : m ≤ 64) [Decidable (d = e)] : fNe d e = some (.sh (.bl (!decide (d = e)))) := by
  unfold fNe
  rw [okN_ok h.ok hk, okN_ok h'.ok hm, eq_Pn h h']; rfl
theorem fEq_self {k : Nat} {d : D} (h : d.Pn k) (hk : k ≤ 64) : fEq d d = some (.sh (.bl true)) := by
  have : Decidable (d = d) := .isTrue rfl
  rw [fEq_Pn h h hk hk]; simp
theorem fNe_self {k : Nat} {d : D} (h : d.Pn k) (hk : k ≤ 64) : fNe d d = some (.sh (.bl false)) := by
  have : Decidable (d = d) := .isTrue rfl
  rw [fNe_Pn h h hk hk]; simp
theorem nhL_all {ds : List D} (h : ∀ d ∈ ds, d.nh = true) : D.nhL ds = true := by
  induction ds with
  | nil => rfl
  | cons d ds ih => rw [D.nhL, h d List.mem_cons_self, ih fun e he => h e (List.mem_cons_of_mem _ he)]; rfl
mutual
theorem nh_pl : ∀ {d : D}, d.pl = true → d.nh = true
  | .non, _ => rfl
  | .int _, _ => rfl
  | .lst _, h => by rw [D.pl] at h; rw [D.nh]; exact nhL_pl h
  | .tup _, h => by rw [D.pl] at h; rw [D.nh]; exact nhL_pl h
theorem nhL_pl : ∀ {ds : List D}, D.plL ds = true → D.nhL ds = true
  | [], _ => rfl
  | d :: ds, h => by
    rw [D.plL, Bool.and_eq_true] at h
    rw [D.nhL, nh_pl h.1, nhL_pl h.2]; rfl
end
theorem gMul_s {i j : Int} (h1 : i.natAbs ≤ 1000) (h2 : j.natAbs ≤ 1000) : gMul i j = some (i * j) := by
  have : 2 ^ 10 ≤ 2 ^ 400000 := Nat.pow_le_pow_right (by decide) (by decide)
  refine gMul_of ?_ ?_
  all_goals
    generalize 2 ^ 400000 = z at this
    omega
@[simp] theorem x_mul {i j : Int} : fMul (.int i) (.int j) = (gMul i j).map fun k => .sh (.int k) := rfl
@[simp] theorem x_imm_bl {b : Bool} : (D.bl b).imm = true := rfl
@[simp] theorem x_imm_int {i : Int} : (D.int i).imm = true := rfl
@[simp] theorem x_imm_non : D.non.imm = true := rfl
theorem fNe_some {k m : Nat} {d e : D} (h : d.Pn k) (h' : e.Pn m) (hk : k ≤ 64) (hm : m ≤ 64) : ∃ b, fNe d e = some (.sh (.bl b)) := by
  unfold fNe
  rw [okN_ok h.ok hk, okN_ok h'.ok hm]; exact ⟨_, rfl⟩
theorem fEq_some {k m : Nat} {d e : D} (h : d.Pn k) (h' : e.Pn m) (hk : k ≤ 64) (hm : m ≤ 64) : ∃ b, fEq d e = some (.sh (.bl b)) := by
  unfold fEq
  rw [okN_ok h.ok hk, okN_ok h'.ok hm]; exact ⟨_, rfl⟩
theorem eq_bl (a b : Bool) : (D.bl a).eq (.bl b) = decide (a = b) := by cases a <;> cases b <;> simp [D.eq, D.py, PyData.eqv]
@[simp] theorem x_eqb {a b : Bool} : fEq (.bl a) (.bl b) = some (.sh (.bl (decide (a = b)))) := by unfold fEq; rw [eq_bl]; rfl
@[simp] theorem x_neb {a b : Bool} : fNe (.bl a) (.bl b) = some (.sh (.bl (!decide (a = b)))) := by unfold fNe; rw [eq_bl]; rfl
section
variable {α : Type} {a b c d e : α} {l : List α}
@[simp] theorem x_at0 : atI (a :: l) 0 = some a := by
  have := @atI_nat α (a :: l) 0 a rfl
  exact this
@[simp] theorem x_at1 : atI (a :: b :: l) 1 = some b := by
  have := @atI_nat α (a :: b :: l) 1 b rfl
  exact this
@[simp] theorem x_at2 : atI (a :: b :: c :: l) 2 = some c := by
  have := @atI_nat α (a :: b :: c :: l) 2 c rfl
  exact this
@[simp] theorem x_at3 : atI (a :: b :: c :: d :: l) 3 = some d := by
  have := @atI_nat α (a :: b :: c :: d :: l) 3 d rfl
  exact this
@[simp] theorem x_at4 : atI (a :: b :: c :: d :: e :: l) 4 = some e := by
  have := @atI_nat α (a :: b :: c :: d :: e :: l) 4 e rfl
  exact this
end
end Kn
namespace Kn
open PySem L2

/-! ### classes -/
/-- what of a class of one's own must be known -/
structure Own (K : PySem.W.Frag) (ct : CT) (c : Str) (C : Addr) (ns : List Str) : Prop where
  at_ : ct c = some (C, ns)
  cl : Cls K C
  nd : ns.Nodup
  no : ∀ f ∈ ns, NoAttr K C f
section
variable {K : PySem.W.Frag} {ct : CT}
theorem look_fld : ∀ {ns : List Str} {fs : List (Str × V)} {k : Nat} {f : Str} {v : V}, ns.Nodup → fs.map (·.1) = ns.take fs.length → ns[k]? = some f → (fs.map (·.2))[k]? = some v → fs.lookup f = some v
  | _, [], k, _, _, _, _, _, h => by simp at h
  | [], (g, x) :: fs, k, f, v, _, h, _, _ => by simp at h
  | n :: ns, (g, x) :: fs, 0, f, v, nd, h, hk, hv => by
    simp at h hk hv
    obtain ⟨h1, _⟩ := h
    subst h1; subst hk; subst hv
    simp [List.lookup]
  | n :: ns, (g, x) :: fs, k + 1, f, v, nd, h, hk, hv => by
    simp only [List.map_cons, List.length_cons, List.take_succ_cons, List.cons.injEq] at h
    obtain ⟨h1, h2⟩ := h
    simp only [List.getElem?_cons_succ] at hk
    simp only [List.map_cons, List.getElem?_cons_succ] at hv
    rw [List.nodup_cons] at nd
    have : f ≠ n := fun e => nd.1 (by rw [← e]; exact List.mem_of_getElem? hk)
    rw [List.lookup_cons]
    have e : (f == g) = false := by rw [h1]; exact beq_eq_false_iff_ne.mpr this
    rw [e]
    exact look_fld nd.2 h2 hk hv
theorem look_none {ns : List Str} {m : Str} : ∀ {fs : List (Str × V)}, fs.map (·.1) = ns.take fs.length → m ∉ ns → fs.lookup m = none := by
  intro fs h hm
  have : ∀ g ∈ fs.map (·.1), g ≠ m := fun g hg e => hm (by rw [h, e] at hg; exact List.mem_of_mem_take hg)
  clear h
  induction fs with
  | nil => rfl
  | cons p fs ih =>
    rw [List.lookup_cons]
    have e : (m == p.1) = false := beq_eq_false_iff_ne.mpr (this p.1 List.mem_cons_self).symm
    rw [e]
    exact ih fun g hg => this g (List.mem_cons_of_mem _ hg)
theorem RdH.obj {F H : Hp} {W : Wd} {L : Addr → Option Lab} {env : List Slot} {st : Sto} {σ : St} {v : V} {c : Str} {ds : List D} (h : RdH K ct W H v (.obj c ds)) (I : Rel K ct F W L env st σ H) :
    ∃ a C dx fs ns, v = .ref a ∧ H a = some (.ins C dx fs) ∧ ct c = some (C, ns) ∧ fs.map (·.1) = ns.take fs.length ∧ RepL K ct W (fs.map (·.2)) ds := by
  rcases h with h | ⟨a, rfl, cl⟩
  · cases h with
    | obj h1 h2 h3 h4 =>
      have e := h4.length
      rw [List.length_map] at e
      exact ⟨_, _, _, _, _, rfl, (I.hs _ _ h1).1, h2, by rw [e]; exact h3, h4⟩
  · cases cl with
    | obj h1 h2 h3 h4 =>
      have e := h4.length
      rw [List.length_map] at e
      exact ⟨_, _, _, _, _, rfl, h1, h2, by rw [e]; exact h3, h4⟩
end
section
variable {X : Cx} {ct : CT} {x y : Expr} {a b : Sem} {pos p apos : Pos} {c f m : Str} {C : Addr} {ns : List Str} {es : List Expr} {as : SemA}
/-- o.f -/
def fFld (c : Str) (k : Nat) : D → Option R
  | .obj c' ds => if c' = c then ds[k]?.map .sh else none
  | _ => none
theorem fFld_inv {k : Nat} {u : D} {r : R} (h : fFld c k u = some r) : ∃ ds d, u = .obj c ds ∧ ds[k]? = some d ∧ r = .sh d := by
  unfold fFld at h
  split at h
  · rename_i c' ds
    by_cases ec : c' = c
    · rw [if_pos ec] at h
      obtain ⟨d, h1, h2⟩ := map2 h
      exact ⟨ds, d, by rw [ec], h1, h2.symm⟩
    · rw [if_neg ec] at h; cases h
  · cases h
theorem se_fld (k : Nat) (o : Own X.K ct c C ns) (ha : SE X ct x a) (hk : ns[k]? = some f := by rfl) (hb : attributeBase x f X.env (eval x X.env) = eval x X.env := by rfl) : SE X ct (.Attribute x f pos) (e1 (fFld c k) a) := by
  refine ⟨pe_mono (pe_fld ha.pe hb) fun σ H Q ⟨F, W, L, env, st, r, st', I, e, kk⟩ => ?_⟩
  obtain ⟨⟨r1, st1⟩, h1, e⟩ := bind2 e
  obtain ⟨r3, h3, e⟩ := map2 e
  cases e
  obtain ⟨ds, d, ed, hd, rfl⟩ := fFld_inv h3
  refine ⟨F, W, L, env, st, r1, st1, I, h1, fun v H1 W1 L1 l1 I1 p1 => ?_⟩
  obtain ⟨W1', m1, J1, q1⟩ := I1.pin p1
  have q1' := J1.look q1
  rw [R.pin_d] at q1'
  have ed : r1.d = .obj c ds := ed
  rw [ed] at q1'
  obtain ⟨a, C', dx, fs, ns', rfl, g, hc, hn, q⟩ := q1'.obj J1
  rw [o.at_] at hc; cases hc
  obtain ⟨v, hv, hr⟩ := q.get hd
  exact ⟨a, C, dx, fs, v, rfl, g, o.cl, o.no f (List.mem_of_getElem? hk), look_fld o.nd hn hk hv, kk v _ _ _ (l1.trans m1) J1 hr⟩
/-- o.m(..), o an object that is shared -/
def eMeth (n : Nat) (c : Str) (m : Fn) (a : Sem) (as : SemA) : Sem := fun env st => (a env st).bind fun p => match p.1.pin with
  | .sh (.obj c' ds) => if c' = c then (as env p.2).bind fun q => (valsR q.1).bind fun es => if es.length + 1 = n then m (.obj c' ds :: es) q.2 else none else none
  | _ => none
theorem eMeth_inv {n : Nat} {mf : Fn} {env : List Kn.Slot} {st st' : Sto} {r : R} (e : eMeth n c mf a as env st = some (r, st')) : ∃ r1 st1 ds rs st2 es', a env st = some (r1, st1) ∧ r1.pin = .sh (.obj c ds) ∧ as env st1 = some (rs, st2) ∧ valsR rs = some es' ∧ es'.length + 1 = n ∧ mf (.obj c ds :: es') st2 = some (r, st') := by
  obtain ⟨⟨r1, st1⟩, h1, e⟩ := bind2 e
  dsimp only at e
  split at e
  · rename_i c' ds e1
    by_cases ec : c' = c
    · rw [if_pos ec] at e
      obtain ⟨⟨rs, st2⟩, h2, e⟩ := bind2 e
      obtain ⟨es', h3, e⟩ := bind2 e
      by_cases hl : es'.length + 1 = n
      · have e : (if es'.length + 1 = n then mf (.obj c' ds :: es') st2 else none) = some (r, st') := e
        rw [if_pos hl] at e
        exact ⟨r1, st1, ds, rs, st2, es', h1, by rw [e1, ec], h2, h3, hl, by rw [← ec]; exact e⟩
      · have e : (if es'.length + 1 = n then mf (.obj c' ds :: es') st2 else none) = some (r, st') := e
        rw [if_neg hl] at e; cases e
    · rw [if_neg ec] at e; cases e
  · cases e
theorem tE_meth {n : Nat} {mf : Fn} {E : XK} {σ : St} {H : Hp} {Q : VK} {K : PySem.W.Frag} (o : Own K ct c C ns) (hm : m ∉ ns) (h : tE K ct (eMeth n c mf a as) σ H Q) : tMeth C m (spD K ct n mf) [] E (tE K ct a) (tA K ct as) σ H Q := by
  obtain ⟨F, W, L, env, st, r, st', I, e, kk⟩ := h
  obtain ⟨r1, st1, ds, rs, st2, es', h1, hp, h2, h3, hl, h4⟩ := eMeth_inv e
  refine ⟨F, W, L, env, st, r1, st1, I, h1, fun v H1 W1 L1 l1 I1 p1 => ?_⟩
  obtain ⟨W1', m1, J1, q1⟩ := I1.pin p1
  rw [hp] at q1
  have q1 : Rep K ct W1' v (.obj c ds) := q1
  obtain ⟨a, C', dx, fs, ns', rfl, g, hc, hn, q⟩ := Kn.RdH.obj (H := H1) (.inl q1) J1
  rw [o.at_] at hc; cases hc
  refine ⟨a, dx, fs, rfl, g, look_none hn hm, F, W1', L1, env, st1, rs, st2, J1, h2, fun vs H2 W2 L2 l2 I2 qs => ?_⟩
  show spD K ct n mf (V.ref a :: (vs ++ [])) H2 Q E
  rw [List.append_nil]
  exact call_out I2 (.cons (q1.mono l2) (qs.vals h3)) (by simpa using hl) h4 fun v H' W' L' l' => kk v H' W' L' (l1.trans (m1.trans (l2.trans l')))
/-- a method that may be called -/
structure Mcl (P : Program) (w : World) (K : PySem.W.Frag) (mg : Str → Option Value) (base : Heap) (ct : CT) (C : Addr) (nm : Str) (k : Nat) (ps : List Str) (m : Fn) : Prop where
  ex : ∃ f fd, FnOk P w K mg base CX0 k f fd ps (spD K ct ps.length m) ∧ Meth K C nm f ∧ Binds K fd ps []
theorem se_meth (n : Nat) {k : Nat} {ps : List Str} {mf : Fn} {pl : PySem.Sem Bool} (o : Own X.K ct c C ns) (M : Mcl X.prog X.w X.K X.mg X.base ct C m k ps mf) (hr : Room k X.A) (ha : SE X ct x a) (has : SA X ct (y :: es) as) (hn : ps.length = n := by rfl) (hm : m ∉ ns := by decide +kernel)
    (he : starEach (y :: es) X.env = (false, eval y X.env) :: starEach es X.env := by rfl) (hpl : (backTo pos (starEach es X.env)).any (·.1) = false := by rfl)
    (ht : eval (.Call (.Attribute x m apos) (y :: es) [] pos) X.env = (do
      let u ← eval x X.env
      standAt apos.atName
      let (g, us) ← holding [u] (getMethod u m pl)
      callWith pos g us (backTo pos (starEach (y :: es) X.env)) (backToKw pos (keywordEach [] X.env))) := by rfl) :
    SE X ct (.Call (.Attribute x m apos) (y :: es) [] pos) (eMeth n c mf a as) := by
  subst hn
  obtain ⟨g, fd, G, hM, hb⟩ := M.ex
  exact ⟨pe_mono (pe_meth ha.pe o.cl hM G hr hb .nil pass0 has.pa he hpl ht) fun _ _ _ h => tE_meth o hm h⟩
end

/-! ### constructors -/
section
variable {K : PySem.W.Frag} {ct : CT}
theorem call_core {F H : Hp} {W : Wd} {L : Addr → Option Lab} {env : List Kn.Slot} {st : Sto} {σ : St} (N : Addr → Bool) (hN : ∀ b, N b = true → L b = none ∧ W.hs b = none ∧ F b = none) (I : Rel K ct F W L env st σ H) :
    ∃ F1 L1, Rel K ct F1 W L1 [] st [] H ∧ (∀ b, N b = true → F1 b = none ∧ L1 b = none) ∧ ∀ r st' v H' W' L', W.le W' → Rel K ct F1 W' L' [] st' [] H' → RepR K ct F1 W' L' H' [] [] v r → ∃ L2, Rel K ct F W' L2 env st' σ H' ∧ RepR K ct F W' L2 H' env σ v r := by
  have nN : ∀ b, (L b ≠ none ∨ W.hs b ≠ none ∨ F b ≠ none) → N b = false := fun b h => by
    cases q : N b with
    | false => rfl
    | true =>
      obtain ⟨h1, h2, h3⟩ := hN b q
      rcases h with h | h | h
      · exact absurd h1 h
      · exact absurd h2 h
      · exact absurd h3 h
  refine ⟨fun b => if N b = true then none else match L b, W.hs b with | some (.ob _), _ => none | _, some _ => none | _, none => H b, fun b => match L b with | some (.ob g) => some (.ob g) | _ => none, ?_, fun b hb => ?_, ?_⟩
  · refine ⟨fun b u e => ?_, fun b u e => ?_, I.tp, fun g κ d e => ?_, I.rh, rfl, fun i s e => by simp at e⟩
    · split at e
      · cases e
      cases hb : L b with
      | none =>
        cases hw : W.hs b with
        | none => simp only [hb, hw] at e; exact ⟨e, rfl, rfl⟩
        | some z => simp only [hb, hw] at e; cases e
      | some l =>
        cases l with
        | slot i =>
          cases hw : W.hs b with
          | none => simp only [hb, hw] at e; exact ⟨e, rfl, rfl⟩
          | some z => simp only [hb, hw] at e; cases e
        | ob g => simp only [hb] at e; cases e
    · obtain ⟨h1, h2⟩ := I.hs b u e
      exact ⟨h1, by simp only [h2]⟩
    · obtain ⟨v, h1, h2⟩ := I.ob g κ d e
      refine ⟨v, h1, ?_⟩
      have q : (fun b => if (match L b with | some (.ob g) => some (Lab.ob g) | _ => none) = some (Lab.ob g) then H b else none) = fun b => if L b = some (.ob g) then H b else none := by
        funext b
        cases hb : L b with
        | none => simp
        | some l => cases l with
          | slot i => simp
          | ob g' => rfl
      rw [q]; exact h2
  · obtain ⟨h1, _, _⟩ := hN b hb
    exact ⟨if_pos hb, by simp only [h1]⟩
  · intro r st' v H' W' L' l I' p
    have own : ∀ b i u, L b = some (.slot i) → H b = some u → H' b = some u ∧ L' b = none ∧ W'.hs b = none := fun b i u hb hu => by
      have hw : W.hs b = none := by
        cases q : W.hs b with
        | none => rfl
        | some z => have := (I.hs b z q).2; rw [hb] at this; cases this
      have hn := nN b (.inl (by rw [hb]; exact fun z => nomatch z))
      exact I'.fr b u (by simp only [hn, hb, hw]; exact hu)
    refine ⟨fun b => match L b, H b with | some (.slot i), some _ => some (.slot i) | _, _ => L' b, ?_, ?_⟩
    · have lab : ∀ b, (∀ i u, ¬ (L b = some (.slot i) ∧ H b = some u)) → (match L b, H b with | some (.slot i), some _ => some (Lab.slot i) | _, _ => L' b) = L' b := fun b z => by
        split
        · rename_i i u h1 h2
          exact absurd ⟨h1, h2⟩ (z i u)
        · rfl
      refine ⟨fun b u e => ?_, fun b u e => ?_, I'.tp, fun g κ d e => ?_, I'.rh, I.len, fun i s e => ?_⟩
      · obtain ⟨h1, h2, h3⟩ := I.fr b u e
        have hn := nN b (.inr (.inr (by rw [e]; exact fun z => nomatch z)))
        obtain ⟨g1, g2, g3⟩ := I'.fr b u (by simp only [hn, h2, h3]; exact h1)
        exact ⟨g1, by simp only [h2]; exact g2, g3⟩
      · obtain ⟨g1, g2⟩ := I'.hs b u e
        refine ⟨g1, ?_⟩
        have z : ∀ i w, ¬ (L b = some (.slot i) ∧ H b = some w) := fun i w ⟨z1, z2⟩ => by
          rw [(own b i w z1 z2).2.2] at e; cases e
        rw [lab b z]; exact g2
      · obtain ⟨w, g1, g2⟩ := I'.ob g κ d e
        refine ⟨w, g1, ?_⟩
        have q : (fun b => if (match L b, H b with | some (.slot i), some _ => some (Lab.slot i) | _, _ => L' b) = some (Lab.ob g) then H' b else none) = fun b => if L' b = some (.ob g) then H' b else none := by
          funext b
          by_cases z : ∃ i u, L b = some (.slot i) ∧ H b = some u
          · obtain ⟨i, u, z1, z2⟩ := z
            simp only [z1, z2, (own b i u z1 z2).2.1]
            simp
          · rw [lab b fun i u q => z ⟨i, u, q⟩]
        rw [q]; exact g2
      · refine (I.sl i s e).mono l fun b u hb hu => ?_
        exact ⟨(own b i u hb hu).1, by simp only [hb, hu]⟩
    · cases r with
      | sh d => exact p
      | ow d =>
        obtain ⟨b, h1, h2, h3, h4, h5⟩ := p
        have hb : ∀ i u, ¬ (L b = some (.slot i) ∧ H b = some u) := fun i u ⟨z1, z2⟩ => by
          have hw : W.hs b = none := by
            cases q : W.hs b with
            | none => rfl
            | some z => have := (I.hs b z q).2; rw [z1] at this; cases this
          have hn := nN b (.inl (by rw [z1]; exact fun z => nomatch z))
          simp only [hn, z1, hw, z2] at h4
          cases h4
        refine ⟨b, h1, ?_, h3, ?_, h5⟩
        · dsimp only
          split
          · rename_i i u z1 z2; exact absurd ⟨z1, z2⟩ (hb i u)
          · exact h2
        · cases q : F b with
          | none => rfl
          | some u =>
            obtain ⟨g1, g2, g3⟩ := I.fr b u q
            have hn := nN b (.inr (.inr (by rw [q]; exact fun z => nomatch z)))
            simp only [hn, g2, g3] at h4
            have h4 : H b = none := h4
            rw [h4] at g1; cases g1
      | bw i d => exact absurd p.1 (by simp)
def spI (K : PySem.W.Frag) (ct : CT) (c : Str) (n : Nat) (m : Fn) : Sp := fun vs H Q _ => ∃ F W L st x args ds r st' C dx ns, vs = V.ref x :: args ∧ Rel K ct F W L [] st [] H ∧ L x = none ∧ W.hs x = none ∧ F x = none ∧ H x = some (.ins C dx []) ∧ ct c = some (C, ns) ∧
  RepL K ct W args ds ∧ ds.length + 1 = n ∧ m ds st = some (r, st') ∧ ∀ H' W' L', W.le W' → Rel K ct F W' L' [] st' [] H' → RepR K ct F W' L' H' [] [] (.ref x) r → Q .non H'
def startI (k : Nat) (c : Str) (ad : Addr) (ds : List D) : List Kn.Slot := (.me ad (.obj c []) :: ds.map .sh) ++ List.replicate (k - (ds.length + 1)) .no
def meOf (env : List Kn.Slot) : Option D := match (env[0]? : Option Kn.Slot) with
  | some (Kn.Slot.me _ d) => some d
  | _ => none
open Classical in
noncomputable def runI (k : Nat) (c : Str) (f : SemS) : Fn := fun ds st => (f (startI k c 0 ds) st).bind fun p => match p.1 with
  | .nx => (meOf p.2.1).bind fun d => if ∀ ad, ∃ env2, f (startI k c ad ds) st = some (.nx, env2, p.2.2) ∧ env2[0]? = some (.me ad d) then some (.ow d, p.2.2) else none
  | _ => none
theorem runI_of {k : Nat} {c : Str} {f : SemS} {ds : List D} {st st' : Sto} {d : D} (h : ∀ ad, ∃ env2, f (startI k c ad ds) st = some (.nx, env2, st') ∧ env2[0]? = some (.me ad d)) : runI k c f ds st = some (.ow d, st') := by
  obtain ⟨env2, h1, h2⟩ := h 0
  have h3 : meOf env2 = some d := by unfold meOf; rw [h2]
  unfold runI
  simp only [h1, Option.bind_some, h3]
  exact if_pos h
theorem runI_inv {k : Nat} {c : Str} {f : SemS} {ds : List D} {st st' : Sto} {r : R} (h : runI k c f ds st = some (r, st')) : ∃ d, r = .ow d ∧ ∀ ad, ∃ env2, f (startI k c ad ds) st = some (.nx, env2, st') ∧ env2[0]? = some (.me ad d) := by
  unfold runI at h
  obtain ⟨⟨o, env', st1⟩, h1, h⟩ := bind2 h
  cases o with
  | nx =>
    obtain ⟨d, h2, h⟩ := bind2 h
    split at h
    · rename_i hh
      cases h
      exact ⟨d, rfl, hh⟩
    · cases h
  | rt r => cases h
  | bk => cases h
  | ct => cases h
theorem fnI_ok {P : Program} {w : World} {mg : Str → Option Value} {base : Heap} {name qual c : Str} {st : Stmt} {f : Addr} {fd : FuncData} {N ps : List Str} {k : Nat} {b : SemS} (F : Fun K name qual st f fd) (S : FnScope N ps (defScope st))
    (hb : ∀ (cdv : Value) (A : Around) (outer : List Env) (s : Shared) (H : Hp) (E : XK), Room k (A.deeper (PyProof.Rows.envOfC qual (defScope st) s.heap.objs.size f cdv)) → SB (cxOf CX0 P w K mg base N qual (defScope st) f cdv A outer s H E).nox ct (defBody st) b) :
    FnOk P w K mg base CX0 (k + 1) f fd ps (spI K ct c ps.length (runI N.length c b)) := by
  refine F.ok S (fun vs H Q E h => ?_) (fun cdv A outer s H vs Q E hr h => ?_)
  · obtain ⟨F, W, L, st, x, args, ds, r, st', C, dx, ns, rfl, I, _, _, _, _, _, q, hl, e, k⟩ := h
    rw [List.length_cons, q.length]; exact hl
  · obtain ⟨F, W, L, st, x, args, ds, r, st', C, dx, ns, rfl, I, xL, xW, xF, xH, xc, q, hl, e, kk⟩ := h
    obtain ⟨d, rfl, hrun⟩ := runI_inv e
    obtain ⟨env2, h1, h2⟩ := hrun x
    refine ⟨_, (hb cdv A outer s H E hr).pss, ?_⟩
    have hpl : ps.length ≤ N.length := by have := congrArg List.length S.pre; rw [List.length_take] at this; omega
    have hq := q.length
    have lab : ∀ b, b ≠ x → (if b = x then some (Lab.slot 0) else L b) = L b := fun b h => if_neg h
    have I0 : Rel K ct F W (fun b => if b = x then some (Lab.slot 0) else L b) (startI N.length c x ds) st (L2.start N (.ref x :: args)) H := by
      refine ⟨fun b u e => ?_, fun b u e => ?_, I.tp, fun g κ z e => ?_, I.rh, ?_, fun i s e => ?_⟩
      · obtain ⟨g1, g2, g3⟩ := I.fr b u e
        exact ⟨g1, (lab b (by rintro rfl; rw [xF] at e; cases e)).trans g2, g3⟩
      · obtain ⟨g1, g2⟩ := I.hs b u e
        exact ⟨g1, (lab b (by rintro rfl; rw [xW] at e; cases e)).trans g2⟩
      · obtain ⟨v, g1, g2⟩ := I.ob g κ z e
        refine ⟨v, g1, ?_⟩
        have q : (fun b => if (if b = x then some (Lab.slot 0) else L b) = some (.ob g) then H b else none) = fun b => if L b = some (.ob g) then H b else none := by
          funext b
          by_cases hb : b = x
          · subst hb; simp [xL]
          · rw [lab b hb]
        rw [q]; exact g2
      · unfold L2.start startI
        simp only [List.length_append, List.length_map, List.length_cons, List.length_replicate, hq]
      · unfold startI at e
        by_cases hi : i < ds.length + 1
        · rw [List.getElem?_append_left (by simpa using hi)] at e
          cases i with
          | zero =>
            cases e
            refine ⟨?_, if_pos rfl, .obj xH xc (by simp) .nil⟩
            unfold L2.start
            rfl
          | succ i =>
            rw [List.getElem?_cons_succ, List.getElem?_map] at e
            obtain ⟨z, hd, rfl⟩ := Option.map_eq_some_iff.mp e
            obtain ⟨v, hv, hr⟩ := q.get hd
            refine ⟨v, ?_, hr⟩
            unfold L2.start
            rw [List.getElem?_append_left (by rw [List.length_map, List.length_cons]; omega), List.getElem?_map, List.getElem?_cons_succ, hv]
            rfl
        · rw [List.getElem?_append_right (by simpa using hi), List.getElem?_replicate] at e
          split at e
          · cases e; trivial
          · cases e
    refine ⟨F, W, _, _, st, .nx, env2, st', I0, h1, ?_⟩
    intro σ' H' W' L' l I'
    obtain ⟨s1, s2, s3⟩ := I'.sl 0 _ h2
    refine kk H' W' (fun b => match L' b with | some (.slot _) => none | z => z) l ?_ ⟨x, rfl, by simp only [s2], ?_, ?_, s3⟩
    · refine ⟨fun b u e => ?_, fun b u e => ?_, I'.tp, fun g κ z e => ?_, I'.rh, rfl, fun i s e => by simp at e⟩
      · obtain ⟨g1, g2, g3⟩ := I'.fr b u e
        exact ⟨g1, by simp only [g2], g3⟩
      · obtain ⟨g1, g2⟩ := I'.hs b u e
        exact ⟨g1, by simp only [g2]⟩
      · obtain ⟨v, g1, g2⟩ := I'.ob g κ z e
        refine ⟨v, g1, ?_⟩
        have q : (fun b => if (match L' b with | some (.slot _) => none | z => z) = some (Lab.ob g) then H' b else none) = fun b => if L' b = some (.ob g) then H' b else none := by
          funext b
          cases hb : L' b with
          | none => rfl
          | some l => cases l with
            | slot i => simp
            | ob g' => rfl
        rw [q]; exact g2
    · cases q : W'.hs x with
      | none => rfl
      | some u => have := (I'.hs x u q).2; rw [s2] at this; cases this
    · exact xF
end
section
variable {X : Cx} {ct : CT} {x y : Expr} {a b : Sem} {pos p apos : Pos} {c f m : Str} {C : Addr} {ns : List Str} {es : List Expr} {as : SemA}
/-- a class that may be called -/
structure Mkr (P : Program) (w : World) (K : PySem.W.Frag) (mg : Str → Option Value) (base : Heap) (ct : CT) (c : Str) (C : Addr) (nm : Str) (k : Nat) (ps : List Str) (m : Fn) : Prop where
  ex : ∃ f fd, FnOk P w K mg base CX0 k f fd ps (spI K ct c ps.length m) ∧ Mk K C f ∧ Binds K fd ps [] ∧ mg nm = some (.ref C)
def eMake (n : Nat) (m : Fn) (as : SemA) : Sem := fun env st => (as env st).bind fun p => (valsR p.1).bind fun ds => if ds.length + 1 = n then m ds p.2 else none
theorem tE_make {n : Nat} {mf : Fn} {E : XK} {σ : St} {H : Hp} {Q : VK} {K : PySem.W.Frag} (o : Own K ct c C ns) (h : tE K ct (eMake n mf as) σ H Q) : tMake C (spI K ct c n mf) [] E (tA K ct as) σ H Q := by
  obtain ⟨F, W, L, env, st, r, st', I, e, kk⟩ := h
  obtain ⟨⟨rs, st1⟩, h1, e⟩ := bind2 e
  obtain ⟨ds, h2, e⟩ := bind2 e
  have hl : ds.length + 1 = n ∧ mf ds st1 = some (r, st') := by
    dsimp only at e
    split at e
    · exact ⟨by assumption, e⟩
    · cases e
  refine ⟨F, W, L, env, st, rs, st1, I, h1, fun vs H1 W1 L1 l1 I1 qs x dx nx ndx nex => ?_⟩
  obtain ⟨J1, _, _, _⟩ := I1.laid (o := .own x) ndx
  have nx2 : (upd H1 dx (.own x)) x = none := by rw [upd_ne (Ne.symm nex)]; exact nx
  obtain ⟨J2, x1, x2, x3⟩ := J1.laid (o := .ins C dx []) nx2
  obtain ⟨F1, L1', R1, fr, back⟩ := call_core (fun b => decide (b = x)) (fun b hb => by
    have : b = x := of_decide_eq_true hb
    subst this; exact ⟨x1, x2, x3⟩) J2
  obtain ⟨y1, y2⟩ := fr x (decide_eq_true rfl)
  refine ⟨F1, W1, L1', st1, x, vs ++ [], ds, r, st', C, dx, ns, rfl, R1, y2, x2, y1, upd_same, o.at_, ?_, hl.1, hl.2, fun H' W' L' l I' p => ⟨rfl, ?_⟩⟩
  · rw [List.append_nil]; exact qs.vals h2
  · obtain ⟨L2, K1, K2⟩ := back r st' (.ref x) H' W' L' l I' p
    exact kk _ _ _ _ (l1.trans l) K1 K2
theorem se_make (n : Nat) {k : Nat} {ps : List Str} {mf : Fn} {nm : Str} (o : Own X.K ct c C ns) (M : Mkr X.prog X.w X.K X.mg X.base ct c C nm k ps mf) (hr : Room (k + 1) X.A) (has : SA X ct (y :: es) as) (hn : ps.length = n := by rfl) (hg : Gl X nm := by rfl)
    (hdb : (nm == ("__debug__" : Str)) = false := by decide) (he : starEach (y :: es) X.env = (false, eval y X.env) :: starEach es X.env := by rfl) (hpl : (backTo pos (starEach es X.env)).any (·.1) = false := by rfl) :
    SE X ct (.Call (.Name nm p) (y :: es) [] pos) (eMake n mf as) := by
  subst hn
  obtain ⟨g, fd, G, hM, hb, hm⟩ := M.ex
  exact ⟨pe_mono (pe_make hM G hr hg hm hb .nil pass0 has.pa hdb he hpl) fun _ _ _ h => tE_make o h⟩
end

/-! ### a field of one's own self -/
section
variable {X : Cx} {ct : CT} {x y : Expr} {a b : Sem} {pos p apos npos : Pos} {c f m n : Str} {C : Addr} {ns : List Str}
theorem Rel.updMe {K : PySem.W.Frag} {F H : Hp} {W : Wd} {L : Addr → Option Lab} {env : List Kn.Slot} {st : Sto} {σ : St} {ad : Addr} {o : HO} (I : Rel K ct F W L env st σ H) {i : Nat} (hs : σ[i]? = some (some (.ref ad))) (hl : L ad = some (.slot i)) (hn : ∀ xs, H ad ≠ some (.tup xs)) {d' : Kn.D} (c' : Cell K ct W (upd H ad o) ad d') :
    Rel K ct F W L (env.set i (.me ad d')) st σ (upd H ad o) := by
  have J := I.updOw' hs hl hn c'
  refine ⟨J.fr, J.hs, J.tp, J.ob, J.rh, by rw [List.length_set]; exact I.len, fun j s e => ?_⟩
  rcases getset e with ⟨rfl, rfl, hi⟩ | ⟨hj, e⟩
  · exact ⟨hs, hl, c'⟩
  · exact J.sl j s (by rw [List.getElem?_set_ne (Ne.symm hj)]; exact e)
def sFldM (i : Nat) (c : Str) (k : Nat) (a : Sem) : SemS := fun env st => (a env st).bind fun p => match p.1.pin, (env[i]? : Option Kn.Slot) with
  | .sh d, some (.me ad (.obj c' ds)) => if c' = c ∧ k = ds.length then some (.nx, env.set i (.me ad (.obj c' (ds ++ [d]))), p.2) else none
  | _, _ => none
theorem putF_new (f : Str) (v : V) : ∀ fs : List (Str × V), f ∉ fs.map (·.1) → putF f v fs = fs ++ [(f, v)]
  | [], _ => rfl
  | (g, u) :: fs, h => by
    rw [putF, if_neg (fun e => h (by rw [← e]; simp)), putF_new f v fs fun z => h (by rw [List.map_cons]; exact List.mem_cons_of_mem _ z)]
    rfl
theorem ss_fldM (i k : Nat) (o : Own X.K ct c C ns) (ha : SE X ct x a) (hk : ns[k]? = some f := by rfl) (hz : ns.length < 1000 := by decide)
    (hN : X.N[i]? = some n := by rfl) (hv : Vis X.env.scope n := by first | exact Or.inl rfl | exact Or.inr (Or.inl rfl) | exact Or.inr (Or.inr rfl)) (hd : (n == ("__debug__" : Str)) = false := by decide) (hcd : (n == ("__classdict__" : Str)) = false := by decide)
    (hs : swapsWith x (some (.Attribute (.Name n npos) f apos)) pos.line X.env = pure false := by rfl) : SS X ct (.Assign [.Attribute (.Name n npos) f apos] x pos) (sFldM i c k a) := by
  have hvr : PE X (.Name n npos) (tVar i) := pe_var hN hv hd hcd
  refine ⟨ps_mono (ps_fld hvr ha.pe hs) fun D σ H ⟨F, W, L, env, st, oo, env', st', I, e, kk⟩ => ?_⟩
  obtain ⟨⟨r1, st1⟩, h1, e⟩ := bind2 e
  obtain ⟨d, ad, ds, hr1, hc, hlen, rfl, rfl, rfl⟩ : ∃ d ad ds, r1.pin = .sh d ∧ env[i]? = some (.me ad (.obj c ds)) ∧ k = ds.length ∧ oo = .nx ∧ env' = env.set i (.me ad (.obj c (ds ++ [d]))) ∧ st' = st1 := by
    clear kk h1
    dsimp only at e
    split at e
    · rename_i d ad c' ds e1 e2
      by_cases hh : c' = c ∧ k = ds.length
      · rw [if_pos hh] at e
        obtain ⟨hc', h2⟩ := hh
        injection e with e
        injection e with z1 e
        injection e with z2 z3
        exact ⟨d, ad, ds, e1, by rw [e2, hc'], h2, z1.symm, by rw [← z2, hc'], z3.symm⟩
      · rw [if_neg hh] at e; cases e
    · cases e
  refine ⟨F, W, L, env, st, r1, _, I, h1, fun v H1 W1 L1 l1 I1 p1 => ?_⟩
  obtain ⟨W1', m1, J1, q1⟩ := I1.pin p1
  rw [hr1] at q1
  have q1 : Rep X.K ct W1' v d := q1
  obtain ⟨s1, s2, cl⟩ := J1.sl i _ hc
  refine ⟨_, s1, ?_⟩
  cases cl with
  | obj g hcc hn q =>
    rename_i C' dx fs ns'
    rw [o.at_] at hcc; cases hcc
    have hfl : fs.length = ds.length := by have := q.length; rw [List.length_map] at this; exact this
    have hkn : k < ns.length := (List.getElem?_eq_some_iff.mp hk).1
    have fresh : f ∉ fs.map (·.1) := fun z => by
      rw [hn] at z
      obtain ⟨j, hj, ej⟩ := List.getElem_of_mem z
      rw [List.length_take] at hj
      rw [List.getElem_take] at ej
      have h3 : ns[j]? = some f := by rw [List.getElem?_eq_getElem (by omega), ej]
      have := (List.getElem?_inj (by omega) o.nd).mp (h3.trans hk.symm)
      omega
    refine ⟨ad, C, dx, fs, rfl, g, o.cl, o.no f (List.mem_of_getElem? hk), by omega, ?_⟩
    rw [putF_new f v fs fresh]
    refine kk _ _ _ _ (l1.trans m1) (J1.updMe s1 s2 (fun xs z => by rw [g] at z; cases z) (.obj upd_same o.at_ ?_ ?_))
    · rw [List.map_append, hn, List.length_append, List.length_singleton, ← hlen, List.take_succ, hk]; rfl
    · rw [List.map_append]
      exact q.append (.cons q1 .nil)
end
end Kn
namespace Kn
open PySem L2

/-! ### lists of lists of one's own -/
section
variable {K : PySem.W.Frag} {ct : CT} {F H H' : Hp} {W W' : Wd} {L L' : Addr → Option Lab} {env : List Kn.Slot} {st : Sto} {σ : St} {l : Lab}
theorem Rows.at : ∀ {ws : List V} {dss : List (List D)} {j : Nat} {ds : List D}, Rows K ct W H L l ws dss → dss[j]? = some ds → ∃ a vs, ws[j]? = some (.ref a) ∧ H a = some (.lst vs) ∧ L a = some l ∧ RepL K ct W vs ds
  | _, _, 0, _, .cons h1 h2 h3 _ _, e => by cases e; exact ⟨_, _, rfl, h1, h2, h3⟩
  | _, _, j + 1, _, .cons _ _ _ _ r, e => by
    obtain ⟨a, vs, g1, g2⟩ := r.at (j := j) e
    exact ⟨a, vs, g1, g2⟩
theorem Rows.length : ∀ {ws : List V} {dss : List (List D)}, Rows K ct W H L l ws dss → ws.length = dss.length
  | _, _, .nil => rfl
  | _, _, .cons _ _ _ _ r => by rw [List.length_cons, List.length_cons, r.length]
theorem Rows.lab : ∀ {ws : List V} {dss : List (List D)}, Rows K ct W H L l ws dss → ∀ a, V.ref a ∈ ws → L a = some l ∧ ∃ vs, H a = some (.lst vs)
  | _, _, .cons h1 h2 _ _ r, a, h => by
    rcases List.mem_cons.mp h with h | h
    · cases h; exact ⟨h2, _, h1⟩
    · exact r.lab a h
theorem Rows.snoc : ∀ {ws : List V} {dss : List (List D)} {a : Addr} {vs : List V} {ds : List D}, Rows K ct W H L l ws dss → H a = some (.lst vs) → L a = some l → RepL K ct W vs ds → V.ref a ∉ ws → Rows K ct W H L l (ws ++ [.ref a]) (dss ++ [ds])
  | _, _, _, _, _, .nil, h1, h2, h3, _ => .cons h1 h2 h3 (by simp) .nil
  | _, _, a, _, _, .cons g1 g2 g3 g4 r, h1, h2, h3, n => by
    refine .cons g1 g2 g3 (fun z => ?_) (r.snoc h1 h2 h3 fun z => n (List.mem_cons_of_mem _ z))
    rcases List.mem_append.mp z with z | z
    · exact g4 z
    · have := List.mem_singleton.mp z
      exact n (by rw [← this]; exact List.mem_cons_self)
theorem Rows.off : ∀ {ws : List V} {dss : List (List D)} {a : Addr} {o : HO}, Rows K ct W H L l ws dss → V.ref a ∉ ws → Rows K ct W (L2.upd H a o) L l ws dss
  | _, _, _, _, .nil, _ => .nil
  | _, _, a, o, .cons (a := a') g1 g2 g3 g4 r, n => by
    have ne : a' ≠ a := fun z => n (by rw [z]; exact List.mem_cons_self)
    exact .cons (by rw [upd_ne ne]; exact g1) g2 g3 g4 (r.off fun z => n (List.mem_cons_of_mem _ z))
/-- one row is another one -/
theorem Rows.upd : ∀ {ws : List V} {dss : List (List D)} {j : Nat} {a : Addr} {vs : List V} {ds : List D}, Rows K ct W H L l ws dss → ws[j]? = some (.ref a) → RepL K ct W vs ds → Rows K ct W (L2.upd H a (.lst vs)) L l ws (dss.set j ds)
  | _, _, 0, a, vs, ds, .cons (a := a') g1 g2 g3 g4 r, e, q => by
    cases e
    exact .cons upd_same g2 q g4 (r.off g4)
  | _, _, j + 1, a, vs, ds, .cons (a := a') (ws := ws) g1 g2 g3 g4 r, e, q => by
    have e : ws[j]? = some (V.ref a) := e
    have hm := List.mem_of_getElem? e
    have ne : a' ≠ a := fun z => g4 (by rw [z]; exact hm)
    exact .cons (by rw [upd_ne ne]; exact g1) g2 g3 g4 (r.upd (j := j) e q)
/-- a new thing is labelled as a slot's -/
theorem Rel.lab {a : Addr} (I : Rel K ct F W L env st σ H) (i : Nat) (hl : L a = none) (hw : W.hs a = none) (hf : F a = none) : Rel K ct F W (fun b => if b = a then some (.slot i) else L b) env st σ H := by
  have lab : ∀ b, b ≠ a → (if b = a then some (Lab.slot i) else L b) = L b := fun b h => if_neg h
  refine ⟨fun b u e => ?_, fun b u e => ?_, I.tp, fun g κ x e => ?_, I.rh, I.len, fun j s e => (I.sl j s e).mono (.refl W) fun b u hb hu => ⟨hu, ?_⟩⟩
  · have nb : b ≠ a := by rintro rfl; rw [hf] at e; cases e
    obtain ⟨h1, h2, h3⟩ := I.fr b u e
    exact ⟨h1, (lab b nb).trans h2, h3⟩
  · have nb : b ≠ a := by rintro rfl; rw [hw] at e; cases e
    obtain ⟨h1, h2⟩ := I.hs b u e
    exact ⟨h1, (lab b nb).trans h2⟩
  · obtain ⟨v, h1, h2⟩ := I.ob g κ x e
    refine ⟨v, h1, ?_⟩
    have q : (fun b => if (if b = a then some (Lab.slot i) else L b) = some (.ob g) then H b else none) = fun b => if L b = some (.ob g) then H b else none := by
      funext b
      by_cases hb : b = a
      · subst hb; simp [hl]
      · rw [lab b hb]
    rw [q]; exact h2
  · exact (lab b (by rintro rfl; rw [hl] at hb; cases hb)).trans hb
/-- a slot is emptied, its labels taken away -/
theorem Rel.clear (I : Rel K ct F W L env st σ H) (i : Nat) : Rel K ct F W (fun b => if L b = some (.slot i) then none else L b) (env.set i .no) st σ H := by
  refine ⟨fun b u e => ?_, fun b u e => ?_, I.tp, fun g κ x e => ?_, I.rh, by rw [List.length_set]; exact I.len, fun j s e => ?_⟩
  · obtain ⟨h1, h2, h3⟩ := I.fr b u e
    exact ⟨h1, by simp [h2], h3⟩
  · obtain ⟨h1, h2⟩ := I.hs b u e
    exact ⟨h1, by simp [h2]⟩
  · obtain ⟨v, h1, h2⟩ := I.ob g κ x e
    refine ⟨v, h1, ?_⟩
    have q : (fun b => if (if L b = some (Lab.slot i) then none else L b) = some (.ob g) then H b else none) = fun b => if L b = some (.ob g) then H b else none := by
      funext b
      by_cases hb : L b = some (.slot i)
      · simp [hb]
      · simp [hb]
    rw [q]; exact h2
  · rcases getset e with ⟨rfl, rfl, hi⟩ | ⟨hj, e⟩
    · trivial
    · refine (I.sl j s e).mono (.refl W) fun b u hb hu => ⟨hu, ?_⟩
      have : ¬ L b = some (.slot i) := fun z => by rw [hb] at z; cases z; exact hj rfl
      rw [if_neg this]; exact hb
theorem Rel.shareRows : ∀ {ws : List V} {dss : List (List D)} {W : Wd}, Rel K ct F W L env st σ H → (∀ (j : Nat) (a : Addr), ws[j]? = some (V.ref a) → L a = none ∧ F a = none) → (∀ (j : Nat) (ds : List D), dss[j]? = some ds → ∃ a vs, ws[j]? = some (.ref a) ∧ H a = some (.lst vs) ∧ RepL K ct W vs ds) → ws.length = dss.length →
    ∃ W', W.le W' ∧ Rel K ct F W' L env st σ H ∧ RepL K ct W' ws (dss.map .lst)
  | [], [], W, I, _, _, _ => ⟨W, .refl W, I, .nil⟩
  | w :: ws, ds :: dss, W, I, h1, h2, hl => by
    obtain ⟨a, vs, e1, e2, e3⟩ := h2 0 ds rfl
    cases e1
    obtain ⟨g1, g2⟩ := h1 0 a rfl
    have le := I.le_add e2
    have J := I.share e2 g1 g2
    obtain ⟨W', l', I', r⟩ := Rel.shareRows (ws := ws) (dss := dss) J (fun j b e => h1 (j + 1) b e) (fun j ds e => by
      obtain ⟨b, vs, z1, z2, z3⟩ := h2 (j + 1) ds e
      exact ⟨b, vs, z1, z2, z3.mono le⟩) (by simpa using hl)
    exact ⟨W', le.trans l', I', .cons (Rep.lst (l'.1 _ _ (show (W.add a _).hs a = some _ from upd_same)) (e3.mono (le.trans l'))) r⟩
theorem Rel.freeze2 (I : Rel K ct F W L env st σ H) {i : Nat} {dss : List (List D)} (he : env[i]? = some (.o2 dss)) : ∃ W' L', W.le W' ∧ Rel K ct F W' L' (env.set i (.sh (.lst (dss.map .lst)))) st σ H := by
  obtain ⟨a, ws, h1, h2, h3, h4, rows⟩ := I.sl i _ he
  have J := I.clear i
  have fre : ∀ b, L b = some (.slot i) → F b = none := fun b hb => by
    cases q : F b with
    | none => rfl
    | some u => have := (I.fr b u q).2.1; rw [hb] at this; cases this
  obtain ⟨W1, l1, J1, r1⟩ := Rel.shareRows (ws := ws) (dss := dss) J (fun j b e => by
    obtain ⟨g1, _⟩ := rows.lab b (List.mem_of_getElem? e)
    exact ⟨if_pos g1, fre b g1⟩) (fun j ds e => by
    obtain ⟨b, vs, g1, g2, _, g4⟩ := rows.at e
    exact ⟨b, vs, g1, g2, g4⟩) rows.length
  have le := J1.le_add h3
  have J2 := J1.share h3 (if_pos h2) (fre a h2)
  have rp : Rep K ct (W1.add a (.lst ws)) (.ref a) (.lst (dss.map .lst)) := .lst upd_same (r1.mono le)
  refine ⟨_, _, l1.trans le, J2.fr, J2.hs, J2.tp, J2.ob, J2.rh, ?_, fun j s e => ?_⟩
  · have := J2.len
    rw [List.length_set] at this ⊢; exact this
  · rcases getset e with ⟨rfl, rfl, hi⟩ | ⟨hj, e⟩
    · exact ⟨.ref a, h1, rp⟩
    · exact J2.sl j s (by rw [List.getElem?_set_ne (Ne.symm hj)]; exact e)
end
section
variable {X : Cx} {ct : CT} {x y ix : Expr} {a b : Sem} {f : SemS} {pos p apos npos tpos : Pos} {n : Str} {sx : Stmt}
def sFrz2 (i : Nat) (f : SemS) : SemS := fun env st => match (env[i]? : Option Kn.Slot) with
  | some (.o2 dss) => f (env.set i (.sh (.lst (dss.map .lst)))) st
  | _ => f env st
theorem ss_frz2 (i : Nat) (h : SS X ct sx f) : SS X ct sx (sFrz2 i f) := by
  refine ⟨ps_mono h.ps fun D σ H ⟨F, W, L, env, st, o, env', st', I, e, k⟩ => ?_⟩
  unfold sFrz2 at e
  split at e
  · rename_i d he
    obtain ⟨W', L', le, J⟩ := I.freeze2 he
    exact ⟨F, W', L', _, st, o, env', st', J, e, k.mono le⟩
  · exact ⟨F, W, L, env, st, o, env', st', I, e, k⟩
end

/-! ### rows that stand aside in the frame -/
section
variable {K : PySem.W.Frag} {ct : CT} {F F' H H' : Hp} {W W' : Wd} {L L' : Addr → Option Lab} {env : List Kn.Slot} {st : Sto} {σ σ' : St} {l : Lab}
theorem Rows.move : ∀ {ws : List V} {dss : List (List D)} {l' : Lab}, Rows K ct W H L l ws dss → W.le W' → (∀ a o, V.ref a ∈ ws → H a = some o → H' a = some o ∧ L' a = some l') → Rows K ct W' H' L' l' ws dss
  | _, _, _, .nil, _, _ => .nil
  | _, _, _, .cons g1 g2 g3 g4 r, le, h => .cons (h _ _ List.mem_cons_self g1).1 (h _ _ List.mem_cons_self g1).2 (g3.mono le) g4 (r.move le fun a o ha => h a o (List.mem_cons_of_mem _ ha))
theorem upd_eta {F : Hp} {p : Addr} {o : HO} (h : F p = some o) : F = upd F p o := by
  funext b
  by_cases hb : b = p
  · subst hb; rw [upd_same]; exact h
  · rw [upd_ne hb]
theorem Rel.upd_frame {p : Addr} {o o' : HO} (I : Rel K ct F W L env st σ H) (h : F p = some o) (hn : ∀ xs, o ≠ .tup xs) : Rel K ct (upd F p o') W L env st σ (upd H p o') := by
  refine frame_upd (o := o) hn ?_
  rw [← upd_eta h]; exact I
open Classical in
theorem Rel.take2 {ws : List V} {dss : List (List D)} {i : Nat} {m : Addr} (I : Rel K ct F' W L env st σ H) (hF : ∀ b u, F b = some u → F' b = some u ∧ b ≠ m ∧ V.ref b ∉ ws) (hm : (F' m).isSome = true) (hH : H m = some (.lst ws)) (hr : ∀ b, V.ref b ∈ ws → (F' b).isSome = true)
    (hs : σ'[i]? = some (some (.ref m))) (ho : ∀ j : Nat, j ≠ i → σ'[j]? = σ[j]?) (hl : σ'.length = σ.length) (hn : V.ref m ∉ ws) (rows : Rows K ct W H (fun b => if b = m ∨ V.ref b ∈ ws then some (.slot i) else L b) (.slot i) ws dss) :
    Rel K ct F W (fun b => if b = m ∨ V.ref b ∈ ws then some (.slot i) else L b) (env.set i (.o2 dss)) st σ' H := by
  have inF : ∀ b, (b = m ∨ V.ref b ∈ ws) → L b = none ∧ W.hs b = none := fun b hb => by
    have : (F' b).isSome = true := by
      rcases hb with rfl | hb
      · exact hm
      · exact hr b hb
    obtain ⟨u, hu⟩ := Option.isSome_iff_exists.mp this
    exact ⟨(I.fr b u hu).2.1, (I.fr b u hu).2.2⟩
  have lab : ∀ b, ¬ (b = m ∨ V.ref b ∈ ws) → (if b = m ∨ V.ref b ∈ ws then some (Lab.slot i) else L b) = L b := fun b h => if_neg h
  refine ⟨fun b u e => ?_, fun b u e => ?_, I.tp, fun g κ x e => ?_, I.rh, by rw [List.length_set, hl]; exact I.len, fun j s e => ?_⟩
  · obtain ⟨e', n1, n2⟩ := hF b u e
    obtain ⟨h1, h2, h3⟩ := I.fr b u e'
    exact ⟨h1, (lab b fun z => z.elim n1 n2).trans h2, h3⟩
  · obtain ⟨h1, h2⟩ := I.hs b u e
    refine ⟨h1, (lab b fun z => ?_).trans h2⟩
    have := (inF b z).2
    rw [this] at e; cases e
  · obtain ⟨v, h1, h2⟩ := I.ob g κ x e
    refine ⟨v, h1, ?_⟩
    have q : (fun b => if (if b = m ∨ V.ref b ∈ ws then some (Lab.slot i) else L b) = some (.ob g) then H b else none) = fun b => if L b = some (.ob g) then H b else none := by
      funext b
      by_cases hb : b = m ∨ V.ref b ∈ ws
      · rw [if_pos hb]; simp [(inF b hb).1]
      · rw [lab b hb]
    rw [q]; exact h2
  · rcases getset e with ⟨rfl, rfl, hi⟩ | ⟨hj, e⟩
    · exact ⟨m, ws, hs, if_pos (.inl rfl), hH, hn, rows⟩
    · refine ((I.sl j s e).at' (ho j hj)).mono (.refl W) fun b u hb hu => ⟨hu, ?_⟩
      rw [lab b fun z => by rw [(inF b z).1] at hb; cases hb]; exact hb
open Classical in
/-- the rows stand aside -/
theorem Rel.give2 {ws : List V} {i : Nat} {m : Addr} {dss : List (List D)} (I : Rel K ct F W L env st σ H) (hL : L m = some (.slot i)) (hH : H m = some (.lst ws)) (rows : Rows K ct W H L (.slot i) ws dss) :
    Rel K ct (fun b => if b = m ∨ V.ref b ∈ ws then H b else F b) W (fun b => if L b = some (.slot i) then none else L b) (env.set i .no) st σ H ∧ ∀ b u, F b = some u → b ≠ m ∧ V.ref b ∉ ws := by
  have J := I.clear i
  have inL : ∀ b, (b = m ∨ V.ref b ∈ ws) → L b = some (.slot i) := fun b hb => hb.elim (fun z => by rw [z]; exact hL) fun z => (rows.lab b z).1
  have nF : ∀ b u, F b = some u → ¬ (b = m ∨ V.ref b ∈ ws) := fun b u e z => by
    have := (I.fr b u e).2.1
    rw [inL b z] at this; cases this
  refine ⟨⟨fun b u e => ?_, J.hs, J.tp, J.ob, J.rh, J.len, J.sl⟩, fun b u e => ⟨fun z => nF b u e (.inl z), fun z => nF b u e (.inr z)⟩⟩
  by_cases hb : b = m ∨ V.ref b ∈ ws
  · rw [if_pos hb] at e
    refine ⟨e, if_pos (inL b hb), ?_⟩
    cases q : W.hs b with
    | none => rfl
    | some z => have := (I.hs b z q).2; rw [inL b hb] at this; cases this
  · rw [if_neg hb] at e
    exact J.fr b u e
end

/-! ### x[i].append(v) -/
section
variable {X : Cx} {ct : CT} {x y : Expr} {a b : Sem} {as : SemA} {pos cpos apos npos tpos : Pos} {n : Str}
def app2 (dss : List (List D)) (j : Int) (xs : List D) : Option (List (List D)) := match xs with
  | [d] => (ixN dss.length j).bind fun k => (dss[k]?).bind fun ds => if ds.length < sizeLine then some (dss.set k (ds ++ [d])) else none
  | _ => none
def sApp2 (i : Nat) (b : Sem) (as : SemA) : SemS := fun env st => (b env st).bind fun p => (as (env.set i .no) p.2).bind fun q => (valsR q.1).bind fun xs => match p.1.d, (env[i]? : Option Kn.Slot) with
  | .int j, some (.o2 dss) => (app2 dss j xs).map fun dss' => (.nx, env.set i (.o2 dss'), q.2)
  | _, _ => none
theorem app2_inv {dss dss' : List (List D)} {j : Int} {xs : List D} (h : app2 dss j xs = some dss') : ∃ d k ds, xs = [d] ∧ ixN dss.length j = some k ∧ dss[k]? = some ds ∧ ds.length < sizeLine ∧ dss' = dss.set k (ds ++ [d]) := by
  unfold app2 at h
  split at h
  · rename_i d
    obtain ⟨k, h1, h⟩ := bind2 h
    obtain ⟨ds, h2, h⟩ := bind2 h
    obtain ⟨h3, h4⟩ := ifs h
    exact ⟨d, k, ds, rfl, h1, h2, h3, h4⟩
  · cases h
open Classical in
theorem ss_app2 (i : Nat) (hbx : SE X ct y b) (ha : SA X ct [x] as) (hpx : PlainIx y := by exact fun _ _ => rfl)
    (hN : X.N[i]? = some n := by rfl) (hv : Vis X.env.scope n := by first | exact Or.inl rfl | exact Or.inr (Or.inl rfl) | exact Or.inr (Or.inr rfl)) (hd : (n == ("__debug__" : Str)) = false := by decide) (hcd : (n == ("__classdict__" : Str)) = false := by decide)
    (hbase : attributeBase (.Subscript (.Name n npos) y tpos) "append" X.env (eval (.Subscript (.Name n npos) y tpos) X.env) = eval (.Subscript (.Name n npos) y tpos) X.env := by rfl)
    (hfew : ((backTo cpos (starEach [x] X.env)).all (fun x => !x.1) && (backToKw cpos (keywordEach [] X.env)).all (fun x => x.1.isSome)
      && decide (([x] : List Expr).length + ([] : List Keyword).length + (if ([] : List Keyword).isEmpty then 0 else 1) < 30)) = true := by rfl)
    (hline : (apos.endLine == cpos.line) = true := by rfl) (hs : starEach [x] X.env = (false, eval x X.env) :: starEach [] X.env := by rfl) (hplain : (backTo cpos (starEach [] X.env)).any (·.1) = false := by rfl)
    (hsw : swapsWith (.Call (.Attribute (.Subscript (.Name n npos) y tpos) "append" apos) [x] [] cpos) none pos.line X.env = pure false := by rfl) :
    SS X ct (.Expr (.Call (.Attribute (.Subscript (.Name n npos) y tpos) "append" apos) [x] [] cpos) pos) (sApp2 i b as) := by
  refine ⟨ps_mono (ps_expr (pe_bm PySem.F.plainAttrs_list PySem.F.slot_list_append PySem.F.type_list_append mt_append (pe_ix ix_list (pe_var hN hv hd hcd) hbx.pe hpx) ha.pa hbase hfew hline hs hplain) hsw) fun D σ H ⟨F, W, L, env, st, o, env', st', I, e, kk⟩ => ?_⟩
  obtain ⟨⟨r1, st1⟩, h1, e⟩ := bind2 e
  obtain ⟨⟨rs, st2⟩, h2, e⟩ := bind2 e
  obtain ⟨xs, h3, e⟩ := bind2 e
  obtain ⟨j, dss, dss', hj, hc, hap, rfl, rfl, rfl⟩ : ∃ j dss dss', r1.d = .int j ∧ env[i]? = some (.o2 dss) ∧ app2 dss j xs = some dss' ∧ o = .nx ∧ env' = env.set i (.o2 dss') ∧ st' = st2 := by
    clear kk h1 h2
    dsimp only at e
    split at e
    · rename_i j dss e1 e2
      obtain ⟨dss', h4, e⟩ := map2 e
      injection e with z1 e
      injection e with z2 z3
      exact ⟨j, dss, dss', e1, e2, h4, z1.symm, z2.symm, z3.symm⟩
    · cases e
  obtain ⟨d, k, ds, rfl, hk, hds, hz, rfl⟩ := app2_inv hap
  obtain ⟨l, ws, s1, s2, s3, s4, rows⟩ := I.sl i _ hc
  refine ⟨_, s1, F, W, L, env, st, r1, st1, I, h1, fun v H1 W1 L1 l1 I1 p1 => ?_⟩
  obtain ⟨W1', m1, J1, q1⟩ := I1.pin p1
  have q1' := J1.look q1
  rw [R.pin_d, hj] at q1'
  obtain ⟨l', ws', t1, t2, t3, t4, rows1⟩ := J1.sl i _ hc
  rw [s1] at t1; cases t1
  obtain ⟨ra, vs, g1, g2, g3, g4⟩ := rows1.at hds
  have hat : atI ws' j = some (.ref ra) := by
    unfold atI
    rw [rows1.length, hk]; exact g1
  have ram : V.ref ra ∈ ws' := List.mem_of_getElem? g1
  obtain ⟨G1, G2⟩ := J1.give2 t2 t3 rows1
  refine ⟨l, ws', j, .ref ra, rfl, q1'.int, SqL.of t3, hat, .inl ⟨rfl, _, SqL.of g2⟩, _, W1', _, _, st1, rs, _, G1, h2, fun us H2 W2 L2 l2 I2 qs => ?_⟩
  have inF : ∀ b u, (b = l ∨ V.ref b ∈ ws') → H1 b = some u → H2 b = some u := fun b u hb hu => (I2.fr b u (by rw [if_pos hb]; exact hu)).1
  have hra := inF ra _ (.inr ram) g2
  have qv := qs.vals h3
  cases qv with
  | cons qd qn =>
    cases qn
    rename_i w
    refine ⟨ra, vs, w, rfl, rfl, hra, by rw [g4.length]; exact hz, ?_⟩
    have J3 := I2.upd_frame (p := ra) (o := .lst vs) (o' := .lst (vs ++ [w])) (by rw [if_pos (.inr ram)]; exact g2) (fun _ z => nomatch z)
    have nl : l ≠ ra := fun z => t4 (by rw [z]; exact ram)
    have hi : i < env.length := (List.getElem?_eq_some_iff.mp hc).1
    have rows2 : Rows X.K ct W2 (upd H2 ra (.lst (vs ++ [w]))) (fun b => if b = l ∨ V.ref b ∈ ws' then some (.slot i) else L2 b) (.slot i) ws' (dss.set k (ds ++ [d])) := by
      refine Rows.upd (H := H2) (rows1.move l2 fun b u hb hu => ⟨inF b u (.inr hb) hu, if_pos (.inr hb)⟩) g1 ((g4.mono l2).append (.cons qd .nil))
    have J4 := J3.take2 (F := F) (m := l) (ws := ws') (i := i) (σ' := σ) (dss := dss.set k (ds ++ [d])) (fun b u e => by
        obtain ⟨n1, n2⟩ := G2 b u e
        have : b ≠ ra := fun z => n2 (by rw [z]; exact ram)
        exact ⟨by rw [upd_ne this, if_neg (fun z => z.elim n1 n2)]; exact e, n1, n2⟩)
      (by rw [upd_ne nl, if_pos (.inl rfl), t3]; rfl) (by rw [upd_ne nl]; exact inF l _ (.inl rfl) t3)
      (fun b hb => by
        by_cases z : b = ra
        · rw [z, upd_same]; rfl
        · rw [upd_ne z, if_pos (.inr hb)]
          obtain ⟨_, vs', e⟩ := rows1.lab b hb
          rw [e]; rfl)
      s1 (fun _ _ => rfl) rfl t4 rows2
    rw [List.set_set] at J4
    exact kk _ _ _ _ (l1.trans (m1.trans l2)) J4
end

/-! ### x = [[] for .. in ..] -/
section
variable {X : Cx} {ct : CT} {x : Expr} {pos spos py lp : Pos} {n : Str}
def sEmp (i : Nat) (it : SemI) (vs : List Nat) (g : SemG) : SemS := fun env st => (it env st).bind fun p => if vs.all (fun j => (env[j]?.map Slot.okW).getD true) = true ∧ p.1.all (fun d => (g d (wipeE env vs)).isSome) = true ∧ p.1.length ≤ sizeLine ∧ i < env.length then some (.nx, env.set i (.o2 (List.replicate p.1.length [])), p.2) else none
open Classical in
theorem tSm_emp {K : PySem.W.Frag} {i : Nat} {it : SemI} {vs ts : List Nat} {g : SemG} (hts : ∀ j ∈ ts, j ∈ vs) {D : Ends} {σ : St} {H : Hp} (h : tSm K ct (sEmp i it vs g) D σ H) :
    tAsg (tLc (tI K ct it) (tG K ct ts g) (tT K ct eYes) (fun _ H Q => ∀ l, H l = none → Q (.ref l) (upd H l (.lst []))) vs) (gName i) D σ H := by
  obtain ⟨F, W, L, env, st, o, env', st', I, e, k⟩ := h
  obtain ⟨⟨ds, st1⟩, h1, e⟩ := bind2 e
  have okv : (vs.all (fun j => (env[j]?.map Slot.okW).getD true) = true ∧ ds.all (fun d => (g d (wipeE env vs)).isSome) = true ∧ ds.length ≤ sizeLine ∧ i < env.length) ∧ o = .nx ∧ env' = env.set i (.o2 (List.replicate ds.length [])) ∧ st' = st1 := by
    clear k h1
    dsimp only at e
    split at e
    · rename_i hh
      injection e with e
      injection e with z1 e
      injection e with z2 z3
      exact ⟨hh, z1.symm, z2.symm, z3.symm⟩
    · cases e
  obtain ⟨⟨okv, okg, hz, hie⟩, rfl, rfl, rfl⟩ := okv
  have ok : ∀ j : Nat, j ∈ vs → ∀ s, env[j]? = some s → s.okW = true := fun j hj s e => by
    have := List.all_eq_true.mp okv j hj
    rw [e] at this
    exact this
  refine ⟨F, W, L, env, st, ds, _, I, h1, fun J H1 W1 L1 l1 I1 wk p hp => ?_⟩
  obtain ⟨I2, n1, n2, n3⟩ := I1.laid (o := HO.lst []) hp
  have I3 := frame_add I2 (p := p) (o := HO.lst []) upd_same n1 n2
  refine ⟨fun j m H => m = ds.length - j ∧ j ≤ ds.length ∧ ∃ (Fr : Hp) (W2 : Wd) (L2 : Addr → Option Lab) (as : List Addr), W1.le W2 ∧ Rel K ct Fr W2 L2 env st' σ H ∧ Fr p = some (.lst (as.map V.ref)) ∧ as.Nodup ∧ as.length = j ∧ (∀ b ∈ as, Fr b = some (.lst []) ∧ F b = none ∧ b ≠ p) ∧ (∀ b, b ≠ p → b ∉ as → Fr b = F b),
    ⟨_, rfl, Nat.zero_le _, _, W1, _, [], .refl W1, I3, upd_same, by simp, rfl, by simp, fun b hb _ => upd_ne hb⟩, ?_⟩
  rintro j m H ⟨rfl, hj, Fr, W2, L2, as, l2, I4, fp, nd, al, fa, ff⟩
  have wk2 := wk _ W2 L2 env st' σ H j l2 I4
  have wk3 := wk _ W2 L2 (wipeE env vs) st' (wipe σ vs) H j l2 (I4.wiped vs)
  by_cases hlt : j < ds.length
  · obtain ⟨env3, h3⟩ := Option.isSome_iff_exists.mp (List.all_eq_true.mp okg ds[j] (List.getElem_mem hlt))
    obtain ⟨go, yl⟩ := wk3.1 ds[j] (List.getElem?_eq_getElem hlt)
    refine .inr ⟨go, fun H' => j + 1 ≤ ds.length ∧ ∃ (Fr : Hp) (W2 : Wd) (L2 : Addr → Option Lab) (as : List Addr), W1.le W2 ∧ Rel K ct Fr W2 L2 env st' σ H' ∧ Fr p = some (.lst (as.map V.ref)) ∧ as.Nodup ∧ as.length = j + 1 ∧ (∀ b ∈ as, Fr b = some (.lst []) ∧ F b = none ∧ b ≠ p) ∧ (∀ b, b ≠ p → b ∉ as → Fr b = F b), fun H' q => ⟨_, by omega, rfl, q⟩, fun v H' y => ?_⟩
    obtain ⟨W3, L3, l3, I5, r5⟩ := yl v H' y
    refine ⟨_, W3, L3, wipeE env vs, st', _, env3, I5, r5, h3, fun σ3 o1 o2 I6 => ?_⟩
    have hs : ∀ j : Nat, j ∉ vs → σ3[j]? = (wipe σ vs)[j]? := fun j hj => o1.2 j fun z => hj (hts j z)
    have hs' : ∀ j : Nat, j ∉ vs → σ3[j]? = σ[j]? := fun j hj => (hs j hj).trans (wipe_out hj)
    have he : ∀ j : Nat, j ∉ vs → env3[j]? = env[j]? := fun j hj => (o2.2 j fun z => hj (hts j z)).trans (wipeE_out hj)
    refine ⟨wipe_again (by rw [o1.1, wipe_length]) hs, ?_⟩
    refine ⟨_, W3, L3, env3, st', true, st', I6, rfl, fun H6 W6 L6 l6 I7 => ?_⟩
    refine iteT fun q hq => ?_
    have I9 := Rel.back (vs := vs) I4 (l3.trans l6) I7 hs' he ok
    obtain ⟨J1, z1, z2, z3⟩ := I9.laid (o := HO.lst []) hq
    have J2 := frame_add J1 (p := q) (o := HO.lst []) upd_same z1 z2
    have hHp : H6 p = some (.lst (as.map V.ref)) := (I9.fr p _ fp).1
    have qp : q ≠ p := by rintro rfl; rw [hHp] at hq; cases hq
    have qas : q ∉ as := fun hm => by
      have := (I9.fr q _ (fa q hm).1).1
      rw [hq] at this; cases this
    have Fq : F q = none := by rw [← ff q qp qas]; exact z3
    have J3 := J2.upd_frame (p := p) (o := .lst (as.map V.ref)) (o' := .lst (as.map V.ref ++ [.ref q])) (by rw [upd_ne qp.symm]; exact fp) (fun _ z => nomatch z)
    refine ⟨as.map V.ref, by rw [upd_ne qp.symm]; exact hHp, by rw [List.length_map, al]; omega, hlt, _, W6, _, as ++ [q], l2.trans (l3.trans l6), J3, ?_, ?_, by rw [List.length_append, al]; rfl, ?_, ?_⟩
    · rw [upd_same, List.map_append]; rfl
    · exact List.nodup_append.mpr ⟨nd, by simp, fun a ha b hb z => qas (by rw [List.mem_singleton.mp hb] at z; rw [← z]; exact ha)⟩
    · intro b hb
      rcases List.mem_append.mp hb with hb | hb
      · obtain ⟨g1, g2, g3⟩ := fa b hb
        have : b ≠ q := fun z => qas (by rw [← z]; exact hb)
        exact ⟨by rw [upd_ne g3, upd_ne this]; exact g1, g2, g3⟩
      · rw [List.mem_singleton.mp hb]
        exact ⟨by rw [upd_ne qp, upd_same], Fq, qp⟩
    · intro b hb hn
      have : b ≠ q := fun z => hn (by rw [z]; simp)
      rw [upd_ne hb, upd_ne this]
      exact ff b hb fun z => hn (List.mem_append_left _ z)
  · have ej : j = ds.length := by omega
    subst ej
    refine .inl ⟨wk2.2 (by omega), ?_⟩
    have hHp : H p = some (.lst (as.map V.ref)) := (I4.fr p _ fp).1
    have mem : ∀ b, V.ref b ∈ as.map V.ref ↔ b ∈ as := fun b => ⟨fun h => by
      obtain ⟨c, hc, e⟩ := List.mem_map.mp h
      cases e; exact hc, fun h => List.mem_map.mpr ⟨b, h, rfl⟩⟩
    have rows : ∀ (as' : List Addr), as'.Nodup → (∀ b ∈ as', b ∈ as) → Rows K ct W2 H (fun b => if b = p ∨ V.ref b ∈ as.map V.ref then some (.slot i) else L2 b) (.slot i) (as'.map V.ref) (List.replicate as'.length []) := by
      intro as'
      induction as' with
      | nil => intro _ _; exact .nil
      | cons a as' ih =>
        intro nd' hm
        rw [List.nodup_cons] at nd'
        have ha := hm a List.mem_cons_self
        refine .cons (vs := []) (I4.fr a _ (fa a ha).1).1 (if_pos (.inr ((mem a).mpr ha))) .nil (fun z => ?_) (ih nd'.2 fun b hb => hm b (List.mem_cons_of_mem _ hb))
        obtain ⟨c, hc, e⟩ := List.mem_map.mp z
        cases e; exact nd'.1 hc
    have R := rows as nd fun _ h => h
    rw [al] at R
    have hFp : F p = none := n3
    refine k _ _ _ _ (l1.trans l2) (I4.take2 (F := F) (m := p) (i := i) (σ' := σ.set i (some (.ref p))) (fun b u e => ?_) (by rw [fp]; rfl) hHp (fun b hb => by rw [(fa b ((mem b).mp hb)).1]; rfl) ?_ (fun j hj => List.getElem?_set_ne (Ne.symm hj)) List.length_set (fun z => (fa p ((mem p).mp z)).2.2 rfl) R)
    · have b1 : b ≠ p := by rintro rfl; rw [hFp] at e; cases e
      have b2 : b ∉ as := fun z => by rw [(fa b z).2.1] at e; cases e
      exact ⟨by rw [ff b b1 b2]; exact e, b1, fun z => b2 ((mem b).mp z)⟩
    · rw [List.getElem?_set_self (by rw [I4.len]; exact hie)]
theorem ss_emp (i : Nat) {tg : Expr} {scope : Scope} {own : List (Str × Nat)} {it : SemI} {ts : List Nat} {g : SemG} (hc : X.calm = true) (hN : X.N.Nodup) (hi : SI X ct tg x it) (ok : BlkOk X.N X.env.scope scope own)
    (hg : ∀ (s : Shared) (H : Hp) (C : Addr) (cl : List (Str × Addr)) (fp : List Addr), SG (X.blk s H scope (compEnvC scope cl C X.env) fp) ct tg ts g) (hy : X.N[i]? = some n := by rfl) (hyl : X.env.scope.names.lookup n = some .local := by rfl)
    (hsw : swapsWith (.ListComp (.List [] lp) [⟨tg, x, [], 0⟩] scope pos) (some (.Name n py)) spos.line X.env = pure true := by exact sw_true rfl rfl rfl (by decide +kernel)) (hts : ∀ j ∈ ts, j ∈ own.map (·.2) := by decide) (hs : ∀ z, foldedSetIterable x X.env z = pure z := by intro _; rfl) :
    SS X ct (.Assign [.Name n py] (.ListComp (.List [] lp) [⟨tg, x, [], 0⟩] scope pos) spos) (sEmp i it (own.map (·.2)) g) :=
  ⟨ps_mono (ps_setLc (tt := tT X.K ct eYes) (g := tG X.K ct ts g) hc hN hy hyl hsw hi.pi ok (fun s H C cl fp => (hg s H C cl fp).pg) (fun s H C cl fp => sts_nil.pts) (fun s H C cl fp => pe_mono (pe_lst pa_nil) fun _ _ _ h => ⟨Nat.zero_le _, h⟩) hs) fun D σ H h => tSm_emp hts h⟩
end

/-! ### evaluating -/
section
variable {env : List Kn.Slot} {st : Sto} {a b : Sem} {as : SemA} {f : SemS} {c : Str} {ds : List D} {n k i : Nat} {m : Fn} {it : SemI} {vs : List Nat} {g : SemG} {d : D}
@[simp] theorem x_fld : fFld c k (.obj c ds) = ds[k]?.map .sh := if_pos rfl
@[simp] theorem x_meth : eMeth n c m a as env st = (a env st).bind fun p => match p.1.pin with
  | .sh (.obj c' ds) => if c' = c then (as env p.2).bind fun q => (valsR q.1).bind fun es => if es.length + 1 = n then m (.obj c' ds :: es) q.2 else none else none
  | _ => none := rfl
@[simp] theorem x_make : eMake n m as env st = (as env st).bind fun p => (valsR p.1).bind fun ds => if ds.length + 1 = n then m ds p.2 else none := rfl
@[simp] theorem x_fldM : sFldM i c k a env st = (a env st).bind fun p => match p.1.pin, (env[i]? : Option Kn.Slot) with
  | .sh d, some (.me ad (.obj c' ds)) => if c' = c ∧ k = ds.length then some (.nx, env.set i (.me ad (.obj c' (ds ++ [d]))), p.2) else none
  | _, _ => none := rfl
@[simp] theorem x_frz2 : sFrz2 i f env st = match (env[i]? : Option Kn.Slot) with
  | some (.o2 dss) => f (env.set i (.sh (.lst (dss.map .lst)))) st
  | _ => f env st := rfl
@[simp] theorem x_app2 : sApp2 i b as env st = (b env st).bind fun p => (as (env.set i .no) p.2).bind fun q => (valsR q.1).bind fun xs => match p.1.d, (env[i]? : Option Kn.Slot) with
  | .int j, some (.o2 dss) => (app2 dss j xs).map fun dss' => (.nx, env.set i (.o2 dss'), q.2)
  | _, _ => none := rfl
@[simp] theorem x_emp : sEmp i it vs g env st = (it env st).bind fun p => if vs.all (fun j => (env[j]?.map Slot.okW).getD true) = true ∧ p.1.all (fun d => (g d (wipeE env vs)).isSome) = true ∧ p.1.length ≤ sizeLine ∧ i < env.length then some (.nx, env.set i (.o2 (List.replicate p.1.length [])), p.2) else none := rfl
theorem fIn_ints (S : List Int) (x : Int) : fIn (.int x) (.lst (S.map .int)) = some (.sh (.bl (decide (x ∈ S)))) := by
  unfold fIn fInB
  simp only [ok_ints, ok_int, and_self, if_true, any_ints]; rfl
theorem app2_nat {nr : List (List Nat)} {j k : Nat} (h : j < nr.length) (hz : (nr.getD j []).length < 1000) : app2 (nr.map fun l => l.map nI) (j : Int) [.int (k : Nat)] = some ((nr.set j (nr.getD j [] ++ [k])).map fun l => l.map nI) := by
  show ((ixN (nr.map fun l => l.map nI).length (j : Int)).bind _) = _
  rw [List.length_map, ixN_nat h]
  show (((nr.map fun l => l.map nI)[j]?).bind _) = _
  have e : nr[j]? = some (nr.getD j []) := by rw [List.getD_eq_getElem?_getD, List.getElem?_eq_getElem h]; rfl
  rw [List.getElem?_map, e]
  show (if ((nr.getD j []).map nI).length < sizeLine then _ else _) = _
  rw [if_pos (by rw [List.length_map]; exact x_sz2 (by omega)), List.map_set, List.map_append]; rfl
end

theorem gMul_b {i j : Int} (h1 : i.natAbs < 2 ^ 300) (h2 : j.natAbs < 2 ^ 300) : gMul i j = some (i * j) := by
  have : 2 ^ 300 ≤ 2 ^ 400000 := Nat.pow_le_pow_right (by decide) (by decide)
  refine gMul_of ?_ ?_
  · exact Nat.lt_of_lt_of_le h1 this
  · exact Nat.lt_of_lt_of_le h2 this
theorem gPow_s {i j : Int} (h1 : 0 ≤ j ∧ j ≤ 1000) (h2 : i.natAbs ≤ 1000) : gPow i j = some (i ^ j.toNat) := by
  unfold gPow
  exact if_pos ⟨h1.1, by omega, by omega⟩
theorem gDiv_b {i j : Int} (h : 0 < j) (h2 : j < 2 ^ 60) : gDiv i j = some (i / j) := by
  refine gDiv_of h ?_
  have e : (2 : Int) ^ 8000 = ((2 ^ 8000 : Nat) : Int) := (Int.natCast_pow 2 8000).symm
  have : 2 ^ 60 ≤ 2 ^ 8000 := Nat.pow_le_pow_right (by decide) (by decide)
  rw [e]
  generalize 2 ^ 8000 = z at this
  omega
theorem slc4_3 (a b c d : D) : fSlc (.tup [a, b, c, d]) none (some 3) = some (.sh (.tup [a, b, c])) := by
  have e1 : HT.sIx 4 4 (some 3) = 3 := HT.sIx_nat 4 4 3
  have e2 : HT.sIx 4 0 none = 0 := HT.sIx_none ..
  show (if ¬ (HT.sIx 4 0 none = 0 ∧ HT.sIx 4 4 (some 3) = 4) then some (R.sh (.tup (cutG [a, b, c, d] none (some 3)))) else none) = _
  rw [e1, if_pos (by omega)]
  have := cutG_to [a, b, c, d] 3
  rw [show ((3 : Nat) : Int) = 3 from rfl] at this
  rw [this]; rfl
theorem fMinL_some {ns : List Int} (h : ns ≠ []) : ∃ m, fMinL (.lst (ns.map .int)) = some (.sh (.int m)) := by
  cases ns with
  | nil => exact absurd rfl h
  | cons n ns =>
    refine ⟨minI n ns, ?_⟩
    show ((intsL ((n :: ns).map D.int)).bind _) = _
    rw [intsL_map]; rfl
end Kn
namespace Law
open PySem L2 Kn
/-! the defs as functions -/
noncomputable def b_Town_name : SemS :=
  sRet (e2 fIdx (e1 (fFld "Town" 2) (eVar 0)) (eVar 1))
noncomputable def m_Town_name : Fn := fun ds st => if ds.length = 2 then runB 2 b_Town_name ds st else none
noncomputable def b_own_row : SemS :=
  sRet (eTup (aCons (eMeth 2 "Town" m_Town_name (eVar 0) (aCons (eVar 1) (aNil))) (aCons (eC (.int 0)) (aCons (eC (.int 0)) (aCons (eC .non) (aNil))))))
noncomputable def m_own_row : Fn := fun ds st => if ds.length = 2 then runB 2 b_own_row ds st else none
noncomputable def b_Town_rope : SemS :=
  sRet (e2 fIdx (e1 (fFld "Town" 3) (eVar 0)) (eVar 1))
noncomputable def m_Town_rope : Fn := fun ds st => if ds.length = 2 then runB 2 b_Town_rope ds st else none
noncomputable def b_offer : SemS :=
  sSeq (sAsg (eVar 1) (gTp [gNm 3, gNm 4, gNm 5, gNm 6])) (sSeq (sIf (e2 fGe (e2 fAdd (eVar 5) (eC (.int 1))) (e1 (fFld "Town" 0) (eVar 0))) (sRet (eC .non)) (sNil)) (sRet (eTup (aCons (eVar 3) (aCons (e2 fAdd (eVar 4) (e2 fIdx (eMeth 2 "Town" m_Town_rope (eVar 0) (aCons (eVar 2) (aNil))) (eC (.int 2)))) (aCons (e2 fAdd (eVar 5) (eC (.int 1))) (aCons (eVar 2) (aNil))))))))
noncomputable def m_offer : Fn := fun ds st => if ds.length = 3 then runB 7 b_offer ds st else none
noncomputable def lb_ask_names_0 : SemS :=
  sIf (eOr (e2 fLt (e2 fIdx (eVar 0) (eVar 1)) (eC (.int 0))) (e2 fIn (e2 fIdx (eVar 0) (eVar 1)) (eSlc (eVar 0) (pNo) (pSome (eVar 1))))) (sNever) (sNil)
noncomputable def b_ask_names : SemS :=
  sSeq (sIf (eNot (eChain fLe fLe (eC (.int 1)) (e1 fLen (eVar 0)) ((eC (.int 10))))) (sNever) (sNil)) (sFor (iRng1' (e1 fLen (eVar 0))) (gNm 1) lb_ask_names_0)
noncomputable def m_ask_names : Fn := fun ds st => if ds.length = 1 then runB 2 b_ask_names ds st else none
noncomputable def b_ask_rope : SemS :=
  sSeq (sAsg (eVar 1) (gTp [gNm 2, gNm 3, gNm 4, gNm 5, gNm 6])) (sSeq (sIf (eOr (eNot (eChain fLe fLt (eC (.int 0)) (eVar 2) (eVar 0))) (eOr (eNot (eChain fLe fLt (eC (.int 0)) (eVar 3) (eVar 0))) (e2 fEq (eVar 2) (eVar 3)))) (sNever) (sNil)) (sIf (eOr (e2 fLt (eVar 4) (eC (.int 1))) (eOr (eNot (eChain fLe fLe (eC (.int 1)) (eVar 5) (eC (.int 4)))) (eNot (eChain fLe fLe (eC (.int 1)) (eVar 6) (eC (.int 7)))))) (sNever) (sNil)))
noncomputable def m_ask_rope : Fn := fun ds st => if ds.length = 2 then runB 7 b_ask_rope ds st else none
noncomputable def lb_Town_init_0 : SemS :=
  sSeq (sEx (eCall 2 m_ask_rope (aCons (e1 fLen (eVar 1)) (aCons (eVar 5) (aNil))))) (sSeq (sApp2 3 (e2 fIdx (eVar 5) (eC (.int 0))) (aCons (eVar 4) (aNil))) (sApp2 3 (e2 fIdx (eVar 5) (eC (.int 1))) (aCons (eVar 4) (aNil))))
noncomputable def b_Town_init : SemS :=
  sSeq (sEx (eCall 1 m_ask_names (aCons (eVar 1) (aNil)))) (sSeq (sIf (e2 fGt (e1 fLen (eVar 2)) ((eC (.int 20)))) (sNever) (sNil)) (sSeq (sEmp 3 (iSeq (eVar 1)) [6] (gNm 6)) (sSeq (sFor (iEnum' (eVar 2)) (gTp [gNm 4, gNm 5]) lb_Town_init_0) (sSeq (sFldM 0 "Town" 0 (e1 fLen (eVar 1))) (sSeq (sFldM 0 "Town" 1 (e1 fLen (eVar 2))) (sSeq (sFldM 0 "Town" 2 (e1 fLofs (eVar 1))) (sSeq (sFldM 0 "Town" 3 (e1 fLofs (eVar 2))) (sFrz2 3 (sFldM 0 "Town" 4 (eVar 3))))))))))
noncomputable def m_Town_init : Fn := runI 7 "Town" b_Town_init
noncomputable def b_law_cell_at : SemS :=
  sSeq (sIf (e2 fLt (eVar 1) (e1 fLen (eVar 0))) (sRet (e2 fIdx (eVar 0) (eVar 1))) (sNil)) (sRet (eC (.int 0)))
noncomputable def m_law_cell_at : Fn := fun ds st => if ds.length = 2 then runB 2 b_law_cell_at ds st else none
noncomputable def b_law_whole : SemS :=
  sRet (eAnd (e1 (fIsi "int") (eVar 0)) (eNot (e1 (fIsi "bool") (eVar 0))))
noncomputable def m_law_whole : Fn := fun ds st => if ds.length = 1 then runB 1 b_law_whole ds st else none
noncomputable def lb_law_numbers_0 : SemS :=
  sSeq (sSet 2 (e2 (fI gMod) (e2 fAdd (e2 fAdd (e2 fMul (eVar 2) (e2 fAdd (e2 fAdd (eVar 2) (e2 fMul (eC (.int 6)) (eVar 4))) (eC (.int 30011)))) (e2 fMul (eC (.int 20011)) (eVar 4))) (eC (.int 5))) (eC (.int 1000000007)))) (sMut 3 fApp (aCons (eVar 2) (aNil)))
noncomputable def b_law_numbers : SemS :=
  sSeq (sSet 2 (e2 (fI gMod) (eVar 0) (eC (.int 1000000007)))) (sSeq (sSet 3 (eLst (aNil))) (sSeq (sFor (iRng1' (eVar 1)) (gNm 4) lb_law_numbers_0) (sRet (eVar 3))))
noncomputable def m_law_numbers : Fn := fun ds st => if ds.length = 2 then runB 5 b_law_numbers ds st else none
noncomputable def lb_law_names_1 : SemS :=
  sSet 7 (e2 fAdd (eVar 7) (eC (.int 1)))
noncomputable def lt_law_names_1 : Sem :=
  e2 fIn (eVar 7) (eVar 5)
noncomputable def lb_law_names_0 : SemS :=
  sSeq (sSet 7 (e2 fMul (e2 (fI gMod) (e2 (fI gDiv) (eVar 6) (eC (.int 9))) (eVar 3)) (eVar 4))) (sSeq (sWhl 100000 lt_law_names_1 lb_law_names_1) (sMut 5 fApp (aCons (eVar 7) (aNil))))
noncomputable def b_law_names : SemS :=
  sSeq (sSet 2 (eCall 2 m_law_numbers (aCons (eVar 1) (aCons (eVar 0) (aNil))))) (sSeq (sSet 3 (e2 fIdx (eLst (aCons (eC (.int 9)) (aCons (eC (.int 30)) (aCons (eC (.int 1000000007)) (aNil))))) (e2 (fI gMod) (e2 fIdx (eVar 2) (eC (.int 0))) (eC (.int 3))))) (sSeq (sSet 4 (e2 fIdx (eLst (aCons (eC (.int 1)) (aCons (eC (.int 1)) (aCons (e2 fAdd (e2 (fI gPow) (eC (.int 10)) (eC (.int 50))) (eC (.int 9))) (aNil))))) (e2 (fI gMod) (e2 (fI gDiv) (e2 fIdx (eVar 2) (eC (.int 0))) (eC (.int 3))) (eC (.int 3))))) (sSeq (sSet 5 (eLst (aNil))) (sSeq (sFrz 2 (sFor (iSeq (eVar 2)) (gNm 6) lb_law_names_0)) (sRet (eVar 5))))))
noncomputable def m_law_names : Fn := fun ds st => if ds.length = 2 then runB 8 b_law_names ds st else none
noncomputable def lb_law_ropes_0 : SemS :=
  sSeq (sSet 5 (e2 (fI gMod) (eVar 4) (eVar 0))) (sSeq (sSet 6 (e2 (fI gMod) (e2 fAdd (e2 fAdd (eVar 5) (eC (.int 1))) (e2 (fI gMod) (e2 (fI gDiv) (eVar 4) (eC (.int 16))) (e2 (fI gSub') (eVar 0) (eC (.int 1))))) (eVar 0))) (sSeq (sSet 7 (e2 fAdd (eC (.int 1)) (e2 (fI gMod) (e2 (fI gDiv) (eVar 4) (eC (.int 256))) (eC (.int 4))))) (sSeq (sIf (e2 fEq (e2 (fI gMod) (e2 (fI gDiv) (eVar 4) (eC (.int 1024))) (eC (.int 8))) (eC (.int 5))) (sSet 7 (e2 fAdd (e2 fMul (e2 fAdd (eC (.int 1)) (e2 (fI gMod) (e2 (fI gDiv) (eVar 4) (eC (.int 8192))) (eC (.int 1000)))) (e2 (fI gPow) (eC (.int 10)) (eC (.int 55)))) (e2 (fI gMod) (eVar 4) (eC (.int 3))))) (sNil)) (sSeq (sSet 8 (e2 fIdx (eLst (aCons (eC (.int 7)) (aCons (eC (.int 7)) (aCons (eC (.int 7)) (aCons (e2 fAdd (eC (.int 1)) (e2 (fI gMod) (e2 (fI gDiv) (eVar 4) (eC (.int 8192))) (eC (.int 7)))) (aNil)))))) (e2 (fI gMod) (e2 (fI gDiv) (eVar 4) (eC (.int 1048576))) (eC (.int 4))))) (sMut 2 fApp (aCons (eTup (aCons (eVar 5) (aCons (eVar 6) (aCons (eVar 7) (aCons (e2 fAdd (eC (.int 1)) (e2 (fI gMod) (e2 (fI gDiv) (eVar 4) (eC (.int 4194304))) (eC (.int 4)))) (aCons (eVar 8) (aNil))))))) (aNil)))))))
noncomputable def b_law_ropes : SemS :=
  sSeq (sSet 2 (eLst (aNil))) (sSeq (sIf (e2 fGt (eVar 0) (eC (.int 1))) (sSeq (sSet 3 (e2 fIdx (eLst (aCons (e2 (fI gMod) (e2 (fI gDiv) (eVar 1) (eC (.int 3))) (eC (.int 21))) (aCons (e2 fAdd (e2 fMul (eC (.int 2)) (eVar 0)) (e2 (fI gMod) (e2 (fI gDiv) (eVar 1) (eC (.int 3))) (e2 (fI gSub') (eC (.int 21)) (e2 fMul (eC (.int 2)) (eVar 0))))) (aNil)))) (e1 fInt (e2 fGt (e2 (fI gMod) (eVar 1) (eC (.int 3))) (eC (.int 0)))))) (sFor (iSeq (eCall 2 m_law_numbers (aCons (eVar 1) (aCons (eVar 3) (aNil))))) (gNm 4) lb_law_ropes_0)) (sNil)) (sRet (eVar 2)))
noncomputable def m_law_ropes : Fn := fun ds st => if ds.length = 2 then runB 9 b_law_ropes ds st else none
noncomputable def b_law_any_row : SemS :=
  sSeq (sSet 3 (eCall 2 m_law_numbers (aCons (eVar 0) (aCons (eC (.int 4)) (aNil))))) (sSeq (sSet 4 (e2 fIdx (eVar 1) (e2 (fI gMod) (e2 fIdx (eVar 3) (eC (.int 0))) (e1 fLen (eVar 1))))) (sSeq (sSet 5 (e2 fIdx (eLst (aCons (eVar 4) (aCons (e1 fMinL (eVar 1)) (aCons (e2 (fI fun i j => some (if j > i then j else i)) (e2 (fI gSub') (eVar 4) (eC (.int 1))) (eC (.int 0))) (aCons (e2 fAdd (eVar 4) (eC (.int 1))) (aCons (e2 (fI gDiv) (e2 fIdx (eVar 3) (eC (.int 0))) (eC (.int 256))) (aNil))))))) (e2 (fI gMod) (e2 (fI gDiv) (e2 fIdx (eVar 3) (eC (.int 0))) (eC (.int 16))) (eC (.int 5))))) (sSeq (sSet 6 (e2 (fI gMod) (e2 (fI gDiv) (e2 fIdx (eVar 3) (eC (.int 1))) (eC (.int 4))) (eC (.int 9)))) (sSeq (sIf (e2 fEq (e2 (fI gMod) (e2 fIdx (eVar 3) (eC (.int 1))) (eC (.int 4))) (eC (.int 3))) (sSet 6 (e2 fMul (e2 fIdx (eVar 3) (eC (.int 1))) (e2 (fI gPow) (eC (.int 10)) (eC (.int 49))))) (sNil)) (sSeq (sSet 7 (eC .non)) (sSeq (sIf (eAnd (e2 fGt (eVar 2) (eC (.int 0))) (e2 fGt (e2 (fI gMod) (e2 fIdx (eVar 3) (eC (.int 3))) (eC (.int 5))) (eC (.int 0)))) (sSet 7 (e2 (fI gMod) (e2 (fI gDiv) (e2 fIdx (eVar 3) (eC (.int 3))) (eC (.int 8))) (eVar 2))) (sNil)) (sRet (eTup (aCons (eVar 5) (aCons (eVar 6) (aCons (e2 (fI gMod) (e2 (fI gDiv) (e2 fIdx (eVar 3) (eC (.int 2))) (eC (.int 4))) (e1 fLen (eVar 1))) (aCons (eVar 7) (aNil)))))))))))))
noncomputable def m_law_any_row : Fn := fun ds st => if ds.length = 3 then runB 8 b_law_any_row ds st else none
noncomputable def ce_law_row_like_0 : Sem :=
  eCall 1 m_law_whole (aCons (eVar 2) (aNil))
noncomputable def b_law_row_like : SemS :=
  sSeq (sIf (eOr (eNot (e1 (fIsi "tuple") (eVar 0))) (eOr (e2 fNe (e1 fLen (eVar 0)) (eC (.int 4))) (eNot (e1 (fBls fun ns => some (.sh (.bl (ns.all id)))) (eLc (iSeq (eSlc (eVar 0) (pNo) (pSome (eC (.int 3))))) [2] (gNm 2) eYes ce_law_row_like_0))))) (sRet (eC (.bl false))) (sNil)) (sSeq (sIf (e1 fIsN (e2 fIdx (eVar 1) (eC (.int 3)))) (sRet (eAnd (e1 fIsN (e2 fIdx (eVar 0) (eC (.int 3)))) (e2 fEq (eSlc (eVar 0) (pNo) (pSome (eC (.int 3)))) (eSlc (eVar 1) (pNo) (pSome (eC (.int 3))))))) (sNil)) (sRet (eAnd (eCall 1 m_law_whole (aCons (e2 fIdx (eVar 0) (eC (.int 3))) (aNil))) (e2 fEq (eVar 0) (eVar 1)))))
noncomputable def m_law_row_like : Fn := fun ds st => if ds.length = 2 then runB 3 b_law_row_like ds st else none
noncomputable def b_law_offered : SemS :=
  sSeq (sSet 4 (eCall 3 m_offer (aCons (eVar 0) (aCons (eVar 2) (aCons (eVar 3) (aNil)))))) (sSeq (sIf (e2 fGe (e2 fAdd (e2 fIdx (eVar 2) (eC (.int 2))) (eC (.int 1))) (e1 (fFld "Town" 0) (eVar 0))) (sRet (e1 fIsN (eVar 4))) (sNil)) (sFrz 4 (sRet (eCall 2 m_law_row_like (aCons (eVar 4) (aCons (eTup (aCons (e2 fIdx (eVar 2) (eC (.int 0))) (aCons (e2 fAdd (e2 fIdx (eVar 2) (eC (.int 1))) (e2 fIdx (e2 fIdx (eVar 1) (eVar 3)) (eC (.int 2)))) (aCons (e2 fAdd (e2 fIdx (eVar 2) (eC (.int 2))) (eC (.int 1))) (aCons (eVar 3) (aNil)))))) (aNil)))))))
noncomputable def m_law_offered : Fn := fun ds st => if ds.length = 4 then runB 5 b_law_offered ds st else none
noncomputable def lb_law_0 : SemS :=
  sFrz 4 (sIf (eNot (eCall 2 m_law_row_like (aCons (eCall 2 m_own_row (aCons (eVar 4) (aCons (eVar 5) (aNil)))) (aCons (eTup (aCons (e2 fIdx (eVar 2) (eVar 5)) (aCons (eC (.int 0)) (aCons (eC (.int 0)) (aCons (eC .non) (aNil)))))) (aNil))))) (sRet (eC (.bl false))) (sNil))
noncomputable def lb_law_1 : SemS :=
  sSeq (sSet 7 (e2 (fI gMod) (eVar 6) (e1 fLen (eVar 3)))) (sSeq (sFrz 2 (sSet 8 (eCall 3 m_law_any_row (aCons (e2 (fI gDiv) (eVar 6) (e1 fLen (eVar 3))) (aCons (eVar 2) (aCons (e1 fLen (eVar 3)) (aNil))))))) (sSeq (sFrz 8 (sFrz 4 (sFrz 3 (sIf (eOr (eNot (eCall 4 m_law_offered (aCons (eVar 4) (aCons (eVar 3) (aCons (eVar 8) (aCons (eVar 7) (aNil))))))) (eNot (eCall 4 m_law_offered (aCons (eVar 4) (aCons (eVar 3) (aCons (eVar 8) (aCons (e2 (fI gSub') (e2 (fI gSub') (e1 fLen (eVar 3)) (eC (.int 1))) (eVar 7)) (aNil)))))))) (sRet (eC (.bl false))) (sNil))))) (sFrz 8 (sFrz 4 (sFrz 3 (sIf (eNot (eCall 4 m_law_offered (aCons (eVar 4) (aCons (eVar 3) (aCons (eVar 8) (aCons (eVar 7) (aNil))))))) (sRet (eC (.bl false))) (sNil)))))))
noncomputable def b_law : SemS :=
  sSeq (sSet 1 (e2 fAdd (eC (.int 1)) (e2 (fI gMod) (eCall 2 m_law_cell_at (aCons (eVar 0) (aCons (eC (.int 0)) (aNil)))) (eC (.int 10))))) (sSeq (sSet 2 (eCall 2 m_law_names (aCons (eVar 1) (aCons (eCall 2 m_law_cell_at (aCons (eVar 0) (aCons (eC (.int 1)) (aNil)))) (aNil))))) (sSeq (sSet 3 (eCall 2 m_law_ropes (aCons (eVar 1) (aCons (eCall 2 m_law_cell_at (aCons (eVar 0) (aCons (eC (.int 2)) (aNil)))) (aNil))))) (sSeq (sSet 4 (eMake 3 m_Town_init (aCons (e1 fLofs (eVar 2)) (aCons (e1 fLofs (eVar 3)) (aNil))))) (sSeq (sIf (e2 fNe (e1 (fFld "Town" 0) (eVar 4)) (eVar 1)) (sRet (eC (.bl false))) (sNil)) (sSeq (sFor (iRng1' (eVar 1)) (gNm 5) lb_law_0) (sSeq (sIf (e2 fEq (eVar 3) (eLst (aNil))) (sRet (eC (.bl true))) (sNil)) (sSeq (sFor (iSeq (e2 fAdd (eLst (aCons (eC (.int 0)) (aNil))) (eSlc (eVar 0) (pSome (eC (.int 3))) (pSome (eC (.int 63)))))) (gNm 6) lb_law_1) (sFrz 4 (sRet (eCall 2 m_law_row_like (aCons (eCall 2 m_own_row (aCons (eVar 4) (aCons (e2 (fI gSub') (eVar 1) (eC (.int 1))) (aNil)))) (aCons (eTup (aCons (e2 fIdx (eVar 2) (e2 (fI gSub') (eVar 1) (eC (.int 1)))) (aCons (eC (.int 0)) (aCons (eC (.int 0)) (aCons (eC .non) (aNil)))))) (aNil)))))))))))))
noncomputable def m_law : Fn := fun ds st => if ds.length = 1 then runB 9 b_law ds st else none
def top (i : Nat) : Stmt := PySem.Challenge.pw_knotless_k05_own_row_and_offer.main.body.getD i (.Pass ⟨0, 0, 0, 0⟩)
abbrev s_Town_name : Stmt := inClass (top 12) 1
abbrev s_own_row : Stmt := top 2
abbrev s_Town_rope : Stmt := inClass (top 12) 2
abbrev s_offer : Stmt := top 3
abbrev s_ask_names : Stmt := top 10
abbrev s_ask_rope : Stmt := top 11
abbrev s_Town_init : Stmt := inClass (top 12) 0
abbrev s_law_cell_at : Stmt := top 14
abbrev s_law_whole : Stmt := top 15
abbrev s_law_numbers : Stmt := top 16
abbrev s_law_names : Stmt := top 17
abbrev s_law_ropes : Stmt := top 18
abbrev s_law_any_row : Stmt := top 19
abbrev s_law_row_like : Stmt := top 20
abbrev s_law_offered : Stmt := top 21
abbrev s_law : Stmt := top 22
abbrev ns_Town : List Str := ["size", "many", "names", "kept", "near"]
structure Zs (mg : Str → Option Value) : Prop where
  z_all : mg "all" = none
  z_bool : mg "bool" = none
  z_enumerate : mg "enumerate" = none
  z_int : mg "int" = none
  z_isinstance : mg "isinstance" = none
  z_len : mg "len" = none
  z_list : mg "list" = none
  z_max : mg "max" = none
  z_min : mg "min" = none
  z_range : mg "range" = none
  z_tuple : mg "tuple" = none
structure CsT (mg : Str → Option Value) : Prop where
  c_ : True
section
variable {P : Program} {w : World} {K : PySem.W.Frag} {mg : Str → Option Value} {base : Heap} {ct : CT} {C_Town : Addr} {t_MOST_HOUSES : Tok} {t_MOST_ROPES : Tok}
abbrev nm_Town_name : List Str := ["self", "house"]
theorem sc_Town_name : FnScope nm_Town_name ["self", "house"] (defScope s_Town_name) := ⟨rfl, rfl, rfl, by decide +kernel, rfl, by decide +kernel, by decide +kernel⟩
theorem ok_Town_name {f : Addr} {fd : FuncData} (F : Fun K "name" "Town.name" s_Town_name f fd) (Z : Zs mg) (o_Town : Own K ct "Town" C_Town ns_Town) : FnOk P w K mg base CX0 1 f fd ["self", "house"] (spD K ct 2 m_Town_name) := by
  refine (fn_ok (b := b_Town_name) F sc_Town_name fun cdv A outer s H E hr => ?_).imp (spD_imp fun ds st r st' hl e => ?_)
  · have S := sc_Town_name
    exact sb_one (ss_ret (se_idx hr (se_fld 2 o_Town (se_var 0)) (se_var 1)))
  · unfold m_Town_name at e
    rw [if_pos hl] at e
    exact e
abbrev nm_own_row : List Str := ["town", "house"]
theorem sc_own_row : FnScope nm_own_row ["town", "house"] (defScope s_own_row) := ⟨rfl, rfl, rfl, by decide +kernel, rfl, by decide +kernel, by decide +kernel⟩
theorem ok_own_row {f : Addr} {fd : FuncData} (F : Fun K "own_row" "own_row" s_own_row f fd) (Z : Zs mg) (o_Town : Own K ct "Town" C_Town ns_Town) (c_Town_name : Mcl P w K mg base ct C_Town "name" 1 ["self", "house"] m_Town_name) : FnOk P w K mg base CX0 2 f fd ["town", "house"] (spD K ct 2 m_own_row) := by
  refine (fn_ok (b := b_own_row) F sc_own_row fun cdv A outer s H E hr => ?_).imp (spD_imp fun ds st r st' hl e => ?_)
  · have S := sc_own_row
    exact sb_one (ss_ret (se_tup (sa_cons (se_meth 2 o_Town c_Town_name (hr.mono (by decide)) (se_var 0) (sa_cons (se_var 1) (sa_nil))) (sa_cons (se_int) (sa_cons (se_int) (sa_cons (se_non) (sa_nil)))))))
  · unfold m_own_row at e
    rw [if_pos hl] at e
    exact e
abbrev nm_Town_rope : List Str := ["self", "number"]
theorem sc_Town_rope : FnScope nm_Town_rope ["self", "number"] (defScope s_Town_rope) := ⟨rfl, rfl, rfl, by decide +kernel, rfl, by decide +kernel, by decide +kernel⟩
theorem ok_Town_rope {f : Addr} {fd : FuncData} (F : Fun K "rope" "Town.rope" s_Town_rope f fd) (Z : Zs mg) (o_Town : Own K ct "Town" C_Town ns_Town) : FnOk P w K mg base CX0 1 f fd ["self", "number"] (spD K ct 2 m_Town_rope) := by
  refine (fn_ok (b := b_Town_rope) F sc_Town_rope fun cdv A outer s H E hr => ?_).imp (spD_imp fun ds st r st' hl e => ?_)
  · have S := sc_Town_rope
    exact sb_one (ss_ret (se_idx hr (se_fld 3 o_Town (se_var 0)) (se_var 1)))
  · unfold m_Town_rope at e
    rw [if_pos hl] at e
    exact e
abbrev nm_offer : List Str := ["town", "row", "rope", "head", "cost", "hops", "by"]
theorem sc_offer : FnScope nm_offer ["town", "row", "rope"] (defScope s_offer) := ⟨rfl, rfl, rfl, by decide +kernel, rfl, by decide +kernel, by decide +kernel⟩
theorem ok_offer {f : Addr} {fd : FuncData} (F : Fun K "offer" "offer" s_offer f fd) (Z : Zs mg) (o_Town : Own K ct "Town" C_Town ns_Town) (c_Town_rope : Mcl P w K mg base ct C_Town "rope" 1 ["self", "number"] m_Town_rope) : FnOk P w K mg base CX0 2 f fd ["town", "row", "rope"] (spD K ct 3 m_offer) := by
  refine (fn_ok (b := b_offer) F sc_offer fun cdv A outer s H E hr => ?_).imp (spD_imp fun ds st r st' hl e => ?_)
  · have S := sc_offer
    exact sb_cons (ss_asg (se_var 1) (sg_tup rfl (sgs_cons (sg_nm 3 S.nd) (sgs_cons (sg_nm 4 S.nd) (sgs_cons (sg_nm 5 S.nd) (sgs_cons (sg_nm 6 S.nd) (sgs_nil))))))) (sb_cons (ss_if (st_ge (se_add (se_var 5) (se_int)) (se_fld 0 o_Town (se_var 0))) (sb_one (ss_ret (se_non))) (sb_nil)) (sb_one (ss_ret (se_tup (sa_cons (se_var 3) (sa_cons (se_add (se_var 4) (se_idx hr (se_meth 2 o_Town c_Town_rope (hr.mono (by decide)) (se_var 0) (sa_cons (se_var 2) (sa_nil))) (se_int))) (sa_cons (se_add (se_var 5) (se_int)) (sa_cons (se_var 2) (sa_nil)))))))))
  · unfold m_offer at e
    rw [if_pos hl] at e
    exact e
abbrev nm_ask_names : List Str := ["names", "k"]
theorem sc_ask_names : FnScope nm_ask_names ["names"] (defScope s_ask_names) := ⟨rfl, rfl, rfl, by decide +kernel, rfl, by decide +kernel, by decide +kernel⟩
theorem ok_ask_names {f : Addr} {fd : FuncData} (F : Fun K "ask_names" "ask_names" s_ask_names f fd) (Z : Zs mg) (g_MOST_HOUSES : mg "MOST_HOUSES" = some (.int 10 t_MOST_HOUSES)) : FnOk P w K mg base CX0 1 f fd ["names"] (spD K ct 1 m_ask_names) := by
  refine (fn_ok (b := b_ask_names) F sc_ask_names fun cdv A outer s H E hr => ?_).imp (spD_imp fun ds st r st' hl e => ?_)
  · have S := sc_ask_names
    exact sb_cons (ss_if (st_not (st_chLL (se_int) (se_len rfl Z.z_len (se_var 0)) ((se_const (pe_glob (v := .int 10) rfl g_MOST_HOUSES ⟨_, rfl⟩) fun _ => .int _)))) (sb_one (ss_never)) (sb_nil)) (sb_one (ss_for PassesOwn.never rfl (si_rng1 rfl Z.z_range (se_len rfl Z.z_len (se_var 0))) (sg_nm 1 S.nd) (sb_one (ss_if (SW.st (sw_or (st_lt (se_idx hr (se_var 0) (se_var 1)) (se_int)) (sw_or1 (st_in hr (se_idx hr (se_var 0) (se_var 1)) (se_slc (se_var 0) (sp_no) (sp_some (se_var 1))))))) (sb_one (ss_never)) (sb_nil)))))
  · unfold m_ask_names at e
    rw [if_pos hl] at e
    exact e
abbrev nm_ask_rope : List Str := ["size", "rope", "one", "other", "cost", "wires", "lets"]
theorem sc_ask_rope : FnScope nm_ask_rope ["size", "rope"] (defScope s_ask_rope) := ⟨rfl, rfl, rfl, by decide +kernel, rfl, by decide +kernel, by decide +kernel⟩
theorem ok_ask_rope {f : Addr} {fd : FuncData} (F : Fun K "ask_rope" "ask_rope" s_ask_rope f fd) (Z : Zs mg)  : FnOk P w K mg base CX0 1 f fd ["size", "rope"] (spD K ct 2 m_ask_rope) := by
  refine (fn_ok (b := b_ask_rope) F sc_ask_rope fun cdv A outer s H E hr => ?_).imp (spD_imp fun ds st r st' hl e => ?_)
  · have S := sc_ask_rope
    exact sb_cons (ss_asg (se_var 1) (sg_tup rfl (sgs_cons (sg_nm 2 S.nd) (sgs_cons (sg_nm 3 S.nd) (sgs_cons (sg_nm 4 S.nd) (sgs_cons (sg_nm 5 S.nd) (sgs_cons (sg_nm 6 S.nd) (sgs_nil)))))))) (sb_cons (ss_if (SW.st (sw_or (st_not (st_chLT (se_int) (se_var 2) (se_var 0))) (sw_or (st_not (st_chLT (se_int) (se_var 3) (se_var 0))) (sw_or1 (st_eq hr (se_var 2) (se_var 3)))))) (sb_one (ss_never)) (sb_nil)) (sb_one (ss_if (SW.st (sw_or (st_lt (se_var 4) (se_int)) (sw_or (st_not (st_chLL (se_int) (se_var 5) (se_int))) (sw_or1 (st_not (st_chLL (se_int) (se_var 6) (se_int))))))) (sb_one (ss_never)) (sb_nil))))
  · unfold m_ask_rope at e
    rw [if_pos hl] at e
    exact e
abbrev nm_Town_init : List Str := ["self", "names", "ropes", "near", "number", "rope", "name"]
theorem sc_Town_init : FnScope nm_Town_init ["self", "names", "ropes"] (defScope s_Town_init) := ⟨rfl, rfl, rfl, by decide +kernel, rfl, by decide +kernel, by decide +kernel⟩
theorem ok_Town_init {f : Addr} {fd : FuncData} (F : Fun K "__init__" "Town.__init__" s_Town_init f fd) (Z : Zs mg) (o_Town : Own K ct "Town" C_Town ns_Town) (g_MOST_ROPES : mg "MOST_ROPES" = some (.int 20 t_MOST_ROPES)) (c_ask_names : Cal P w K mg base ct "ask_names" 1 ["names"] m_ask_names) (c_ask_rope : Cal P w K mg base ct "ask_rope" 1 ["size", "rope"] m_ask_rope) : FnOk P w K mg base CX0 2 f fd ["self", "names", "ropes"] (spI K ct "Town" 3 m_Town_init) := by
  refine fnI_ok (b := b_Town_init) F sc_Town_init fun cdv A outer s H E hr => ?_
  have S := sc_Town_init
  exact sb_cons (ss_ex (sc_call 1 c_ask_names (hr.mono (by decide)) (sa_cons (se_var 1) (sa_nil)))) (sb_cons (ss_if (st_gt (se_len rfl Z.z_len (se_var 2)) ((se_const (pe_glob (v := .int 20) rfl g_MOST_ROPES ⟨_, rfl⟩) fun _ => .int _))) (sb_one (ss_never)) (sb_nil)) (sb_cons (ss_emp 3 (own := [("name", 6)]) rfl S.nd (si_seq (se_var 1)) (blkOk_by (N := nm_Town_init) (sc := defScope s_Town_init) (by decide +kernel)) (fun _ _ _ _ _ => sg_nm 6 S.nd)) (sb_cons (ss_for PassesOwn.never rfl (si_enum rfl Z.z_enumerate (se_var 2)) (sg_tup rfl (sgs_cons (sg_nm 4 S.nd) (sgs_cons (sg_nm 5 S.nd) (sgs_nil)))) (sb_cons (ss_ex (sc_call 2 c_ask_rope (hr.mono (by decide)) (sa_cons (se_len rfl Z.z_len (se_var 1)) (sa_cons (se_var 5) (sa_nil))))) (sb_cons (ss_app2 3 (se_idx hr (se_var 5) (se_int)) (sa_cons (se_var 4) (sa_nil))) (sb_one (ss_app2 3 (se_idx hr (se_var 5) (se_int)) (sa_cons (se_var 4) (sa_nil))))))) (sb_cons (ss_fldM 0 0 o_Town (se_len rfl Z.z_len (se_var 1))) (sb_cons (ss_fldM 0 1 o_Town (se_len rfl Z.z_len (se_var 2))) (sb_cons (ss_fldM 0 2 o_Town (se_list rfl Z.z_list (se_var 1))) (sb_cons (ss_fldM 0 3 o_Town (se_list rfl Z.z_list (se_var 2))) (sb_one (ss_frz2 3 (ss_fldM 0 4 o_Town (se_var 3)))))))))))
abbrev nm_law_cell_at : List Str := ["_law_script", "_law_k"]
theorem sc_law_cell_at : FnScope nm_law_cell_at ["_law_script", "_law_k"] (defScope s_law_cell_at) := ⟨rfl, rfl, rfl, by decide +kernel, rfl, by decide +kernel, by decide +kernel⟩
theorem ok_law_cell_at {f : Addr} {fd : FuncData} (F : Fun K "_law_cell_at" "_law_cell_at" s_law_cell_at f fd) (Z : Zs mg)  : FnOk P w K mg base CX0 1 f fd ["_law_script", "_law_k"] (spD K ct 2 m_law_cell_at) := by
  refine (fn_ok (b := b_law_cell_at) F sc_law_cell_at fun cdv A outer s H E hr => ?_).imp (spD_imp fun ds st r st' hl e => ?_)
  · have S := sc_law_cell_at
    exact sb_cons (ss_if (st_lt (se_var 1) (se_len rfl Z.z_len (se_var 0))) (sb_one (ss_ret (se_idx hr (se_var 0) (se_var 1)))) (sb_nil)) (sb_one (ss_ret (se_int)))
  · unfold m_law_cell_at at e
    rw [if_pos hl] at e
    exact e
abbrev nm_law_whole : List Str := ["_law_found"]
theorem sc_law_whole : FnScope nm_law_whole ["_law_found"] (defScope s_law_whole) := ⟨rfl, rfl, rfl, by decide +kernel, rfl, by decide +kernel, by decide +kernel⟩
theorem ok_law_whole {f : Addr} {fd : FuncData} (F : Fun K "_law_whole" "_law_whole" s_law_whole f fd) (Z : Zs mg)  : FnOk P w K mg base CX0 1 f fd ["_law_found"] (spD K ct 1 m_law_whole) := by
  refine (fn_ok (b := b_law_whole) F sc_law_whole fun cdv A outer s H E hr => ?_).imp (spD_imp fun ds st r st' hl e => ?_)
  · have S := sc_law_whole
    exact sb_one (ss_ret (se_and (se_isi rfl Z.z_isinstance rfl Z.z_int PyProof.Rows.boot_int (se_var 0)) (se_one (se_not (se_isi rfl Z.z_isinstance rfl Z.z_bool PyProof.Rows.boot_bool (se_var 0))))))
  · unfold m_law_whole at e
    rw [if_pos hl] at e
    exact e
abbrev nm_law_numbers : List Str := ["_law_cell", "_law_many", "_law_number", "_law_found", "_law_k"]
theorem sc_law_numbers : FnScope nm_law_numbers ["_law_cell", "_law_many"] (defScope s_law_numbers) := ⟨rfl, rfl, rfl, by decide +kernel, rfl, by decide +kernel, by decide +kernel⟩
theorem ok_law_numbers {f : Addr} {fd : FuncData} (F : Fun K "_law_numbers" "_law_numbers" s_law_numbers f fd) (Z : Zs mg)  : FnOk P w K mg base CX0 1 f fd ["_law_cell", "_law_many"] (spD K ct 2 m_law_numbers) := by
  refine (fn_ok (b := b_law_numbers) F sc_law_numbers fun cdv A outer s H E hr => ?_).imp (spD_imp fun ds st r st' hl e => ?_)
  · have S := sc_law_numbers
    exact sb_cons (ss_set 2 S.nd (se_mod (se_var 0) (se_int))) (sb_cons (ss_set 3 S.nd (se_lst (sa_nil))) (sb_cons (ss_for PassesOwn.never rfl (si_rng1 rfl Z.z_range (se_var 1)) (sg_nm 4 S.nd) (sb_cons (ss_set 2 S.nd (se_mod (se_add (se_add (se_mul (se_var 2) (se_add (se_add (se_var 2) (se_mul (se_int) (se_var 4))) (se_int))) (se_mul (se_int) (se_var 4))) (se_int)) (se_int))) (sb_one (ss_mut1 3 PySem.F.slot_list_append PySem.F.type_list_append mt_append ms_app (sa_cons (se_var 2) (sa_nil)))))) (sb_one (ss_ret (se_var 3)))))
  · unfold m_law_numbers at e
    rw [if_pos hl] at e
    exact e
abbrev nm_law_names : List Str := ["_law_size", "_law_cell", "_law_numbers_here", "_law_most", "_law_far", "_law_names_here", "_law_number", "_law_name"]
theorem sc_law_names : FnScope nm_law_names ["_law_size", "_law_cell"] (defScope s_law_names) := ⟨rfl, rfl, rfl, by decide +kernel, rfl, by decide +kernel, by decide +kernel⟩
theorem ok_law_names {f : Addr} {fd : FuncData} (F : Fun K "_law_names" "_law_names" s_law_names f fd) (Z : Zs mg) (c_law_numbers : Cal P w K mg base ct "_law_numbers" 1 ["_law_cell", "_law_many"] m_law_numbers) : FnOk P w K mg base CX0 2 f fd ["_law_size", "_law_cell"] (spD K ct 2 m_law_names) := by
  refine (fn_ok (b := b_law_names) F sc_law_names fun cdv A outer s H E hr => ?_).imp (spD_imp fun ds st r st' hl e => ?_)
  · have S := sc_law_names
    exact sb_cons (ss_set 2 S.nd (sc_call 2 c_law_numbers (hr.mono (by decide)) (sa_cons (se_var 1) (sa_cons (se_var 0) (sa_nil))))) (sb_cons (ss_set 3 S.nd (se_idx hr (se_lst (sa_cons (se_int) (sa_cons (se_int) (sa_cons (se_int) (sa_nil))))) (se_mod (se_idx hr (se_var 2) (se_int)) (se_int)))) (sb_cons (ss_set 4 S.nd (se_idx hr (se_lst (sa_cons (se_int) (sa_cons (se_int) (sa_cons (se_add (se_pow (se_int) (se_int)) (se_int)) (sa_nil))))) (se_mod (se_div (se_idx hr (se_var 2) (se_int)) (se_int)) (se_int)))) (sb_cons (ss_set 5 S.nd (se_lst (sa_nil))) (sb_cons (ss_frz 2 (ss_for PassesOwn.never rfl (si_seq (se_var 2)) (sg_nm 6 S.nd) (sb_cons (ss_set 7 S.nd (se_mul (se_mod (se_div (se_var 6) (se_int)) (se_var 3)) (se_var 4))) (sb_cons (ss_whl 100000 PassesOwn.never (st_in hr (se_var 7) (se_var 5)) (sb_one (ss_set 7 S.nd (se_add (se_var 7) (se_int))))) (sb_one (ss_mut1 5 PySem.F.slot_list_append PySem.F.type_list_append mt_append ms_app (sa_cons (se_var 7) (sa_nil)))))))) (sb_one (ss_ret (se_var 5)))))))
  · unfold m_law_names at e
    rw [if_pos hl] at e
    exact e
abbrev nm_law_ropes : List Str := ["_law_size", "_law_cell", "_law_ropes_here", "_law_many", "_law_number", "_law_one", "_law_other", "_law_cost", "_law_lets"]
theorem sc_law_ropes : FnScope nm_law_ropes ["_law_size", "_law_cell"] (defScope s_law_ropes) := ⟨rfl, rfl, rfl, by decide +kernel, rfl, by decide +kernel, by decide +kernel⟩
theorem ok_law_ropes {f : Addr} {fd : FuncData} (F : Fun K "_law_ropes" "_law_ropes" s_law_ropes f fd) (Z : Zs mg) (c_law_numbers : Cal P w K mg base ct "_law_numbers" 1 ["_law_cell", "_law_many"] m_law_numbers) : FnOk P w K mg base CX0 2 f fd ["_law_size", "_law_cell"] (spD K ct 2 m_law_ropes) := by
  refine (fn_ok (b := b_law_ropes) F sc_law_ropes fun cdv A outer s H E hr => ?_).imp (spD_imp fun ds st r st' hl e => ?_)
  · have S := sc_law_ropes
    exact sb_cons (ss_set 2 S.nd (se_lst (sa_nil))) (sb_cons (ss_if (st_gt (se_var 0) (se_int)) (sb_cons (ss_set 3 S.nd (se_idx hr (se_lst (sa_cons (se_mod (se_div (se_var 1) (se_int)) (se_int)) (sa_cons (se_add (se_mul (se_int) (se_var 0)) (se_mod (se_div (se_var 1) (se_int)) (se_sub (se_int) (se_mul (se_int) (se_var 0))))) (sa_nil)))) (se_toint rfl Z.z_int (se_gt (se_mod (se_var 1) (se_int)) (se_int))))) (sb_one (ss_for PassesOwn.never rfl (si_seq (sc_call 2 c_law_numbers (hr.mono (by decide)) (sa_cons (se_var 1) (sa_cons (se_var 3) (sa_nil))))) (sg_nm 4 S.nd) (sb_cons (ss_set 5 S.nd (se_mod (se_var 4) (se_var 0))) (sb_cons (ss_set 6 S.nd (se_mod (se_add (se_add (se_var 5) (se_int)) (se_mod (se_div (se_var 4) (se_int)) (se_sub (se_var 0) (se_int)))) (se_var 0))) (sb_cons (ss_set 7 S.nd (se_add (se_int) (se_mod (se_div (se_var 4) (se_int)) (se_int)))) (sb_cons (ss_if (st_eq hr (se_mod (se_div (se_var 4) (se_int)) (se_int)) (se_int)) (sb_one (ss_set 7 S.nd (se_add (se_mul (se_add (se_int) (se_mod (se_div (se_var 4) (se_int)) (se_int))) (se_pow (se_int) (se_int))) (se_mod (se_var 4) (se_int))))) (sb_nil)) (sb_cons (ss_set 8 S.nd (se_idx hr (se_lst (sa_cons (se_int) (sa_cons (se_int) (sa_cons (se_int) (sa_cons (se_add (se_int) (se_mod (se_div (se_var 4) (se_int)) (se_int))) (sa_nil)))))) (se_mod (se_div (se_var 4) (se_int)) (se_int)))) (sb_one (ss_mut1 2 PySem.F.slot_list_append PySem.F.type_list_append mt_append ms_app (sa_cons (se_tup (sa_cons (se_var 5) (sa_cons (se_var 6) (sa_cons (se_var 7) (sa_cons (se_add (se_int) (se_mod (se_div (se_var 4) (se_int)) (se_int))) (sa_cons (se_var 8) (sa_nil))))))) (sa_nil)))))))))))) (sb_nil)) (sb_one (ss_ret (se_var 2))))
  · unfold m_law_ropes at e
    rw [if_pos hl] at e
    exact e
abbrev nm_law_any_row : List Str := ["_law_cell", "_law_names_here", "_law_many", "_law_numbers_here", "_law_name", "_law_head", "_law_cost", "_law_by"]
theorem sc_law_any_row : FnScope nm_law_any_row ["_law_cell", "_law_names_here", "_law_many"] (defScope s_law_any_row) := ⟨rfl, rfl, rfl, by decide +kernel, rfl, by decide +kernel, by decide +kernel⟩
theorem ok_law_any_row {f : Addr} {fd : FuncData} (F : Fun K "_law_any_row" "_law_any_row" s_law_any_row f fd) (Z : Zs mg) (c_law_numbers : Cal P w K mg base ct "_law_numbers" 1 ["_law_cell", "_law_many"] m_law_numbers) : FnOk P w K mg base CX0 2 f fd ["_law_cell", "_law_names_here", "_law_many"] (spD K ct 3 m_law_any_row) := by
  refine (fn_ok (b := b_law_any_row) F sc_law_any_row fun cdv A outer s H E hr => ?_).imp (spD_imp fun ds st r st' hl e => ?_)
  · have S := sc_law_any_row
    exact sb_cons (ss_set 3 S.nd (sc_call 2 c_law_numbers (hr.mono (by decide)) (sa_cons (se_var 0) (sa_cons (se_int) (sa_nil))))) (sb_cons (ss_set 4 S.nd (se_idx hr (se_var 1) (se_mod (se_idx hr (se_var 3) (se_int)) (se_len rfl Z.z_len (se_var 1))))) (sb_cons (ss_set 5 S.nd (se_idx hr (se_lst (sa_cons (se_var 4) (sa_cons (se_minL rfl rfl Z.z_min (se_var 1)) (sa_cons (se_max2 rfl rfl Z.z_max (se_sub (se_var 4) (se_int)) (se_int)) (sa_cons (se_add (se_var 4) (se_int)) (sa_cons (se_div (se_idx hr (se_var 3) (se_int)) (se_int)) (sa_nil))))))) (se_mod (se_div (se_idx hr (se_var 3) (se_int)) (se_int)) (se_int)))) (sb_cons (ss_set 6 S.nd (se_mod (se_div (se_idx hr (se_var 3) (se_int)) (se_int)) (se_int))) (sb_cons (ss_if (st_eq hr (se_mod (se_idx hr (se_var 3) (se_int)) (se_int)) (se_int)) (sb_one (ss_set 6 S.nd (se_mul (se_idx hr (se_var 3) (se_int)) (se_pow (se_int) (se_int))))) (sb_nil)) (sb_cons (ss_set 7 S.nd (se_non)) (sb_cons (ss_if (SW.st (sw_and (st_gt (se_var 2) (se_int)) (sw_and1 (st_gt (se_mod (se_idx hr (se_var 3) (se_int)) (se_int)) (se_int))))) (sb_one (ss_set 7 S.nd (se_mod (se_div (se_idx hr (se_var 3) (se_int)) (se_int)) (se_var 2)))) (sb_nil)) (sb_one (ss_ret (se_tup (sa_cons (se_var 5) (sa_cons (se_var 6) (sa_cons (se_mod (se_div (se_idx hr (se_var 3) (se_int)) (se_int)) (se_len rfl Z.z_len (se_var 1))) (sa_cons (se_var 7) (sa_nil))))))))))))))
  · unfold m_law_any_row at e
    rw [if_pos hl] at e
    exact e
abbrev nm_law_row_like : List Str := ["_law_found", "_law_want", "_law_one"]
theorem sc_law_row_like : FnScope nm_law_row_like ["_law_found", "_law_want"] (defScope s_law_row_like) := ⟨rfl, rfl, rfl, by decide +kernel, rfl, by decide +kernel, by decide +kernel⟩
theorem ok_law_row_like {f : Addr} {fd : FuncData} (F : Fun K "_law_row_like" "_law_row_like" s_law_row_like f fd) (Z : Zs mg) (c_law_whole : Cal P w K mg base ct "_law_whole" 1 ["_law_found"] m_law_whole) : FnOk P w K mg base CX0 2 f fd ["_law_found", "_law_want"] (spD K ct 2 m_law_row_like) := by
  refine (fn_ok (b := b_law_row_like) F sc_law_row_like fun cdv A outer s H E hr => ?_).imp (spD_imp fun ds st r st' hl e => ?_)
  · have S := sc_law_row_like
    exact sb_cons (ss_if (SW.st (sw_or (st_not (st_val (se_isi rfl Z.z_isinstance rfl Z.z_tuple PyProof.Rows.boot_tuple (se_var 0)))) (sw_or (st_ne hr (se_len rfl Z.z_len (se_var 0)) (se_int)) (sw_or1 (st_not (st_val (se_all rfl rfl Z.z_all (se_lc (own := [("_law_one", 2)]) rfl S.nd (si_seq (se_slc (se_var 0) (sp_no) (sp_some (se_int)))) (blkOk_by (N := nm_law_row_like) (sc := defScope s_law_row_like) (by decide +kernel)) (fun _ _ _ _ _ => sg_nm 2 S.nd) (fun _ _ _ _ _ => sts_nil) (fun _ _ _ _ _ => sc_call 1 c_law_whole (hr.mono (by decide)) (sa_cons (se_var 2) (sa_nil))))))))))) (sb_one (ss_ret (se_bl))) (sb_nil)) (sb_cons (ss_if (st_isN (se_idx hr (se_var 1) (se_int))) (sb_one (ss_ret (se_and (se_isN (se_idx hr (se_var 0) (se_int))) (se_one (se_eq hr (se_slc (se_var 0) (sp_no) (sp_some (se_int))) (se_slc (se_var 1) (sp_no) (sp_some (se_int)))))))) (sb_nil)) (sb_one (ss_ret (se_and (sc_call 1 c_law_whole (hr.mono (by decide)) (sa_cons (se_idx hr (se_var 0) (se_int)) (sa_nil))) (se_one (se_eq hr (se_var 0) (se_var 1)))))))
  · unfold m_law_row_like at e
    rw [if_pos hl] at e
    exact e
abbrev nm_law_offered : List Str := ["_law_town", "_law_ropes_here", "_law_row", "_law_rope", "_law_found"]
theorem sc_law_offered : FnScope nm_law_offered ["_law_town", "_law_ropes_here", "_law_row", "_law_rope"] (defScope s_law_offered) := ⟨rfl, rfl, rfl, by decide +kernel, rfl, by decide +kernel, by decide +kernel⟩
theorem ok_law_offered {f : Addr} {fd : FuncData} (F : Fun K "_law_offered" "_law_offered" s_law_offered f fd) (Z : Zs mg) (o_Town : Own K ct "Town" C_Town ns_Town) (c_offer : Cal P w K mg base ct "offer" 2 ["town", "row", "rope"] m_offer) (c_law_row_like : Cal P w K mg base ct "_law_row_like" 2 ["_law_found", "_law_want"] m_law_row_like) : FnOk P w K mg base CX0 3 f fd ["_law_town", "_law_ropes_here", "_law_row", "_law_rope"] (spD K ct 4 m_law_offered) := by
  refine (fn_ok (b := b_law_offered) F sc_law_offered fun cdv A outer s H E hr => ?_).imp (spD_imp fun ds st r st' hl e => ?_)
  · have S := sc_law_offered
    exact sb_cons (ss_set 4 S.nd (sc_call 3 c_offer (hr.mono (by decide)) (sa_cons (se_var 0) (sa_cons (se_var 2) (sa_cons (se_var 3) (sa_nil)))))) (sb_cons (ss_if (st_ge (se_add (se_idx hr (se_var 2) (se_int)) (se_int)) (se_fld 0 o_Town (se_var 0))) (sb_one (ss_ret (se_isN (se_var 4)))) (sb_nil)) (sb_one (ss_frz 4 (ss_ret (sc_call 2 c_law_row_like (hr.mono (by decide)) (sa_cons (se_var 4) (sa_cons (se_tup (sa_cons (se_idx hr (se_var 2) (se_int)) (sa_cons (se_add (se_idx hr (se_var 2) (se_int)) (se_idx hr (se_idx hr (se_var 1) (se_var 3)) (se_int))) (sa_cons (se_add (se_idx hr (se_var 2) (se_int)) (se_int)) (sa_cons (se_var 3) (sa_nil)))))) (sa_nil))))))))
  · unfold m_law_offered at e
    rw [if_pos hl] at e
    exact e
abbrev nm_law : List Str := ["_law_script", "_law_size", "_law_names_here", "_law_ropes_here", "_law_town", "_law_house", "_law_cell", "_law_rope", "_law_row"]
theorem sc_law : FnScope nm_law ["_law_script"] (defScope s_law) := ⟨rfl, rfl, rfl, by decide +kernel, rfl, by decide +kernel, by decide +kernel⟩
theorem ok_law {f : Addr} {fd : FuncData} (F : Fun K "law" "law" s_law f fd) (Z : Zs mg) (o_Town : Own K ct "Town" C_Town ns_Town) (c_law_cell_at : Cal P w K mg base ct "_law_cell_at" 1 ["_law_script", "_law_k"] m_law_cell_at) (c_law_names : Cal P w K mg base ct "_law_names" 2 ["_law_size", "_law_cell"] m_law_names) (c_law_ropes : Cal P w K mg base ct "_law_ropes" 2 ["_law_size", "_law_cell"] m_law_ropes) (k_Town : Mkr P w K mg base ct "Town" C_Town "Town" 2 ["self", "names", "ropes"] m_Town_init) (c_own_row : Cal P w K mg base ct "own_row" 2 ["town", "house"] m_own_row) (c_law_row_like : Cal P w K mg base ct "_law_row_like" 2 ["_law_found", "_law_want"] m_law_row_like) (c_law_any_row : Cal P w K mg base ct "_law_any_row" 2 ["_law_cell", "_law_names_here", "_law_many"] m_law_any_row) (c_law_offered : Cal P w K mg base ct "_law_offered" 3 ["_law_town", "_law_ropes_here", "_law_row", "_law_rope"] m_law_offered) : FnOk P w K mg base CX0 4 f fd ["_law_script"] (spD K ct 1 m_law) := by
  refine (fn_ok (b := b_law) F sc_law fun cdv A outer s H E hr => ?_).imp (spD_imp fun ds st r st' hl e => ?_)
  · have S := sc_law
    exact sb_cons (ss_set 1 S.nd (se_add (se_int) (se_mod (sc_call 2 c_law_cell_at (hr.mono (by decide)) (sa_cons (se_var 0) (sa_cons (se_int) (sa_nil)))) (se_int)))) (sb_cons (ss_set 2 S.nd (sc_call 2 c_law_names (hr.mono (by decide)) (sa_cons (se_var 1) (sa_cons (sc_call 2 c_law_cell_at (hr.mono (by decide)) (sa_cons (se_var 0) (sa_cons (se_int) (sa_nil)))) (sa_nil))))) (sb_cons (ss_set 3 S.nd (sc_call 2 c_law_ropes (hr.mono (by decide)) (sa_cons (se_var 1) (sa_cons (sc_call 2 c_law_cell_at (hr.mono (by decide)) (sa_cons (se_var 0) (sa_cons (se_int) (sa_nil)))) (sa_nil))))) (sb_cons (ss_set 4 S.nd (se_make 3 o_Town k_Town (hr.mono (by decide)) (sa_cons (se_list rfl Z.z_list (se_var 2)) (sa_cons (se_list rfl Z.z_list (se_var 3)) (sa_nil))))) (sb_cons (ss_if (st_ne hr (se_fld 0 o_Town (se_var 4)) (se_var 1)) (sb_one (ss_ret (se_bl))) (sb_nil)) (sb_cons (ss_for PassesOwn.never rfl (si_rng1 rfl Z.z_range (se_var 1)) (sg_nm 5 S.nd) (sb_one (ss_frz 4 (ss_if (st_not (st_val (sc_call 2 c_law_row_like (hr.mono (by decide)) (sa_cons (sc_call 2 c_own_row (hr.mono (by decide)) (sa_cons (se_var 4) (sa_cons (se_var 5) (sa_nil)))) (sa_cons (se_tup (sa_cons (se_idx hr (se_var 2) (se_var 5)) (sa_cons (se_int) (sa_cons (se_int) (sa_cons (se_non) (sa_nil)))))) (sa_nil)))))) (sb_one (ss_ret (se_bl))) (sb_nil))))) (sb_cons (ss_if (st_eq hr (se_var 3) (se_lst (sa_nil))) (sb_one (ss_ret (se_bl))) (sb_nil)) (sb_cons (ss_for PassesOwn.never rfl (si_seq (se_add (se_lst (sa_cons (se_int) (sa_nil))) (se_slc (se_var 0) (sp_some (se_int)) (sp_some (se_int))))) (sg_nm 6 S.nd) (sb_cons (ss_set 7 S.nd (se_mod (se_var 6) (se_len rfl Z.z_len (se_var 3)))) (sb_cons (ss_frz 2 (ss_set 8 S.nd (sc_call 3 c_law_any_row (hr.mono (by decide)) (sa_cons (se_div (se_var 6) (se_len rfl Z.z_len (se_var 3))) (sa_cons (se_var 2) (sa_cons (se_len rfl Z.z_len (se_var 3)) (sa_nil))))))) (sb_cons (ss_frz 8 (ss_frz 4 (ss_frz 3 (ss_if (SW.st (sw_or (st_not (st_val (sc_call 4 c_law_offered (hr.mono (by decide)) (sa_cons (se_var 4) (sa_cons (se_var 3) (sa_cons (se_var 8) (sa_cons (se_var 7) (sa_nil)))))))) (sw_or1 (st_not (st_val (sc_call 4 c_law_offered (hr.mono (by decide)) (sa_cons (se_var 4) (sa_cons (se_var 3) (sa_cons (se_var 8) (sa_cons (se_sub (se_sub (se_len rfl Z.z_len (se_var 3)) (se_int)) (se_var 7)) (sa_nil))))))))))) (sb_one (ss_ret (se_bl))) (sb_nil))))) (sb_one (ss_frz 8 (ss_frz 4 (ss_frz 3 (ss_if (st_not (st_val (sc_call 4 c_law_offered (hr.mono (by decide)) (sa_cons (se_var 4) (sa_cons (se_var 3) (sa_cons (se_var 8) (sa_cons (se_var 7) (sa_nil)))))))) (sb_one (ss_ret (se_bl))) (sb_nil)))))))))) (sb_one (ss_frz 4 (ss_ret (sc_call 2 c_law_row_like (hr.mono (by decide)) (sa_cons (sc_call 2 c_own_row (hr.mono (by decide)) (sa_cons (se_var 4) (sa_cons (se_sub (se_var 1) (se_int)) (sa_nil)))) (sa_cons (se_tup (sa_cons (se_idx hr (se_var 2) (se_sub (se_var 1) (se_int))) (sa_cons (se_int) (sa_cons (se_int) (sa_cons (se_non) (sa_nil)))))) (sa_nil))))))))))))))
  · unfold m_law at e
    rw [if_pos hl] at e
    exact e
end
theorem sub_len {α : Type} [DecidableEq α] : ∀ {l1 l2 : List α}, l1.Nodup → (∀ x ∈ l1, x ∈ l2) → l1.length ≤ l2.length
  | [], _, _, _ => Nat.zero_le _
  | x :: xs, l2, hn, hs => by
    obtain ⟨h1, h2⟩ := List.nodup_cons.mp hn
    have hx := hs x List.mem_cons_self
    have := sub_len (l1 := xs) (l2 := l2.erase x) h2 fun y hy => by
      have hyx : y ≠ x := fun e => h1 (by rw [← e]; exact hy)
      exact (List.mem_erase_of_ne hyx).mpr (hs y (List.mem_cons_of_mem _ hy))
    rw [List.length_erase_of_mem hx] at this
    have : 0 < l2.length := List.length_pos_of_mem hx
    simp only [List.length_cons]
    omega
/-! ### the town -/
structure Rp where
  a : Nat
  b : Nat
  c : Int
  w : Nat
  l : Nat
def rD (r : Rp) : D := .tup [.int (r.a : Nat), .int (r.b : Nat), .int r.c, .int (r.w : Nat), .int (r.l : Nat)]
structure Rp.Ok (n : Nat) (r : Rp) : Prop where
  a : r.a < n
  b : r.b < n
  ne : r.a ≠ r.b
  c : 1 ≤ r.c
  w : 1 ≤ r.w ∧ r.w ≤ 4
  l : 1 ≤ r.l ∧ r.l ≤ 7
structure NamesOk (ns : List Int) : Prop where
  len : 1 ≤ ns.length ∧ ns.length ≤ 10
  nn : ∀ x ∈ ns, 0 ≤ x
  nd : ns.Nodup
theorem ev_ask_rope (n : Nat) {r : Rp} (h : r.Ok n) (st : Sto) : m_ask_rope [.int (n : Nat), rD r] st = some (.sh .non, st) := by
  obtain ⟨a, b, c, w, l⟩ := r
  obtain ⟨h1, h2, h3, h4, h5, h6⟩ := h
  dsimp only at h1 h2 h3 h4 h5 h6
  have h3' : ¬ ((a : Int) = (b : Int)) := by omega
  have h4' : ¬ (c < 1) := by omega
  have w1 : (1 : Int) ≤ (w : Int) := by omega
  have w2 : (w : Int) ≤ 4 := by omega
  have l1 : (1 : Int) ≤ (l : Int) := by omega
  have l2 : (l : Int) ≤ 7 := by omega
  simp [m_ask_rope, runB, b_ask_rope, rD, h1, h2, h3, h3', h4', w1, w2, l1, l2, h5, h6]
theorem ev_ask_namesL {ns : List Int} (h : NamesOk ns) (st : Sto) : ∀ (m i : Nat) (x1 : Kn.Slot), i + m = ns.length → ∃ y1, forL (gNm 1) lb_ask_names_0 (rngD i m) [.sh (.lst (ns.map .int)), x1] st = some (.nx, [.sh (.lst (ns.map .int)), y1], st)
  | 0, i, x1, _ => ⟨x1, rfl⟩
  | m + 1, i, x1, hi => by
    obtain ⟨y1, ih⟩ := ev_ask_namesL h st m (i + 1) (.sh (.int (i : Nat))) (by omega)
    refine ⟨y1, ?_⟩
    have er : rngD (i : Nat) (m + 1) = .int (i : Nat) :: rngD ((i + 1 : Nat) : Int) m := by
      unfold rngD
      rw [List.range_succ_eq_map, List.map_cons, List.map_map]
      refine congr (congrArg _ (by simp)) (List.map_congr_left fun k _ => ?_)
      simp; omega
    rw [er, ← ih]
    refine forL_nx rfl ?_
    have hl : i < ns.length := by omega
    have hat : atI (ns.map D.int) (i : Int) = some (.int ns[i]) := by rw [atI_map, atI_nat (List.getElem?_eq_getElem hl)]; rfl
    have hc : cutG (ns.map D.int) none (some (i : Int)) = (ns.take i).map .int := by rw [cutG_to, List.map_take]
    have h0 : ¬ ns[i] < 0 := by have := h.nn _ (List.getElem_mem hl); omega
    have hin : ns[i] ∉ ns.take i := fun hm => by
      obtain ⟨j, hj, e⟩ := List.getElem_of_mem hm
      rw [List.length_take] at hj
      rw [List.getElem_take] at e
      have e2 : ns[j]? = ns[i]? := by rw [List.getElem?_eq_getElem (by omega), List.getElem?_eq_getElem hl, e]
      have := (List.getElem?_inj (by omega) h.nd).mp e2
      omega
    have hf := fIn_ints (ns.take i) ns[i]
    generalize ns.take i = tk at hc hin hf
    generalize ns[i] = x at hat h0 hin hf
    simp [lb_ask_names_0, hat, hc, h0, hf, hin]
theorem ev_ask_names {ns : List Int} (h : NamesOk ns) (st : Sto) : m_ask_names [.lst (ns.map .int)] st = some (.sh .non, st) := by
  obtain ⟨y1, k⟩ := ev_ask_namesL h st ns.length 0 .no (by omega)
  have k : forL (gNm 1) lb_ask_names_0 (rngD 0 ns.length) [.sh (.lst (ns.map .int)), .no] st = _ := k
  have hl := h.len
  have hrg : Rg (ns.length : Int) := .of (by omega)
  have l1 : 1 ≤ ns.length := hl.1
  have l1c : (1 : Int) ≤ (ns.length : Int) := by omega
  have l2 : (ns.length : Int) ≤ 10 := by omega
  have hlen : fLen (.lst (ns.map .int)) = some (.sh (.int (ns.length : Nat))) := by show some (Kn.R.sh (.int ((ns.map D.int).length : Nat))) = _; rw [List.length_map]
  generalize D.lst (ns.map .int) = NS at hlen k ⊢
  simp [m_ask_names, runB, b_ask_names, hlen, hrg, l1, l1c, l2, hl.2, k]
def nearS (nr : List (List Nat)) (z : Rp × Nat) : List (List Nat) := (nr.set z.1.a (nr.getD z.1.a [] ++ [z.2])).set z.1.b ((nr.set z.1.a (nr.getD z.1.a [] ++ [z.2])).getD z.1.b [] ++ [z.2])
def nearF (n : Nat) (rs : List Rp) : List (List Nat) := (rs.zipIdx 0).foldl nearS (List.replicate n [])
def nrD (nr : List (List Nat)) : D := .lst ((nr.map fun l => l.map nI).map .lst)
def townD (ns : List Int) (rs : List Rp) : D := .obj "Town" [.int (ns.length : Nat), .int (rs.length : Nat), .lst (ns.map .int), .lst (rs.map rD), nrD (nearF ns.length rs)]
theorem nearS_len (nr : List (List Nat)) (z : Rp × Nat) : (nearS nr z).length = nr.length := by unfold nearS; simp
theorem nearS_row (nr : List (List Nat)) (z : Rp × Nat) (m : Nat) (h : ∀ j, (nr.getD j []).length ≤ m) : ∀ j, ((nearS nr z).getD j []).length ≤ m + 2 := by
  have one : ∀ (nr : List (List Nat)) (a k m : Nat), (∀ j, (nr.getD j []).length ≤ m) → ∀ j, ((nr.set a (nr.getD a [] ++ [k])).getD j []).length ≤ m + 1 := fun nr a k m h j => by
    rw [List.getD_eq_getElem?_getD, List.getElem?_set]
    split
    · rename_i e
      split
      · show (nr.getD a [] ++ [k]).length ≤ m + 1
        rw [List.length_append, List.length_singleton]
        have := h a
        omega
      · simp
    · rw [← List.getD_eq_getElem?_getD]
      have := h j; omega
  intro j
  exact one _ z.1.b z.2 (m + 1) (one nr z.1.a z.2 m h) j
theorem ev_Town_initL (ad : Addr) {ns : List Int} (st : Sto) (P : D) : ∀ (zs : List (Rp × Nat)) (nr : List (List Nat)) (m : Nat) (x4 x5 : Kn.Slot) (x6 : Kn.Slot), (∀ z ∈ zs, z.1.Ok ns.length) → nr.length = ns.length → (∀ j, (nr.getD j []).length ≤ m) → m + 2 * zs.length ≤ 900 → ∃ y4 y5,
    forL (gTp [gNm 4, gNm 5]) lb_Town_init_0 (zs.map fun z => .tup [.int (z.2 : Nat), rD z.1]) [.me ad (.obj "Town" []), .sh (.lst (ns.map .int)), .sh P, .o2 (nr.map fun l => l.map nI), x4, x5, x6] st =
      some (.nx, [.me ad (.obj "Town" []), .sh (.lst (ns.map .int)), .sh P, .o2 ((zs.foldl nearS nr).map fun l => l.map nI), y4, y5, x6], st)
  | [], nr, m, x4, x5, x6, _, _, _, _ => ⟨x4, x5, rfl⟩
  | z :: zs, nr, m, x4, x5, x6, hz, hl, hr, hm => by
    simp only [List.length_cons] at hm
    have ok := hz z List.mem_cons_self
    obtain ⟨y4, y5, ih⟩ := ev_Town_initL ad st P zs (nearS nr z) (m + 2) (.sh (.int (z.2 : Nat))) (.sh (rD z.1)) x6 (fun q hq => hz q (List.mem_cons_of_mem _ hq)) (by rw [nearS_len]; exact hl) (nearS_row nr z m hr) (by omega)
    refine ⟨y4, y5, ?_⟩
    rw [List.map_cons, List.foldl_cons, ← ih]
    refine forL_nx rfl ?_
    have ra := ev_ask_rope ns.length ok st
    have i0 : fIdx (rD z.1) (.int 0) = some (.sh (.int (z.1.a : Nat))) := rfl
    have i1 : fIdx (rD z.1) (.int 1) = some (.sh (.int (z.1.b : Nat))) := rfl
    have p1 := app2_nat (nr := nr) (j := z.1.a) (k := z.2) (by rw [hl]; exact ok.a) (by have := hr z.1.a; omega)
    have p2 := app2_nat (nr := nr.set z.1.a (nr.getD z.1.a [] ++ [z.2])) (j := z.1.b) (k := z.2) (by rw [List.length_set, hl]; exact ok.b) (by
      rw [List.getD_eq_getElem?_getD, List.getElem?_set_ne ok.ne, ← List.getD_eq_getElem?_getD]
      have := hr z.1.b; omega)
    unfold nearS
    generalize hn2 : (nr.set z.1.a (nr.getD z.1.a [] ++ [z.2])) = nr2 at p1 p2
    generalize hn3 : nr2.set z.1.b (nr2.getD z.1.b [] ++ [z.2]) = nr3 at p2
    generalize (nr.map fun l => l.map nI) = R1 at p1
    generalize (nr2.map fun l => l.map nI) = R2 at p1 p2
    generalize (nr3.map fun l => l.map nI) = R3 at p2
    generalize rD z.1 = RD at ra i0 i1
    have hlen : fLen (.lst (ns.map .int)) = some (.sh (.int (ns.length : Nat))) := by show some (Kn.R.sh (.int ((ns.map D.int).length : Nat))) = _; rw [List.length_map]
    generalize D.lst (ns.map .int) = NS at hlen
    simp [lb_Town_init_0, hlen, ra, i0, i1, p1, p2]
theorem ev_Town_init {ns : List Int} {rs : List Rp} (h : NamesOk ns) (hr : ∀ r ∈ rs, r.Ok ns.length) (hl : rs.length ≤ 20) (st : Sto) : m_Town_init [.lst (ns.map .int), .lst (rs.map rD)] st = some (.ow (townD ns rs), st) := by
  refine runI_of fun ad => ?_
  have hn := ev_ask_names h st
  have hlen := h.len
  have he : (List.replicate ns.length ([] : List D)) = (List.replicate ns.length ([] : List Nat)).map fun l => l.map nI := by rw [List.map_replicate]; rfl
  have ez : ∀ (l : List Rp) (k : Nat), enumF k (l.map rD) = (l.zipIdx k).map fun z => .tup [.int (z.2 : Nat), rD z.1] := fun l => by
    induction l with
    | nil => intro k; rfl
    | cons x l ih => intro k; rw [List.map_cons, enumF, ih, List.zipIdx_cons]; rfl
  obtain ⟨y4, y5, k⟩ := ev_Town_initL ad (ns := ns) st (.lst (rs.map rD)) (rs.zipIdx 0) (List.replicate ns.length []) 0 .no .no .no (fun z hz => by
      obtain ⟨r, i⟩ := z
      exact hr r (List.mem_of_getElem? (List.mem_zipIdx_iff_getElem?.mp hz))) List.length_replicate (fun j => by
      rw [List.getD_eq_getElem?_getD, List.getElem?_replicate]; split <;> simp) (by rw [List.length_zipIdx]; omega)
  rw [← he, ← ez rs 0] at k
  refine ⟨[.me ad (townD ns rs), .sh (.lst (ns.map .int)), .sh (.lst (rs.map rD)), .sh (nrD (nearF ns.length rs)), y4, y5, .no], ?_, rfl⟩
  have hl1 : fLen (.lst (ns.map .int)) = some (.sh (.int (ns.length : Nat))) := by show some (Kn.R.sh (.int ((ns.map D.int).length : Nat))) = _; rw [List.length_map]
  have hl2 : fLen (.lst (rs.map rD)) = some (.sh (.int (rs.length : Nat))) := by show some (Kn.R.sh (.int ((rs.map rD).length : Nat))) = _; rw [List.length_map]
  have hs1 : (D.lst (ns.map .int)).seq = some (ns.map .int) := rfl
  have hs2 : (D.lst (rs.map rD)).seqL = some (rs.map rD) := rfl
  have ho1 : fLofs (.lst (ns.map .int)) = some (.ow (.lst (ns.map .int))) := rfl
  have ho2 : fLofs (.lst (rs.map rD)) = some (.ow (.lst (rs.map rD))) := rfl
  have hm1 : (ns.map D.int).length = ns.length := List.length_map ..
  have hall : (ns.map D.int).all (fun d => (gNm 6 d (wipeE [.me ad (.obj "Town" []), .sh (.lst (ns.map .int)), .sh (.lst (rs.map rD)), .no, .no, .no, .no] [6])).isSome) = true := by rw [List.all_eq_true]; intro d _; rfl
  have hgt : ¬ ((20 : Int) < (rs.length : Int)) := by omega
  have hgt2 : ¬ 20 < rs.length := by omega
  have hsz : ns.length ≤ sizeLine := x_sz (by omega)
  unfold townD nrD nearF
  generalize (rs.zipIdx 0).foldl nearS (List.replicate ns.length []) = NR at k ⊢
  generalize D.lst (ns.map .int) = NS at hl1 hs1 ho1 hall hn k ⊢
  generalize D.lst (rs.map rD) = RS at hl2 hs2 ho2 hall k ⊢
  generalize ns.map D.int = N1 at hs1 hm1 hall
  rw [← hm1] at k hsz
  simp [b_Town_init, startI, hn, hl1, hl2, hs1, hs2, ho1, ho2, hgt, hgt2, hsz, k]
/-! ### rows -/
theorem ev_whole (i : Int) (st : Sto) : m_law_whole [.int i] st = some (.sh (.bl true), st) := by
  simp [m_law_whole, runB, b_law_whole]
theorem ev_cell (ns : List Int) (k : Nat) (st : Sto) : m_law_cell_at [.scr ns, .int k] st = some (.sh (.int (ns.getD k 0)), st) := by
  by_cases h : k < ns.length
  · have : atI ns (k : Int) = some ns[k] := atI_nat (List.getElem?_eq_getElem h)
    simp [m_law_cell_at, runB, b_law_cell_at, h, this]
  · simp [m_law_cell_at, runB, b_law_cell_at, h]
def byD : Option Nat → D
  | none => .non
  | some k => .int (k : Nat)
structure Rw where
  head : Int
  cost : Int
  hops : Nat
  by_ : Option Nat
def rwD (w : Rw) : D := .tup [.int w.head, .int w.cost, .int (w.hops : Nat), byD w.by_]
theorem Pn_by (b : Option Nat) : (byD b).Pn 0 := by cases b <;> first | exact Pn_non | exact Pn_int _
theorem Pn_rw (w : Rw) : (rwD w).Pn 1 := Pn_tup (k := 0) fun d hd => by
  simp only [List.mem_cons, List.not_mem_nil, or_false] at hd
  rcases hd with rfl | rfl | rfl | rfl
  · exact Pn_int _
  · exact Pn_int _
  · exact Pn_int _
  · exact Pn_by _
theorem idx_names {ns : List Int} {h : Nat} (hh : h < ns.length) : fIdx (.lst (ns.map .int)) (.int (h : Nat)) = some (.sh (.int (ns.getD h 0))) := by
  show (atI (ns.map D.int) (h : Int)).map Kn.R.sh = _
  rw [atI_map_nat D.int 0 hh]; rfl
theorem idx_ropes {rs : List Rp} {k : Nat} {r : Rp} (hr : rs[k]? = some r) : fIdx (.lst (rs.map rD)) (.int (k : Nat)) = some (.sh (rD r)) := by
  show (atI (rs.map rD) (k : Int)).map Kn.R.sh = _
  rw [atI_map, atI_nat hr]; rfl
theorem ev_name {ns : List Int} (rs : List Rp) {h : Nat} (hh : h < ns.length) (st : Sto) : m_Town_name [townD ns rs, .int (h : Nat)] st = some (.sh (.int (ns.getD h 0)), st) := by
  have i := idx_names hh
  unfold townD
  generalize D.lst (ns.map .int) = NS at i ⊢
  simp [m_Town_name, runB, b_Town_name, i]
theorem ev_rope (ns : List Int) {rs : List Rp} {k : Nat} {r : Rp} (hr : rs[k]? = some r) (st : Sto) : m_Town_rope [townD ns rs, .int (k : Nat)] st = some (.sh (rD r), st) := by
  have i := idx_ropes hr
  unfold townD
  generalize D.lst (rs.map rD) = RS at i ⊢
  simp [m_Town_rope, runB, b_Town_rope, i]
theorem fld_town (ns : List Int) (rs : List Rp) : fFld "Town" 0 (townD ns rs) = some (.sh (.int (ns.length : Nat))) := x_fld
theorem ev_own_row {ns : List Int} (rs : List Rp) {h : Nat} (hh : h < ns.length) (st : Sto) : m_own_row [townD ns rs, .int (h : Nat)] st = some (.sh (rwD ⟨ns.getD h 0, 0, 0, none⟩), st) := by
  have e := ev_name rs hh st
  unfold townD at e ⊢
  simp [m_own_row, runB, b_own_row, e]
  rfl
def offerF (n : Nat) (r : Rp) (k : Nat) (w : Rw) : Option Rw := if n ≤ w.hops + 1 then none else some ⟨w.head, w.cost + r.c, w.hops + 1, some k⟩
def orD : Option Rw → D
  | none => .non
  | some w => rwD w
theorem ev_offer {ns : List Int} {rs : List Rp} (w : Rw) {k : Nat} {r : Rp} (hr : rs[k]? = some r) (st : Sto) : m_offer [townD ns rs, rwD w, .int (k : Nat)] st = some (.sh (orD (offerF ns.length r k w)), st) := by
  obtain ⟨hd, co, ho, b⟩ := w
  have e := ev_rope ns hr st
  have f := fld_town ns rs
  have i2 : fIdx (rD r) (.int 2) = some (.sh (.int r.c)) := rfl
  have ob : ∃ a, townD ns rs = .obj "Town" a := ⟨_, rfl⟩
  obtain ⟨a, ob⟩ := ob
  rw [ob] at e f ⊢
  unfold offerF
  generalize rD r = RD at e i2
  by_cases hle : ns.length ≤ ho + 1
  · have hc : (ns.length : Int) ≤ (ho : Int) + 1 := by omega
    rw [if_pos hle]
    simp only [x_fld] at f
    simp [m_offer, runB, b_offer, rwD, f, hc, orD]
  · have hc : ¬ (ns.length : Int) ≤ (ho : Int) + 1 := by omega
    rw [if_neg hle]
    simp only [x_fld] at f
    simp [m_offer, runB, b_offer, rwD, f, hc, orD, e, i2, byD]
theorem ev_row_like (w : Rw) (st : Sto) : m_law_row_like [rwD w, rwD w] st = some (.sh (.bl true), st) := by
  obtain ⟨hd, co, ho, b⟩ := w
  have self := fEq_self (Pn_rw ⟨hd, co, ho, b⟩) (by decide)
  have self3 : fEq (.tup [.int hd, .int co, .int (ho : Nat)]) (.tup [.int hd, .int co, .int (ho : Nat)]) = some (.sh (.bl true)) := fEq_self (k := 1) (Pn_tup (k := 0) fun d hd => by
    simp only [List.mem_cons, List.not_mem_nil, or_false] at hd
    rcases hd with rfl | rfl | rfl <;> exact Pn_int _) (by decide)
  have ist : fIsi "tuple" (rwD ⟨hd, co, ho, b⟩) = some (.sh (.bl true)) := x_isi_tt
  have hlc : ∀ e0 e1 : Kn.Slot, lcL (gNm 2) eYes ce_law_row_like_0 [2] [e0, e1, .no] [.int hd, .int co, .int (ho : Nat)] st = some ([.bl true, .bl true, .bl true], st) := fun e0 e1 => by
    have := lcL_map (g := gNm 2) (c := eYes) (a := ce_law_row_like_0) (vs := [2]) (env := [e0, e1, .no]) (st := st) D.int (fun _ => D.bl true) (xs := [hd, co, (ho : Int)]) fun x _ => ⟨_, .sh (.bl true), rfl, rfl, by simp [ce_law_row_like_0, ev_whole], rfl⟩
    exact this
  have hbl : fBls (fun ns => some (.sh (.bl (ns.all id)))) (.lst [.bl true, .bl true, .bl true]) = some (.sh (.bl true)) := rfl
  have sl := slc4_3 (.int hd) (.int co) (.int (ho : Nat)) (byD b)
  unfold rwD at self ist ⊢
  dsimp only at self ist ⊢
  cases b with
  | none =>
    simp only [byD] at self ist sl ⊢
    simp [m_law_row_like, runB, b_law_row_like, sl, hlc, hbl, self3]
  | some k =>
    simp only [byD] at self ist sl ⊢
    simp [m_law_row_like, runB, b_law_row_like, sl, hlc, hbl, self, ev_whole]
theorem ev_offered {ns : List Int} {rs : List Rp} (w : Rw) {k : Nat} {r : Rp} (hr : rs[k]? = some r) (st : Sto) : m_law_offered [townD ns rs, .lst (rs.map rD), rwD w, .int (k : Nat)] st = some (.sh (.bl true), st) := by
  have e := ev_offer (ns := ns) w hr st
  have f := fld_town ns rs
  have ob : ∃ a, townD ns rs = .obj "Town" a := ⟨_, rfl⟩
  obtain ⟨a, ob⟩ := ob
  have ir := idx_ropes hr
  have i2 : fIdx (rD r) (.int 2) = some (.sh (.int r.c)) := rfl
  rw [ob] at e f ⊢
  simp only [x_fld] at f
  unfold offerF at e
  generalize D.lst (rs.map rD) = RS at ir ⊢
  generalize rD r = RD at ir i2
  have j0 : fIdx (rwD w) (.int 0) = some (.sh (.int w.head)) := rfl
  have j1 : fIdx (rwD w) (.int 1) = some (.sh (.int w.cost)) := rfl
  have j2 : fIdx (rwD w) (.int 2) = some (.sh (.int (w.hops : Nat))) := rfl
  by_cases hle : ns.length ≤ w.hops + 1
  · have hc : (ns.length : Int) ≤ (w.hops : Int) + 1 := by omega
    rw [if_pos hle] at e
    generalize rwD w = RW at e j0 j1 j2 ⊢
    simp [m_law_offered, runB, b_law_offered, e, orD, f, j2, hc]
  · have hc : ¬ (ns.length : Int) ≤ (w.hops : Int) + 1 := by omega
    rw [if_neg hle] at e
    have lk := ev_row_like ⟨w.head, w.cost + r.c, w.hops + 1, some k⟩ st
    have ex : rwD ⟨w.head, w.cost + r.c, w.hops + 1, some k⟩ = .tup [.int w.head, .int (w.cost + r.c), .int ((w.hops : Int) + 1), .int (k : Nat)] := rfl
    generalize rwD w = RW at e j0 j1 j2 ⊢
    have e : m_offer [.obj "Town" a, RW, .int (k : Nat)] st = some (.sh (rwD ⟨w.head, w.cost + r.c, w.hops + 1, some k⟩), st) := e
    rw [ex] at e lk
    simp [m_law_offered, runB, b_law_offered, e, f, j0, j1, j2, hc, ir, i2, lk]
/-! ### numbers drawn -/
abbrev MM : Int := 1000000007
theorem big300 {i : Int} (h1 : -2305843009213693952 ≤ i) (h2 : i ≤ 2305843009213693952) : i.natAbs < 2 ^ 300 := by
  have : 2 ^ 62 ≤ 2 ^ 300 := Nat.pow_le_pow_right (by decide) (by decide)
  generalize 2 ^ 300 = z at this
  omega
theorem ev_numbersL (d0 : D) (n : Nat) (st : Sto) : ∀ (m i : Nat) (x : Int) (xs : List Int) (x4 : Kn.Slot), i + m ≤ 100 → (0 ≤ x ∧ x < 1000000007) → xs.length = i → (∀ y ∈ xs, 0 ≤ y ∧ y < 1000000007) → ∃ (ys : List Int) (y2 : D) (y4 : Kn.Slot), ys.length = i + m ∧ (∀ y ∈ ys, 0 ≤ y ∧ y < 1000000007) ∧
    forL (gNm 4) lb_law_numbers_0 (rngD i m) [.sh d0, .sh (.int (n : Nat)), .sh (.int x), .ow (.lst (xs.map .int)), x4] st = some (.nx, [.sh d0, .sh (.int (n : Nat)), .sh y2, .ow (.lst (ys.map .int)), y4], st)
  | 0, i, x, xs, x4, _, _, hl, hx => ⟨xs, .int x, x4, hl, hx, rfl⟩
  | m + 1, i, x, xs, x4, hi, h0, hl, hx => by
    have g1 : gMul 6 (i : Int) = some (6 * (i : Int)) := gMul_s (by decide) (by omega)
    have g2 : gMul 20011 (i : Int) = some (20011 * (i : Int)) := gMul_b (by decide) (big300 (by omega) (by omega))
    have g3 : gMul x (x + 6 * (i : Int) + 30011) = some (x * (x + 6 * (i : Int) + 30011)) := gMul_b (big300 (by omega) (by omega)) (big300 (by omega) (by omega))
    have r0 : 0 ≤ (x * (x + 6 * (i : Int) + 30011) + 20011 * (i : Int) + 5) % 1000000007 := Int.emod_nonneg _ (by decide)
    have r1 : (x * (x + 6 * (i : Int) + 30011) + 20011 * (i : Int) + 5) % 1000000007 < 1000000007 := Int.emod_lt_of_pos _ (by decide)
    generalize hp : x * (x + 6 * (i : Int) + 30011) = pr at g3 r0 r1
    generalize hq : (pr + 20011 * (i : Int) + 5) % 1000000007 = nx at r0 r1
    obtain ⟨ys, y2, y4, k1, k2, k3⟩ := ev_numbersL d0 n st m (i + 1) nx (xs ++ [nx]) (.sh (.int (i : Nat))) (by omega) ⟨r0, r1⟩ (by rw [List.length_append, hl]; rfl) fun y hy => by
      rcases List.mem_append.mp hy with hy | hy
      · exact hx y hy
      · rw [List.mem_singleton.mp hy]; exact ⟨r0, r1⟩
    refine ⟨ys, y2, y4, by omega, k2, ?_⟩
    have er : rngD (i : Nat) (m + 1) = .int (i : Nat) :: rngD ((i + 1 : Nat) : Int) m := by
      unfold rngD
      rw [List.range_succ_eq_map, List.map_cons, List.map_map]
      refine congr (congrArg _ (by simp)) (List.map_congr_left fun k _ => ?_)
      simp; omega
    rw [er, ← k3]
    refine forL_nx rfl ?_
    have ap : (xs ++ [nx]).map D.int = xs.map .int ++ [.int nx] := by rw [List.map_append]; rfl
    rw [ap]
    have hz : (xs.map D.int).length ≤ 1000 := by rw [List.length_map]; omega
    generalize xs.map D.int = XS at hz ⊢
    simp [lb_law_numbers_0, g1, g2, g3, hq, hz]
theorem ev_numbers (c : Int) (n : Nat) (hn : n ≤ 100) (st : Sto) : ∃ ys : List Int, ys.length = n ∧ (∀ y ∈ ys, 0 ≤ y ∧ y < 1000000007) ∧ m_law_numbers [.int c, .int (n : Nat)] st = some (.ow (.lst (ys.map .int)), st) := by
  have h0 : 0 ≤ c % 1000000007 := Int.emod_nonneg _ (by decide)
  have h1 : c % 1000000007 < 1000000007 := Int.emod_lt_of_pos _ (by decide)
  obtain ⟨ys, y2, y4, k1, k2, k3⟩ := ev_numbersL (.int c) n st n 0 (c % 1000000007) [] .no (by omega) ⟨h0, h1⟩ rfl (fun y hy => nomatch hy)
  refine ⟨ys, by omega, k2, ?_⟩
  have k3 : forL (gNm 4) lb_law_numbers_0 (rngD 0 n) [.sh (.int c), .sh (.int (n : Nat)), .sh (.int (c % 1000000007)), .ow (.lst []), .no] st = _ := k3
  have hrg : Rg (n : Int) := .of (by omega)
  generalize hz : c % 1000000007 = z at k3 h0 h1
  simp [m_law_numbers, runB, b_law_numbers, hz, hrg, k3]
/-! ### names -/
theorem free_name (S : List Int) (x : Int) : ∃ k : Nat, k ≤ S.length ∧ x + (k : Int) ∉ S := by
  refine Classical.byContradiction fun h => ?_
  have hs : ∀ y ∈ (List.range (S.length + 1)).map fun (k : Nat) => x + (k : Int), y ∈ S := fun y hy => by
    obtain ⟨k, hk, rfl⟩ := List.mem_map.mp hy
    have := List.mem_range.mp hk
    exact Classical.byContradiction fun g => h ⟨k, by omega, g⟩
  have hn : ((List.range (S.length + 1)).map fun (k : Nat) => x + (k : Int)).Nodup := by
    refine List.Pairwise.map _ ?_ List.nodup_range
    intro a b hab e
    exact hab (by omega)
  have := sub_len hn hs
  simp at this
  omega
theorem ev_bump (e0 e1 e2 e3 e4 e6 : Kn.Slot) (S : List Int) (st : Sto) : ∀ (fuel : Nat) (x : Int), (∃ k : Nat, k < fuel ∧ x + (k : Int) ∉ S) → ∃ y : Int, x ≤ y ∧ y ∉ S ∧
    whL lt_law_names_1 lb_law_names_1 fuel [e0, e1, e2, e3, e4, .ow (.lst (S.map .int)), e6, .sh (.int x)] st = some (.nx, [e0, e1, e2, e3, e4, .ow (.lst (S.map .int)), e6, .sh (.int y)], st)
  | 0, x, ⟨k, hk, _⟩ => by omega
  | fuel + 1, x, ⟨k, hk, hx⟩ => by
    have hf := fIn_ints S x
    by_cases h : x ∈ S
    · have hk0 : k ≠ 0 := fun z => hx (by rw [z]; simpa using h)
      obtain ⟨y, h1, h2, h3⟩ := ev_bump e0 e1 e2 e3 e4 e6 S st fuel (x + 1) ⟨k - 1, by omega, by
        have : x + 1 + ((k - 1 : Nat) : Int) = x + (k : Int) := by omega
        rw [this]; exact hx⟩
      refine ⟨y, by omega, h2, ?_⟩
      rw [← h3]
      exact whL_nx (st1 := st) (by simp [lt_law_names_1, hf, h]) (by simp [lb_law_names_1])
    · exact ⟨x, Int.le_refl _, h, whL_stop (by simp [lt_law_names_1, hf, h])⟩
theorem ev_namesL (e0 e1 e2 : Kn.Slot) (mo fa : Int) (hmo : 0 < mo ∧ mo ≤ 1000000007) (hfa : 0 ≤ fa ∧ fa.natAbs < 2 ^ 300) (st : Sto) : ∀ (xs : List Int) (S : List Int) (x6 x7 : Kn.Slot), (∀ y ∈ xs, 0 ≤ y ∧ y < 1000000007) → S.length + xs.length ≤ 100 → S.Nodup → (∀ y ∈ S, 0 ≤ y) → ∃ (T : List Int) (y6 y7 : Kn.Slot), T.length = S.length + xs.length ∧ T.Nodup ∧ (∀ y ∈ T, 0 ≤ y) ∧
    forL (gNm 6) lb_law_names_0 (xs.map .int) [e0, e1, e2, .sh (.int mo), .sh (.int fa), .ow (.lst (S.map .int)), x6, x7] st = some (.nx, [e0, e1, e2, .sh (.int mo), .sh (.int fa), .ow (.lst (T.map .int)), y6, y7], st)
  | [], S, x6, x7, _, _, hn, h0 => ⟨S, x6, x7, rfl, hn, h0, rfl⟩
  | x :: xs, S, x6, x7, hx, hl, hn, h0 => by
    simp only [List.length_cons] at hl
    obtain ⟨a0, a1⟩ := hx x List.mem_cons_self
    have g9 : gDiv x 9 = some (x / 9) := gDiv_s (by decide) (by decide)
    have m0 : 0 ≤ x / 9 % mo := Int.emod_nonneg _ (by omega)
    have m1 : x / 9 % mo < mo := Int.emod_lt_of_pos _ hmo.1
    generalize hm : x / 9 % mo = q at m0 m1
    have gm : gMul q fa = some (q * fa) := gMul_b (big300 (by omega) (by omega)) hfa.2
    have p0 : 0 ≤ q * fa := Int.mul_nonneg m0 hfa.1
    generalize q * fa = v at gm p0
    obtain ⟨k, hk, hf⟩ := free_name S v
    obtain ⟨y, b1, b2, b3⟩ := ev_bump e0 e1 e2 (.sh (.int mo)) (.sh (.int fa)) (.sh (.int x)) S st 100000 v ⟨k, by omega, hf⟩
    obtain ⟨T, y6, y7, t1, t2, t3, t4⟩ := ev_namesL e0 e1 e2 mo fa hmo hfa st xs (S ++ [y]) (.sh (.int x)) (.sh (.int y)) (fun z hz => hx z (List.mem_cons_of_mem _ hz)) (by rw [List.length_append]; simp; omega)
      (List.nodup_append.mpr ⟨hn, by simp, fun a ha b hb e => b2 (by rw [List.mem_singleton.mp hb] at e; rw [← e]; exact ha)⟩) fun z hz => by
        rcases List.mem_append.mp hz with hz | hz
        · exact h0 z hz
        · rw [List.mem_singleton.mp hz]; omega
    refine ⟨T, y6, y7, by rw [List.length_append] at t1; simp only [List.length_cons, List.length_nil] at t1 ⊢; omega, t2, t3, ?_⟩
    rw [List.map_cons, ← t4]
    refine forL_nx rfl ?_
    have ap : (S ++ [y]).map D.int = S.map .int ++ [.int y] := by rw [List.map_append]; rfl
    rw [ap]
    have hz : (S.map D.int).length ≤ 1000 := by rw [List.length_map]; omega
    generalize S.map D.int = XS at hz b3 ⊢
    have hmo0 : 0 < mo := hmo.1
    simp [lb_law_names_0, g9, hmo0, hm, gm, b3, hz]
theorem at_nn {n : Nat} {ys : List Int} (hl : ys.length = n) (h : ∀ y ∈ ys, 0 ≤ y ∧ y < 1000000007) {i : Nat} (hi : i < n) : ∃ y : Int, fIdx (.lst (ys.map .int)) (.int (i : Nat)) = some (.sh (.int y)) ∧ 0 ≤ y ∧ y < 1000000007 := by
  have hi' : i < ys.length := by omega
  refine ⟨ys[i], ?_, h _ (List.getElem_mem hi')⟩
  show (atI (ys.map D.int) (i : Int)).map Kn.R.sh = _
  rw [atI_map, atI_nat (List.getElem?_eq_getElem hi')]; rfl
theorem ev_names {n : Nat} (hn : 1 ≤ n ∧ n ≤ 10) (c : Int) (st : Sto) : ∃ ns : List Int, ns.length = n ∧ NamesOk ns ∧ m_law_names [.int (n : Nat), .int c] st = some (.ow (.lst (ns.map .int)), st) := by
  obtain ⟨ys, k1, k2, k3⟩ := ev_numbers c n (by omega) st
  obtain ⟨y0, i0, b0, b1⟩ := at_nn k1 k2 (i := 0) (by omega)
  have i0 : fIdx (.lst (ys.map .int)) (.int 0) = some (.sh (.int y0)) := i0
  have g3 : gDiv y0 3 = some (y0 / 3) := gDiv_s (by decide) (by decide)
  have pw : gPow 10 50 = some 100000000000000000000000000000000000000000000000000 := by
    rw [gPow_s (by decide) (by decide)]; rfl
  obtain ⟨mo, hmo, hmi⟩ : ∃ mo : Int, (0 < mo ∧ mo ≤ 1000000007) ∧ atI [D.int 9, .int 30, .int 1000000007] (y0 % 3) = some (.int mo) := by
    have : y0 % 3 = 0 ∨ y0 % 3 = 1 ∨ y0 % 3 = 2 := by omega
    rcases this with e | e | e <;> rw [e]
    · exact ⟨9, by decide, x_at0⟩
    · exact ⟨30, by decide, x_at1⟩
    · exact ⟨1000000007, by decide, x_at2⟩
  obtain ⟨fa, hfa, hfi⟩ : ∃ fa : Int, (0 ≤ fa ∧ fa.natAbs < 2 ^ 300) ∧ atI [D.int 1, .int 1, .int 100000000000000000000000000000000000000000000000009] (y0 / 3 % 3) = some (.int fa) := by
    have big : (100000000000000000000000000000000000000000000000009 : Nat) < 2 ^ 300 := by decide +kernel
    have one : (1 : Nat) < 2 ^ 300 := by decide +kernel
    have : y0 / 3 % 3 = 0 ∨ y0 / 3 % 3 = 1 ∨ y0 / 3 % 3 = 2 := by omega
    rcases this with e | e | e <;> rw [e]
    · exact ⟨1, ⟨by decide, one⟩, x_at0⟩
    · exact ⟨1, ⟨by decide, one⟩, x_at1⟩
    · exact ⟨100000000000000000000000000000000000000000000000009, ⟨by decide, by decide +kernel⟩, x_at2⟩
  obtain ⟨T, y6, y7, t1, t2, t3, t4⟩ := ev_namesL (.sh (.int (n : Nat))) (.sh (.int c)) (.sh (.lst (ys.map .int))) mo fa hmo hfa st ys [] .no .no k2 (by simp; omega) List.nodup_nil (fun y hy => nomatch hy)
  have t4 : forL (gNm 6) lb_law_names_0 (ys.map .int) [.sh (.int (n : Nat)), .sh (.int c), .sh (.lst (ys.map .int)), .sh (.int mo), .sh (.int fa), .ow (.lst []), .no, .no] st = _ := t4
  refine ⟨T, by simp at t1; omega, ⟨by simp at t1; omega, t3, t2⟩, ?_⟩
  have hm0 : 0 ≤ y0 % 3 := by omega
  have sq : (D.lst (ys.map .int)).seq = some (ys.map .int) := rfl
  generalize ys.map D.int = YS at t4 sq i0 k3
  generalize D.lst YS = Y at t4 sq i0 k3
  simp [m_law_names, runB, b_law_names, k3, i0, hmi, g3, pw, hfi, sq, t4]
/-! ### ropes -/
theorem ev_rope1 {n : Nat} (hn : 2 ≤ n ∧ n ≤ 10) (c : D) (x3 x5 x6 x7 x8 : Kn.Slot) (rs : List Rp) (hz : rs.length ≤ 100) (y : Int) (hy : 0 ≤ y ∧ y < 1000000007) (st : Sto) : ∃ (r : Rp) (y5 y6 y7 y8 : Kn.Slot), r.Ok n ∧
    lb_law_ropes_0 [.sh (.int (n : Nat)), .sh c, .ow (.lst (rs.map rD)), x3, .sh (.int y), x5, x6, x7, x8] st = some (.nx, [.sh (.int (n : Nat)), .sh c, .ow (.lst ((rs ++ [r]).map rD)), x3, .sh (.int y), y5, y6, y7, y8], st) := by
  have hn0 : 0 < n := by omega
  have hn1 : (0 : Int) < (n : Int) - 1 := by omega
  have hn1b : (1 : Int) < (n : Int) := by omega
  have hn1c : 1 < n := by omega
  have d16 : gDiv y 16 = some (y / 16) := gDiv_s (by decide) (by decide)
  have d256 : gDiv y 256 = some (y / 256) := gDiv_s (by decide) (by decide)
  have d1024 : gDiv y 1024 = some (y / 1024) := gDiv_b (by decide) (by decide)
  have d8192 : gDiv y 8192 = some (y / 8192) := gDiv_b (by decide) (by decide)
  have dA : gDiv y 1048576 = some (y / 1048576) := gDiv_b (by decide) (by decide)
  have dB : gDiv y 4194304 = some (y / 4194304) := gDiv_b (by decide) (by decide)
  have o0 : 0 ≤ y % (n : Int) := Int.emod_nonneg _ (by omega)
  have o1 : y % (n : Int) < n := Int.emod_lt_of_pos _ (by omega)
  generalize ho : y % (n : Int) = o at o0 o1
  have e0 : 0 ≤ y / 16 % ((n : Int) - 1) := Int.emod_nonneg _ (by omega)
  have e1 : y / 16 % ((n : Int) - 1) < (n : Int) - 1 := Int.emod_lt_of_pos _ hn1
  generalize hd : y / 16 % ((n : Int) - 1) = d at e0 e1
  have f0 : 0 ≤ (o + 1 + d) % (n : Int) := Int.emod_nonneg _ (by omega)
  have f1 : (o + 1 + d) % (n : Int) < n := Int.emod_lt_of_pos _ (by omega)
  have hne : ¬ o = (o + 1 + d) % (n : Int) := by
    intro q
    by_cases hlt : o + 1 + d < n
    · rw [Int.emod_eq_of_lt (by omega) hlt] at q; omega
    · have : (o + 1 + d) % (n : Int) = o + 1 + d - n := by
        rw [← Int.sub_emod_right, Int.emod_eq_of_lt (by omega) (by omega)]
      omega
  generalize hf : (o + 1 + d) % (n : Int) = f at f0 f1 hne
  obtain ⟨a, rfl⟩ : ∃ a : Nat, o = (a : Int) := ⟨o.toNat, by omega⟩
  obtain ⟨b, rfl⟩ : ∃ b : Nat, f = (b : Int) := ⟨f.toNat, by omega⟩
  obtain ⟨w, hw, hw2⟩ : ∃ w : Nat, 1 + y / 4194304 % 4 = (w : Int) ∧ 1 ≤ w ∧ w ≤ 4 := ⟨(1 + y / 4194304 % 4).toNat, by omega, by omega⟩
  obtain ⟨l, hl, hl2⟩ : ∃ l : Nat, atI [D.int 7, .int 7, .int 7, .int (1 + y / 8192 % 7)] (y / 1048576 % 4) = some (.int (l : Nat)) ∧ 1 ≤ l ∧ l ≤ 7 := by
    have : y / 1048576 % 4 = 0 ∨ y / 1048576 % 4 = 1 ∨ y / 1048576 % 4 = 2 ∨ y / 1048576 % 4 = 3 := by omega
    rcases this with e | e | e | e <;> rw [e]
    · exact ⟨7, x_at0, by decide⟩
    · exact ⟨7, x_at1, by decide⟩
    · exact ⟨7, x_at2, by decide⟩
    · refine ⟨(1 + y / 8192 % 7).toNat, ?_, by omega⟩
      rw [Int.toNat_of_nonneg (by omega)]; exact x_at3
  have pw : gPow 10 55 = some 10000000000000000000000000000000000000000000000000000000 := by
    rw [gPow_s (by decide) (by decide)]; rfl
  have q0 : 0 ≤ y / 8192 % 1000 := by omega
  have q1 : y / 8192 % 1000 < 1000 := by omega
  have gm : gMul (1 + y / 8192 % 1000) 10000000000000000000000000000000000000000000000000000000 = some ((1 + y / 8192 % 1000) * 10000000000000000000000000000000000000000000000000000000) := gMul_b (big300 (by omega) (by omega)) (by decide +kernel)
  have hzz : (rs.map rD).length ≤ 1000 := by rw [List.length_map]; omega
  have ap : ∀ r, (rs ++ [r]).map rD = rs.map rD ++ [rD r] := fun r => by rw [List.map_append]; rfl
  by_cases h5 : y / 1024 % 8 = 5
  · refine ⟨⟨a, b, (1 + y / 8192 % 1000) * 10000000000000000000000000000000000000000000000000000000 + y % 3, w, l⟩, .sh (.int (a : Nat)), .sh (.int (b : Nat)), .sh (.int ((1 + y / 8192 % 1000) * 10000000000000000000000000000000000000000000000000000000 + y % 3)), .sh (.int (l : Nat)), ⟨by show a < n; omega, by show b < n; omega, by show a ≠ b; omega, by show 1 ≤ _ * _ + _; omega, hw2, hl2⟩, ?_⟩
    rw [ap]
    unfold rD
    dsimp only
    generalize hcc : (1 + y / 8192 % 1000) * 10000000000000000000000000000000000000000000000000000000 = cc at gm
    have hzz' : rs.length ≤ 1000 := by omega
    simp [lb_law_ropes_0, hn0, ho, d16, hd, hn1, hn1b, hn1c, hf, d256, d1024, h5, d8192, pw, gm, dA, hl, dB, hw, hzz']
  · refine ⟨⟨a, b, 1 + y / 256 % 4, w, l⟩, .sh (.int (a : Nat)), .sh (.int (b : Nat)), .sh (.int (1 + y / 256 % 4)), .sh (.int (l : Nat)), ⟨by show a < n; omega, by show b < n; omega, by show a ≠ b; omega, by show 1 ≤ 1 + y / 256 % 4; omega, hw2, hl2⟩, ?_⟩
    rw [ap]
    unfold rD
    dsimp only
    have hzz' : rs.length ≤ 1000 := by omega
    simp [lb_law_ropes_0, hn0, ho, d16, hd, hn1, hn1b, hn1c, hf, d256, d1024, h5, d8192, dA, hl, dB, hw, hzz']
theorem ev_ropesL {n : Nat} (hn : 2 ≤ n ∧ n ≤ 10) (c : D) (x3 : Kn.Slot) (st : Sto) : ∀ (ys : List Int) (rs : List Rp) (x4 x5 x6 x7 x8 : Kn.Slot), rs.length + ys.length ≤ 100 → (∀ y ∈ ys, 0 ≤ y ∧ y < 1000000007) → (∀ r ∈ rs, r.Ok n) → ∃ (ts : List Rp) (y4 y5 y6 y7 y8 : Kn.Slot), ts.length = rs.length + ys.length ∧ (∀ r ∈ ts, r.Ok n) ∧
    forL (gNm 4) lb_law_ropes_0 (ys.map .int) [.sh (.int (n : Nat)), .sh c, .ow (.lst (rs.map rD)), x3, x4, x5, x6, x7, x8] st = some (.nx, [.sh (.int (n : Nat)), .sh c, .ow (.lst (ts.map rD)), x3, y4, y5, y6, y7, y8], st)
  | [], rs, x4, x5, x6, x7, x8, _, _, hr => ⟨rs, x4, x5, x6, x7, x8, rfl, hr, rfl⟩
  | y :: ys, rs, x4, x5, x6, x7, x8, hl, hy, hr => by
    simp only [List.length_cons] at hl
    obtain ⟨r, u5, u6, u7, u8, ok, h⟩ := ev_rope1 hn c x3 x5 x6 x7 x8 rs (by omega) y (hy y List.mem_cons_self) st
    obtain ⟨ts, y4, y5, y6, y7, y8, t1, t2, t3⟩ := ev_ropesL hn c x3 st ys (rs ++ [r]) (.sh (.int y)) u5 u6 u7 u8 (by rw [List.length_append, List.length_singleton]; omega) (fun z hz => hy z (List.mem_cons_of_mem _ hz)) fun z hz => by
      rcases List.mem_append.mp hz with hz | hz
      · exact hr z hz
      · rw [List.mem_singleton.mp hz]; exact ok
    exact ⟨ts, y4, y5, y6, y7, y8, by rw [List.length_append, List.length_singleton] at t1; simp only [List.length_cons]; omega, t2, by rw [List.map_cons, forL_nx rfl h, t3]⟩
theorem ev_ropes {n : Nat} (hn : 1 ≤ n ∧ n ≤ 10) (c : Int) (st : Sto) : ∃ rs : List Rp, rs.length ≤ 20 ∧ (∀ r ∈ rs, r.Ok n) ∧ m_law_ropes [.int (n : Nat), .int c] st = some (.ow (.lst (rs.map rD)), st) := by
  by_cases h1 : n = 1
  · subst h1
    exact ⟨[], by decide, fun r hr => (nomatch hr), by simp [m_law_ropes, runB, b_law_ropes]⟩
  have hn2 : 2 ≤ n ∧ n ≤ 10 := by omega
  have h1c : 1 < n := by omega
  have h1d : (1 : Int) < (n : Int) := by omega
  have g3 : gDiv c 3 = some (c / 3) := gDiv_s (by decide) (by decide)
  have gm : gMul 2 (n : Int) = some (2 * (n : Int)) := gMul_s (by decide) (by omega)
  have m0 : (0 : Int) < 21 - 2 * (n : Int) := by omega
  have a0 : 0 ≤ c / 3 % (21 - 2 * (n : Int)) := Int.emod_nonneg _ (by omega)
  have a1 : c / 3 % (21 - 2 * (n : Int)) < 21 - 2 * (n : Int) := Int.emod_lt_of_pos _ m0
  generalize hq : c / 3 % (21 - 2 * (n : Int)) = q at a0 a1
  obtain ⟨m, hm, hmi⟩ : ∃ m : Nat, m ≤ 20 ∧ atI [D.int (c / 3 % 21), .int (2 * (n : Int) + q)] (if 0 < c % 3 then 1 else 0) = some (.int (m : Nat)) := by
    split
    · refine ⟨(2 * (n : Int) + q).toNat, by omega, ?_⟩
      rw [Int.toNat_of_nonneg (by omega)]; exact x_at1
    · refine ⟨(c / 3 % 21).toNat, by omega, ?_⟩
      rw [Int.toNat_of_nonneg (by omega)]; exact x_at0
  obtain ⟨ys, k1, k2, k3⟩ := ev_numbers c m (by omega) st
  obtain ⟨ts, y4, y5, y6, y7, y8, t1, t2, t3⟩ := ev_ropesL hn2 (.int c) (.sh (.int (m : Nat))) st ys [] .no .no .no .no .no (by simp; omega) k2 (fun r hr => nomatch hr)
  have t3 : forL (gNm 4) lb_law_ropes_0 (ys.map .int) [.sh (.int (n : Nat)), .sh (.int c), .ow (.lst []), .sh (.int (m : Nat)), .no, .no, .no, .no, .no] st = _ := t3
  refine ⟨ts, by simp at t1; omega, t2, ?_⟩
  have sq : (D.lst (ys.map .int)).seq = some (ys.map .int) := rfl
  have hm0 : (0 : Int) < 21 - 2 * (n : Int) := m0
  have hm0b : 2 * (n : Int) < 21 := by omega
  generalize ys.map D.int = YS at t3 sq k3
  by_cases h3 : 0 < c % 3
  · rw [if_pos h3] at hmi
    simp [m_law_ropes, runB, b_law_ropes, h1c, h1d, g3, gm, hm0b, hq, h3, hmi, k3, t3]
  · rw [if_neg h3] at hmi
    simp [m_law_ropes, runB, b_law_ropes, h1c, h1d, g3, gm, hm0b, hq, h3, hmi, k3, t3]
/-! ### any row -/
theorem ev_any_row (c : Int) {ns : List Int} (h : NamesOk ns) (many : Nat) (hmn : many ≤ 20) (st : Sto) : ∃ w : Rw, m_law_any_row [.int c, .lst (ns.map .int), .int (many : Nat)] st = some (.sh (rwD w), st) := by
  obtain ⟨ys, k1, k2, k3⟩ := ev_numbers c 4 (by decide) st
  have k3 : m_law_numbers [.int c, .int 4] st = some (.ow (.lst (ys.map .int)), st) := k3
  obtain ⟨y0, i0, b00, b01⟩ := at_nn k1 k2 (i := 0) (by decide)
  obtain ⟨y1, i1, b10, b11⟩ := at_nn k1 k2 (i := 1) (by decide)
  obtain ⟨y2, i2, b20, b21⟩ := at_nn k1 k2 (i := 2) (by decide)
  obtain ⟨y3, i3, b30, b31⟩ := at_nn k1 k2 (i := 3) (by decide)
  have i0 : fIdx (.lst (ys.map .int)) (.int 0) = some (.sh (.int y0)) := i0
  have i1 : fIdx (.lst (ys.map .int)) (.int 1) = some (.sh (.int y1)) := i1
  have i2 : fIdx (.lst (ys.map .int)) (.int 2) = some (.sh (.int y2)) := i2
  have i3 : fIdx (.lst (ys.map .int)) (.int 3) = some (.sh (.int y3)) := i3
  have hl := h.len
  have hn0 : 0 < ns.length := by omega
  have hlen : fLen (.lst (ns.map .int)) = some (.sh (.int (ns.length : Nat))) := by show some (Kn.R.sh (.int ((ns.map D.int).length : Nat))) = _; rw [List.length_map]
  obtain ⟨mi, hmi⟩ := fMinL_some (ns := ns) (fun z => by rw [z] at hn0; simp at hn0)
  obtain ⟨nm, hnm⟩ : ∃ nm : Int, fIdx (.lst (ns.map .int)) (.int (y0 % (ns.length : Int))) = some (.sh (.int nm)) := by
    have r0 : 0 ≤ y0 % (ns.length : Int) := Int.emod_nonneg _ (by omega)
    have r1 : y0 % (ns.length : Int) < ns.length := Int.emod_lt_of_pos _ (by omega)
    obtain ⟨j, hj⟩ : ∃ j : Nat, y0 % (ns.length : Int) = (j : Int) := ⟨(y0 % (ns.length : Int)).toNat, by omega⟩
    rw [hj]
    exact ⟨_, idx_names (by omega)⟩
  have h2 : 0 ≤ y2 / 4 % (ns.length : Int) := Int.emod_nonneg _ (by omega)
  obtain ⟨hp, hhp⟩ : ∃ hp : Nat, y2 / 4 % (ns.length : Int) = (hp : Int) := ⟨(y2 / 4 % (ns.length : Int)).toNat, by omega⟩
  have d16 : gDiv y0 16 = some (y0 / 16) := gDiv_s (by decide) (by decide)
  have d256 : gDiv y0 256 = some (y0 / 256) := gDiv_s (by decide) (by decide)
  have d14 : gDiv y1 4 = some (y1 / 4) := gDiv_s (by decide) (by decide)
  have d24 : gDiv y2 4 = some (y2 / 4) := gDiv_s (by decide) (by decide)
  have d38 : gDiv y3 8 = some (y3 / 8) := gDiv_s (by decide) (by decide)
  have pw : gPow 10 49 = some 10000000000000000000000000000000000000000000000000 := by
    rw [gPow_s (by decide) (by decide)]; rfl
  have gm : gMul y1 10000000000000000000000000000000000000000000000000 = some (y1 * 10000000000000000000000000000000000000000000000000) := gMul_b (big300 (by omega) (by omega)) (by decide +kernel)
  obtain ⟨hd, hhd⟩ : ∃ hd : Int, atI [D.int nm, .int mi, .int (if nm - 1 < 0 then 0 else nm - 1), .int (nm + 1), .int (y0 / 256)] (y0 / 16 % 5) = some (.int hd) := by
    have : y0 / 16 % 5 = 0 ∨ y0 / 16 % 5 = 1 ∨ y0 / 16 % 5 = 2 ∨ y0 / 16 % 5 = 3 ∨ y0 / 16 % 5 = 4 := by omega
    rcases this with e | e | e | e | e <;> rw [e]
    · exact ⟨_, x_at0⟩
    · exact ⟨_, x_at1⟩
    · exact ⟨_, x_at2⟩
    · exact ⟨_, x_at3⟩
    · exact ⟨_, x_at4⟩
  generalize D.lst (ns.map .int) = NS at hlen hmi hnm ⊢
  generalize ys.map D.int = YS at k3 i0 i1 i2 i3
  generalize D.lst YS = Y at k3 i0 i1 i2 i3
  have fin : ∀ (co : Int) (b : Option Nat), (if y1 % 4 = 3 then y1 * 10000000000000000000000000000000000000000000000000 else y1 / 4 % 9) = co → (if 0 < many ∧ 0 < y3 % 5 then D.int (y3 / 8 % (many : Int)) else .non) = byD b → m_law_any_row [.int c, NS, .int (many : Nat)] st = some (.sh (rwD ⟨hd, co, hp, b⟩), st) := by
    intro co b hco hb
    have hd' := hhd
    have fn : rwD ⟨hd, co, hp, b⟩ = .tup [.int hd, .int co, .int (hp : Nat), byD b] := rfl
    rw [fn, ← hb, ← hco]
    have hn0' : 0 < ns.length := hn0
    by_cases c1 : y1 % 4 = 3
    · by_cases c2 : 0 < many
      · have c2' : (0 : Int) < (many : Int) := by omega
        by_cases c3 : 0 < y3 % 5
        · simp [m_law_any_row, runB, b_law_any_row, k3, i0, i1, i2, i3, hlen, hmi, hn0, hnm, d16, d256, d14, d24, d38, hhd, c1, c2, c2', c3, pw, gm, hhp]
        · simp [m_law_any_row, runB, b_law_any_row, k3, i0, i1, i2, i3, hlen, hmi, hn0, hnm, d16, d256, d14, d24, d38, hhd, c1, c2, c2', c3, pw, gm, hhp]
      · have c2' : ¬ (0 : Int) < (many : Int) := by omega
        simp [m_law_any_row, runB, b_law_any_row, k3, i0, i1, i2, i3, hlen, hmi, hn0, hnm, d16, d256, d14, d24, d38, hhd, c1, c2, c2', pw, gm, hhp]
    · by_cases c2 : 0 < many
      · have c2' : (0 : Int) < (many : Int) := by omega
        by_cases c3 : 0 < y3 % 5
        · simp [m_law_any_row, runB, b_law_any_row, k3, i0, i1, i2, i3, hlen, hmi, hn0, hnm, d16, d256, d14, d24, d38, hhd, c1, c2, c2', c3, hhp]
        · simp [m_law_any_row, runB, b_law_any_row, k3, i0, i1, i2, i3, hlen, hmi, hn0, hnm, d16, d256, d14, d24, d38, hhd, c1, c2, c2', c3, hhp]
      · have c2' : ¬ (0 : Int) < (many : Int) := by omega
        simp [m_law_any_row, runB, b_law_any_row, k3, i0, i1, i2, i3, hlen, hmi, hn0, hnm, d16, d256, d14, d24, d38, hhd, c1, c2, c2', hhp]
  by_cases cc : 0 < many ∧ 0 < y3 % 5
  · refine ⟨_, fin _ (some (y3 / 8 % (many : Int)).toNat) rfl ?_⟩
    rw [if_pos cc]
    show _ = D.int _
    rw [Int.toNat_of_nonneg (Int.emod_nonneg _ (by omega))]
  · exact ⟨_, fin _ none rfl (by rw [if_neg cc]; rfl)⟩
theorem ev_first {ns : List Int} (rs : List Rp) (e0 e3 : Kn.Slot) (c1 : Int) (x2 : Kn.Slot) (hx2 : x2 = .ow (.lst (ns.map .int)) ∨ x2 = .sh (.lst (ns.map .int))) (e6 e7 e8 : Kn.Slot) (st : Sto) : ∀ (m i : Nat) (x4 x5 : Kn.Slot), i + m = ns.length → (x4 = .ow (townD ns rs) ∨ x4 = .sh (townD ns rs)) → ∃ (y4 y5 : Kn.Slot), (y4 = .ow (townD ns rs) ∨ y4 = .sh (townD ns rs)) ∧
    forL (gNm 5) lb_law_0 (rngD i m) [e0, .sh (.int c1), x2, e3, x4, x5, e6, e7, e8] st = some (.nx, [e0, .sh (.int c1), x2, e3, y4, y5, e6, e7, e8], st)
  | 0, i, x4, x5, _, h4 => ⟨x4, x5, h4, rfl⟩
  | m + 1, i, x4, x5, hi, h4 => by
    obtain ⟨y4, y5, k1, k2⟩ := ev_first rs e0 e3 c1 x2 hx2 e6 e7 e8 st m (i + 1) (.sh (townD ns rs)) (.sh (.int (i : Nat))) (by omega) (.inr rfl)
    refine ⟨y4, y5, k1, ?_⟩
    have er : rngD (i : Nat) (m + 1) = .int (i : Nat) :: rngD ((i + 1 : Nat) : Int) m := by
      unfold rngD
      rw [List.range_succ_eq_map, List.map_cons, List.map_map]
      refine congr (congrArg _ (by simp)) (List.map_congr_left fun k _ => ?_)
      simp; omega
    rw [er, ← k2]
    have hil : i < ns.length := by omega
    have ow := ev_own_row rs hil st
    have lk := ev_row_like ⟨ns.getD i 0, 0, 0, none⟩ st
    have ix := idx_names hil
    have ex : rwD ⟨ns.getD i 0, 0, 0, none⟩ = .tup [.int (ns.getD i 0), .int 0, .int 0, .non] := rfl
    rw [ex] at ow lk
    generalize ns.getD i 0 = v at ow lk ix
    refine forL_nx rfl ?_
    generalize townD ns rs = T at ow h4 ⊢
    generalize D.lst (ns.map .int) = NS at ix hx2
    rcases h4 with rfl | rfl <;> rcases hx2 with rfl | rfl <;> simp [lb_law_0, ow, ix, lk]
theorem ev_second {ns : List Int} (h : NamesOk ns) {rs : List Rp} (hrs : 0 < rs.length ∧ rs.length ≤ 20) (e0 : Kn.Slot) (c1 : Int) (e5 : Kn.Slot) (st : Sto) : ∀ (cs : List Int) (x2 x3 x4 x6 x7 x8 : Kn.Slot), (x2 = .ow (.lst (ns.map .int)) ∨ x2 = .sh (.lst (ns.map .int))) → (x3 = .ow (.lst (rs.map rD)) ∨ x3 = .sh (.lst (rs.map rD))) → (x4 = .ow (townD ns rs) ∨ x4 = .sh (townD ns rs)) → ∃ (y2 y3 y4 y6 y7 y8 : Kn.Slot), (y2 = .ow (.lst (ns.map .int)) ∨ y2 = .sh (.lst (ns.map .int))) ∧ (y4 = .ow (townD ns rs) ∨ y4 = .sh (townD ns rs)) ∧
    forL (gNm 6) lb_law_1 (cs.map .int) [e0, .sh (.int c1), x2, x3, x4, e5, x6, x7, x8] st = some (.nx, [e0, .sh (.int c1), y2, y3, y4, e5, y6, y7, y8], st)
  | [], x2, x3, x4, x6, x7, x8, h2, _, h4 => ⟨x2, x3, x4, x6, x7, x8, h2, h4, rfl⟩
  | c :: cs, x2, x3, x4, x6, x7, x8, h2, h3, h4 => by
    have hl0 : (0 : Int) < (rs.length : Int) := by omega
    have hl0n : 0 < rs.length := hrs.1
    have r0 : 0 ≤ c % (rs.length : Int) := Int.emod_nonneg _ (by omega)
    have r1 : c % (rs.length : Int) < rs.length := Int.emod_lt_of_pos _ hl0
    obtain ⟨k, hk⟩ : ∃ k : Nat, c % (rs.length : Int) = (k : Int) := ⟨(c % (rs.length : Int)).toNat, by omega⟩
    have hkl : k < rs.length := by omega
    have gd : gDiv c (rs.length : Int) = some (c / rs.length) := gDiv_s hl0 (by omega)
    obtain ⟨w, hw⟩ := ev_any_row (c / (rs.length : Int)) h rs.length hrs.2 st
    have o1 := ev_offered (ns := ns) w (List.getElem?_eq_getElem hkl) st
    have o2 := ev_offered (ns := ns) w (k := rs.length - 1 - k) (r := rs[rs.length - 1 - k]'(by omega)) (List.getElem?_eq_getElem (by omega)) st
    have hsub : (rs.length : Int) - 1 - (k : Int) = ((rs.length - 1 - k : Nat) : Int) := by omega
    have hlen : fLen (.lst (rs.map rD)) = some (.sh (.int (rs.length : Nat))) := by show some (Kn.R.sh (.int ((rs.map rD).length : Nat))) = _; rw [List.length_map]
    obtain ⟨y2, y3, y4, y6, y7, y8, k1, k2, k3⟩ := ev_second h hrs e0 c1 e5 st cs (.sh (.lst (ns.map .int))) (.sh (.lst (rs.map rD))) (.sh (townD ns rs)) (.sh (.int c)) (.sh (.int (k : Nat))) (.sh (rwD w)) (.inr rfl) (.inr rfl) (.inr rfl)
    refine ⟨y2, y3, y4, y6, y7, y8, k1, k2, ?_⟩
    rw [List.map_cons, ← k3]
    refine forL_nx rfl ?_
    generalize rs.length - 1 - k = j at o2 hsub
    generalize townD ns rs = T at o1 o2 h4 ⊢
    generalize D.lst (ns.map .int) = NS at h2 hw ⊢
    generalize D.lst (rs.map rD) = RS at h3 hlen o1 o2 ⊢
    generalize rwD w = RW at hw o1 o2 ⊢
    rcases h2 with rfl | rfl <;> rcases h3 with rfl | rfl <;> rcases h4 with rfl | rfl <;> simp [lb_law_1, hlen, hl0, hl0n, hk, gd, hw, o1, hsub, o2]
theorem Pn_r (r : Rp) : (rD r).Pn 1 := Pn_tup (k := 0) fun d hd => by
  simp only [List.mem_cons, List.not_mem_nil, or_false] at hd
  rcases hd with rfl | rfl | rfl | rfl | rfl <;> exact Pn_int _
theorem Pn_rs (rs : List Rp) : (D.lst (rs.map rD)).Pn 2 := Pn_lst (k := 1) fun d hd => by
  obtain ⟨r, _, rfl⟩ := List.mem_map.mp hd
  exact Pn_r r
open Classical in
theorem fEq_off {k m : Nat} {d e : D} (h : d.Pn k) (h' : e.Pn m) (hk : k ≤ 64) (hm : m ≤ 64) (hn : d ≠ e) : fEq d e = some (.sh (.bl false)) := by
  rw [fEq_Pn h h' hk hm, decide_eq_false hn]
theorem law_true : ∀ ns : List Int, ns.length ≤ 63 → ∃ st', m_law [.scr ns] [] = some (.sh (.bl true), st') := by
  intro sc hl
  refine ⟨[], ?_⟩
  have hc0 := ev_cell sc 0 []
  have hc1 := ev_cell sc 1 []
  have hc2 := ev_cell sc 2 []
  generalize sc.getD 0 0 = c0 at hc0
  generalize sc.getD 1 0 = c1 at hc1
  generalize sc.getD 2 0 = c2 at hc2
  have hc0 : m_law_cell_at [.scr sc, .int 0] [] = some (.sh (.int c0), []) := hc0
  have hc1 : m_law_cell_at [.scr sc, .int 1] [] = some (.sh (.int c1), []) := hc1
  have hc2 : m_law_cell_at [.scr sc, .int 2] [] = some (.sh (.int c2), []) := hc2
  obtain ⟨n, hn, hn1⟩ : ∃ n : Nat, (1 ≤ n ∧ n ≤ 10) ∧ 1 + c0 % 10 = (n : Int) := ⟨(1 + c0 % 10).toNat, by omega, by omega⟩
  obtain ⟨ns, n1, n2, n3⟩ := ev_names hn c1 []
  obtain ⟨rs, r1, r2, r3⟩ := ev_ropes hn c2 []
  have tw := ev_Town_init (ns := ns) (rs := rs) n2 (by rw [n1]; exact r2) r1 []
  have fl := fld_town ns rs
  have hcut : cutG sc (some 3) (some 63) = (sc.take 63).drop 3 := cutG_mid sc 3 63
  have hlt : ((sc.take 63).drop 3).length ≤ 63 := by rw [List.length_drop, List.length_take]; omega
  generalize (sc.take 63).drop 3 = ts at hcut hlt
  have hrg : Rg (n : Int) := .of (by omega)
  have ho1 : fLofs (.lst (ns.map .int)) = some (.ow (.lst (ns.map .int))) := rfl
  have ho2 : fLofs (.lst (rs.map rD)) = some (.ow (.lst (rs.map rD))) := rfl
  obtain ⟨y4, y5, a1, a2⟩ := ev_first (ns := ns) rs (.sh (.scr sc)) (.ow (.lst (rs.map rD))) (n : Int) (.ow (.lst (ns.map .int))) (.inl rfl) .no .no .no [] n 0 (.ow (townD ns rs)) .no (by omega) (.inl rfl)
  have a2 : forL (gNm 5) lb_law_0 (rngD 0 n) [.sh (.scr sc), .sh (.int (n : Nat)), .ow (.lst (ns.map .int)), .ow (.lst (rs.map rD)), .ow (townD ns rs), .no, .no, .no, .no] [] = _ := a2
  rw [n1] at fl
  have hnn : (n : Int) - 1 = ((n - 1 : Nat) : Int) := by omega
  have ow := ev_own_row (ns := ns) rs (h := n - 1) (by omega) []
  have ix := idx_names (ns := ns) (h := n - 1) (by omega)
  have lk := ev_row_like ⟨ns.getD (n - 1) 0, 0, 0, none⟩ []
  have ex : rwD ⟨ns.getD (n - 1) 0, 0, 0, none⟩ = .tup [.int (ns.getD (n - 1) 0), .int 0, .int 0, .non] := rfl
  rw [ex] at ow lk
  generalize ns.getD (n - 1) 0 = v at ow lk ix
  by_cases hr0 : rs = []
  · subst hr0
    have he : fEq (.lst []) (.lst []) = some (.sh (.bl true)) := fEq_self (k := 2) (Pn_lst (k := 1) fun d hd => nomatch hd) (by decide)
    generalize townD ns [] = T at tw fl a1 a2
    generalize D.lst (ns.map .int) = NS at n3 tw ho1 a2
    simp only [List.map_nil] at r3 tw a2
    rcases a1 with rfl | rfl <;> simp [m_law, runB, b_law, hc0, hc1, hc2, hn1, n3, r3, ho1, tw, fl, hrg, a2, he]
  · have hr1 : 0 < rs.length := List.length_pos_iff.mpr hr0
    have he : fEq (.lst (rs.map rD)) (.lst []) = some (.sh (.bl false)) := fEq_off (Pn_rs rs) (Pn_lst (k := 1) (ds := []) fun d hd => nomatch hd) (by decide) (by decide) fun z => by
      injection z with z
      rw [List.map_eq_nil_iff] at z
      exact hr0 z
    obtain ⟨z2, z3, z4, z6, z7, z8, b1, b2, b3⟩ := ev_second n2 ⟨hr1, r1⟩ (.sh (.scr sc)) (n : Int) y5 [] (0 :: ts) (.ow (.lst (ns.map .int))) (.ow (.lst (rs.map rD))) y4 .no .no .no (.inl rfl) (.inl rfl) a1
    have hadd : fAdd (.lst [.int 0]) (.lst (ts.map .int)) = some (.ow (.lst ((0 :: ts).map .int))) := by
      show (if _ then _ else _) = _
      rw [if_pos (by show 1 + (ts.map D.int).length ≤ sizeLine; rw [List.length_map]; exact x_sz (by omega))]; rfl
    generalize (0 :: ts).map D.int = CS at b3 hadd
    generalize townD ns rs = T at tw fl a1 a2 b2 b3 ow
    generalize D.lst (ns.map .int) = NS at n3 tw ho1 a2 b1 b3 ix
    generalize D.lst (rs.map rD) = RS at r3 tw ho2 a2 b3 he
    rcases b1 with rfl | rfl <;> rcases b2 with rfl | rfl <;> simp [m_law, runB, b_law, hc0, hc1, hc2, hn1, n3, r3, ho1, ho2, tw, fl, hrg, a2, he, hcut, hadd, b3, hnn, ow, ix, lk]

theorem all_mk {l : PySem.W.OpenLaw} {w : World} {K : PySem.W.Frag} {h : Heap} {mg : Str → Option Value} {fa : Addr} (X : K.In h) (G : h.Ns mainGlobals mg) (hfa : mg "law" = some (.ref fa)) {od0 an0 : Option Addr} {sl0 : Array (Option Value)} {oc0 kV0 dc0 pm0 cd0 ct0 : Value} {f0 : Addr} {od1 an1 : Option Addr} {sl1 : Array (Option Value)} {oc1 kV1 dc1 pm1 cd1 ct1 : Value} {f1 : Addr} {od2 an2 : Option Addr} {sl2 : Array (Option Value)} {oc2 kV2 dc2 pm2 cd2 ct2 : Value} {f2 : Addr} {od3 an3 : Option Addr} {sl3 : Array (Option Value)} {oc3 kV3 dc3 pm3 cd3 ct3 : Value} {f3 : Addr} {od4 an4 : Option Addr} {sl4 : Array (Option Value)} {oc4 kV4 dc4 pm4 cd4 ct4 : Value} {f4 : Addr} {od5 an5 : Option Addr} {sl5 : Array (Option Value)} {oc5 kV5 dc5 pm5 cd5 ct5 : Value} {f5 : Addr} {od6 an6 : Option Addr} {sl6 : Array (Option Value)} {oc6 kV6 dc6 pm6 cd6 ct6 : Value} {f6 : Addr} {od7 an7 : Option Addr} {sl7 : Array (Option Value)} {oc7 kV7 dc7 pm7 cd7 ct7 : Value} {f7 : Addr} {od8 an8 : Option Addr} {sl8 : Array (Option Value)} {oc8 kV8 dc8 pm8 cd8 ct8 : Value} {f8 : Addr} {od9 an9 : Option Addr} {sl9 : Array (Option Value)} {oc9 kV9 dc9 pm9 cd9 ct9 : Value} {f9 : Addr} {od10 an10 : Option Addr} {sl10 : Array (Option Value)} {oc10 kV10 dc10 pm10 cd10 ct10 : Value} {f10 : Addr} {od11 an11 : Option Addr} {sl11 : Array (Option Value)} {oc11 kV11 dc11 pm11 cd11 ct11 : Value} {f11 : Addr} {od12 an12 : Option Addr} {sl12 : Array (Option Value)} {oc12 kV12 dc12 pm12 cd12 ct12 : Value} {f12 : Addr} {od13 an13 : Option Addr} {sl13 : Array (Option Value)} {oc13 kV13 dc13 pm13 cd13 ct13 : Value} {f13 : Addr} {od14 an14 : Option Addr} {sl14 : Array (Option Value)} {oc14 kV14 dc14 pm14 cd14 ct14 : Value} {f14 : Addr} {od15 an15 : Option Addr} {sl15 : Array (Option Value)} {oc15 kV15 dc15 pm15 cd15 ct15 : Value} {f15 : Addr} {C_Town : Addr} {t_MOST_HOUSES : Tok} {t_MOST_ROPES : Tok}
    (cC_Town : PySem.W.nsIn K mainGlobals "Town" = some (some (.ref C_Town)))
    (pg_Town : PySem.W.plainGet K C_Town Str.empty = true)
    (hd_Town : PySem.W.hasDictIn K C_Town = true)
    (po_Town : PySem.W.plainOver K C_Town = true)
    (sa_Town : PySem.W.findIn K (.ref C_Town) "__setattr__" = some (some (.builtin "object.__setattr__")))
    (mk_Town : PySem.W.makesIn K C_Town = true)
    (kc_Town : PySem.W.keepIn K (.ref C_Town) = true)
    (n_Town_size : PySem.W.findIn K (.ref C_Town) "size" = some none)
    (n_Town_many : PySem.W.findIn K (.ref C_Town) "many" = some none)
    (n_Town_names : PySem.W.findIn K (.ref C_Town) "names" = some none)
    (n_Town_kept : PySem.W.findIn K (.ref C_Town) "kept" = some none)
    (n_Town_near : PySem.W.findIn K (.ref C_Town) "near" = some none)
    (a0 : PySem.W.findIn K (.ref C_Town) "name" = some (some (.ref f0)))
    (i0 : PySem.W.isFn K (.ref f0) = true)
    (l0 : K.lookup f0 = some ⟨oc0, od0, .func (PySem.W.fnOf "name" "Town.name" (defArgs s_Town_name) (defBody s_Town_name) (defScope s_Town_name) .none kV0 dc0 pm0 an0 cd0 ct0), sl0⟩)
    (e0 : PySem.W.codeIn K cd0 "Town.name" = true)
    (k0 : PySem.W.keepIn K (.ref f0) = true)
    (a1 : PySem.W.nsIn K mainGlobals "own_row" = some (some (.ref f1)))
    (l1 : K.lookup f1 = some ⟨oc1, od1, .func (PySem.W.fnOf "own_row" "own_row" (defArgs s_own_row) (defBody s_own_row) (defScope s_own_row) .none kV1 dc1 pm1 an1 cd1 ct1), sl1⟩)
    (e1 : PySem.W.codeIn K cd1 "own_row" = true)
    (k1 : PySem.W.keepIn K (.ref f1) = true)
    (a2 : PySem.W.findIn K (.ref C_Town) "rope" = some (some (.ref f2)))
    (i2 : PySem.W.isFn K (.ref f2) = true)
    (l2 : K.lookup f2 = some ⟨oc2, od2, .func (PySem.W.fnOf "rope" "Town.rope" (defArgs s_Town_rope) (defBody s_Town_rope) (defScope s_Town_rope) .none kV2 dc2 pm2 an2 cd2 ct2), sl2⟩)
    (e2 : PySem.W.codeIn K cd2 "Town.rope" = true)
    (k2 : PySem.W.keepIn K (.ref f2) = true)
    (a3 : PySem.W.nsIn K mainGlobals "offer" = some (some (.ref f3)))
    (l3 : K.lookup f3 = some ⟨oc3, od3, .func (PySem.W.fnOf "offer" "offer" (defArgs s_offer) (defBody s_offer) (defScope s_offer) .none kV3 dc3 pm3 an3 cd3 ct3), sl3⟩)
    (e3 : PySem.W.codeIn K cd3 "offer" = true)
    (k3 : PySem.W.keepIn K (.ref f3) = true)
    (a4 : PySem.W.nsIn K mainGlobals "ask_names" = some (some (.ref f4)))
    (l4 : K.lookup f4 = some ⟨oc4, od4, .func (PySem.W.fnOf "ask_names" "ask_names" (defArgs s_ask_names) (defBody s_ask_names) (defScope s_ask_names) .none kV4 dc4 pm4 an4 cd4 ct4), sl4⟩)
    (e4 : PySem.W.codeIn K cd4 "ask_names" = true)
    (k4 : PySem.W.keepIn K (.ref f4) = true)
    (a5 : PySem.W.nsIn K mainGlobals "ask_rope" = some (some (.ref f5)))
    (l5 : K.lookup f5 = some ⟨oc5, od5, .func (PySem.W.fnOf "ask_rope" "ask_rope" (defArgs s_ask_rope) (defBody s_ask_rope) (defScope s_ask_rope) .none kV5 dc5 pm5 an5 cd5 ct5), sl5⟩)
    (e5 : PySem.W.codeIn K cd5 "ask_rope" = true)
    (k5 : PySem.W.keepIn K (.ref f5) = true)
    (a6 : PySem.W.findIn K (.ref C_Town) "__init__" = some (some (.ref f6)))
    (i6 : PySem.W.isFn K (.ref f6) = true)
    (l6 : K.lookup f6 = some ⟨oc6, od6, .func (PySem.W.fnOf "__init__" "Town.__init__" (defArgs s_Town_init) (defBody s_Town_init) (defScope s_Town_init) .none kV6 dc6 pm6 an6 cd6 ct6), sl6⟩)
    (e6 : PySem.W.codeIn K cd6 "Town.__init__" = true)
    (k6 : PySem.W.keepIn K (.ref f6) = true)
    (a7 : PySem.W.nsIn K mainGlobals "_law_cell_at" = some (some (.ref f7)))
    (l7 : K.lookup f7 = some ⟨oc7, od7, .func (PySem.W.fnOf "_law_cell_at" "_law_cell_at" (defArgs s_law_cell_at) (defBody s_law_cell_at) (defScope s_law_cell_at) .none kV7 dc7 pm7 an7 cd7 ct7), sl7⟩)
    (e7 : PySem.W.codeIn K cd7 "_law_cell_at" = true)
    (k7 : PySem.W.keepIn K (.ref f7) = true)
    (a8 : PySem.W.nsIn K mainGlobals "_law_whole" = some (some (.ref f8)))
    (l8 : K.lookup f8 = some ⟨oc8, od8, .func (PySem.W.fnOf "_law_whole" "_law_whole" (defArgs s_law_whole) (defBody s_law_whole) (defScope s_law_whole) .none kV8 dc8 pm8 an8 cd8 ct8), sl8⟩)
    (e8 : PySem.W.codeIn K cd8 "_law_whole" = true)
    (k8 : PySem.W.keepIn K (.ref f8) = true)
    (a9 : PySem.W.nsIn K mainGlobals "_law_numbers" = some (some (.ref f9)))
    (l9 : K.lookup f9 = some ⟨oc9, od9, .func (PySem.W.fnOf "_law_numbers" "_law_numbers" (defArgs s_law_numbers) (defBody s_law_numbers) (defScope s_law_numbers) .none kV9 dc9 pm9 an9 cd9 ct9), sl9⟩)
    (e9 : PySem.W.codeIn K cd9 "_law_numbers" = true)
    (k9 : PySem.W.keepIn K (.ref f9) = true)
    (a10 : PySem.W.nsIn K mainGlobals "_law_names" = some (some (.ref f10)))
    (l10 : K.lookup f10 = some ⟨oc10, od10, .func (PySem.W.fnOf "_law_names" "_law_names" (defArgs s_law_names) (defBody s_law_names) (defScope s_law_names) .none kV10 dc10 pm10 an10 cd10 ct10), sl10⟩)
    (e10 : PySem.W.codeIn K cd10 "_law_names" = true)
    (k10 : PySem.W.keepIn K (.ref f10) = true)
    (a11 : PySem.W.nsIn K mainGlobals "_law_ropes" = some (some (.ref f11)))
    (l11 : K.lookup f11 = some ⟨oc11, od11, .func (PySem.W.fnOf "_law_ropes" "_law_ropes" (defArgs s_law_ropes) (defBody s_law_ropes) (defScope s_law_ropes) .none kV11 dc11 pm11 an11 cd11 ct11), sl11⟩)
    (e11 : PySem.W.codeIn K cd11 "_law_ropes" = true)
    (k11 : PySem.W.keepIn K (.ref f11) = true)
    (a12 : PySem.W.nsIn K mainGlobals "_law_any_row" = some (some (.ref f12)))
    (l12 : K.lookup f12 = some ⟨oc12, od12, .func (PySem.W.fnOf "_law_any_row" "_law_any_row" (defArgs s_law_any_row) (defBody s_law_any_row) (defScope s_law_any_row) .none kV12 dc12 pm12 an12 cd12 ct12), sl12⟩)
    (e12 : PySem.W.codeIn K cd12 "_law_any_row" = true)
    (k12 : PySem.W.keepIn K (.ref f12) = true)
    (a13 : PySem.W.nsIn K mainGlobals "_law_row_like" = some (some (.ref f13)))
    (l13 : K.lookup f13 = some ⟨oc13, od13, .func (PySem.W.fnOf "_law_row_like" "_law_row_like" (defArgs s_law_row_like) (defBody s_law_row_like) (defScope s_law_row_like) .none kV13 dc13 pm13 an13 cd13 ct13), sl13⟩)
    (e13 : PySem.W.codeIn K cd13 "_law_row_like" = true)
    (k13 : PySem.W.keepIn K (.ref f13) = true)
    (a14 : PySem.W.nsIn K mainGlobals "_law_offered" = some (some (.ref f14)))
    (l14 : K.lookup f14 = some ⟨oc14, od14, .func (PySem.W.fnOf "_law_offered" "_law_offered" (defArgs s_law_offered) (defBody s_law_offered) (defScope s_law_offered) .none kV14 dc14 pm14 an14 cd14 ct14), sl14⟩)
    (e14 : PySem.W.codeIn K cd14 "_law_offered" = true)
    (k14 : PySem.W.keepIn K (.ref f14) = true)
    (a15 : PySem.W.nsIn K mainGlobals "law" = some (some (.ref f15)))
    (l15 : K.lookup f15 = some ⟨oc15, od15, .func (PySem.W.fnOf "law" "law" (defArgs s_law) (defBody s_law) (defScope s_law) .none kV15 dc15 pm15 an15 cd15 ct15), sl15⟩)
    (e15 : PySem.W.codeIn K cd15 "law" = true)
    (k15 : PySem.W.keepIn K (.ref f15) = true)
    (g_MOST_HOUSES : PySem.W.nsIn K mainGlobals "MOST_HOUSES" = some (some (.int 10 t_MOST_HOUSES)))
    (g_MOST_ROPES : PySem.W.nsIn K mainGlobals "MOST_ROPES" = some (some (.int 20 t_MOST_ROPES)))
    (z_all : PySem.W.nsIn K mainGlobals "all" = some none)
    (z_bool : PySem.W.nsIn K mainGlobals "bool" = some none)
    (z_enumerate : PySem.W.nsIn K mainGlobals "enumerate" = some none)
    (z_int : PySem.W.nsIn K mainGlobals "int" = some none)
    (z_isinstance : PySem.W.nsIn K mainGlobals "isinstance" = some none)
    (z_len : PySem.W.nsIn K mainGlobals "len" = some none)
    (z_list : PySem.W.nsIn K mainGlobals "list" = some none)
    (z_max : PySem.W.nsIn K mainGlobals "max" = some none)
    (z_min : PySem.W.nsIn K mainGlobals "min" = some none)
    (z_range : PySem.W.nsIn K mainGlobals "range" = some none)
    (z_tuple : PySem.W.nsIn K mainGlobals "tuple" = some none)
    (hl : ∀ ns : List Int, ns.length ≤ 63 → ∃ st', m_law [.scr ns] [] = some (.sh (.bl true), st')) :
    ∃ fd : FuncData, (∀ (s : Shared) (v : Value), BindsTo s fd ⟨[v], []⟩ [("_law_script", v)]) ∧ ∀ base : Heap, K.In base → base.Ns mainGlobals mg → FnOk l.prog w K mg base CX0 4 fa fd ["_law_script"] (spLaw K) := by
  have e := hfa.symm.trans (PySem.W.mg_of X G a15)
  cases e
  have Z : Zs mg := ⟨PySem.W.mg_none_of X G z_all, PySem.W.mg_none_of X G z_bool, PySem.W.mg_none_of X G z_enumerate, PySem.W.mg_none_of X G z_int, PySem.W.mg_none_of X G z_isinstance, PySem.W.mg_none_of X G z_len, PySem.W.mg_none_of X G z_list, PySem.W.mg_none_of X G z_max, PySem.W.mg_none_of X G z_min, PySem.W.mg_none_of X G z_range, PySem.W.mg_none_of X G z_tuple⟩
  have O_Town : Own K (fun c => if c = "Town" then some (C_Town, ns_Town) else none) "Town" C_Town ns_Town := ⟨by first | rfl | simp, ⟨pg_Town, hd_Town, po_Town, sa_Town⟩, by decide +kernel, fun f hf => by
    have hf : f ∈ (["size", "many", "names", "kept", "near"] : List Str) := hf
    simp only [List.mem_cons, List.not_mem_nil, or_false] at hf
    rcases hf with rfl | rfl | rfl | rfl | rfl
    · exact n_Town_size
    · exact n_Town_many
    · exact n_Town_names
    · exact n_Town_kept
    · exact n_Town_near⟩
  have G_MOST_HOUSES := PySem.W.mg_of X G g_MOST_HOUSES
  have G_MOST_ROPES := PySem.W.mg_of X G g_MOST_ROPES
  refine ⟨PySem.W.fnOf "law" "law" (defArgs s_law) (defBody s_law) (defScope s_law) .none kV15 dc15 pm15 an15 cd15 ct15, fun s v => .of_eq rfl, fun base _ _ => ?_⟩
  have F_Town_name := fun_mk (st := s_Town_name) l0 e0 k0
  have C_Town_name : Mcl l.prog w K mg base (fun c => if c = "Town" then some (C_Town, ns_Town) else none) C_Town "name" 1 ["self", "house"] m_Town_name := ⟨f0, _, ok_Town_name F_Town_name Z O_Town, ⟨a0, i0, k0⟩, (F_Town_name.binds (ps := ["self", "house"]) fun _ _ _ _ _ _ us hl => match us, hl with | [_, _], _ => rfl)⟩
  have F_own_row := fun_mk (st := s_own_row) l1 e1 k1
  have C_own_row : Cal l.prog w K mg base (fun c => if c = "Town" then some (C_Town, ns_Town) else none) "own_row" 2 ["town", "house"] m_own_row := Cal.of F_own_row (PySem.W.mg_of X G a1) (F_own_row.binds (ps := ["town", "house"]) fun _ _ _ _ _ _ us hl => match us, hl with | [_, _], _ => rfl) (ok_own_row F_own_row Z O_Town C_Town_name)
  have F_Town_rope := fun_mk (st := s_Town_rope) l2 e2 k2
  have C_Town_rope : Mcl l.prog w K mg base (fun c => if c = "Town" then some (C_Town, ns_Town) else none) C_Town "rope" 1 ["self", "number"] m_Town_rope := ⟨f2, _, ok_Town_rope F_Town_rope Z O_Town, ⟨a2, i2, k2⟩, (F_Town_rope.binds (ps := ["self", "number"]) fun _ _ _ _ _ _ us hl => match us, hl with | [_, _], _ => rfl)⟩
  have F_offer := fun_mk (st := s_offer) l3 e3 k3
  have C_offer : Cal l.prog w K mg base (fun c => if c = "Town" then some (C_Town, ns_Town) else none) "offer" 2 ["town", "row", "rope"] m_offer := Cal.of F_offer (PySem.W.mg_of X G a3) (F_offer.binds (ps := ["town", "row", "rope"]) fun _ _ _ _ _ _ us hl => match us, hl with | [_, _, _], _ => rfl) (ok_offer F_offer Z O_Town C_Town_rope)
  have F_ask_names := fun_mk (st := s_ask_names) l4 e4 k4
  have C_ask_names : Cal l.prog w K mg base (fun c => if c = "Town" then some (C_Town, ns_Town) else none) "ask_names" 1 ["names"] m_ask_names := Cal.of F_ask_names (PySem.W.mg_of X G a4) (F_ask_names.binds (ps := ["names"]) fun _ _ _ _ _ _ us hl => match us, hl with | [_], _ => rfl) (ok_ask_names F_ask_names Z G_MOST_HOUSES)
  have F_ask_rope := fun_mk (st := s_ask_rope) l5 e5 k5
  have C_ask_rope : Cal l.prog w K mg base (fun c => if c = "Town" then some (C_Town, ns_Town) else none) "ask_rope" 1 ["size", "rope"] m_ask_rope := Cal.of F_ask_rope (PySem.W.mg_of X G a5) (F_ask_rope.binds (ps := ["size", "rope"]) fun _ _ _ _ _ _ us hl => match us, hl with | [_, _], _ => rfl) (ok_ask_rope F_ask_rope Z )
  have F_Town_init := fun_mk (st := s_Town_init) l6 e6 k6
  have K_Town : Mkr l.prog w K mg base (fun c => if c = "Town" then some (C_Town, ns_Town) else none) "Town" C_Town "Town" 2 ["self", "names", "ropes"] m_Town_init := ⟨f6, _, ok_Town_init F_Town_init Z O_Town G_MOST_ROPES C_ask_names C_ask_rope, ⟨mk_Town, a6, i6, kc_Town⟩, (F_Town_init.binds (ps := ["self", "names", "ropes"]) fun _ _ _ _ _ _ us hl => match us, hl with | [_, _, _], _ => rfl), PySem.W.mg_of X G cC_Town⟩
  have F_law_cell_at := fun_mk (st := s_law_cell_at) l7 e7 k7
  have C_law_cell_at : Cal l.prog w K mg base (fun c => if c = "Town" then some (C_Town, ns_Town) else none) "_law_cell_at" 1 ["_law_script", "_law_k"] m_law_cell_at := Cal.of F_law_cell_at (PySem.W.mg_of X G a7) (F_law_cell_at.binds (ps := ["_law_script", "_law_k"]) fun _ _ _ _ _ _ us hl => match us, hl with | [_, _], _ => rfl) (ok_law_cell_at F_law_cell_at Z )
  have F_law_whole := fun_mk (st := s_law_whole) l8 e8 k8
  have C_law_whole : Cal l.prog w K mg base (fun c => if c = "Town" then some (C_Town, ns_Town) else none) "_law_whole" 1 ["_law_found"] m_law_whole := Cal.of F_law_whole (PySem.W.mg_of X G a8) (F_law_whole.binds (ps := ["_law_found"]) fun _ _ _ _ _ _ us hl => match us, hl with | [_], _ => rfl) (ok_law_whole F_law_whole Z )
  have F_law_numbers := fun_mk (st := s_law_numbers) l9 e9 k9
  have C_law_numbers : Cal l.prog w K mg base (fun c => if c = "Town" then some (C_Town, ns_Town) else none) "_law_numbers" 1 ["_law_cell", "_law_many"] m_law_numbers := Cal.of F_law_numbers (PySem.W.mg_of X G a9) (F_law_numbers.binds (ps := ["_law_cell", "_law_many"]) fun _ _ _ _ _ _ us hl => match us, hl with | [_, _], _ => rfl) (ok_law_numbers F_law_numbers Z )
  have F_law_names := fun_mk (st := s_law_names) l10 e10 k10
  have C_law_names : Cal l.prog w K mg base (fun c => if c = "Town" then some (C_Town, ns_Town) else none) "_law_names" 2 ["_law_size", "_law_cell"] m_law_names := Cal.of F_law_names (PySem.W.mg_of X G a10) (F_law_names.binds (ps := ["_law_size", "_law_cell"]) fun _ _ _ _ _ _ us hl => match us, hl with | [_, _], _ => rfl) (ok_law_names F_law_names Z C_law_numbers)
  have F_law_ropes := fun_mk (st := s_law_ropes) l11 e11 k11
  have C_law_ropes : Cal l.prog w K mg base (fun c => if c = "Town" then some (C_Town, ns_Town) else none) "_law_ropes" 2 ["_law_size", "_law_cell"] m_law_ropes := Cal.of F_law_ropes (PySem.W.mg_of X G a11) (F_law_ropes.binds (ps := ["_law_size", "_law_cell"]) fun _ _ _ _ _ _ us hl => match us, hl with | [_, _], _ => rfl) (ok_law_ropes F_law_ropes Z C_law_numbers)
  have F_law_any_row := fun_mk (st := s_law_any_row) l12 e12 k12
  have C_law_any_row : Cal l.prog w K mg base (fun c => if c = "Town" then some (C_Town, ns_Town) else none) "_law_any_row" 2 ["_law_cell", "_law_names_here", "_law_many"] m_law_any_row := Cal.of F_law_any_row (PySem.W.mg_of X G a12) (F_law_any_row.binds (ps := ["_law_cell", "_law_names_here", "_law_many"]) fun _ _ _ _ _ _ us hl => match us, hl with | [_, _, _], _ => rfl) (ok_law_any_row F_law_any_row Z C_law_numbers)
  have F_law_row_like := fun_mk (st := s_law_row_like) l13 e13 k13
  have C_law_row_like : Cal l.prog w K mg base (fun c => if c = "Town" then some (C_Town, ns_Town) else none) "_law_row_like" 2 ["_law_found", "_law_want"] m_law_row_like := Cal.of F_law_row_like (PySem.W.mg_of X G a13) (F_law_row_like.binds (ps := ["_law_found", "_law_want"]) fun _ _ _ _ _ _ us hl => match us, hl with | [_, _], _ => rfl) (ok_law_row_like F_law_row_like Z C_law_whole)
  have F_law_offered := fun_mk (st := s_law_offered) l14 e14 k14
  have C_law_offered : Cal l.prog w K mg base (fun c => if c = "Town" then some (C_Town, ns_Town) else none) "_law_offered" 3 ["_law_town", "_law_ropes_here", "_law_row", "_law_rope"] m_law_offered := Cal.of F_law_offered (PySem.W.mg_of X G a14) (F_law_offered.binds (ps := ["_law_town", "_law_ropes_here", "_law_row", "_law_rope"]) fun _ _ _ _ _ _ us hl => match us, hl with | [_, _, _, _], _ => rfl) (ok_law_offered F_law_offered Z O_Town C_offer C_law_row_like)
  have F_law := fun_mk (st := s_law) l15 e15 k15
  have G_law := ok_law (P := l.prog) (w := w) (base := base) (ct := fun c => if c = "Town" then some (C_Town, ns_Town) else none) F_law Z O_Town C_law_cell_at C_law_names C_law_ropes K_Town C_own_row C_law_row_like C_law_any_row C_law_offered
  exact law_ok G_law hl
theorem walk {l : PySem.W.OpenLaw} {q : Program} {loose : List Str} {XP : (Str → Option Value) → Heap → Prop} {YP : World → Heap → Prop} {d : DefRec} {K : Params → PySem.W.Frag} (hn : l.most = some 63) (hdf : d.params.defaults = [])
    (hY : ∀ (w : World) (h : Heap), YP w h → (K w.params).In h)
    (F : ∀ (w : World) (mg : Str → Option Value) (fa : Addr) (h : Heap), (K w.params).In h → h.Ns mainGlobals mg → mg d.name = some (.ref fa) →
      ∃ fd : FuncData, (∀ (s : Shared) (u : Value), BindsTo s fd ⟨[u], []⟩ [("_law_script", u)]) ∧ ∀ base : Heap, (K w.params).In base → base.Ns mainGlobals mg → FnOk l.prog w (K w.params) mg base CX0 4 fa fd ["_law_script"] (spLaw (K w.params))) :
    PySem.W.WalkO q loose XP YP l.row.toRowW d [] (fun f vs => PySem.call f vs) :=
  L2.walk_of (n := 63) (k := 4) (x := "_law_script") (CX := fun _ => CX0) (sp := fun w => spLaw (K w.params)) hn (by decide) hdf ⟨rfl, by decide, by decide⟩ hY F (fun _ _ a ns hl _ hS => ⟨a, ns, rfl, hS, hl, fun _ => rfl⟩) fun _ _ _ _ _ z => z
end Law
open PySem PySem.W PyProof.Rows in
set_option maxRecDepth 100000 in
set_option maxHeartbeats 0 in
theorem PySem.Challenge.cw_knotless_k05_own_row_and_offer_holds : PySem.Challenge.rw_knotless_k05_own_row_and_offer.Holds := by
  w_on; o_law; k_head; (case hw => w_witness2)
  k_fill
  refine Law.walk (l := PySem.Challenge.rw_knotless_k05_own_row_and_offer) rfl rfl (fun w h Y => PySem.W.kIn_of Y) ?F
  case F =>
    intro w mg fa h KX G hmg
    refine' Law.all_mk KX G hmg ?cC_Town ?pg_Town ?hd_Town ?po_Town ?sa_Town ?mk_Town ?kc_Town ?n_Town_size ?n_Town_many ?n_Town_names ?n_Town_kept ?n_Town_near ?a0 ?i0 ?l0 ?e0 ?k0 ?a1 ?l1 ?e1 ?k1 ?a2 ?i2 ?l2 ?e2 ?k2 ?a3 ?l3 ?e3 ?k3 ?a4 ?l4 ?e4 ?k4 ?a5 ?l5 ?e5 ?k5 ?a6 ?i6 ?l6 ?e6 ?k6 ?a7 ?l7 ?e7 ?k7 ?a8 ?l8 ?e8 ?k8 ?a9 ?l9 ?e9 ?k9 ?a10 ?l10 ?e10 ?k10 ?a11 ?l11 ?e11 ?k11 ?a12 ?l12 ?e12 ?k12 ?a13 ?l13 ?e13 ?k13 ?a14 ?l14 ?e14 ?k14 ?a15 ?l15 ?e15 ?k15 ?g_MOST_HOUSES ?g_MOST_ROPES ?z_all ?z_bool ?z_enumerate ?z_int ?z_isinstance ?z_len ?z_list ?z_max ?z_min ?z_range ?z_tuple Law.law_true
    (case cC_Town => k_is)
    (case pg_Town => k_is)
    (case hd_Town => k_is)
    (case po_Town => k_is)
    (case sa_Town => k_is)
    (case mk_Town => k_is)
    (case kc_Town => k_is)
    (case n_Town_size => k_is)
    (case n_Town_many => k_is)
    (case n_Town_names => k_is)
    (case n_Town_kept => k_is)
    (case n_Town_near => k_is)
    (case a0 => k_is)
    (case i0 => k_is)
    (case l0 => k_is)
    (case e0 => k_is)
    (case k0 => k_is)
    (case a1 => k_is)
    (case l1 => k_is)
    (case e1 => k_is)
    (case k1 => k_is)
    (case a2 => k_is)
    (case i2 => k_is)
    (case l2 => k_is)
    (case e2 => k_is)
    (case k2 => k_is)
    (case a3 => k_is)
    (case l3 => k_is)
    (case e3 => k_is)
    (case k3 => k_is)
    (case a4 => k_is)
    (case l4 => k_is)
    (case e4 => k_is)
    (case k4 => k_is)
    (case a5 => k_is)
    (case l5 => k_is)
    (case e5 => k_is)
    (case k5 => k_is)
    (case a6 => k_is)
    (case i6 => k_is)
    (case l6 => k_is)
    (case e6 => k_is)
    (case k6 => k_is)
    (case a7 => k_is)
    (case l7 => k_is)
    (case e7 => k_is)
    (case k7 => k_is)
    (case a8 => k_is)
    (case l8 => k_is)
    (case e8 => k_is)
    (case k8 => k_is)
    (case a9 => k_is)
    (case l9 => k_is)
    (case e9 => k_is)
    (case k9 => k_is)
    (case a10 => k_is)
    (case l10 => k_is)
    (case e10 => k_is)
    (case k10 => k_is)
    (case a11 => k_is)
    (case l11 => k_is)
    (case e11 => k_is)
    (case k11 => k_is)
    (case a12 => k_is)
    (case l12 => k_is)
    (case e12 => k_is)
    (case k12 => k_is)
    (case a13 => k_is)
    (case l13 => k_is)
    (case e13 => k_is)
    (case k13 => k_is)
    (case a14 => k_is)
    (case l14 => k_is)
    (case e14 => k_is)
    (case k14 => k_is)
    (case a15 => k_is)
    (case l15 => k_is)
    (case e15 => k_is)
    (case k15 => k_is)
    (case g_MOST_HOUSES => k_is)
    (case g_MOST_ROPES => k_is)
    (case z_all => k_is)
    (case z_bool => k_is)
    (case z_enumerate => k_is)
    (case z_int => k_is)
    (case z_isinstance => k_is)
    (case z_len => k_is)
    (case z_list => k_is)
    (case z_max => k_is)
    (case z_min => k_is)
    (case z_range => k_is)
    (case z_tuple => k_is)
