import PyProof.Rows.All
import Wide.All
import OpenK.AllK
import Wide.FinOn
import HandS.ForExc
import HandS.Comp
import HandS.Iter
import HandS.Text
import HandS.Deep
import HandS.TupAny
import HandS.TupMul
import HandS.IsInst
import HandS.ExcIs
import HandS.Zip
import HandS.Defaults
import HandS.HeadEnd
import HandS.HeadHook1
import HandS.HeadHook2
import HandS.HeadHook4
import HandS.Head2
import KE.KDictKeyed
import KE.KDictDisplayH
import HandS.Strs
import HandS.ExcOwn
import HandS.TryOnly
import PyProof.EqAt
import PyProof.FactsAll.tuple_2
import PyProof.FactsAll.tuple_3
import HandS.Conv
import KE.KxIndex
import HandS.ForDict
import HandS.SetKeys
import HandS.TupLen
import KE.GoesEnum
import HandS.Style
import PyProof.Rows.StrMul
import KE.GoesZip
import KE.GoesMore
import PySem.Challenge.RW_leastloss_k31_saying_texts
set_option Elab.async false
set_option linter.all false
set_option maxRecDepth 100000
set_option maxHeartbeats 0
namespace Lz
open PySem PySem.Spec PyProof.Rows L2

/-- a test that the kernel doesn't look into -/
noncomputable def cif {α : Type} (c : Prop) (a b : α) : α := @ite α c (Classical.propDecidable c) a b
theorem cif_pos {α : Type} {c : Prop} {a b : α} (h : c) : cif c a b = a := by unfold cif; rw [if_pos h]
theorem cif_neg {α : Type} {c : Prop} {a b : α} (h : ¬ c) : cif c a b = b := by unfold cif; rw [if_neg h]
@[simp] theorem cif_t {α : Type} {a b : α} : cif True a b = a := cif_pos trivial
@[simp] theorem cif_f {α : Type} {a b : α} : cif False a b = b := cif_neg id
inductive D where
  | non | bl (b : Bool) | int (i : Int) | str (s : Str)
  | tup (xs : List D) | lst (xs : List D) | scr (ns : List Int)
  | dct (ks : List (D × D)) | obj (c : Str) (fs : List (Str × D))
  | ob (c : Str) (fs : List (Str × Bool × D))
  | dk (ks : List (Key × D))
  | dkl (o : Obj) (ks : List (Key × D))
  | lol (rows : List D) | pin (o : HO) | fn (n : Str) | xc (a : Addr)

mutual
def D.toPy : D → PyData
  | .non => .none
  | .bl b => .bool b
  | .int i => .int i
  | .str s => .str s
  | .tup xs => .tuple (D.toPys xs)
  | .lst xs => .list (D.toPys xs)
  | .scr ns => .list (ns.map .int)
  | .dct _ => .dict []
  | .obj _ _ => .dict []
  | .ob _ _ => .dict []
  | .dk _ => .dict []
  | .dkl _ _ => .dict []
  | .lol _ => .dict []
  | .pin _ => .dict []
  | .fn _ => .dict []
  | .xc _ => .dict []
def D.toPys : List D → List PyData
  | [] => []
  | x :: xs => x.toPy :: D.toPys xs
end
theorem toPys_map : ∀ xs : List D, D.toPys xs = xs.map D.toPy
  | [] => by rw [D.toPys]; rfl
  | x :: xs => by rw [D.toPys, toPys_map xs]; rfl

/-- a slot's content: whether it is owned, the data -/
abbrev T := Bool × D
/-- an expression's answer: data (owned by nobody else if the flag is up), or the owned thing of a slot -/
inductive XV where
  | v (o : Bool) (d : D)
  | b (i : Nat)
abbrev Env := List (Option T)
/-- what running ends in -/
inductive R (α : Type) where
  | ok (a : α) (ρ : Env)
  | exc (c : Str) (ρ : Env)
  | bad
def R.bind {α β : Type} (r : R α) (k : α → Env → R β) : R β := match r with
  | .ok a ρ => k a ρ
  | .exc c ρ => .exc c ρ
  | .bad => .bad

mutual
def nkD : D → Option NestedKey
  | .bl b => some (.num (if b then 1 else 0))
  | .int i => some (.num i)
  | .tup xs => (nkDs xs).map .tup
  | _ => none
def nkDs : List D → Option (List NestedKey)
  | [] => some []
  | x :: xs => (nkD x).bind fun k => (nkDs xs).map (k :: ·)
end
-- no texts in it
mutual
def nkT : NestedKey → Bool
  | .none => true
  | .num _ => true
  | .text _ => false
  | .tup ks => nkTs ks
def nkTs : List NestedKey → Bool
  | [] => true
  | k :: ks => nkT k && nkTs ks
end
mutual
theorem nkT_hash (w w' : World) : ∀ k : NestedKey, nkT k = true → k.hash w = k.hash w'
  | .none, _ => by rw [NestedKey.hash, NestedKey.hash]
  | .num i, _ => by rw [NestedKey.hash, NestedKey.hash]
  | .text x, h => by rw [nkT] at h; cases h
  | .tup ks, h => by
    rw [nkT] at h
    rw [NestedKey.hash, NestedKey.hash, nkTs_hash w w' ks h]
theorem nkTs_hash (w w' : World) : ∀ ks : List NestedKey, nkTs ks = true → NestedKey.hashes w ks = NestedKey.hashes w' ks
  | [], _ => by rw [NestedKey.hashes, NestedKey.hashes]
  | k :: ks, h => by
    rw [nkTs, Bool.and_eq_true] at h
    rw [NestedKey.hashes, NestedKey.hashes, nkT_hash w w' k h.1, nkTs_hash w w' ks h.2]
end
mutual
theorem nkD_T : ∀ (d : D) (k : NestedKey), nkD d = some k → nkT k = true
  | .non, _, h => by rw [nkD] at h; cases h; all_goals exact nofun
  | .bl b, _, h => by rw [nkD] at h; cases h; rw [nkT]
  | .int i, _, h => by rw [nkD] at h; cases h; rw [nkT]
  | .str s, _, h => by rw [nkD] at h; cases h; all_goals exact nofun
  | .tup xs, _, h => by
    rw [nkD] at h
    cases e : nkDs xs with
    | none => rw [e] at h; cases h
    | some ks => rw [e] at h; cases h; rw [nkT]; exact nkDs_T xs ks e
  | .lst xs, _, h => by rw [nkD] at h; cases h; all_goals exact nofun
  | .scr xs, _, h => by rw [nkD] at h; cases h; all_goals exact nofun
  | .dct xs, _, h => by rw [nkD] at h; cases h; all_goals exact nofun
  | .obj c xs, _, h => by rw [nkD] at h; cases h; all_goals exact nofun
  | .ob c xs, _, h => by rw [nkD] at h; cases h; all_goals exact nofun
  | .dk xs, _, h => by rw [nkD] at h; cases h; all_goals exact nofun
  | .dkl o xs, _, h => by rw [nkD] at h; cases h; all_goals exact nofun
  | .lol xs, _, h => by rw [nkD] at h; cases h; all_goals exact nofun
  | .pin xs, _, h => by rw [nkD] at h; cases h; all_goals exact nofun
  | .fn xs, _, h => by rw [nkD] at h; cases h; all_goals exact nofun
  | .xc xs, _, h => by rw [nkD] at h; cases h; all_goals exact nofun
theorem nkDs_T : ∀ (ds : List D) (ks : List NestedKey), nkDs ds = some ks → nkTs ks = true
  | [], _, h => by rw [nkDs] at h; cases h; rw [nkTs]
  | d :: ds, _, h => by
    rw [nkDs] at h
    cases e : nkD d with
    | none => rw [e] at h; cases h
    | some k =>
      rw [e] at h
      cases e2 : nkDs ds with
      | none => rw [e2] at h; cases h
      | some ks =>
        rw [e2] at h
        cases h
        rw [nkTs, nkD_T d k e, nkDs_T ds ks e2]; rfl
end
abbrev DEnt := NestedKey × Addr × Value
/-- what is true of a dict's own object -/
def dPhi (a : Addr) (es : List DEnt) (h : Heap) : Prop := ∃ o arr ep, h.get? a = some o ∧ o.ExactDict ∧ o.data = .dict arr ep ∧ ∀ w : World, arr.toList = es.map fun x => (⟨x.1.hash w, .ref x.2.1, x.2.2⟩ : DictEntry)
structure DFm (a : Addr) (es : List DEnt) (vs : List V) (kvs : List (D × D)) : Prop where
  sys : (a == sysModules) = false
  nd : (es.map (·.1)).Nodup
  vals : Vals vs (es.map (·.2.2))
  keys : es.map (fun x => some x.1) = kvs.map (fun p => nkD p.1)
  dep : ∀ x ∈ es, x.1.depth ≤ 8
def KTup (K : PySem.W.Frag) (a : Addr) (xs : List V) : Prop :=
  ∃ (o : Obj) (its : Array Value) (n : Nat), K.lookup a = some o ∧ o.cls = .type "tuple" ∧ o.dict = none ∧ o.data = .seq its n ∧ its.size ≤ sizeLine ∧ Vals xs its.toList
def KLst (K : PySem.W.Frag) (a : Addr) (xs : List V) : Prop :=
  ∃ (o : Obj) (its : Array Value) (n : Nat), K.lookup a = some o ∧ o.cls = .type "list" ∧ o.dict = none ∧ o.data = .seq its n ∧ its.size ≤ sizeLine ∧ Vals xs its.toList

mutual
inductive Rep (K : PySem.W.Frag) (H : Hp) (av : Addr → Prop) : V → D → Prop
  | non : Rep K H av .non .non
  | bl (b : Bool) : Rep K H av (.bl b) (.bl b)
  | int (i : Int) : Rep K H av (.int i) (.int i)
  | str (x : Str) : Rep K H av (.str x) (.str x)
  | tup {a : Addr} {o : Obj} {vs : List V} {ds : List D} : ¬ av a → H a = some (.frz o (.tup vs)) → o.dict = none → RepAll K H av vs ds → Rep K H av (.ref a) (.tup ds)
  | ktup {a : Addr} {vs : List V} {ds : List D} : KTup K a vs → RepAll K H av vs ds → Rep K H av (.ref a) (.tup ds)
  | lst {a : Addr} {vs : List V} {ds : List D} : ¬ av a → H a = some (.lst vs) → RepAll K H av vs ds → Rep K H av (.ref a) (.lst ds)
  | scr {a : Addr} {o : Obj} {ns : List Int} : ¬ av a → H a = some (.frz o (.lst (ns.map V.int))) → Rep K H av (.ref a) (.scr ns)
  | kscr {a : Addr} {ns : List Int} : KLst K a (ns.map V.int) → Rep K H av (.ref a) (.scr ns)
  | obj {a C dx : Addr} {c : Str} {fs : List (Str × V)} {gs : List (Str × D)} : ¬ av a → H a = some (.ins C dx fs) → C = He.ga K c → fs.map (·.1) = gs.map (·.1) → RepAll K H av (fs.map (·.2)) (gs.map (·.2)) → Rep K H av (.ref a) (.obj c gs)
  | ob {a C dx : Addr} {c : Str} {fs : List (Str × V)} {gs : List (Str × Bool × D)} : ¬ av a → H a = some (.ins C dx fs) → C = He.ga K c → fs.map (·.1) = gs.map (·.1) → RepAll K H av (fs.map (·.2)) (gs.map (·.2.2)) → Rep K H av (.ref a) (.ob c gs)
  | dct {a : Addr} {es : List DEnt} {vs : List V} {kvs : List (D × D)} : ¬ av a → H a = some (.ext (dPhi a es)) → DFm a es vs kvs → RepAll K H av (es.map fun x => .ref x.2.1) (kvs.map (·.1)) → RepAll K H av vs (kvs.map (·.2)) → Rep K H av (.ref a) (.dct kvs)
  | dk {a : Addr} {es : List (Key × V)} {kvs : List (Key × D)} : ¬ av a → Rd H a (.dK es) → es.map (·.1) = kvs.map (·.1) → RepAll K H av (es.map (·.2)) (kvs.map (·.2)) → Rep K H av (.ref a) (.dk kvs)
  | dkl {a : Addr} {o : Obj} {es : List (Key × V)} {kvs : List (Key × D)} : ¬ av a → H a = some (.frz o (.dK es)) → es.map (·.1) = kvs.map (·.1) → RepAll K H av (es.map (·.2)) (kvs.map (·.2)) → Rep K H av (.ref a) (.dkl o kvs)
  | lol {a : Addr} {vs : List V} {ds : List D} : ¬ av a → H a = some (.lst vs) → RepAll K H av vs ds → Rep K H av (.ref a) (.lol ds)
  | pin {a : Addr} {o : HO} : ¬ av a → H a = some o → (∀ e, o ≠ .dK e) → Rep K H av (.ref a) (.pin o)
  | fn (n : Str) : Rep K H av (.ref (He.fAd K (n, none))) (.fn n)
  | xc (a : Addr) : Rep K H av (.ref a) (.xc a)
inductive RepAll (K : PySem.W.Frag) (H : Hp) (av : Addr → Prop) : List V → List D → Prop
  | nil : RepAll K H av [] []
  | cons {v : V} {vs : List V} {d : D} {ds : List D} : Rep K H av v d → RepAll K H av vs ds → RepAll K H av (v :: vs) (d :: ds)
end

section
variable {K : PySem.W.Frag} {H H' : Hp} {av av' : Addr → Prop}
/-- what may change under pure data -/
structure Kp (H H' : Hp) (av av' : Addr → Prop) : Prop where
  keep : ∀ b o, H b = some o → ¬ av b → H' b = some o
  less : ∀ b, av' b → av b ∨ H b = none
theorem Kp.not (k : Kp H H' av av') {a : Addr} {o : HO} (h : H a = some o) (n : ¬ av a) : ¬ av' a := fun q => by
  rcases k.less a q with q | q
  · exact n q
  · rw [h] at q; cases q
theorem Kp.rd (k : Kp H H' av av') {a : Addr} {u : HO} (h : Rd H a u) (n : ¬ av a) : Rd H' a u := by
  rcases h with h | ⟨o, h⟩
  · exact .inl (k.keep _ _ h n)
  · exact .inr ⟨o, k.keep _ _ h n⟩
theorem Kp.notR (k : Kp H H' av av') {a : Addr} {u : HO} (h : Rd H a u) (n : ¬ av a) : ¬ av' a := by
  rcases h with h | ⟨o, h⟩
  · exact k.not h n
  · exact k.not h n
mutual
theorem Rep.mono (k : Kp H H' av av') : ∀ {v : V} {d : D}, Rep K H av v d → Rep K H' av' v d
  | _, _, .non => .non
  | _, _, .bl b => .bl b
  | _, _, .int i => .int i
  | _, _, .str x => .str x
  | _, _, .tup n h e r => .tup (k.not h n) (k.keep _ _ h n) e (RepAll.mono k r)
  | _, _, .ktup h r => .ktup h (RepAll.mono k r)
  | _, _, .lst n h r => .lst (k.not h n) (k.keep _ _ h n) (RepAll.mono k r)
  | _, _, .scr n h => .scr (k.not h n) (k.keep _ _ h n)
  | _, _, .kscr h => .kscr h
  | _, _, .obj n h e m r => .obj (k.not h n) (k.keep _ _ h n) e m (RepAll.mono k r)
  | _, _, .ob n h e m r => .ob (k.not h n) (k.keep _ _ h n) e m (RepAll.mono k r)
  | _, _, .dct n h f r1 r2 => .dct (k.not h n) (k.keep _ _ h n) f (RepAll.mono k r1) (RepAll.mono k r2)
  | _, _, .dk n h f r => .dk (k.notR h n) (k.rd h n) f (RepAll.mono k r)
  | _, _, .dkl n h f r => .dkl (k.not h n) (k.keep _ _ h n) f (RepAll.mono k r)
  | _, _, .lol n h r => .lol (k.not h n) (k.keep _ _ h n) (RepAll.mono k r)
  | _, _, .pin n h q => .pin (k.not h n) (k.keep _ _ h n) q
  | _, _, .fn n => .fn n
  | _, _, .xc n => .xc n
theorem RepAll.mono (k : Kp H H' av av') : ∀ {vs : List V} {ds : List D}, RepAll K H av vs ds → RepAll K H' av' vs ds
  | _, _, .nil => .nil
  | _, _, .cons h r => .cons (Rep.mono k h) (RepAll.mono k r)
end
theorem Kp.weak (h : ∀ b, av' b → av b) : Kp H H av av' := ⟨fun _ _ h _ => h, fun b q => .inl (h b q)⟩
theorem Kp.laid {p : Addr} {o : HO} (h : H p = none) : Kp H (upd H p o) av av := ⟨fun b u q _ => by rw [upd_ne (ne_of_none q h)]; exact q, fun _ q => .inl q⟩
theorem RepAll.length : ∀ {vs : List V} {ds : List D}, RepAll K H av vs ds → vs.length = ds.length
  | _, _, .nil => rfl
  | _, _, .cons _ r => by rw [List.length_cons, List.length_cons, RepAll.length r]
theorem RepAll.get : ∀ {vs : List V} {ds : List D} {i : Nat} {v : V}, RepAll K H av vs ds → vs[i]? = some v → ∃ d, ds[i]? = some d ∧ Rep K H av v d
  | _, _, _, _, .nil, h => by simp at h
  | _, _, 0, v, .cons r _, h => by simp at h; subst h; exact ⟨_, rfl, r⟩
  | _, _, i + 1, v, .cons _ t, h => by
    obtain ⟨d, h1, h2⟩ := RepAll.get (i := i) (v := v) t (by simpa using h)
    exact ⟨d, by simpa using h1, h2⟩
theorem RepAll.getD : ∀ {vs : List V} {ds : List D} {i : Nat} {d : D}, RepAll K H av vs ds → ds[i]? = some d → ∃ v, vs[i]? = some v ∧ Rep K H av v d
  | _, _, _, _, .nil, h => by simp at h
  | _, _, 0, v, .cons r _, h => by simp at h; subst h; exact ⟨_, rfl, r⟩
  | _, _, i + 1, v, .cons _ t, h => by
    obtain ⟨d, h1, h2⟩ := RepAll.getD (i := i) (d := v) t (by simpa using h)
    exact ⟨d, by simpa using h1, h2⟩
theorem RepAll.append : ∀ {vs us : List V} {ds es : List D}, RepAll K H av vs ds → RepAll K H av us es → RepAll K H av (vs ++ us) (ds ++ es)
  | _, _, _, _, .nil, r => r
  | _, _, _, _, .cons h t, r => .cons h (RepAll.append t r)
theorem RepAll.take : ∀ {vs : List V} {ds : List D} (n : Nat), RepAll K H av vs ds → RepAll K H av (vs.take n) (ds.take n)
  | _, _, 0, _ => by simp; exact .nil
  | _, _, _ + 1, .nil => by simp; exact .nil
  | _, _, n + 1, .cons h t => .cons h (RepAll.take n t)
theorem RepAll.drop : ∀ {vs : List V} {ds : List D} (n : Nat), RepAll K H av vs ds → RepAll K H av (vs.drop n) (ds.drop n)
  | _, _, 0, r => r
  | _, _, _ + 1, .nil => by simp; exact .nil
  | _, _, n + 1, .cons _ t => RepAll.drop n t
theorem RepAll.set {x : V} {e : D} (q : Rep K H av x e) : ∀ {vs : List V} {ds : List D} (n : Nat), RepAll K H av vs ds → RepAll K H av (vs.set n x) (ds.set n e)
  | _, _, _, .nil => by simp; exact .nil
  | _, _, 0, .cons _ t => .cons q t
  | _, _, n + 1, .cons h t => .cons h (RepAll.set q n t)
theorem RepAll.rep {vs : List V} {ds : List D} (r : RepAll K H av vs ds) : ∀ n : Nat, RepAll K H av (List.replicate n vs).flatten (List.replicate n ds).flatten
  | 0 => .nil
  | n + 1 => by
    rw [List.replicate_succ, List.replicate_succ, List.flatten_cons, List.flatten_cons]
    exact r.append (RepAll.rep r n)
theorem KTup.sq {a : Addr} {vs : List V} (h : KTup K a vs) : SqT K H a vs := let ⟨o, its, n, h1, h2, _, h3⟩ := h; .inr ⟨o, its, n, h1, h2, h3⟩
/-- a tuple that has no dict of its own -/
def TupD (K : PySem.W.Frag) (H : Hp) (a : Addr) : Prop := (∃ o vs, H a = some (.frz o (.tup vs)) ∧ o.dict = none) ∨ ∃ o, K.lookup a = some o ∧ o.cls = .type "tuple" ∧ o.dict = none

/-- an owned object's attributes: pure ones, owned lists -/
inductive OwnFs (K : PySem.W.Frag) (H : Hp) (av : Addr → Prop) : List (Str × V) → List (Str × Bool × D) → List Addr → Prop
  | nil : OwnFs K H av [] [] []
  | pure {f : Str} {v : V} {d : D} {fs : List (Str × V)} {gs : List (Str × Bool × D)} {w : List Addr} : Rep K H av v d → OwnFs K H av fs gs w → OwnFs K H av ((f, v) :: fs) ((f, false, d) :: gs) w
  | lst {f : Str} {b : Addr} {vs : List V} {ds : List D} {fs : List (Str × V)} {gs : List (Str × Bool × D)} {w : List Addr} : H b = some (.lst vs) → RepAll K H av vs ds → OwnFs K H av fs gs w → OwnFs K H av ((f, .ref b) :: fs) ((f, true, .lst ds) :: gs) (b :: w)
theorem OwnFs.mono {K : PySem.W.Frag} {H H' : Hp} {av av' : Addr → Prop} (k : Kp H H' av av') : ∀ {fs : List (Str × V)} {gs : List (Str × Bool × D)} {w : List Addr}, (∀ b ∈ w, H' b = H b) → OwnFs K H av fs gs w → OwnFs K H' av' fs gs w
  | _, _, _, _, .nil => .nil
  | _, _, _, hw, .pure r t => .pure (r.mono k) (OwnFs.mono k hw t)
  | _, _, _, hw, .lst h r t => .lst (by rw [hw _ List.mem_cons_self]; exact h) (r.mono k) (OwnFs.mono k (fun b hb => hw b (List.mem_cons_of_mem _ hb)) t)
theorem OwnFs.there {K : PySem.W.Frag} {H : Hp} {av : Addr → Prop} : ∀ {fs : List (Str × V)} {gs : List (Str × Bool × D)} {w : List Addr}, OwnFs K H av fs gs w → ∀ b ∈ w, H b ≠ none
  | _, _, _, .nil, b, hb => by cases hb
  | _, _, _, .pure _ t, b, hb => OwnFs.there t b hb
  | _, _, _, .lst h _ t, b, hb => by
    rcases List.mem_cons.mp hb with rfl | hb
    · rw [h]; simp
    · exact OwnFs.there t b hb
theorem OwnFs.names {K : PySem.W.Frag} {H : Hp} {av : Addr → Prop} : ∀ {fs : List (Str × V)} {gs : List (Str × Bool × D)} {w : List Addr}, OwnFs K H av fs gs w → fs.map (·.1) = gs.map (·.1)
  | _, _, _, .nil => rfl
  | _, _, _, .pure _ t => by rw [List.map_cons, List.map_cons, OwnFs.names t]
  | _, _, _, .lst _ _ t => by rw [List.map_cons, List.map_cons, OwnFs.names t]
/-- all of them as pure data, where what was owned is given free -/
theorem OwnFs.rep {K : PySem.W.Frag} {H : Hp} {av av' : Addr → Prop} (k : ∀ b, av' b → av b) : ∀ {fs : List (Str × V)} {gs : List (Str × Bool × D)} {w : List Addr}, (∀ b ∈ w, ¬ av' b) → OwnFs K H av fs gs w → RepAll K H av' (fs.map (·.2)) (gs.map (·.2.2))
  | _, _, _, _, .nil => .nil
  | _, _, _, hw, .pure r t => .cons (r.mono (Kp.weak k)) (OwnFs.rep k hw t)
  | _, _, _, hw, .lst h r t => .cons (.lst (hw _ List.mem_cons_self) h (r.mono (Kp.weak k))) (OwnFs.rep k (fun b hb => hw b (List.mem_cons_of_mem _ hb)) t)
/-- rows that are owned lists -/
inductive OwnRs (K : PySem.W.Frag) (H : Hp) (av : Addr → Prop) : List V → List D → List Addr → Prop
  | nil : OwnRs K H av [] [] []
  | cons {b : Addr} {vs : List V} {ds : List D} {us : List V} {rs : List D} {w : List Addr} : H b = some (.lst vs) → RepAll K H av vs ds → OwnRs K H av us rs w → OwnRs K H av (.ref b :: us) (.lst ds :: rs) (b :: w)
theorem OwnRs.mono {K : PySem.W.Frag} {H H' : Hp} {av av' : Addr → Prop} (k : Kp H H' av av') : ∀ {us : List V} {rs : List D} {w : List Addr}, (∀ b ∈ w, H' b = H b) → OwnRs K H av us rs w → OwnRs K H' av' us rs w
  | _, _, _, _, .nil => .nil
  | _, _, _, hw, .cons h r t => .cons (by rw [hw _ List.mem_cons_self]; exact h) (r.mono k) (OwnRs.mono k (fun b hb => hw b (List.mem_cons_of_mem _ hb)) t)
theorem OwnRs.there {K : PySem.W.Frag} {H : Hp} {av : Addr → Prop} : ∀ {us : List V} {rs : List D} {w : List Addr}, OwnRs K H av us rs w → ∀ b ∈ w, H b ≠ none
  | _, _, _, .nil, b, hb => by cases hb
  | _, _, _, .cons h _ t, b, hb => by
    rcases List.mem_cons.mp hb with rfl | hb
    · rw [h]; simp
    · exact OwnRs.there t b hb
theorem OwnRs.rep {K : PySem.W.Frag} {H : Hp} {av av' : Addr → Prop} (k : ∀ b, av' b → av b) : ∀ {us : List V} {rs : List D} {w : List Addr}, (∀ b ∈ w, ¬ av' b) → OwnRs K H av us rs w → RepAll K H av' us rs
  | _, _, _, _, .nil => .nil
  | _, _, _, hw, .cons h r t => .cons (.lst (hw _ List.mem_cons_self) h (r.mono (Kp.weak k))) (OwnRs.rep k (fun b hb => hw b (List.mem_cons_of_mem _ hb)) t)
inductive Own (K : PySem.W.Frag) (H : Hp) (av : Addr → Prop) : V → T → List Addr → Prop
  | pure {v : V} {d : D} : Rep K H av v d → Own K H av v (false, d) []
  | lst {a : Addr} {vs : List V} {ds : List D} : H a = some (.lst vs) → RepAll K H av vs ds → Own K H av (.ref a) (true, .lst ds) [a]
  | obj {a C dx : Addr} {c : Str} {fs : List (Str × V)} {gs : List (Str × D)} : H a = some (.ins C dx fs) → C = He.ga K c → fs.map (·.1) = gs.map (·.1) → RepAll K H av (fs.map (·.2)) (gs.map (·.2)) → Own K H av (.ref a) (true, .obj c gs) [a]
  | ob {a C dx : Addr} {c : Str} {fs : List (Str × V)} {gs : List (Str × Bool × D)} {w : List Addr} : H a = some (.ins C dx fs) → C = He.ga K c → OwnFs K H av fs gs w → Own K H av (.ref a) (true, .ob c gs) (a :: w)
  | dct {a : Addr} {es : List DEnt} {vs : List V} {kvs : List (D × D)} : H a = some (.ext (dPhi a es)) → DFm a es vs kvs → RepAll K H av (es.map fun x => .ref x.2.1) (kvs.map (·.1)) → RepAll K H av vs (kvs.map (·.2)) → Own K H av (.ref a) (true, .dct kvs) [a]
  | dk {a : Addr} {es : List (Key × V)} {kvs : List (Key × D)} : H a = some (.dK es) → es.map (·.1) = kvs.map (·.1) → RepAll K H av (es.map (·.2)) (kvs.map (·.2)) → Own K H av (.ref a) (true, .dk kvs) [a]
  | lol {a : Addr} {us : List V} {rs : List D} {w : List Addr} : H a = some (.lst us) → OwnRs K H av us rs w → Own K H av (.ref a) (true, .lol rs) (a :: w)
  | pin {a : Addr} {o : HO} : H a = some o → (∀ e, o ≠ .dK e) → Own K H av (.ref a) (true, .pin o) [a]
abbrev VT := V × T
inductive OwnAll (K : PySem.W.Frag) (H : Hp) (av : Addr → Prop) : List VT → List Addr → Prop
  | nil : OwnAll K H av [] []
  | cons {v : V} {t : T} {L : List VT} {w ws : List Addr} : Own K H av v t w → OwnAll K H av L ws → OwnAll K H av ((v, t) :: L) (w ++ ws)
theorem Own.mono {v : V} {t : T} {w : List Addr} (k : Kp H H' av av') (hw : ∀ b ∈ w, H' b = H b) (h : Own K H av v t w) : Own K H' av' v t w := by
  cases h with
  | pure r => exact .pure (r.mono k)
  | lst h r => exact .lst (by rw [hw _ (by simp)]; exact h) (r.mono k)
  | obj h e m r => exact .obj (by rw [hw _ (by simp)]; exact h) e m (r.mono k)
  | ob h e r => exact .ob (by rw [hw _ (by simp)]; exact h) e (r.mono k fun b hb => hw b (List.mem_cons_of_mem _ hb))
  | dct h f r1 r2 => exact .dct (by rw [hw _ (by simp)]; exact h) f (r1.mono k) (r2.mono k)
  | dk h f r => exact .dk (by rw [hw _ (by simp)]; exact h) f (r.mono k)
  | lol h r => exact .lol (by rw [hw _ (by simp)]; exact h) (r.mono k fun b hb => hw b (List.mem_cons_of_mem _ hb))
  | pin h q => exact .pin (by rw [hw _ (by simp)]; exact h) q
theorem OwnAll.mono (k : Kp H H' av av') : ∀ {L : List VT} {ws : List Addr}, (∀ b ∈ ws, H' b = H b) → OwnAll K H av L ws → OwnAll K H' av' L ws
  | _, _, _, .nil => .nil
  | _, _, hw, .cons h t => .cons (h.mono k fun b hb => hw b (List.mem_append_left _ hb)) (OwnAll.mono k (fun b hb => hw b (List.mem_append_right _ hb)) t)
theorem Own.there {v : V} {t : T} {w : List Addr} (h : Own K H av v t w) : ∀ b ∈ w, H b ≠ none := by
  cases h with
  | pure r => intro b hb; cases hb
  | lst h r => intro b hb; have e : b = _ := List.mem_singleton.mp hb; subst e; rw [h]; simp
  | obj h e m r => intro b hb; have e : b = _ := List.mem_singleton.mp hb; subst e; rw [h]; simp
  | ob h e r =>
    intro b hb
    rcases List.mem_cons.mp hb with rfl | hb
    · rw [h]; simp
    · exact r.there b hb
  | dct h f r1 r2 => intro b hb; have e : b = _ := List.mem_singleton.mp hb; subst e; rw [h]; simp
  | dk h f r => intro b hb; have e : b = _ := List.mem_singleton.mp hb; subst e; rw [h]; simp
  | lol h r =>
    intro b hb
    rcases List.mem_cons.mp hb with rfl | hb
    · rw [h]; simp
    · exact r.there b hb
  | pin h q => intro b hb; have e : b = _ := List.mem_singleton.mp hb; subst e; rw [h]; simp
theorem OwnAll.there : ∀ {L : List VT} {ws : List Addr}, OwnAll K H av L ws → ∀ b ∈ ws, H b ≠ none
  | _, _, .nil, b, hb => by cases hb
  | _, _, .cons h t, b, hb => by
    rcases List.mem_append.mp hb with hb | hb
    · exact h.there b hb
    · exact OwnAll.there t b hb
theorem OwnAll.get : ∀ {L : List VT} {ws : List Addr} {v : V} {t : T}, OwnAll K H av L ws → (v, t) ∈ L → ∃ w, Own K H av v t w ∧ ∀ b ∈ w, b ∈ ws
  | _, _, _, _, .nil, h => by cases h
  | _, _, v, t, .cons (w := w) h r, hm => by
    rcases List.mem_cons.mp hm with e | hm
    · cases e; exact ⟨_, h, fun b hb => List.mem_append_left _ hb⟩
    · obtain ⟨w', h1, h2⟩ := OwnAll.get r hm
      exact ⟨w', h1, fun b hb => List.mem_append_right _ (h2 b hb)⟩
theorem OwnAll.perm {L L' : List VT} (p : L.Perm L') : ∀ {ws : List Addr}, OwnAll K H av L ws → ∃ ws', OwnAll K H av L' ws' ∧ ws.Perm ws' := by
  induction p with
  | nil => intro ws h; exact ⟨ws, h, .refl _⟩
  | cons x _ ih =>
    intro ws h
    cases h with
    | cons h t =>
      obtain ⟨ws', h1, h2⟩ := ih t
      exact ⟨_, .cons h h1, h2.append_left _⟩
  | swap x y l =>
    intro ws h
    cases h with
    | cons h t =>
      cases t with
      | cons h2 t =>
        refine ⟨_, .cons h2 (.cons h t), ?_⟩
        rw [← List.append_assoc, ← List.append_assoc]
        exact List.perm_append_comm.append_right _
  | trans _ _ ih1 ih2 =>
    intro ws h
    obtain ⟨w1, a1, b1⟩ := ih1 h
    obtain ⟨w2, a2, b2⟩ := ih2 a1
    exact ⟨w2, a2, b1.trans b2⟩

structure SepW (K : PySem.W.Frag) (H : Hp) (L : List VT) (ws : List Addr) : Prop where
  own : OwnAll K H (· ∈ ws) L ws
  nd : ws.Nodup
def Sep (K : PySem.W.Frag) (H : Hp) (L : List VT) : Prop := ∃ ws, SepW K H L ws
theorem Sep.perm {L L' : List VT} (p : L.Perm L') (s : Sep K H L) : Sep K H L' := by
  obtain ⟨ws, h, n⟩ := s
  obtain ⟨ws', h', q⟩ := h.perm p
  exact ⟨ws', h'.mono (Kp.weak fun b hb => q.mem_iff.mpr hb) (fun _ _ => rfl), q.nodup_iff.mp n⟩
theorem Sep.drop {x : VT} {L : List VT} (s : Sep K H (x :: L)) : Sep K H L := by
  obtain ⟨ws, h, n⟩ := s
  cases h with
  | cons h t => exact ⟨_, t.mono (Kp.weak fun b hb => List.mem_append_right _ hb) fun _ _ => rfl, (List.nodup_append.mp n).2.1⟩
theorem Sep.drops {L L' : List VT} (s : Sep K H (L ++ L')) : Sep K H L' := by
  induction L with
  | nil => exact s
  | cons x L ih => exact ih s.drop
theorem Sep.drop_mid {A B C : List VT} (s : Sep K H (A ++ (B ++ C))) : Sep K H (A ++ C) := by
  have p : (A ++ (B ++ C)).Perm (B ++ (A ++ C)) := by
    rw [← List.append_assoc, ← List.append_assoc]
    exact List.perm_append_comm.append_right _
  exact (s.perm p).drops
theorem SepW.pure {L : List VT} {ws : List Addr} {v : V} {d : D} (s : SepW K H L ws) (r : Rep K H (· ∈ ws) v d) : SepW K H ((v, (false, d)) :: L) ws :=
  ⟨.cons (w := []) (.pure r) s.own, s.nd⟩
theorem SepW.rep {L : List VT} {ws : List Addr} {v : V} {d : D} (s : SepW K H L ws) (h : (v, (false, d)) ∈ L) : Rep K H (· ∈ ws) v d := by
  obtain ⟨w, o, _⟩ := s.own.get h
  cases o with
  | pure r => exact r
theorem Sep.dup {L : List VT} {v : V} {d : D} (s : Sep K H L) (h : (v, (false, d)) ∈ L) : Sep K H ((v, (false, d)) :: L) := by
  obtain ⟨ws, s⟩ := s
  exact ⟨ws, s.pure (s.rep h)⟩
/-- nobody owns it any more -/
theorem Sep.freeze {L : List VT} {v : V} {o : Bool} {d : D} (s : Sep K H ((v, (o, d)) :: L)) : Sep K H ((v, (false, d)) :: L) := by
  cases o with
  | false => exact s
  | true =>
    obtain ⟨ws, h, n⟩ := s
    cases h with
    | @cons _ _ _ w ws' h t =>
      cases h with
      | @lst a vs ds h r =>
        obtain ⟨n1, n2⟩ := List.nodup_cons.mp n
        have k : Kp H H (fun b => b ∈ [a] ++ ws') (fun b => b ∈ ws') := Kp.weak fun b hb => List.mem_append_right _ hb
        exact ⟨ws', .cons (w := []) (.pure (.lst n1 h (r.mono k))) (t.mono k fun _ _ => rfl), n2⟩
      | @obj a C dx c fs gs h e m r =>
        obtain ⟨n1, n2⟩ := List.nodup_cons.mp n
        have k : Kp H H (fun b => b ∈ [a] ++ ws') (fun b => b ∈ ws') := Kp.weak fun b hb => List.mem_append_right _ hb
        exact ⟨ws', .cons (w := []) (.pure (.obj n1 h e m (r.mono k))) (t.mono k fun _ _ => rfl), n2⟩
      | @dct a es vs kvs h f r1 r2 =>
        obtain ⟨n1, n2⟩ := List.nodup_cons.mp n
        have k : Kp H H (fun b => b ∈ [a] ++ ws') (fun b => b ∈ ws') := Kp.weak fun b hb => List.mem_append_right _ hb
        exact ⟨ws', .cons (w := []) (.pure (.dct n1 h f (r1.mono k) (r2.mono k))) (t.mono k fun _ _ => rfl), n2⟩
      | @dk a es kvs h f r =>
        obtain ⟨n1, n2⟩ := List.nodup_cons.mp n
        have k : Kp H H (fun b => b ∈ [a] ++ ws') (fun b => b ∈ ws') := Kp.weak fun b hb => List.mem_append_right _ hb
        exact ⟨ws', .cons (w := []) (.pure (.dk n1 (.inl h) f (r.mono k))) (t.mono k fun _ _ => rfl), n2⟩
      | @pin a o h q =>
        obtain ⟨n1, n2⟩ := List.nodup_cons.mp n
        have k : Kp H H (fun b => b ∈ [a] ++ ws') (fun b => b ∈ ws') := Kp.weak fun b hb => List.mem_append_right _ hb
        exact ⟨ws', .cons (w := []) (.pure (.pin n1 h q)) (t.mono k fun _ _ => rfl), n2⟩
      | @lol a us rs w' h r =>
        have n' : (a :: (w' ++ ws')).Nodup := n
        obtain ⟨n1, n2⟩ := List.nodup_cons.mp n'
        obtain ⟨n3, n4, n5⟩ := List.nodup_append.mp n2
        have k : Kp H H (fun b => b ∈ (a :: w') ++ ws') (fun b => b ∈ ws') := Kp.weak fun b hb => List.mem_append_right _ hb
        exact ⟨ws', .cons (w := []) (.pure (.lol (fun q => n1 (List.mem_append_right _ q)) h (r.rep (fun b hb => List.mem_append_right _ hb) fun b hb q => n5 b hb b q rfl))) (t.mono k fun _ _ => rfl), n4⟩
      | @ob a C dx c fs gs w' h e r =>
        have n' : (a :: (w' ++ ws')).Nodup := n
        obtain ⟨n1, n2⟩ := List.nodup_cons.mp n'
        obtain ⟨n3, n4, n5⟩ := List.nodup_append.mp n2
        have k : Kp H H (fun b => b ∈ (a :: w') ++ ws') (fun b => b ∈ ws') := Kp.weak fun b hb => List.mem_append_right _ hb
        refine ⟨ws', .cons (w := []) (.pure (.ob (fun q => n1 (List.mem_append_right _ q)) h e r.names (r.rep (fun b hb => List.mem_append_right _ hb) fun b hb q => n5 b hb b q rfl))) (t.mono k fun _ _ => rfl), n4⟩
theorem SepW.fresh {L : List VT} {ws : List Addr} {p : Addr} (s : SepW K H L ws) (h : H p = none) : p ∉ ws := fun q => s.own.there p q h
/-- a new thing that nobody owns -/
theorem SepW.laid {L : List VT} {ws : List Addr} {p : Addr} {o : HO} (s : SepW K H L ws) (h : H p = none) : SepW K (upd H p o) L ws :=
  ⟨s.own.mono (Kp.laid h) fun b hb => upd_ne fun e => s.fresh h (e ▸ hb), s.nd⟩
theorem SepW.newTup {L : List VT} {ws : List Addr} {p : Addr} {o : Obj} {vs : List V} {ds : List D} (s : SepW K H L ws) (h : H p = none) (ho : o.dict = none) (r : RepAll K H (· ∈ ws) vs ds) : SepW K (upd H p (.frz o (.tup vs))) ((.ref p, (false, .tup ds)) :: L) ws :=
  (s.laid h).pure (.tup (s.fresh h) upd_same ho (r.mono (Kp.laid h)))
theorem Kp.laidO {p : Addr} {o : HO} {ws : List Addr} (h : H p = none) : Kp H (upd H p o) (· ∈ ws) (· ∈ p :: ws) :=
  ⟨fun b u q _ => by rw [upd_ne (ne_of_none q h)]; exact q, fun b q => by
    rcases List.mem_cons.mp q with e | q
    · exact .inr (e ▸ h)
    · exact .inl q⟩
theorem SepW.newLst {L : List VT} {ws : List Addr} {p : Addr} {vs : List V} {ds : List D} (s : SepW K H L ws) (h : H p = none) (r : RepAll K H (· ∈ ws) vs ds) : SepW K (upd H p (.lst vs)) ((.ref p, (true, .lst ds)) :: L) (p :: ws) :=
  ⟨.cons (w := [p]) (.lst upd_same (r.mono (Kp.laidO h))) (s.own.mono (Kp.laidO h) fun b hb => upd_ne fun e => s.fresh h (e ▸ hb)), List.nodup_cons.mpr ⟨s.fresh h, s.nd⟩⟩
/-- an owned list changes -/
theorem SepW.chgLst {L : List VT} {ws : List Addr} {v : V} {ds0 : List D} {vs : List V} {ds : List D} {a : Addr} (s : SepW K H ((v, (true, .lst ds0)) :: L) ws) (hv : v = .ref a) (r : RepAll K H (· ∈ ws) vs ds) : SepW K (upd H a (.lst vs)) ((.ref a, (true, .lst ds)) :: L) ws := by
  subst hv
  obtain ⟨h, n⟩ := s
  cases h with
  | @cons _ _ _ w ws' h t =>
    have ew : w = [a] := by cases h <;> rfl
    subst ew
    have n1 := (List.nodup_cons.mp n).1
    have k : Kp H (upd H a (.lst vs)) (· ∈ [a] ++ ws') (· ∈ [a] ++ ws') := ⟨fun b o q nb => by
      have ne : b ≠ a := fun e => nb (by rw [e]; simp)
      rw [upd_ne ne]; exact q, fun _ q => .inl q⟩
    exact ⟨.cons (.lst upd_same (r.mono k)) (t.mono k fun b hb => upd_ne fun e => n1 (by rw [← e]; exact hb)), n⟩
theorem SepW.tup {L : List VT} {ws : List Addr} {v : V} {o : Bool} {ds : List D} (s : SepW K H L ws) (hm0 : (v, (o, D.tup ds)) ∈ L) : ∃ a vs, v = .ref a ∧ SqT K H a vs ∧ RepAll K H (· ∈ ws) vs ds ∧ TupD K H a := by
  obtain ⟨w, q, _⟩ := s.own.get hm0
  cases q with
  | pure r =>
    cases r with
    | tup n h e r => exact ⟨_, _, rfl, .inl (.inr ⟨_, h⟩), r, .inl ⟨_, _, h, e⟩⟩
    | ktup h r =>
      have h' := h
      obtain ⟨o, its, n, h1, h2, h3, _⟩ := h'
      exact ⟨_, _, rfl, h.sq, r, .inr ⟨o, h1, h2, h3⟩⟩
theorem SepW.lst {L : List VT} {ws : List Addr} {v : V} {o : Bool} {ds : List D} (s : SepW K H L ws) (hm0 : (v, (o, D.lst ds)) ∈ L) : ∃ a vs, v = .ref a ∧ H a = some (.lst vs) ∧ RepAll K H (· ∈ ws) vs ds := by
  obtain ⟨w, q, _⟩ := s.own.get hm0
  cases q with
  | pure r =>
    cases r with
    | lst n h r => exact ⟨_, _, rfl, h, r⟩
  | lst h r => exact ⟨_, _, rfl, h, r⟩
theorem SepW.scr {L : List VT} {ws : List Addr} {v : V} {o : Bool} {ns : List Int} (s : SepW K H L ws) (hm0 : (v, (o, D.scr ns)) ∈ L) : ∃ a, v = .ref a ∧ SqL K H a (ns.map V.int) := by
  obtain ⟨w, q, _⟩ := s.own.get hm0
  cases q with
  | pure r =>
    cases r with
    | scr n h => exact ⟨_, rfl, .inl (.inr ⟨_, h⟩)⟩
    | kscr h => exact ⟨_, rfl, .inr h⟩
theorem SepW.obj {L : List VT} {ws : List Addr} {v : V} {o : Bool} {c : Str} {gs : List (Str × D)} (s : SepW K H L ws) (hm0 : (v, (o, D.obj c gs)) ∈ L) :
    ∃ a dx fs, v = .ref a ∧ H a = some (.ins (He.ga K c) dx fs) ∧ fs.map (·.1) = gs.map (·.1) ∧ RepAll K H (· ∈ ws) (fs.map (·.2)) (gs.map (·.2)) := by
  obtain ⟨w, q, _⟩ := s.own.get hm0
  cases q with
  | pure r =>
    cases r with
    | obj n h e m r => subst e; exact ⟨_, _, _, rfl, h, m, r⟩
  | obj h e m r => subst e; exact ⟨_, _, _, rfl, h, m, r⟩
theorem SepW.int {L : List VT} {ws : List Addr} {v : V} {o : Bool} {i : Int} (s : SepW K H L ws) (hm0 : (v, (o, D.int i)) ∈ L) : v = .int i := by
  obtain ⟨w, q, _⟩ := s.own.get hm0
  cases q with | pure r => cases r with | int i => rfl
theorem SepW.bl {L : List VT} {ws : List Addr} {v : V} {o : Bool} {i : Bool} (s : SepW K H L ws) (hm0 : (v, (o, D.bl i)) ∈ L) : v = .bl i := by
  obtain ⟨w, q, _⟩ := s.own.get hm0
  cases q with | pure r => cases r with | bl i => rfl
theorem SepW.str {L : List VT} {ws : List Addr} {v : V} {o : Bool} {i : Str} (s : SepW K H L ws) (hm0 : (v, (o, D.str i)) ∈ L) : v = .str i := by
  obtain ⟨w, q, _⟩ := s.own.get hm0
  cases q with | pure r => cases r with | str i => rfl
theorem SepW.non {L : List VT} {ws : List Addr} {v : V} {o : Bool} (s : SepW K H L ws) (hm0 : (v, (o, D.non)) ∈ L) : v = .non := by
  obtain ⟨w, q, _⟩ := s.own.get hm0
  cases q with | pure r => cases r with | non => rfl
/-- as data that is looked at -/
theorem SepW.any {L : List VT} {ws : List Addr} {v : V} {o : Bool} {d : D} (s : SepW K H L ws) (hm0 : (v, (o, d)) ∈ L) : Rep K H (fun _ => False) v d := by
  obtain ⟨w, q, _⟩ := s.own.get hm0
  have k : Kp H H (· ∈ ws) (fun _ => False) := Kp.weak fun b hb => hb.elim
  cases q with
  | pure r => exact r.mono k
  | lst h r => exact .lst (fun q => q) h (r.mono k)
  | obj h e m r => exact .obj (fun q => q) h e m (r.mono k)
  | ob h e r => exact .ob (fun q => q) h e r.names (r.rep (fun b hb => hb.elim) fun b _ q => q)
  | dct h f r1 r2 => exact .dct (fun q => q) h f (r1.mono k) (r2.mono k)
  | dk h f r => exact .dk (fun q => q) (.inl h) f (r.mono k)
  | lol h r => exact .lol (fun q => q) h (r.rep (fun b hb => hb.elim) fun b _ q => q)
  | pin h q => exact .pin (fun q => q) h q
theorem dp_ints : ∀ ns : List Int, DpAll K H (ns.map V.int) (ns.map PyData.int)
  | [] => .nil
  | n :: ns => .cons (.int n) (dp_ints ns)
mutual
theorem Rep.dp : ∀ {v : V} {d : D}, Rep K H av v d → d.toPy.canLay0 = true → Dp K H v d.toPy
  | _, _, .non, _ => by rw [D.toPy]; exact .non
  | _, _, .bl b, _ => by rw [D.toPy]; exact .bl b
  | _, _, .int i, _ => by rw [D.toPy]; exact .int i
  | _, _, .str x, _ => by rw [D.toPy]; exact .str x
  | _, _, .tup n h1 e r, q => by
    rw [D.toPy] at q ⊢
    rw [PyData.canLay0] at q
    exact .tup (.inl (.inr ⟨_, h1⟩)) (RepAll.dp r q)
  | _, _, .ktup h1 r, q => by
    rw [D.toPy] at q ⊢
    rw [PyData.canLay0] at q
    exact .tup h1.sq (RepAll.dp r q)
  | _, _, .lst n h1 r, q => by
    rw [D.toPy] at q ⊢
    rw [PyData.canLay0] at q
    exact .lst (.inl (.inl h1)) (RepAll.dp r q)
  | _, _, .scr (ns := ns) n h1, q => by
    rw [D.toPy]
    exact .lst (.inl (.inr ⟨_, h1⟩)) (dp_ints ns)
  | _, _, .kscr (ns := ns) h1, q => by
    rw [D.toPy]
    exact .lst (.inr h1) (dp_ints ns)
  | _, _, .obj n h1 e m r, q => by
    rw [D.toPy, PyData.canLay0] at q
    cases q
  | _, _, .ob n h1 e m r, q => by
    rw [D.toPy, PyData.canLay0] at q
    cases q
  | _, _, .dct n h1 f r1 r2, q => by
    rw [D.toPy, PyData.canLay0] at q
    cases q
  | _, _, .dk n h1 f r, q => by
    rw [D.toPy, PyData.canLay0] at q
    cases q
  | _, _, .dkl n h1 f r, q => by
    rw [D.toPy, PyData.canLay0] at q
    cases q
  | _, _, .lol n h1 r, q => by
    rw [D.toPy, PyData.canLay0] at q
    cases q
  | _, _, .pin n h1 h2, q => by
    rw [D.toPy, PyData.canLay0] at q
    cases q
  | _, _, .fn n, q => by
    rw [D.toPy, PyData.canLay0] at q
    cases q
  | _, _, .xc n, q => by
    rw [D.toPy, PyData.canLay0] at q
    cases q
theorem RepAll.dp : ∀ {vs : List V} {ds : List D}, RepAll K H av vs ds → PyData.canLayAll0 (D.toPys ds) = true → DpAll K H vs (D.toPys ds)
  | _, _, .nil, _ => by rw [D.toPys]; exact .nil
  | _, _, .cons h1 t, q => by
    rw [D.toPys] at q ⊢
    rw [PyData.canLayAll0, Bool.and_eq_true] at q
    exact .cons (Rep.dp h1 q.1) (RepAll.dp t q.2)
end
end
end Lz
namespace Lz
open PySem PySem.Spec PyProof.Rows L2

abbrev Sg := L2.St
def gt : Env → Nat → Option T
  | [], _ => none
  | x :: _, 0 => x
  | _ :: r, n + 1 => gt r n
def pt : Env → Nat → Option T → Env
  | [], _, _ => []
  | _ :: r, 0, x => x :: r
  | y :: r, n + 1, x => y :: pt r n x
def SOk : Sg → Env → Prop
  | [], [] => True
  | s :: σ, t :: ρ => (t.isSome = true → s.isSome = true) ∧ SOk σ ρ
  | _, _ => False
def slotsL : Sg → Env → List VT
  | some v :: σ, some t :: ρ => (v, t) :: slotsL σ ρ
  | _ :: σ, _ :: ρ => slotsL σ ρ
  | _, _ => []
theorem gt_pt_same : ∀ (ρ : Env) (i : Nat) (x : Option T), i < ρ.length → gt (pt ρ i x) i = x
  | [], _, _, h => by simp at h
  | _ :: r, 0, x, h => rfl
  | _ :: r, i + 1, x, h => gt_pt_same r i x (by simpa using h)
theorem gt_pt_ne : ∀ (ρ : Env) (i j : Nat) (x : Option T), i ≠ j → gt (pt ρ i x) j = gt ρ j
  | [], _, _, _, h => rfl
  | _ :: r, 0, 0, x, h => absurd rfl h
  | _ :: r, 0, j + 1, x, h => rfl
  | _ :: r, i + 1, 0, x, h => rfl
  | _ :: r, i + 1, j + 1, x, h => gt_pt_ne r i j x (by omega)
theorem gt_lt : ∀ {ρ : Env} {i : Nat} {t : T}, gt ρ i = some t → i < ρ.length
  | [], _, _, h => by cases h
  | _ :: r, 0, _, h => by simp
  | _ :: r, i + 1, t, h => by have := gt_lt (ρ := r) (i := i) h; simp; omega
theorem SOk.len : ∀ {σ : Sg} {ρ : Env}, SOk σ ρ → σ.length = ρ.length
  | [], [], _ => rfl
  | [], _ :: _, h => h.elim
  | _ :: _, [], h => h.elim
  | _ :: σ, _ :: ρ, h => by simp; exact SOk.len h.2
theorem SOk.slot : ∀ {σ : Sg} {ρ : Env} {i : Nat} {t : T}, SOk σ ρ → gt ρ i = some t → ∃ v, σ[i]? = some (some v)
  | [], _ :: _, _, _, h, _ => h.elim
  | _, [], _, _, _, e => by cases e
  | s :: σ, x :: ρ, 0, t, h, e => by
    have e' : x = some t := e
    subst e'
    have := h.1 rfl
    obtain ⟨v, rfl⟩ := Option.isSome_iff_exists.mp this
    exact ⟨v, rfl⟩
  | s :: σ, x :: ρ, i + 1, t, h, e => by
    obtain ⟨v, q⟩ := SOk.slot (i := i) (t := t) h.2 e
    exact ⟨v, by simpa using q⟩
theorem SOk.put : ∀ {σ : Sg} {ρ : Env} (i : Nat) (v : V) (t : T), SOk σ ρ → SOk (σ.set i (some v)) (pt ρ i (some t))
  | [], [], i, v, t, h => by cases i <;> exact trivial
  | [], _ :: _, _, _, _, h => h.elim
  | _ :: _, [], _, _, _, h => h.elim
  | s :: σ, x :: ρ, 0, v, t, h => ⟨fun _ => rfl, h.2⟩
  | s :: σ, x :: ρ, i + 1, v, t, h => ⟨h.1, SOk.put i v t h.2⟩
theorem SOk.clear : ∀ {σ : Sg} {ρ : Env} (i : Nat), SOk σ ρ → SOk σ (pt ρ i none)
  | [], [], i, h => trivial
  | [], _ :: _, _, h => h.elim
  | _ :: _, [], _, h => h.elim
  | s :: σ, x :: ρ, 0, h => ⟨fun q => (by cases q), h.2⟩
  | s :: σ, x :: ρ, i + 1, h => ⟨h.1, SOk.clear i h.2⟩
theorem SOk.keep {v : V} {t : T} : ∀ {σ : Sg} {ρ : Env} (i : Nat), SOk σ ρ → σ[i]? = some (some v) → SOk σ (pt ρ i (some t))
  | [], [], i, h, _ => trivial
  | [], _ :: _, _, h, _ => h.elim
  | _ :: _, [], _, h, _ => h.elim
  | s :: σ, x :: ρ, 0, h, e => ⟨fun _ => by simp at e; subst e; rfl, h.2⟩
  | s :: σ, x :: ρ, i + 1, h, e => ⟨h.1, SOk.keep i h.2 (by simpa using e)⟩
theorem slots_take : ∀ {σ : Sg} {ρ : Env} {i : Nat} {v : V} {t : T}, σ[i]? = some (some v) → gt ρ i = some t → (slotsL σ ρ).Perm ((v, t) :: slotsL σ (pt ρ i none))
  | [], _, _, _, _, h, _ => by simp at h
  | _, [], _, _, _, _, e => by cases e
  | s :: σ, x :: ρ, 0, v, t, h, e => by
    have e' : x = some t := e
    have h' : s = some v := by simpa using h
    subst e' h'
    exact .refl _
  | s :: σ, x :: ρ, i + 1, v, t, h, e => by
    have ih := slots_take (σ := σ) (ρ := ρ) (i := i) (v := v) (t := t) (by simpa using h) e
    cases s with
    | none => exact ih
    | some u =>
      cases x with
      | none => exact ih
      | some y => exact (ih.cons _).trans (.swap _ _ _)
theorem slots_mem {σ : Sg} {ρ : Env} {i : Nat} {v : V} {t : T} (h : σ[i]? = some (some v)) (e : gt ρ i = some t) : (v, t) ∈ slotsL σ ρ := (slots_take h e).mem_iff.mpr List.mem_cons_self
theorem slots_set_none : ∀ (σ : Sg) (ρ : Env) (i : Nat) (x : Option V), slotsL (σ.set i x) (pt ρ i none) = slotsL σ (pt ρ i none)
  | [], _, i, _ => by cases i <;> rfl
  | s :: σ, [], i, x => by cases i <;> (cases s <;> cases x <;> rfl)
  | s :: σ, y :: ρ, 0, x => by cases s <;> cases x <;> rfl
  | s :: σ, y :: ρ, i + 1, x => by
    have ih := slots_set_none σ ρ i x
    cases s <;> cases y <;> first | exact ih | (show _ :: _ = _ :: _; rw [ih])
theorem pt_pt : ∀ (ρ : Env) (i : Nat) (x y : Option T), pt (pt ρ i x) i y = pt ρ i y
  | [], _, _, _ => rfl
  | _ :: r, 0, _, _ => rfl
  | z :: r, i + 1, x, y => by show z :: _ = z :: _; rw [pt_pt r i x y]
theorem slots_put {σ : Sg} {ρ : Env} {i : Nat} {v : V} {t : T} (hσ : i < σ.length) (hρ : i < ρ.length) : (slotsL (σ.set i (some v)) (pt ρ i (some t))).Perm ((v, t) :: slotsL σ (pt ρ i none)) := by
  have h := slots_take (σ := σ.set i (some v)) (ρ := pt ρ i (some t)) (i := i) (v := v) (t := t) (by simp [hσ]) (gt_pt_same ρ i _ hρ)
  have e : pt (pt ρ i (some t)) i none = pt ρ i none := pt_pt ρ i _ _
  rw [e, slots_set_none] at h
  exact h
theorem pt_none : ∀ (ρ : Env) (i : Nat), gt ρ i = none → pt ρ i none = ρ
  | [], _, _ => rfl
  | x :: r, 0, h => by have h' : x = none := h; subst h'; rfl
  | x :: r, i + 1, h => by show x :: pt r i none = x :: r; rw [pt_none r i h]
/-- a slot's content behind a change of it alone: v stays -/
theorem slots_keep {σ : Sg} {ρ : Env} {i : Nat} {v : V} {t : T} (h : σ[i]? = some (some v)) (hρ : i < ρ.length) : (slotsL σ (pt ρ i (some t))).Perm ((v, t) :: slotsL σ (pt ρ i none)) := by
  have q := slots_take (σ := σ) (ρ := pt ρ i (some t)) h (gt_pt_same ρ i _ hρ)
  rw [pt_pt] at q
  exact q

structure Stt (K : PySem.W.Frag) (hs : List VT) (σ : Sg) (H : Hp) (ρ : Env) : Prop where
  ok : SOk σ ρ
  sep : Sep K H (slotsL σ ρ ++ hs)
def ResV (σ : Sg) (x : XV) (v : V) : Prop := match x with
  | .b i => σ[i]? = some (some v)
  | .v _ _ => True
def hld (x : XV) (v : V) : List VT := match x with
  | .v o d => [(v, (o, d))]
  | .b _ => []
def fin (K : PySem.W.Frag) (W : WX) (hs : List VT) (σ : Sg) (r : R XV) (Q : VK) : Prop := match r with
  | .ok x ρ => ∀ v H, ResV σ x v → Stt K (hld x v ++ hs) σ H ρ → Q v H
  | .exc c ρ => ∀ H, Stt K hs σ H ρ → W (.ref (He.ga K c)) none σ H
  | .bad => False
def tE (K : PySem.W.Frag) (W : WX) (f : Env → R XV) : TE := fun σ H Q => ∃ ρ hs, Stt K hs σ H ρ ∧ fin K W hs σ (f ρ) Q
def SE (X : Cx) (W : WX) (e : Expr) (f : Env → R XV) : Prop := PE X e (tE X.K W f)
def view (x : XV) (ρ : Env) : Option D := match x with
  | .v _ d => some d
  | .b i => (gt ρ i).map (·.2)

section
variable {K : PySem.W.Frag} {W : WX} {hs : List VT} {σ : Sg} {H : Hp} {ρ : Env} {x : XV} {v : V}
theorem Stt.dropA {A : List VT} (s : Stt K (A ++ hs) σ H ρ) : Stt K hs σ H ρ := ⟨s.ok, s.sep.drop_mid⟩
theorem Stt.mem (s : Stt K hs σ H ρ) (h : ResV σ x v) (hm : ∀ p ∈ hld x v, p ∈ hs) {d : D} (e : view x ρ = some d) : ∃ o, (v, (o, d)) ∈ slotsL σ ρ ++ hs := by
  cases x with
  | v o d' =>
    have e' : d' = d := Option.some.inj e
    subst e'
    exact ⟨o, List.mem_append_right _ (hm _ (List.mem_singleton.mpr rfl))⟩
  | b i =>
    have e' : (gt ρ i).map (·.2) = some d := e
    cases q : gt ρ i with
    | none => rw [q] at e'; cases e'
    | some t =>
      rw [q] at e'
      have e2 : t.2 = d := Option.some.inj e'
      subst e2
      exact ⟨t.1, List.mem_append_left _ (slots_mem h q)⟩
theorem fin_bind {k : XV → Env → R XV} {r : R XV} {Q : VK} (A : List VT) (h : fin K W hs σ (r.bind k) Q) :
    fin K W (A ++ hs) σ r (fun v H1 => ∃ x ρ1, ResV σ x v ∧ Stt K (hld x v ++ (A ++ hs)) σ H1 ρ1 ∧ fin K W hs σ (k x ρ1) Q) := by
  cases r with
  | ok x ρ => exact fun v H1 hv s => ⟨x, ρ, hv, s, h⟩
  | exc c ρ => exact fun H1 s => h H1 s.dropA
  | bad => exact h
theorem fin_bind0 {k : XV → Env → R XV} {r : R XV} {Q : VK} (h : fin K W hs σ (r.bind k) Q) :
    fin K W hs σ r (fun v H1 => ∃ x ρ1, ResV σ x v ∧ Stt K (hld x v ++ hs) σ H1 ρ1 ∧ fin K W hs σ (k x ρ1) Q) := fin_bind [] h
theorem fin_mono {r : R XV} {Q Q' : VK} (h : fin K W hs σ r Q) (m : ∀ v H, Q v H → Q' v H) : fin K W hs σ r Q' := by
  cases r with
  | ok x ρ => exact fun v H1 hv s => m _ _ (h v H1 hv s)
  | exc c ρ => exact h
  | bad => exact h
end

theorem PE.weak {X : Cx} {e : Expr} {t t' : TE} (h : PE X e t) (w : ∀ σ H Q, t' σ H Q → t σ H Q) : PE X e t' := ⟨fun pins s σ H Q I q => h.run pins s σ H Q I (w σ H Q q)⟩

def sVar (i : Nat) (ρ : Env) : R XV := match gt ρ i with
  | some (true, _) => .ok (.b i) ρ
  | some (false, d) => .ok (.v false d) ρ
  | none => .bad
def sC (d : D) (ρ : Env) : R XV := .ok (.v false d) ρ

section
variable {X : Cx} {W : WX}
theorem se_var {i : Nat} {x : Str} {pos : Pos} (hN : X.N[i]? = some x) (hv : Vis X.env.scope x) (hd : (x == ("__debug__" : Str)) = false) (hcd : (x == ("__classdict__" : Str)) = false) : SE X W (.Name x pos) (sVar i) := by
  refine PE.weak (pe_var hN hv hd hcd) fun σ H Q h => ?_
  obtain ⟨ρ, hs, s, f⟩ := h
  unfold sVar at f
  cases e : gt ρ i with
  | none => rw [e] at f; exact f.elim
  | some t =>
    obtain ⟨o, d⟩ := t
    rw [e] at f
    obtain ⟨v, hv⟩ := s.ok.slot e
    refine ⟨v, hv, ?_⟩
    cases o with
    | true => exact f v H hv s
    | false =>
      refine f v H trivial ⟨s.ok, ?_⟩
      have q := s.sep.dup (v := v) (d := d) (List.mem_append_left _ (slots_mem hv e))
      exact q.perm List.perm_middle.symm
theorem fin_c {K : PySem.W.Frag} {hs : List VT} {σ : Sg} {H : Hp} {ρ : Env} {Q : VK} {v : V} {d : D} (s : Stt K hs σ H ρ) (r : ∀ av, Rep K H av v d) (f : fin K W hs σ (sC d ρ) Q) : Q v H := by
  refine f v H trivial ⟨s.ok, ?_⟩
  obtain ⟨ws, q⟩ := s.sep
  exact Sep.perm List.perm_middle.symm ⟨ws, q.pure (r _)⟩
theorem se_cst {e : Expr} {v : V} {d : D} (h : PE X e (tC v)) (r : ∀ H av, Rep X.K H av v d) : SE X W e (sC d) :=
  PE.weak h fun σ H Q ⟨ρ, hs, s, f⟩ => fin_c s (r H) f
theorem se_int {i j pos} : SE X W (.Constant (.int i) j pos) (sC (.int i)) := se_cst pe_int fun _ _ => .int i
theorem se_bl {i j pos} : SE X W (.Constant (.bool i) j pos) (sC (.bl i)) := se_cst pe_bl fun _ _ => .bl i
theorem se_non {j pos} : SE X W (.Constant .none j pos) (sC .non) := se_cst pe_non fun _ _ => .non
theorem se_str {x j pos} : SE X W (.Constant (.str x) j pos) (sC (.str x)) := se_cst pe_str fun _ _ => .str x
end

def rOp (K : PySem.W.Frag) (f : D → D → Option T) : R2 := fun x y H Q => ∃ L d e o o' t, Sep K H L ∧ (x, (o, d)) ∈ L ∧ (y, (o', e)) ∈ L ∧ f d e = some t ∧ ∀ w H', Sep K H' ((w, t) :: L) → Q w H'
def rUnD (K : PySem.W.Frag) (f : D → Option T) : V → Hp → VK → Prop := fun x H Q => ∃ L d o t, Sep K H L ∧ (x, (o, d)) ∈ L ∧ f d = some t ∧ ∀ w H', Sep K H' ((w, t) :: L) → Q w H'
def op2 (f : D → D → Option T) (x y : XV) (ρ : Env) : R XV := match view x ρ, view y ρ with
  | some d, some e => (match f d e with
    | some t => .ok (.v t.1 t.2) ρ
    | none => .bad)
  | _, _ => .bad
def op1 (f : D → Option T) (x : XV) (ρ : Env) : R XV := match view x ρ with
  | some d => (match f d with
    | some t => .ok (.v t.1 t.2) ρ
    | none => .bad)
  | _ => .bad
def sBin (f : D → D → Option T) (a b : Env → R XV) (ρ : Env) : R XV := (a ρ).bind fun x ρ => (b ρ).bind fun y ρ => op2 f x y ρ
def sUn (f : D → Option T) (a : Env → R XV) (ρ : Env) : R XV := (a ρ).bind fun x ρ => op1 f x ρ

section
variable {K : PySem.W.Frag} {W : WX} {hs A : List VT} {σ : Sg} {H : Hp} {ρ : Env} {x y : XV} {v u : V} {Q : VK}
/-- what the answer leaves -/
theorem Stt.done {t : T} {w : V} {H' : Hp} (s : Stt K (A ++ hs) σ H ρ) (q : Sep K H' ((w, t) :: (slotsL σ ρ ++ (A ++ hs)))) : Stt K (hld (.v t.1 t.2) w ++ hs) σ H' ρ := by
  refine ⟨s.ok, ?_⟩
  have p : ((w, t) :: (slotsL σ ρ ++ (A ++ hs))).Perm (slotsL σ ρ ++ ((w, t) :: (A ++ hs))) := List.perm_middle.symm
  have q1 := q.perm p
  have e : slotsL σ ρ ++ ((w, t) :: (A ++ hs)) = (slotsL σ ρ ++ [(w, t)]) ++ (A ++ hs) := by simp
  rw [e] at q1
  have q2 := q1.drop_mid
  rw [List.append_assoc] at q2
  exact q2
theorem op2_ok {f : D → D → Option T} (s : Stt K (A ++ hs) σ H ρ) (hx : ResV σ x v) (hy : ResV σ y u) (mx : ∀ p ∈ hld x v, p ∈ A ++ hs) (my : ∀ p ∈ hld y u, p ∈ A ++ hs)
    (h : fin K W hs σ (op2 f x y ρ) Q) : rOp K f v u H Q := by
  unfold op2 at h
  cases ex : view x ρ with
  | none => rw [ex] at h; exact h.elim
  | some d =>
    cases ey : view y ρ with
    | none => rw [ex, ey] at h; exact h.elim
    | some e =>
      rw [ex, ey] at h
      dsimp only at h
      cases ef : f d e with
      | none => rw [ef] at h; exact h.elim
      | some t =>
        rw [ef] at h
        obtain ⟨o, m1⟩ := s.mem hx mx ex
        obtain ⟨o', m2⟩ := s.mem hy my ey
        exact ⟨_, d, e, o, o', t, s.sep, m1, m2, ef, fun w H' q => h w H' trivial (s.done q)⟩
theorem op1_ok {f : D → Option T} (s : Stt K (A ++ hs) σ H ρ) (hx : ResV σ x v) (mx : ∀ p ∈ hld x v, p ∈ A ++ hs) (h : fin K W hs σ (op1 f x ρ) Q) : rUnD K f v H Q := by
  unfold op1 at h
  cases ex : view x ρ with
  | none => rw [ex] at h; exact h.elim
  | some d =>
    rw [ex] at h
    dsimp only at h
    cases ef : f d with
    | none => rw [ef] at h; exact h.elim
    | some t =>
      rw [ef] at h
      obtain ⟨o, m1⟩ := s.mem hx mx ex
      exact ⟨_, d, o, t, s.sep, m1, ef, fun w H' q => h w H' trivial (s.done q)⟩
end
section
variable {X : Cx} {W : WX} {a b : Expr} {fa fb : Env → R XV} {pos : Pos}
theorem tOp_of {f : D → D → Option T} {σ : Sg} {H : Hp} {Q : VK} (h : tE X.K W (sBin f fa fb) σ H Q) : tOp (rOp X.K f) (tE X.K W fa) (tE X.K W fb) σ H Q := by
  obtain ⟨ρ, hs, s, h⟩ := h
  refine ⟨ρ, hs, s, fin_mono (fin_bind0 h) fun v H1 ⟨x, ρ1, hx, s1, h1⟩ => ?_⟩
  refine ⟨ρ1, hld x v ++ hs, s1, fin_mono (fin_bind (hld x v) h1) fun u H2 ⟨y, ρ2, hy, s2, h2⟩ => ?_⟩
  rw [← List.append_assoc] at s2
  exact op2_ok s2 hx hy (fun p hp => by simp [hp]) (fun p hp => by simp [hp]) h2
theorem se_bin {op : Operator} {f : D → D → Option T} (ho : OpR X (binaryOp op) (rOp X.K f)) (ha : SE X W a fa) (hb : SE X W b fb) : SE X W (.BinOp a op b pos) (sBin f fa fb) :=
  PE.weak (pe_op ho ha hb) fun _ _ _ => tOp_of
theorem se_cmp {op : CmpOp} {f : D → D → Option T} (ho : OpR X (compareOp op) (rOp X.K f)) (ha : SE X W a fa) (hb : SE X W b fb) (hm : behindInMarks op b = false) : SE X W (.Compare a [op] [b] pos) (sBin f fa fb) :=
  PE.weak (pe_cmpR ho ha hb hm) fun _ _ _ => tOp_of
theorem se_ix {f : D → D → Option T} (ho : IxR X (rOp X.K f)) (ha : SE X W a fa) (hb : SE X W b fb) (hs : PlainIx b) : SE X W (.Subscript a b pos) (sBin f fa fb) :=
  PE.weak (pe_ix ho ha hb hs) fun _ _ _ => tOp_of
theorem se_un {op : UnaryOp} {f : D → Option T} (ho : UnR X (unaryOp op) (rUnD X.K f)) (ha : SE X W a fa) : SE X W (.UnaryOp op a pos) (sUn f fa) := by
  refine PE.weak (pe_un ho ha) fun σ H Q h => ?_
  obtain ⟨ρ, hs, s, h⟩ := h
  refine ⟨ρ, hs, s, fin_mono (fin_bind0 h) fun v H1 ⟨x, ρ1, hx, s1, h1⟩ => ?_⟩
  exact op1_ok s1 hx (fun p hp => by simp [hp]) h1
end
end Lz
namespace Lz
open PySem PySem.Spec PyProof.Rows L2

theorem Stt.perm {K : PySem.W.Frag} {hs hs' : List VT} {σ : Sg} {H : Hp} {ρ : Env} (s : Stt K hs σ H ρ) (p : hs.Perm hs') : Stt K hs' σ H ρ := ⟨s.ok, s.sep.perm (p.append_left _)⟩

def finB (K : PySem.W.Frag) (W : WX) (hs : List VT) (σ : Sg) (r : R Bool) (Q : Bool → Hp → Prop) : Prop := match r with
  | .ok c ρ => ∀ H, Stt K hs σ H ρ → Q c H
  | .exc c ρ => ∀ H, Stt K hs σ H ρ → W (.ref (He.ga K c)) none σ H
  | .bad => False
def tT (K : PySem.W.Frag) (W : WX) (g : Env → R Bool) : TT := fun σ H Q => ∃ ρ hs, Stt K hs σ H ρ ∧ finB K W hs σ (g ρ) Q
def SB (X : Cx) (W : WX) (e : Expr) (g : Env → R Bool) : Prop := PT X e (tT X.K W g)
def SW (X : Cx) (W : WX) (e : Expr) (g : Env → R Bool) : Prop := PW X e (tT X.K W g)
def asB (x : XV) (ρ : Env) : R Bool := match view x ρ with
  | some (.bl c) => .ok c ρ
  | _ => .bad
def sB (f : Env → R XV) (ρ : Env) : R Bool := (f ρ).bind asB
def bAnd (f g : Env → R Bool) (ρ : Env) : R Bool := (f ρ).bind fun c ρ => if c = true then g ρ else .ok false ρ
def bOr (f g : Env → R Bool) (ρ : Env) : R Bool := (f ρ).bind fun c ρ => if c = true then .ok true ρ else g ρ
def bNot (f : Env → R Bool) (ρ : Env) : R Bool := (f ρ).bind fun c ρ => .ok (!c) ρ
def sOfB (f : Env → R Bool) (ρ : Env) : R XV := (f ρ).bind fun c ρ => .ok (.v false (.bl c)) ρ
def sAnd (f : Env → R Bool) (g : Env → R XV) (ρ : Env) : R XV := (f ρ).bind fun c ρ => if c = true then g ρ else .ok (.v false (.bl false)) ρ
def sOr (f : Env → R Bool) (g : Env → R XV) (ρ : Env) : R XV := (f ρ).bind fun c ρ => if c = true then .ok (.v false (.bl true)) ρ else g ρ

section
variable {K : PySem.W.Frag} {W : WX} {hs : List VT} {σ : Sg} {H : Hp} {ρ : Env} {x : XV} {v : V}
theorem PT.weak {X : Cx} {e : Expr} {t t' : TT} (h : PT X e t) (w : ∀ σ H Q, t' σ H Q → t σ H Q) : PT X e t' := ⟨fun pins s σ H Q I q => h.run pins s σ H Q I (w σ H Q q)⟩
theorem PW.weak {X : Cx} {e : Expr} {t t' : TT} (h : PW X e t) (w : ∀ σ H Q, t' σ H Q → t σ H Q) : PW X e t' := ⟨fun wh pins s σ H Q I q => h.run wh pins s σ H Q I (w σ H Q q)⟩
theorem asB_ok {Q : Bool → Hp → Prop} (s : Stt K (hld x v ++ hs) σ H ρ) (hx : ResV σ x v) (h : finB K W hs σ (asB x ρ) Q) : ∃ c, v = .bl c ∧ Q c H := by
  unfold asB at h
  cases ex : view x ρ with
  | none => rw [ex] at h; exact h.elim
  | some d =>
    rw [ex] at h
    cases d <;> first | exact h.elim | skip
    rename_i c
    obtain ⟨o, m⟩ := s.mem hx (fun p hp => by simp [hp]) ex
    obtain ⟨ws, q⟩ := s.sep
    exact ⟨c, q.bl m, h H s.dropA⟩
/-- an R of one kind bound to an R of another -/
theorem finB_bindE {r : R XV} {k : XV → Env → R Bool} {Q : Bool → Hp → Prop} (h : finB K W hs σ (r.bind k) Q) :
    fin K W hs σ r (fun v H1 => ∃ x ρ1, ResV σ x v ∧ Stt K (hld x v ++ hs) σ H1 ρ1 ∧ finB K W hs σ (k x ρ1) Q) := by
  cases r with
  | ok x ρ => exact fun v H1 hv s => ⟨x, ρ, hv, s, h⟩
  | exc c ρ => exact h
  | bad => exact h
theorem finB_bindB {r : R Bool} {k : Bool → Env → R Bool} {Q : Bool → Hp → Prop} (h : finB K W hs σ (r.bind k) Q) :
    finB K W hs σ r (fun c H1 => ∃ ρ1, Stt K hs σ H1 ρ1 ∧ finB K W hs σ (k c ρ1) Q) := by
  cases r with
  | ok c ρ => exact fun H1 s => ⟨ρ, s, h⟩
  | exc c ρ => exact h
  | bad => exact h
end
section
variable {X : Cx} {W : WX} {a b : Expr} {fa fb : Env → R XV} {ga gb : Env → R Bool} {pos : Pos} {rest : List Expr}
theorem sb_val {e : Expr} (h : SE X W e fa) (he : ∀ whole, isTrue e X.env whole = (do let v ← whole; standAt e.pos; holding [v] (truthy v))) : SB X W e (sB fa) := by
  refine PT.weak (pt_val h he) fun σ H Q h => ?_
  obtain ⟨ρ, hs, s, h⟩ := h
  exact ⟨ρ, hs, s, fin_mono (finB_bindE h) fun v H1 ⟨x, ρ1, hx, s1, h1⟩ => asB_ok s1 hx h1⟩
theorem sb_cmp {op : CmpOp} {f : D → D → Option T} (ho : OpR X (compareOp op) (rOp X.K f)) (ha : SE X W a fa) (hb : SE X W b fb) (hm : behindInMarks op b = false) : SB X W (.Compare a [op] [b] pos) (sB (sBin f fa fb)) := by
  refine PT.weak (pt_cmpR ho ha hb hm) fun σ H Q h => ?_
  obtain ⟨ρ, hs, s, h⟩ := h
  refine tOp_of (f := f) (Q := fun x H' => ∃ k, x = V.bl k ∧ Q k H') ⟨ρ, hs, s, ?_⟩
  exact fin_mono (finB_bindE h) fun v H1 ⟨x, ρ1, hx, s1, h1⟩ => asB_ok s1 hx h1
theorem sw_and1 (ha : SB X W a ga) : SW X W (.BoolOp .And [a] pos) ga := pw_and1 ha
theorem sw_or1 (ha : SB X W a ga) : SW X W (.BoolOp .Or [a] pos) ga := pw_or1 ha
theorem sw_and (ha : SB X W a ga) (hb : SW X W (.BoolOp .And (b :: rest) pos) gb) : SW X W (.BoolOp .And (a :: b :: rest) pos) (bAnd ga gb) := by
  refine PW.weak (pw_and ha hb) fun σ H Q h => ?_
  obtain ⟨ρ, hs, s, h⟩ := h
  refine ⟨ρ, hs, s, ?_⟩
  have h2 := finB_bindB h
  revert h2
  cases ga ρ with
  | ok c ρ1 =>
    intro h2 H1 s1
    obtain ⟨ρ2, s2, h3⟩ := h2 H1 s1
    cases c with
    | true => exact iteT ⟨ρ2, hs, s2, h3⟩
    | false => exact iteF (h3 H1 s2)
  | exc c ρ1 => exact id
  | bad => exact id
theorem sw_or (ha : SB X W a ga) (hb : SW X W (.BoolOp .Or (b :: rest) pos) gb) : SW X W (.BoolOp .Or (a :: b :: rest) pos) (bOr ga gb) := by
  refine PW.weak (pw_or ha hb) fun σ H Q h => ?_
  obtain ⟨ρ, hs, s, h⟩ := h
  refine ⟨ρ, hs, s, ?_⟩
  have h2 := finB_bindB h
  revert h2
  cases ga ρ with
  | ok c ρ1 =>
    intro h2 H1 s1
    obtain ⟨ρ2, s2, h3⟩ := h2 H1 s1
    cases c with
    | true => exact iteT (h3 H1 s2)
    | false => exact iteF ⟨ρ2, hs, s2, h3⟩
  | exc c ρ1 => exact id
  | bad => exact id
theorem SW.sb {e : Expr} (h : SW X W e ga) : SB X W e ga := PW.pt h
theorem sb_not (ha : SB X W a ga) : SB X W (.UnaryOp .Not a pos) (bNot ga) := by
  refine PT.weak (pt_not ha) fun σ H Q h => ?_
  obtain ⟨ρ, hs, s, h⟩ := h
  refine ⟨ρ, hs, s, ?_⟩
  have h2 := finB_bindB h
  revert h2
  cases ga ρ with
  | ok c ρ1 =>
    intro h2 H1 s1
    obtain ⟨ρ2, s2, h3⟩ := h2 H1 s1
    exact h3 H1 s2
  | exc c ρ1 => exact id
  | bad => exact id
theorem fin_bl {K : PySem.W.Frag} {hs : List VT} {σ : Sg} {H : Hp} {ρ : Env} {Q : VK} {c : Bool} (s : Stt K hs σ H ρ) (f : fin K W hs σ (.ok (.v false (.bl c)) ρ) Q) : Q (.bl c) H := fin_c (d := .bl c) s (fun _ => .bl c) f
/-- the value of an expression that is a bool -/
theorem tB_of {σ : Sg} {H : Hp} {Q : VK} {k : Bool → Env → R XV} {R' : Bool → Hp → Prop} (h : ∃ ρ hs, Stt X.K hs σ H ρ ∧ fin X.K W hs σ ((sB fa ρ).bind k) Q)
    (n : ∀ c H1 ρ1 hs, Stt X.K hs σ H1 ρ1 → fin X.K W hs σ (k c ρ1) Q → R' c H1) : tE X.K W fa σ H (fun x H1 => ∃ c, x = .bl c ∧ R' c H1) := by
  obtain ⟨ρ, hs, s, h⟩ := h
  refine ⟨ρ, hs, s, ?_⟩
  unfold sB at h
  cases e : fa ρ with
  | ok x ρ1 =>
    rw [e] at h
    intro v H1 hx s1
    have h' : fin X.K W hs σ ((asB x ρ1).bind k) Q := h
    unfold asB at h'
    cases ex : view x ρ1 with
    | none => rw [ex] at h'; exact h'.elim
    | some d =>
      rw [ex] at h'
      cases d <;> first | exact h'.elim | skip
      rename_i c
      obtain ⟨o, m⟩ := s1.mem hx (fun p hp => by simp [hp]) ex
      obtain ⟨ws, q⟩ := s1.sep
      exact ⟨c, q.bl m, n c H1 ρ1 hs s1.dropA h'⟩
  | exc c ρ1 => rw [e] at h; exact h
  | bad => rw [e] at h; exact h
theorem se_one {op} (h : SE X W a fa) : SE X W (.BoolOp op [a] pos) fa := pe_one h
theorem se_and (ha : SE X W a fa) (hb : SE X W (.BoolOp .And (b :: rest) pos) fb) : SE X W (.BoolOp .And (a :: b :: rest) pos) (sAnd (sB fa) fb) := by
  refine PE.weak (pe_and ha hb) fun σ H Q h => ?_
  refine tB_of (k := fun c ρ => if c = true then fb ρ else .ok (.v false (.bl false)) ρ) h fun c H1 ρ1 hs s1 h1 => ?_
  cases c with
  | true => exact iteT ⟨ρ1, hs, s1, h1⟩
  | false => exact iteF (fin_bl s1 h1)
/-- a <= b <= c (any two comparisons) -/
def sChain (f f' : D → D → Option T) (fa fb fc : Env → R XV) (ρ : Env) : R XV :=
  (fa ρ).bind fun x ρ => (fb ρ).bind fun y ρ => match view x ρ, view y ρ with
    | some d, some e => (match f d e with
      | some (_, .bl true) => (fc ρ).bind fun z ρ => op2 f' y z ρ
      | some (_, .bl false) => .ok (.v false (.bl false)) ρ
      | _ => .bad)
    | _, _ => .bad
end

def ResVs (σ : Sg) : List XV → List V → Prop
  | [], [] => True
  | x :: xs, v :: vs => ResV σ x v ∧ ResVs σ xs vs
  | _, _ => False
def hlds : List XV → List V → List VT
  | x :: xs, v :: vs => hld x v ++ hlds xs vs
  | _, _ => []
def finA (K : PySem.W.Frag) (W : WX) (hs : List VT) (σ : Sg) (r : R (List XV)) (Q : List V → Hp → Prop) : Prop := match r with
  | .ok xs ρ => ∀ vs H, ResVs σ xs vs → Stt K (hlds xs vs ++ hs) σ H ρ → Q vs H
  | .exc c ρ => ∀ H, Stt K hs σ H ρ → W (.ref (He.ga K c)) none σ H
  | .bad => False
def tA (K : PySem.W.Frag) (W : WX) (f : Env → R (List XV)) : TA := fun σ H Q => ∃ ρ hs, Stt K hs σ H ρ ∧ finA K W hs σ (f ρ) Q
def SA (X : Cx) (W : WX) (es : List Expr) (f : Env → R (List XV)) : Prop := PA X es (tA X.K W f)
def sNil (ρ : Env) : R (List XV) := .ok [] ρ
def sCons (f : Env → R XV) (g : Env → R (List XV)) (ρ : Env) : R (List XV) := (f ρ).bind fun x ρ => (g ρ).bind fun xs ρ => .ok (x :: xs) ρ
theorem PA.weak {X : Cx} {es : List Expr} {t t' : TA} (h : PA X es t) (w : ∀ σ H Q, t' σ H Q → t σ H Q) : PA X es t' := ⟨fun pos pins s σ H Q I q => h.run pos pins s σ H Q I (w σ H Q q)⟩
section
variable {K : PySem.W.Frag} {W : WX} {hs : List VT} {σ : Sg} {H : Hp} {ρ : Env}
theorem fin_bindA {k : List XV → Env → R XV} {r : R (List XV)} {Q : VK} (A : List VT) (h : fin K W hs σ (r.bind k) Q) :
    finA K W (A ++ hs) σ r (fun vs H1 => ∃ xs ρ1, ResVs σ xs vs ∧ Stt K (hlds xs vs ++ (A ++ hs)) σ H1 ρ1 ∧ fin K W hs σ (k xs ρ1) Q) := by
  cases r with
  | ok x ρ => exact fun v H1 hv s => ⟨x, ρ, hv, s, h⟩
  | exc c ρ => exact fun H1 s => h H1 s.dropA
  | bad => exact h
theorem fin_bindA0 {k : List XV → Env → R XV} {r : R (List XV)} {Q : VK} (h : fin K W hs σ (r.bind k) Q) :
    finA K W hs σ r (fun vs H1 => ∃ xs ρ1, ResVs σ xs vs ∧ Stt K (hlds xs vs ++ hs) σ H1 ρ1 ∧ fin K W hs σ (k xs ρ1) Q) := fin_bindA [] h
theorem finA_mono {r : R (List XV)} {Q Q' : List V → Hp → Prop} (h : finA K W hs σ r Q) (m : ∀ v H, Q v H → Q' v H) : finA K W hs σ r Q' := by
  cases r with
  | ok x ρ => exact fun v H hv s => m _ _ (h v H hv s)
  | exc c ρ => exact h
  | bad => exact h
theorem sa_nil {X : Cx} : SA X W [] sNil := by
  refine PA.weak pa_nil fun σ H Q h => ?_
  obtain ⟨ρ, hs, s, h⟩ := h
  exact h [] H trivial s
theorem sa_cons {X : Cx} {e : Expr} {es : List Expr} {f : Env → R XV} {g : Env → R (List XV)} (ha : SE X W e f) (hr : SA X W es g) (hst : starEach (e :: es) X.env = (false, eval e X.env) :: starEach es X.env) : SA X W (e :: es) (sCons f g) := by
  refine PA.weak (pa_cons ha hr hst) fun σ H Q h => ?_
  obtain ⟨ρ, hs, s, h⟩ := h
  refine ⟨ρ, hs, s, ?_⟩
  unfold sCons at h
  cases e1 : f ρ with
  | ok x ρ1 =>
    rw [e1] at h
    intro v H1 hx s1
    have h' : finA X.K W hs σ ((g ρ1).bind fun xs ρ => .ok (x :: xs) ρ) Q := h
    refine ⟨ρ1, hld x v ++ hs, s1, ?_⟩
    cases e2 : g ρ1 with
    | ok xs ρ2 =>
      rw [e2] at h'
      intro vs H2 hxs s2
      refine h' (v :: vs) H2 ⟨hx, hxs⟩ (s2.perm ?_)
      show (hlds xs vs ++ (hld x v ++ hs)).Perm ((hld x v ++ hlds xs vs) ++ hs)
      rw [List.append_assoc, ← List.append_assoc, ← List.append_assoc]
      exact List.perm_append_comm.append_right _
    | exc c ρ2 => rw [e2] at h'; exact fun H2 s2 => h' H2 s2.dropA
    | bad => rw [e2] at h'; exact h'
  | exc c ρ1 => rw [e1] at h; exact h
  | bad => rw [e1] at h; exact h
end

def frz (x : XV) (ρ : Env) : R D := match x with
  | .v _ d => .ok d ρ
  | .b i => (match gt ρ i with
    | some t => .ok t.2 (pt ρ i (some (false, t.2)))
    | none => .bad)
def frzs : List XV → Env → R (List D)
  | [], ρ => .ok [] ρ
  | x :: xs, ρ => (frz x ρ).bind fun d ρ => (frzs xs ρ).bind fun ds ρ => .ok (d :: ds) ρ
def prs : List V → List D → List VT
  | v :: vs, d :: ds => (v, (false, d)) :: prs vs ds
  | _, _ => []
section
variable {K : PySem.W.Frag} {W : WX} {hs : List VT} {σ : Sg} {H : Hp} {ρ ρ' : Env}
theorem frz_ok {x : XV} {v : V} {d : D} (s : Stt K (hld x v ++ hs) σ H ρ) (hx : ResV σ x v) (e : frz x ρ = .ok d ρ') : Stt K ((v, (false, d)) :: hs) σ H ρ' := by
  cases x with
  | v o d' =>
    cases e
    refine ⟨s.ok, ?_⟩
    have q : Sep K H ((v, (o, d)) :: (slotsL σ ρ ++ hs)) := s.sep.perm List.perm_middle
    exact q.freeze.perm List.perm_middle.symm
  | b i =>
    unfold frz at e
    dsimp only at e
    cases q : gt ρ i with
    | none => rw [q] at e; cases e
    | some t =>
      rw [q] at e
      obtain ⟨o, dd⟩ := t
      obtain ⟨rfl, rfl⟩ : dd = d ∧ pt ρ i (some (false, dd)) = ρ' := by
        injection e with e1 e2
        exact ⟨e1, e2⟩
      have hi : i < ρ.length := gt_lt q
      have hx' : σ[i]? = some (some v) := hx
      have p := slots_take hx' q
      have p2 := slots_keep (t := (false, dd)) hx' hi
      have q1 : Sep K H ((v, (o, dd)) :: (slotsL σ (pt ρ i none) ++ hs)) := s.sep.perm (p.append_right hs)
      have q2 := q1.freeze
      have q3 := q2.dup (v := v) (d := dd) List.mem_cons_self
      refine ⟨s.ok.keep i hx', ?_⟩
      have p3 : ((v, (false, dd)) :: ((v, (false, dd)) :: (slotsL σ (pt ρ i none) ++ hs))).Perm (slotsL σ (pt ρ i (some (false, dd))) ++ ((v, (false, dd)) :: hs)) := by
        refine List.Perm.trans ?_ List.perm_middle.symm
        exact List.Perm.cons _ (p2.symm.append_right hs)
      exact q3.perm p3
theorem frzs_ok : ∀ {xs : List XV} {vs : List V} {ds : List D} {hs : List VT} {ρ ρ' : Env}, Stt K (hlds xs vs ++ hs) σ H ρ → ResVs σ xs vs → frzs xs ρ = .ok ds ρ' → Stt K (prs vs ds ++ hs) σ H ρ' ∧ vs.length = ds.length
  | [], [], ds, hs, ρ, ρ', s, _, e => by cases e; exact ⟨s, rfl⟩
  | [], _ :: _, _, _, _, _, _, h, _ => h.elim
  | _ :: _, [], _, _, _, _, _, h, _ => h.elim
  | x :: xs, v :: vs, ds, hs, ρ, ρ', s, h, e => by
    unfold frzs at e
    cases e1 : frz x ρ with
    | ok d ρ1 =>
      rw [e1] at e
      have e' : (frzs xs ρ1).bind (fun ds ρ => .ok (d :: ds) ρ) = .ok ds ρ' := e
      cases e2 : frzs xs ρ1 with
      | ok ds' ρ2 =>
        rw [e2] at e'
        cases e'
        have s' : Stt K (hld x v ++ (hlds xs vs ++ hs)) σ H ρ := by rw [← List.append_assoc]; exact s
        have s1 := frz_ok s' h.1 e1
        have s2 : Stt K (hlds xs vs ++ ((v, (false, d)) :: hs)) σ H ρ1 := s1.perm List.perm_middle.symm
        obtain ⟨s3, hl⟩ := frzs_ok s2 h.2 e2
        exact ⟨s3.perm List.perm_middle, by rw [List.length_cons, List.length_cons, hl]⟩
      | exc c ρ2 => rw [e2] at e'; cases e'
      | bad => rw [e2] at e'; cases e'
    | exc c ρ1 => rw [e1] at e; cases e
    | bad => rw [e1] at e; cases e
theorem prs_rep {L : List VT} {ws : List Addr} (s : SepW K H L ws) : ∀ {vs : List V} {ds : List D}, vs.length = ds.length → (∀ p ∈ prs vs ds, p ∈ L) → RepAll K H (· ∈ ws) vs ds
  | [], [], _, _ => .nil
  | [], _ :: _, h, _ => by cases h
  | _ :: _, [], h, _ => by cases h
  | v :: vs, d :: ds, h, m => .cons (s.rep (m _ List.mem_cons_self)) (prs_rep s (by simpa using h) fun p hp => m p (List.mem_cons_of_mem _ hp))
end
abbrev lim : Nat := 16777216
theorem lim_eq : lim = sizeLine := sizeLine_eq.symm
def sTup (f : Env → R (List XV)) (ρ : Env) : R XV := (f ρ).bind fun xs ρ => (frzs xs ρ).bind fun ds ρ => if ds.length ≤ lim then .ok (.v false (.tup ds)) ρ else .bad
def sLst (f : Env → R (List XV)) (ρ : Env) : R XV := (f ρ).bind fun xs ρ => (frzs xs ρ).bind fun ds ρ => if ds.length ≤ lim then .ok (.v true (.lst ds)) ρ else .bad
section
variable {X : Cx} {W : WX} {es : List Expr} {f : Env → R (List XV)} {pos : Pos}
theorem frzs_exc {K : PySem.W.Frag} : ∀ {xs : List XV} {ρ ρ' : Env} {c : Str}, frzs xs ρ ≠ .exc c ρ'
  | [], _, _, _, h => by cases h
  | x :: xs, ρ, ρ', c, h => by
    unfold frzs at h
    cases e1 : frz x ρ with
    | ok d ρ1 =>
      rw [e1] at h
      have h' : (frzs xs ρ1).bind (fun ds ρ => .ok (d :: ds) ρ) = .exc c ρ' := h
      cases e2 : frzs xs ρ1 with
      | ok ds' ρ2 => rw [e2] at h'; cases h'
      | exc c2 ρ2 => exact frzs_exc (K := K) e2
      | bad => rw [e2] at h'; cases h'
    | exc c ρ1 =>
      unfold frz at e1
      cases x with
      | v o d => cases e1
      | b i =>
        dsimp only at e1
        cases q : gt ρ i with
        | none => rw [q] at e1; cases e1
        | some t => rw [q] at e1; cases e1
    | bad => rw [e1] at h; cases h
/-- a tuple display: the new tuple is known to its object -/
theorem Inv.tupF {X : Cx} {pins : List (Addr × Obj)} {σ : Sg} {H : Hp} {s : Shared} {xs : List V} {its : List Value} {t' : Nat} (I : Inv X pins σ H s) (r : Vals xs its) (hz : xs.length ≤ sizeLine) :
    Inv X pins σ (upd H s.heap.objs.size (.frz { cls := .type "tuple", data := .seq its.toArray } (.tup xs))) { s with heap := s.heap.push { cls := .type "tuple", data := .seq its.toArray }, toks := t' } :=
  I.laid (fun _ _ e => Heap.get?_push_of_some _ e) (Nat.le_refl _) ⟨Heap.get?_push_size _ rfl, hz, its, r, IsTup.new _ _⟩
def rNewT (xs : List V) (H : Hp) (Q : VK) : Prop := ∀ (p : Addr) (o : Obj), H p = none → o.dict = none → Q (.ref p) (upd H p (.frz o (.tup xs)))
theorem rNewT.use {X : Cx} {pins : List (Addr × Obj)} {σ : Sg} {H : Hp} {s : Shared} {xs : List V} {its : List Value} {t' : Nat} {Q : VK} (q : rNewT xs H Q) (I : Inv X pins σ H s) (r : Vals xs its) (hz : xs.length ≤ sizeLine) :
    EP X pins σ Q (.ref s.heap.objs.size) { s with heap := s.heap.push { cls := .type "tuple", data := .seq its.toArray }, toks := t' } :=
  ⟨.ref s.heap.objs.size, _, Inv.tupF I r hz, rfl, q _ _ (I.hok.fresh (Nat.le_refl _)) rfl⟩
theorem rNewT.of {K : PySem.W.Frag} {L : List VT} {H : Hp} {Q : VK} {ws : List Addr} {vs : List V} {ds : List D} (s : SepW K H L ws) (r : RepAll K H (· ∈ ws) vs ds) (q : ∀ w H', Sep K H' ((w, (false, D.tup ds)) :: L) → Q w H') : rNewT vs H Q :=
  fun p o hp ho => q _ _ ⟨ws, s.newTup hp ho r⟩
theorem pe_tupF {k : Nat} {t : TA} (h : PA X es t) : PE X (.Tuple es k pos) (fun σ H Q => t σ H fun xs H1 => xs.length ≤ sizeLine ∧ rNewT xs H1 Q) := by
  refine ⟨fun pins s σ H Q I hq => wpAny_Tuple_spliced (thn (h.run pos pins s σ H _ I hq) fun us s1 hh => ?_)⟩
  obtain ⟨xs, H1, I1, r, z, q⟩ := hh
  exact ⟨by rw [← r.length]; exact z, q.use (t' := s1.toks) I1 r z⟩
theorem se_tup {k : Nat} (h : SA X W es f) : SE X W (.Tuple es k pos) (sTup f) := by
  refine PE.weak (pe_tupF h) fun σ H Q h => ?_
  obtain ⟨ρ, hs, s, h⟩ := h
  refine ⟨ρ, hs, s, finA_mono (fin_bindA0 h) fun vs H1 ⟨xs, ρ1, hx, s1, h1⟩ => ?_⟩
  cases e : frzs xs ρ1 with
  | exc c ρ2 => exact (frzs_exc (K := X.K) e).elim
  | bad => rw [e] at h1; exact h1.elim
  | ok ds ρ2 =>
    rw [e] at h1
    have h2 : fin X.K W hs σ (if ds.length ≤ lim then .ok (.v false (.tup ds)) ρ2 else .bad) Q := h1
    obtain ⟨s2, hl⟩ := frzs_ok s1 hx e
    by_cases hz : ds.length ≤ lim
    · rw [if_pos hz] at h2
      obtain ⟨ws, q⟩ := s2.sep
      exact ⟨by rw [hl]; exact hz, rNewT.of q (prs_rep q hl fun p hp => by simp [hp]) fun w H' q' => h2 w H' trivial (s2.done (t := (false, .tup ds)) q')⟩
    · rw [if_neg hz] at h2; exact h2.elim
theorem se_lst (h : SA X W es f) : SE X W (.List es pos) (sLst f) := by
  refine PE.weak (pe_lst h) fun σ H Q h => ?_
  obtain ⟨ρ, hs, s, h⟩ := h
  refine ⟨ρ, hs, s, finA_mono (fin_bindA0 h) fun vs H1 ⟨xs, ρ1, hx, s1, h1⟩ => ?_⟩
  cases e : frzs xs ρ1 with
  | exc c ρ2 => exact (frzs_exc (K := X.K) e).elim
  | bad => rw [e] at h1; exact h1.elim
  | ok ds ρ2 =>
    rw [e] at h1
    have h2 : fin X.K W hs σ (if ds.length ≤ lim then .ok (.v true (.lst ds)) ρ2 else .bad) Q := h1
    obtain ⟨s2, hl⟩ := frzs_ok s1 hx e
    by_cases hz : ds.length ≤ lim
    · rw [if_pos hz] at h2
      refine ⟨by rw [hl]; exact hz, fun p hp => ?_⟩
      obtain ⟨ws, q⟩ := s2.sep
      have r := prs_rep q hl fun p hp => by simp [hp]
      exact h2 _ _ trivial (s2.done (t := (true, .lst ds)) ⟨_, q.newLst hp r⟩)
    · rw [if_neg hz] at h2; exact h2.elim
end

def views : List XV → Env → Option (List D)
  | [], _ => some []
  | x :: xs, ρ => (view x ρ).bind fun d => (views xs ρ).map fun ds => d :: ds
abbrev Mems (L : List VT) : List V → List D → Prop := Paired fun v d => ∃ o, (v, (o, d)) ∈ L
def rCl (K : PySem.W.Frag) (cf : List D → Option T) : List V → Hp → VK → Prop := fun vs H Q => ∃ L ds t, Sep K H L ∧ Mems L vs ds ∧ cf ds = some t ∧ ∀ w H', Sep K H' ((w, t) :: L) → Q w H'
def opN (cf : List D → Option T) (xs : List XV) (ρ : Env) : R XV := match views xs ρ with
  | some ds => (match cf ds with
    | some t => .ok (.v t.1 t.2) ρ
    | none => .bad)
  | none => .bad
def sCl (cf : List D → Option T) (f : Env → R (List XV)) (ρ : Env) : R XV := (f ρ).bind (opN cf)
section
variable {K : PySem.W.Frag} {W : WX} {hs A : List VT} {σ : Sg} {H : Hp} {ρ : Env}
theorem views_mem {B : List VT} (s : Stt K B σ H ρ) : ∀ {xs : List XV} {vs : List V} {ds : List D}, ResVs σ xs vs → (∀ p ∈ hlds xs vs, p ∈ B) → views xs ρ = some ds → Mems (slotsL σ ρ ++ B) vs ds
  | [], [], _, _, _, e => by cases e; exact .nil
  | [], _ :: _, _, h, _, _ => h.elim
  | _ :: _, [], _, h, _, _ => h.elim
  | x :: xs, v :: vs, ds, h, m, e => by
    unfold views at e
    cases e1 : view x ρ with
    | none => rw [e1] at e; cases e
    | some d =>
      rw [e1] at e
      have e' : (views xs ρ).map (fun ds => d :: ds) = some ds := e
      cases e2 : views xs ρ with
      | none => rw [e2] at e'; cases e'
      | some ds' =>
        rw [e2] at e'
        cases e'
        exact .cons (s.mem h.1 (fun p hp => m p (List.mem_append_left _ hp)) e1) (views_mem s h.2 (fun p hp => m p (List.mem_append_right _ hp)) e2)
theorem opN_ok {cf : List D → Option T} {xs : List XV} {vs : List V} {Q : VK} (s : Stt K (A ++ hs) σ H ρ) (hx : ResVs σ xs vs) (m : ∀ p ∈ hlds xs vs, p ∈ A ++ hs) (h : fin K W hs σ (opN cf xs ρ) Q) : rCl K cf vs H Q := by
  unfold opN at h
  cases e : views xs ρ with
  | none => rw [e] at h; exact h.elim
  | some ds =>
    rw [e] at h
    dsimp only at h
    cases ef : cf ds with
    | none => rw [ef] at h; exact h.elim
    | some t =>
      rw [ef] at h
      exact ⟨_, ds, t, s.sep, views_mem s hx m e, ef, fun w H' q => h w H' trivial (s.done q)⟩
end
section
variable {X : Cx} {W : WX} {e : Expr} {es : List Expr} {f : Env → R (List XV)} {p pos : Pos} {x : Str}
theorem tCB_of {cf : List D → Option T} {σ : Sg} {H : Hp} {Q : VK} (h : tE X.K W (sCl cf f) σ H Q) : tCB (rCl X.K cf) (tA X.K W f) σ H Q := by
  obtain ⟨ρ, hs, s, h⟩ := h
  refine ⟨ρ, hs, s, finA_mono (fin_bindA0 h) fun vs H1 ⟨xs, ρ1, hx, s1, h1⟩ => ?_⟩
  exact opN_ok s1 hx (fun p hp => by simp [hp]) h1
theorem se_callB {id : String} {cf : List D → Option T} (hc : CallR X (.builtin id) (rCl X.K cf)) (hg : Gl X x) (hm : X.mg x = none) (hv : bootBuiltins x = some (.builtin id)) (ha : SA X W (e :: es) f) (hn : x ≠ "__name__") (hdb : (x == ("__debug__" : Str)) = false)
    (he : starEach (e :: es) X.env = (false, eval e X.env) :: starEach es X.env) (hpl : (backTo pos (starEach es X.env)).any (·.1) = false) : SE X W (.Call (.Name x p) (e :: es) [] pos) (sCl cf f) :=
  PE.weak (pe_callB hc hg hm hv ha hn hdb he hpl) fun _ _ _ => tCB_of
theorem se_callTy {T : String} {cf : List D → Option Lz.T} (hc : CallR X (.type T) (rCl X.K cf)) (hg : Gl X x) (hm : X.mg x = none) (hv : bootBuiltins x = some (.type T)) (ha : SA X W (e :: es) f) (hn : x ≠ "__name__") (hdb : (x == ("__debug__" : Str)) = false)
    (he : starEach (e :: es) X.env = (false, eval e X.env) :: starEach es X.env) (hpl : (backTo pos (starEach es X.env)).any (·.1) = false) : SE X W (.Call (.Name x p) (e :: es) [] pos) (sCl cf f) :=
  PE.weak (pe_callTy hc hg hm hv ha hn hdb he hpl) fun _ _ _ => tCB_of
end

def sOpt (f : Option (Env → R XV)) (ρ : Env) : R (Option Int) := match f with
  | none => .ok none ρ
  | some f => (f ρ).bind fun x ρ => match view x ρ with
    | some (.int i) => .ok (some i) ρ
    | _ => .bad
def finO (K : PySem.W.Frag) (W : WX) (hs : List VT) (σ : Sg) (r : R (Option Int)) (Q : Option Int → Hp → Prop) : Prop := match r with
  | .ok c ρ => ∀ H, Stt K hs σ H ρ → Q c H
  | .exc c ρ => ∀ H, Stt K hs σ H ρ → W (.ref (He.ga K c)) none σ H
  | .bad => False
def tO (K : PySem.W.Frag) (W : WX) (g : Env → R (Option Int)) : TO := fun σ H Q => ∃ ρ hs, Stt K hs σ H ρ ∧ finO K W hs σ (g ρ) Q
def SO (X : Cx) (W : WX) (e : Option Expr) (g : Env → R (Option Int)) : Prop := PO X e (tO X.K W g)
theorem PO.weak {X : Cx} {e : Option Expr} {t t' : TO} (h : PO X e t) (w : ∀ σ H Q, t' σ H Q → t σ H Q) : PO X e t' := ⟨fun pins s σ H Q I q => h.run pins s σ H Q I (w σ H Q q)⟩
def rSl (K : PySem.W.Frag) (f : D → Option Int → Option Int → Option T) : V → Option Int → Option Int → Hp → VK → Prop := fun x lo hi H Q => ∃ L d o t, Sep K H L ∧ (x, (o, d)) ∈ L ∧ f d lo hi = some t ∧ ∀ w H', Sep K H' ((w, t) :: L) → Q w H'
def sSl (f : D → Option Int → Option Int → Option T) (a : Env → R XV) (lo hi : Option (Env → R XV)) (ρ : Env) : R XV :=
  (a ρ).bind fun x ρ => (sOpt lo ρ).bind fun l ρ => (sOpt hi ρ).bind fun h ρ => op1 (fun d => f d l h) x ρ
section
variable {K : PySem.W.Frag} {W : WX} {hs : List VT} {σ : Sg} {H : Hp} {ρ : Env}
theorem fin_bindO {k : Option Int → Env → R XV} {r : R (Option Int)} {Q : VK} (A : List VT) (h : fin K W hs σ (r.bind k) Q) :
    finO K W (A ++ hs) σ r (fun c H1 => ∃ ρ1, Stt K (A ++ hs) σ H1 ρ1 ∧ fin K W hs σ (k c ρ1) Q) := by
  cases r with
  | ok c ρ => exact fun H1 s => ⟨ρ, s, h⟩
  | exc c ρ => exact fun H1 s => h H1 s.dropA
  | bad => exact h
theorem so_none {X : Cx} : SO X W none (sOpt none) := PO.weak po_none fun σ H Q ⟨ρ, hs, s, h⟩ => h H s
theorem so_some {X : Cx} {e : Expr} {f : Env → R XV} (h : SE X W e f) : SO X W (some e) (sOpt (some f)) := by
  refine PO.weak (po_some h) fun σ H Q h => ?_
  obtain ⟨ρ, hs, s, h⟩ := h
  refine ⟨ρ, hs, s, ?_⟩
  unfold sOpt at h
  dsimp only at h
  cases e1 : f ρ with
  | ok x ρ1 =>
    rw [e1] at h
    intro v H1 hx s1
    have h' : finO X.K W hs σ (match view x ρ1 with | some (.int i) => .ok (some i) ρ1 | _ => .bad) Q := h
    cases ex : view x ρ1 with
    | none => rw [ex] at h'; exact h'.elim
    | some d =>
      rw [ex] at h'
      cases d <;> first | exact h'.elim | skip
      rename_i i
      obtain ⟨o, m⟩ := s1.mem hx (fun p hp => by simp [hp]) ex
      obtain ⟨ws, q⟩ := s1.sep
      exact ⟨i, q.int m, h' H1 s1.dropA⟩
  | exc c ρ1 => rw [e1] at h; exact h
  | bad => rw [e1] at h; exact h
theorem finO_mono {r : R (Option Int)} {Q Q' : Option Int → Hp → Prop} (h : finO K W hs σ r Q) (m : ∀ c H, Q c H → Q' c H) : finO K W hs σ r Q' := by
  cases r with
  | ok x ρ => exact fun H s => m _ _ (h H s)
  | exc c ρ => exact h
  | bad => exact h
theorem se_slice {X : Cx} {a : Expr} {lo hi : Option Expr} {p2 pos : Pos} {fa : Env → R XV} {fl fh : Option (Env → R XV)} {f : D → Option Int → Option Int → Option T} (hr : SlR X (rSl X.K f)) (ha : SE X W a fa) (hl : SO X W lo (sOpt fl)) (hh : SO X W hi (sOpt fh)) :
    SE X W (.Subscript a (.Slice lo hi none p2) pos) (sSl f fa fl fh) := by
  refine PE.weak (pe_slice hr ha hl hh) fun σ H Q h => ?_
  obtain ⟨ρ, hs, s, h⟩ := h
  refine ⟨ρ, hs, s, fin_mono (fin_bind0 h) fun v H1 ⟨x, ρ1, hx, s1, h1⟩ => ?_⟩
  refine ⟨ρ1, _, s1, finO_mono (fin_bindO (hld x v) h1) fun l H2 ⟨ρ2, s2, h2⟩ => ?_⟩
  refine ⟨ρ2, _, s2, finO_mono (fin_bindO (hld x v) h2) fun u H3 ⟨ρ3, s3, h3⟩ => ?_⟩
  exact op1_ok (f := fun d => f d l u) s3 hx (fun p hp => by simp [hp]) h3
end

def rMt (K : PySem.W.Frag) (mf : D → List D → Option T) : V → List V → Hp → VK → Prop := fun x vs H Q => ∃ L d o ds t, Sep K H L ∧ (x, (o, d)) ∈ L ∧ Mems L vs ds ∧ mf d ds = some t ∧ ∀ w H', Sep K H' ((w, t) :: L) → Q w H'
def isTy (ty : String) (d : D) : Bool := match d with
  | .lst _ => ty == "list"
  | .tup _ => ty == "tuple"
  | .str _ => ty == "str"
  | _ => false
def opM (mf : D → List D → Option T) (x : XV) (xs : List XV) (ρ : Env) : R XV := match view x ρ, views xs ρ with
  | some d, some ds => (match mf d ds with
    | some t => .ok (.v t.1 t.2) ρ
    | none => .bad)
  | _, _ => .bad
def sMt (ty : String) (mf : D → List D → Option T) (a : Env → R XV) (f : Env → R (List XV)) (ρ : Env) : R XV := (a ρ).bind fun x ρ => match view x ρ with
  | some d => if isTy ty d = true then (f ρ).bind fun xs ρ => opM mf x xs ρ else .bad
  | none => .bad
section
variable {K : PySem.W.Frag} {W : WX} {hs A : List VT} {σ : Sg} {H : Hp} {ρ : Env}
/-- the value is of that built-in type, and has no dict of its own -/
def tyW (K : PySem.W.Frag) (ty : String) (x : V) (H : Hp) : Prop := match x with
  | .str _ => ty = "str"
  | .ref p => (ty = "list" ∧ ∃ xs, H p = some (.lst xs)) ∨ (ty = "tuple" ∧ TupD K H p)
  | _ => False
theorem tyW_is {X : Cx} {pins : List (Addr × Obj)} {s : Shared} {ty : String} {x : V} {v : Value} (I : Inv X pins σ H s) (r : RelV x v) (h : tyW X.K ty x H) :
    s.TypeIs v ty ∧ ∀ a, v = .ref a → ∃ ob, s.heap.get? a = some ob ∧ ob.dict = none := by
  cases x with
  | str z =>
    obtain ⟨t, rfl⟩ := r
    have e : ty = "str" := h
    subst e
    exact ⟨typeIs_str s z t, fun a e => by cases e⟩
  | ref p =>
    cases r
    rcases h with ⟨rfl, xs, hp⟩ | ⟨rfl, ⟨o, vs, hp, hd⟩ | ⟨o, hk, hc, hd⟩⟩
    · obtain ⟨_, its, n, _, e⟩ := I.hok p _ hp
      exact ⟨⟨_, e, rfl⟩, fun a q => by cases q; exact ⟨_, e, rfl⟩⟩
    · obtain ⟨e, _, _, _, o', e', hc, _⟩ := I.hok p _ hp
      rw [e] at e'
      cases e'
      exact ⟨⟨_, e, hc⟩, fun a q => by cases q; exact ⟨_, e, hd⟩⟩
    · have e := I.kIn p o hk
      exact ⟨⟨_, e, hc⟩, fun a q => by cases q; exact ⟨_, e, hd⟩⟩
  | _ => exact False.elim h
theorem isTy_ok {L : List VT} {v : V} {o : Bool} {d : D} {ty : String} (s : Sep K H L) (m : (v, (o, d)) ∈ L) (h : isTy ty d = true) : tyW K ty v H := by
  obtain ⟨ws, q⟩ := s
  cases d with
  | lst ds =>
    obtain ⟨a, vs, rfl, h1, _⟩ := q.lst m
    exact .inl ⟨beq_iff_eq.mp h, _, h1⟩
  | tup ds =>
    obtain ⟨a, vs, rfl, h1, _, h2⟩ := q.tup m
    exact .inr ⟨beq_iff_eq.mp h, h2⟩
  | str z =>
    have e2 := q.str m
    subst e2
    exact beq_iff_eq.mp h
  | _ => cases h
theorem opM_ok {mf : D → List D → Option T} {x : XV} {v : V} {xs : List XV} {vs : List V} {Q : VK} (s : Stt K (A ++ hs) σ H ρ) (hx : ResV σ x v) (mx : ∀ p ∈ hld x v, p ∈ A ++ hs) (hxs : ResVs σ xs vs) (m : ∀ p ∈ hlds xs vs, p ∈ A ++ hs) (h : fin K W hs σ (opM mf x xs ρ) Q) : rMt K mf v vs H Q := by
  unfold opM at h
  cases e0 : view x ρ with
  | none => rw [e0] at h; exact h.elim
  | some d =>
    cases e : views xs ρ with
    | none => rw [e0, e] at h; exact h.elim
    | some ds =>
      rw [e0, e] at h
      dsimp only at h
      cases ef : mf d ds with
      | none => rw [ef] at h; exact h.elim
      | some t =>
        rw [ef] at h
        obtain ⟨o, m1⟩ := s.mem hx mx e0
        exact ⟨_, d, o, ds, t, s.sep, m1, views_mem s hxs m e, ef, fun w H' q => h w H' trivial (s.done q)⟩
end
section
variable {X : Cx} {W : WX} {o e : Expr} {es : List Expr} {fa : Env → R XV} {f : Env → R (List XV)} {name : Str} {apos cpos : Pos} {ty id : String} {mf : D → List D → Option T}
theorem pe_bmW {to : TE} {t : TA} {r : V → List V → Hp → VK → Prop} (pa : PlainAttrs ty) (slot : Slot ty name id) (hty : typeOf (.builtin id) = pure (.type "method_descriptor")) (hm : MtR X id r) (ho : PE X o to) (ha : PA X (e :: es) t)
    (hbase : attributeBase o name X.env (eval o X.env) = eval o X.env)
    (few : ((backTo cpos (starEach (e :: es) X.env)).all (fun x => !x.1) && (backToKw cpos (keywordEach [] X.env)).all (fun x => x.1.isSome) && decide ((e :: es).length + 0 + 0 < 30)) = true)
    (hline : (apos.endLine == cpos.line) = true) (hst : starEach (e :: es) X.env = (false, eval e X.env) :: starEach es X.env) (hpl : (backTo cpos (starEach es X.env)).any (·.1) = false) :
    PE X (.Call (.Attribute o name apos) (e :: es) [] cpos) (fun σ H Q => to σ H fun x H1 => tyW X.K ty x H1 ∧ t σ H1 fun xs H2 => r x xs H2 Q) := by
  refine ⟨fun pins s σ H Q I h => wpAny_Call_method_late hbase few hline rfl (thn (ho.run pins s σ H _ I h) fun v s1 hh => ?_)⟩
  obtain ⟨x, H1, I1, r1, tw, q1⟩ := hh
  obtain ⟨h1, h2⟩ := tyW_is I1 r1 tw
  have hA := ha.run cpos pins s1 σ H1 _ I1 q1
  rw [hst] at hA
  refine ⟨ty, id, pa, slot, hty, h1, h2, ?_⟩
  rw [hst]
  refine Calls.callWith_builtin ?_ (Calls.evalArgs_plain (thn hA fun us s2 hh => ?_))
  · show (false || (backTo cpos (starEach es X.env)).any (·.1)) = false
    rw [hpl]; rfl
  · obtain ⟨vs, H2, I2, r2, q2⟩ := hh
    exact hm pins s2 σ H2 x vs v us Q I2 r1 r2 q2
theorem se_bm (pa : PlainAttrs ty) (slot : Slot ty name id) (hty : typeOf (.builtin id) = pure (.type "method_descriptor")) (hm : MtR X id (rMt X.K mf)) (ho : SE X W o fa) (ha : SA X W (e :: es) f)
    (hbase : attributeBase o name X.env (eval o X.env) = eval o X.env)
    (few : ((backTo cpos (starEach (e :: es) X.env)).all (fun x => !x.1) && (backToKw cpos (keywordEach [] X.env)).all (fun x => x.1.isSome) && decide ((e :: es).length + 0 + 0 < 30)) = true)
    (hline : (apos.endLine == cpos.line) = true) (hst : starEach (e :: es) X.env = (false, eval e X.env) :: starEach es X.env) (hpl : (backTo cpos (starEach es X.env)).any (·.1) = false) :
    SE X W (.Call (.Attribute o name apos) (e :: es) [] cpos) (sMt ty mf fa f) := by
  refine PE.weak (pe_bmW pa slot hty hm ho ha hbase few hline hst hpl) fun σ H Q h => ?_
  obtain ⟨ρ, hs, s, h⟩ := h
  refine ⟨ρ, hs, s, fin_mono (fin_bind0 h) fun v H1 ⟨x, ρ1, hx, s1, h1⟩ => ?_⟩
  cases e0 : view x ρ1 with
  | none => rw [e0] at h1; exact h1.elim
  | some d =>
    rw [e0] at h1
    dsimp only at h1
    cases et : isTy ty d with
    | false => rw [et] at h1; exact h1.elim
    | true =>
      rw [et, if_pos rfl] at h1
      obtain ⟨o1, m1⟩ := s1.mem hx (fun p hp => by simp [hp]) e0
      refine ⟨isTy_ok s1.sep m1 et, ρ1, _, s1, finA_mono (fin_bindA (hld x v) h1) fun vs H2 ⟨xs, ρ2, hxs, s2, h2⟩ => ?_⟩
      rw [← List.append_assoc] at s2
      exact opM_ok s2 hx (fun p hp => by simp [hp]) hxs (fun p hp => by simp [hp]) h2
end
end Lz
namespace Lz
open PySem PySem.Spec PyProof.Rows L2

abbrev pI (i : Int) : Option T := some (false, .int i)
abbrev pB (b : Bool) : Option T := some (false, .bl b)
def opAdd : D → D → Option T
  | .int i, .int j => pI (i + j)
  | .str a, .str b => if a.length + b.length ≤ lim then some (false, .str (a ++ b)) else none
  | .lst a, .lst b => if a.length + b.length ≤ lim then some (true, .lst (a ++ b)) else none
  | .tup a, .tup b => if a.length + b.length ≤ lim then some (false, .tup (a ++ b)) else none
  | _, _ => none
def opSub : D → D → Option T
  | .int i, .int j => pI (i - j)
  | _, _ => none
noncomputable def opMul : D → D → Option T
  | .int i, .int j => cif ((-(2 ^ 64) < i ∧ i < 2 ^ 64) ∨ (-(2 ^ 64) < j ∧ j < 2 ^ 64)) (pI (i * j)) none
  | .lst a, .int k => if -(2 ^ 63) ≤ k ∧ k < 2 ^ 63 ∧ a.length * k.toNat ≤ lim then some (true, .lst (List.replicate k.toNat a).flatten) else none
  | .tup a, .int k => if a ≠ [] ∧ 2 ≤ k ∧ k ≤ 1000 ∧ a.length ≤ 1000 then some (false, .tup (List.replicate k.toNat a).flatten) else if k = 1 then some (false, .tup a) else none
  | _, _ => none
def opMod : D → D → Option T
  | .int i, .int j => if j = 0 then none else pI (i.fmod j)
  | _, _ => none
def opFdv : D → D → Option T
  | .int i, .int j => if j ≠ 0 ∧ j.natAbs < 1073741824 then pI (i.fdiv j) else none
  | _, _ => none
def opPow : D → D → Option T
  | .int i, .int j => if 0 ≤ j ∧ j ≤ 1000000 ∧ i.natAbs < 2 ^ 64 then pI (i ^ j.toNat) else none
  | _, _ => none
def okD (d : D) : Bool := SeqAt.shaped d.toPy
def eqD : D → D → Option Bool
  | .int i, .int j => some (i == j)
  | .str i, .str j => some (i == j)
  | .bl i, .bl j => some (i == j)
  | .non, .non => some true
  | d, e => if okD d = true ∧ okD e = true then some (PyData.eqv d.toPy e.toPy) else none
def opEq (d e : D) : Option T := (eqD d e).map fun b => (false, .bl b)
def opNe (d e : D) : Option T := (eqD d e).map fun b => (false, .bl (!b))
def opCmp (p : Int → Int → Bool) : D → D → Option T
  | .int i, .int j => pB (p i j)
  | _, _ => none
def opLt := opCmp fun i j => decide (i < j)
def opLe := opCmp fun i j => decide (i ≤ j)
def opGt := opCmp fun i j => decide (j < i)
def opGe := opCmp fun i j => decide (j ≤ i)
def flatD : D → Bool
  | .non => true
  | .bl _ => true
  | .int _ => true
  | .str _ => true
  | _ => false
def eqF : D → D → Bool
  | .non, .non => true
  | .bl a, .bl b => a == b
  | .bl a, .int b => (if a then 1 else 0) == b
  | .int a, .bl b => a == (if b then 1 else 0)
  | .int a, .int b => a == b
  | .str a, .str b => a == b
  | _, _ => false
def inD : D → D → Option Bool
  | d, .tup ys => if flatD d = true ∧ ys.all flatD = true then some (ys.any fun y => eqF y d) else none
  | d, .lst ys => if flatD d = true ∧ ys.all flatD = true then some (ys.any fun y => eqF y d) else if okD d = true ∧ okD (.lst ys) = true then some (ys.any fun y => PyData.eqv y.toPy d.toPy) else none
  | .str c, .str z => if c.length = 1 then some (decide (c.cps.getD 0 0 ∈ z.cps.toList)) else none
  | _, _ => none
def opIn (d e : D) : Option T := (inD d e).map fun b => (false, .bl b)
def opNotIn (d e : D) : Option T := (inD d e).map fun b => (false, .bl (!b))
def opIsN : D → D → Option T
  | .non, .non => pB true
  | _, .non => pB false
  | _, _ => none
def opIsNotN : D → D → Option T
  | .non, .non => pB false
  | _, .non => pB true
  | _, _ => none
def opIx : D → D → Option T
  | .tup xs, .int i => (atI xs i).map fun d => (false, d)
  | .lst xs, .int i => (atI xs i).map fun d => (false, d)
  | .scr ns, .int i => (atI ns i).map fun d => (false, .int d)
  | .str z, .int i => if z.length ≤ lim then (atI z.cps.toList i).map fun c => (false, .str ⟨#[c]⟩) else none
  | _, _ => none
def cut {α : Type} (xs : List α) (lo hi : Option Int) : List α := (xs.drop (HT.sIx xs.length 0 lo)).take (HT.sIx xs.length xs.length hi - HT.sIx xs.length 0 lo)
def opSl : D → Option Int → Option Int → Option T
  | .tup xs, lo, hi => some (false, .tup (cut xs lo hi))
  | .lst xs, lo, hi => some (true, .lst (cut xs lo hi))
  | .str z, lo, hi => if z.length ≤ lim then some (false, .str (cutS z lo hi)) else none
  | _, _, _ => none
def cfLen : List D → Option T
  | [.tup xs] => pI xs.length
  | [.lst xs] => pI xs.length
  | [.scr xs] => pI xs.length
  | [.str z] => if z.length ≤ lim then pI z.length else none
  | _ => none
def blsD : List D → Option (List Bool)
  | [] => some []
  | .bl b :: r => (blsD r).map (b :: ·)
  | _ :: _ => none
def intsD : List D → Option (List Int)
  | [] => some []
  | .int b :: r => (intsD r).map (b :: ·)
  | _ :: _ => none
def cfAll : List D → Option T
  | [.lst xs] => (blsD xs).map fun bs => (false, .bl (bs.all id))
  | _ => none
def cfAny : List D → Option T
  | [.lst xs] => (blsD xs).map fun bs => (false, .bl (bs.any id))
  | _ => none
def cfSum : List D → Option T
  | [.lst xs] => (intsD xs).map fun bs => (false, .int bs.sum)
  | _ => none
def maxL : List Int → Option Int
  | [] => none
  | x :: r => some (r.foldl max x)
def minL : List Int → Option Int
  | [] => none
  | x :: r => some (r.foldl min x)
def cfMax : List D → Option T
  | [.lst xs] => (intsD xs).bind fun bs => (maxL bs).map fun m => (false, .int m)
  | [.int i, .int j] => pI (max i j)
  | _ => none
def cfMin : List D → Option T
  | [.lst xs] => (intsD xs).bind fun bs => (minL bs).map fun m => (false, .int m)
  | [.int i, .int j] => pI (min i j)
  | _ => none
def cfInt : List D → Option T
  | [.int i] => pI i
  | [.bl b] => pI (if b then 1 else 0)
  | _ => none
def cfList : List D → Option T
  | [.lst xs] => some (true, .lst xs)
  | [.tup xs] => some (true, .lst xs)
  | _ => none
def cfTuple : List D → Option T
  | [.lst xs] => some (false, .tup xs)
  | [.tup xs] => some (false, .tup xs)
  | _ => none

section
variable {K : PySem.W.Frag} {H : Hp} {L : List VT}
theorem Sep.pureC {v : V} {d : D} (s : Sep K H L) (r : ∀ av, Rep K H av v d) : Sep K H ((v, (false, d)) :: L) := let ⟨ws, q⟩ := s; ⟨ws, q.pure (r _)⟩
theorem Sep.cInt (s : Sep K H L) (i : Int) : Sep K H ((.int i, (false, .int i)) :: L) := s.pureC fun _ => .int i
theorem Sep.cBl (s : Sep K H L) (i : Bool) : Sep K H ((.bl i, (false, .bl i)) :: L) := s.pureC fun _ => .bl i
theorem Sep.cStr (s : Sep K H L) (i : Str) : Sep K H ((.str i, (false, .str i)) :: L) := s.pureC fun _ => .str i
theorem Sep.int {v : V} {o : Bool} {i : Int} (s : Sep K H L) (h : (v, (o, D.int i)) ∈ L) : v = .int i := let ⟨_, q⟩ := s; q.int h
theorem Sep.str {v : V} {o : Bool} {i : Str} (s : Sep K H L) (h : (v, (o, D.str i)) ∈ L) : v = .str i := let ⟨_, q⟩ := s; q.str h
theorem Sep.bl {v : V} {o : Bool} {i : Bool} (s : Sep K H L) (h : (v, (o, D.bl i)) ∈ L) : v = .bl i := let ⟨_, q⟩ := s; q.bl h
theorem Sep.non {v : V} {o : Bool} (s : Sep K H L) (h : (v, (o, D.non)) ∈ L) : v = .non := let ⟨_, q⟩ := s; q.non h
end
/-- (true, .lst) at a new place -/
theorem newLst_of {K : PySem.W.Frag} {L : List VT} {H : Hp} {Q : VK} {ws : List Addr} {vs : List V} {ds : List D} (s : SepW K H L ws) (r : RepAll K H (· ∈ ws) vs ds) (q : ∀ w H', Sep K H' ((w, (true, D.lst ds)) :: L) → Q w H') : ∀ p, H p = none → Q (.ref p) (upd H p (.lst vs)) :=
  fun p hp => q _ _ ⟨_, s.newLst hp r⟩
section
variable {X : Cx}
theorem or_intB {f : Value → Value → Sem Value} {g : D → D → Option T} {C : Int → Int → Prop} {h : Int → Int → Int} (rule : OpR X f (rI C fun i j => .int (h i j)))
    (hg : ∀ d e t, g d e = some t → ∃ i j, d = .int i ∧ e = .int j ∧ C i j ∧ t = (false, .int (h i j))) : OpR X f (rOp X.K g) := by
  intro pins s σ H x y v u Q I rx ry ⟨L, d, e, o, o', t, sep, m1, m2, ht, q⟩
  obtain ⟨i, j, rfl, rfl, c, rfl⟩ := hg d e t ht
  exact rule pins s σ H x y v u Q I rx ry ⟨i, j, sep.int m1, sep.int m2, c, q _ _ (sep.cInt _)⟩
theorem or_sub : OpR X (binaryOp .Sub) (rOp X.K opSub) := by
  intro pins s σ H x y v u Q I rx ry ⟨L, d, e, o, o', t, sep, m1, m2, ht, q⟩
  cases d <;> cases e <;> first | cases ht | skip
  exact op_sub pins s σ H x y v u Q I rx ry ⟨_, _, sep.int m1, sep.int m2, q _ _ (sep.cInt _)⟩
theorem or_mod : OpR X (binaryOp .Mod) (rOp X.K opMod) := or_intB op_modN fun d e t h => by
  cases d <;> cases e <;> first | cases h | skip
  rename_i i j
  have h' : (if j = 0 then none else pI (i.fmod j)) = some t := h
  by_cases hj : j = 0
  · rw [if_pos hj] at h'; cases h'
  · rw [if_neg hj] at h'; cases h'; exact ⟨i, j, rfl, rfl, hj, rfl⟩
theorem or_fdv : OpR X (binaryOp .FloorDiv) (rOp X.K opFdv) := or_intB op_fdivN fun d e t h => by
  cases d <;> cases e <;> first | cases h | skip
  rename_i i j
  have h' : (if j ≠ 0 ∧ j.natAbs < 1073741824 then pI (i.fdiv j) else none) = some t := h
  by_cases hj : j ≠ 0 ∧ j.natAbs < 1073741824
  · rw [if_pos hj] at h'; cases h'; exact ⟨i, j, rfl, rfl, hj, rfl⟩
  · rw [if_neg hj] at h'; cases h'
theorem or_pow : OpR X (binaryOp .Pow) (rOp X.K opPow) := or_intB op_pow fun d e t h => by
  cases d <;> cases e <;> first | cases h | skip
  rename_i i j
  have h' : (if 0 ≤ j ∧ j ≤ 1000000 ∧ i.natAbs < 2 ^ 64 then pI (i ^ j.toNat) else none) = some t := h
  by_cases hj : 0 ≤ j ∧ j ≤ 1000000 ∧ i.natAbs < 2 ^ 64
  · rw [if_pos hj] at h'; cases h'; exact ⟨i, j, rfl, rfl, hj, rfl⟩
  · rw [if_neg hj] at h'; cases h'
/-- tuples: t + u -/
theorem op_catF : OpR X (binaryOp .Add) (fun x y H Q => ∃ a b xs ys, x = .ref a ∧ y = .ref b ∧ SqT X.K H a xs ∧ SqT X.K H b ys ∧ xs.length + ys.length ≤ sizeLine ∧ (xs = [] → Q (.ref b) H) ∧ (xs ≠ [] → ys = [] → Q (.ref a) H) ∧ rNewT (xs ++ ys) H Q) := by
  intro pins s σ H x y v u Q I rx ry ⟨a, b, xs, ys, ex, ey, ha, hb, hz, q0, q1, q2⟩
  subst ex; subst ey; cases rx; cases ry
  obtain ⟨its, r1, p1, _⟩ := I.tuple ha
  obtain ⟨its2, r2, p2, _⟩ := I.tuple hb
  by_cases hx : xs = []
  · subst hx
    cases r1
    exact cat_tup0 p1 p2 ⟨.ref b, H, I, rfl, q0 rfl⟩
  · refine HT.cat_tup p1 p2 (fun e => hx ((Vals.nil_iff r1).mp e)) (fun e => ?_) (fun e => ?_) (by rw [← r1.length, ← r2.length]; exact hz)
    · exact ⟨.ref a, H, I, rfl, q1 hx ((Vals.nil_iff r2).mp e)⟩
    · exact q2.use (t' := s.toks) I (r1.append r2) (by rw [List.length_append]; exact hz)
theorem or_add : OpR X (binaryOp .Add) (rOp X.K opAdd) := by
  intro pins s σ H x y v u Q I rx ry ⟨L, d, e, o, o', t, sep, m1, m2, ht, q⟩
  cases d <;> cases e <;> first | cases ht | skip
  · exact op_add pins s σ H x y v u Q I rx ry ⟨_, _, sep.int m1, sep.int m2, q _ _ (sep.cInt _)⟩
  · rename_i a b
    have h' : (if a.length + b.length ≤ lim then some (false, D.str (a ++ b)) else none) = some t := ht
    by_cases hz : a.length + b.length ≤ lim
    · rw [if_pos hz] at h'; cases h'
      exact op_add_str pins s σ H x y v u Q I rx ry ⟨_, _, sep.str m1, sep.str m2, hz, q _ _ (sep.cStr _)⟩
    · rw [if_neg hz] at h'; cases h'
  · rename_i a b
    have h' : (if a.length + b.length ≤ lim then some (false, D.tup (a ++ b)) else none) = some t := ht
    by_cases hz : a.length + b.length ≤ lim
    · rw [if_pos hz] at h'; cases h'
      obtain ⟨ws, w⟩ := sep
      obtain ⟨p1, vs1, e1, q1, r1, _⟩ := w.tup m1
      obtain ⟨p2, vs2, e2, q2, r2, _⟩ := w.tup m2
      have l1 := r1.length
      have l2 := r2.length
      refine op_catF pins s σ H x y v u Q I rx ry ⟨p1, p2, vs1, vs2, e1, e2, q1, q2, by rw [l1, l2]; exact hz, fun e => ?_, fun _ e => ?_, rNewT.of w (r1.append r2) q⟩
      · subst e
        cases r1
        have hm : Rep X.K H (· ∈ ws) (.ref p2) (.tup b) := by
          obtain ⟨w', o1, _⟩ := w.own.get m2
          rw [e2] at o1
          cases o1 with | pure r => exact r
        exact q _ _ ⟨ws, w.pure hm⟩
      · subst e
        cases r2
        have hm : Rep X.K H (· ∈ ws) (.ref p1) (.tup a) := by
          obtain ⟨w', o1, _⟩ := w.own.get m1
          rw [e1] at o1
          cases o1 with | pure r => exact r
        rw [List.append_nil] at q
        exact q _ _ ⟨ws, w.pure hm⟩
    · rw [if_neg hz] at h'; cases h'
  · rename_i a b
    have h' : (if a.length + b.length ≤ lim then some (true, D.lst (a ++ b)) else none) = some t := ht
    by_cases hz : a.length + b.length ≤ lim
    · rw [if_pos hz] at h'; cases h'
      obtain ⟨ws, w⟩ := sep
      obtain ⟨p1, vs1, e1, q1, r1⟩ := w.lst m1
      obtain ⟨p2, vs2, e2, q2, r2⟩ := w.lst m2
      have l1 := r1.length
      have l2 := r2.length
      exact op_cat pins s σ H x y v u Q I rx ry ⟨p1, p2, vs1, vs2, e1, e2, q1, q2, by rw [l1, l2]; exact hz, newLst_of w (r1.append r2) q⟩
    · rw [if_neg hz] at h'; cases h'

theorem eqD_sc {d e : D} {b : Bool} (h : eqD d e = some b) : (∃ i j, d = .int i ∧ e = .int j ∧ b = (i == j)) ∨ (∃ i j, d = .str i ∧ e = .str j ∧ b = (i == j)) ∨ (∃ i j, d = .bl i ∧ e = .bl j ∧ b = (i == j)) ∨
    (okD d = true ∧ okD e = true ∧ b = PyData.eqv d.toPy e.toPy) := by
  unfold eqD at h
  split at h
  · exact .inl ⟨_, _, rfl, rfl, (Option.some.inj h).symm⟩
  · exact .inr (.inl ⟨_, _, rfl, rfl, (Option.some.inj h).symm⟩)
  · exact .inr (.inr (.inl ⟨_, _, rfl, rfl, (Option.some.inj h).symm⟩))
  · exact .inr (.inr (.inr ⟨by decide +kernel, by decide +kernel, by
      have e := Option.some.inj h
      rw [← e]
      decide +kernel⟩))
  · split at h
    · rename_i hk
      exact .inr (.inr (.inr ⟨hk.1, hk.2, (Option.some.inj h).symm⟩))
    · cases h
theorem or_eq (hu : X.A.units + 64 < cLine) : OpR X (compareOp .Eq) (rOp X.K opEq) := by
  intro pins s σ H x y v u Q I rx ry ⟨L, d, e, o, o', t, sep, m1, m2, ht, q⟩
  unfold opEq at ht
  cases h : eqD d e with
  | none => rw [h] at ht; cases ht
  | some b =>
    rw [h] at ht
    cases ht
    rcases eqD_sc h with ⟨i, j, rfl, rfl, rfl⟩ | ⟨i, j, rfl, rfl, rfl⟩ | ⟨i, j, rfl, rfl, rfl⟩ | ⟨h1, h2, rfl⟩
    · refine op_eq pins s σ H x y v u Q I rx ry ?_
      rw [sep.int m1, sep.int m2]
      exact ⟨rfl, by rw [dec_int]; exact q _ _ (sep.cBl _)⟩
    · refine op_eq pins s σ H x y v u Q I rx ry ?_
      rw [sep.str m1, sep.str m2]
      exact ⟨rfl, by rw [dec_str]; exact q _ _ (sep.cBl _)⟩
    · refine op_eq pins s σ H x y v u Q I rx ry ?_
      rw [sep.bl m1, sep.bl m2]
      exact ⟨rfl, by rw [dec_bl]; exact q _ _ (sep.cBl _)⟩
    · obtain ⟨ws, w⟩ := sep
      exact op_eqD hu pins s σ H x y v u Q I rx ry ⟨_, _, (w.any m1).dp (SeqAt.canLay_of_shaped h1), (w.any m2).dp (SeqAt.canLay_of_shaped h2), h1, h2, q _ _ (Sep.cBl ⟨ws, w⟩ _)⟩
theorem or_ne (hu : X.A.units + 64 < cLine) : OpR X (compareOp .NotEq) (rOp X.K opNe) := by
  intro pins s σ H x y v u Q I rx ry ⟨L, d, e, o, o', t, sep, m1, m2, ht, q⟩
  unfold opNe at ht
  cases h : eqD d e with
  | none => rw [h] at ht; cases ht
  | some b =>
    rw [h] at ht
    cases ht
    rcases eqD_sc h with ⟨i, j, rfl, rfl, rfl⟩ | ⟨i, j, rfl, rfl, rfl⟩ | ⟨i, j, rfl, rfl, rfl⟩ | ⟨h1, h2, rfl⟩
    · refine op_ne pins s σ H x y v u Q I rx ry ?_
      rw [sep.int m1, sep.int m2]
      exact ⟨rfl, by rw [dec_int]; exact q _ _ (sep.cBl _)⟩
    · refine op_ne pins s σ H x y v u Q I rx ry ?_
      rw [sep.str m1, sep.str m2]
      exact ⟨rfl, by rw [dec_str]; exact q _ _ (sep.cBl _)⟩
    · refine op_ne pins s σ H x y v u Q I rx ry ?_
      rw [sep.bl m1, sep.bl m2]
      exact ⟨rfl, by rw [dec_bl]; exact q _ _ (sep.cBl _)⟩
    · obtain ⟨ws, w⟩ := sep
      exact op_neD hu pins s σ H x y v u Q I rx ry ⟨_, _, (w.any m1).dp (SeqAt.canLay_of_shaped h1), (w.any m2).dp (SeqAt.canLay_of_shaped h2), h1, h2, q _ _ (Sep.cBl ⟨ws, w⟩ _)⟩
theorem or_cmp {op : CmpOp} {p : Int → Int → Bool} (rule : OpR X (compareOp op) (rI0 fun i j => .bl (p i j))) : OpR X (compareOp op) (rOp X.K (opCmp p)) := by
  intro pins s σ H x y v u Q I rx ry ⟨L, d, e, o, o', t, sep, m1, m2, ht, q⟩
  cases d <;> cases e <;> first | cases ht | skip
  exact rule pins s σ H x y v u Q I rx ry ⟨_, _, sep.int m1, sep.int m2, q _ _ (sep.cBl _)⟩
theorem or_lt : OpR X (compareOp .Lt) (rOp X.K opLt) := or_cmp op_lt
theorem or_gt : OpR X (compareOp .Gt) (rOp X.K opGt) := or_cmp op_gt
theorem non_iff {K : PySem.W.Frag} {H : Hp} {L : List VT} {v : V} {o : Bool} {d : D} (s : Sep K H L) (m : (v, (o, d)) ∈ L) : decide (v = .non) = (match d with | .non => true | _ => false) := by
  obtain ⟨ws, w⟩ := s
  have r := w.any m
  cases r <;> rfl
theorem or_isN : OpR X (compareOp .Is) (rOp X.K opIsN) := by
  intro pins s σ H x y v u Q I rx ry ⟨L, d, e, o, o', t, sep, m1, m2, ht, q⟩
  have key := non_iff sep m1
  refine op_isN pins s σ H x y v u Q I rx ry ?_
  cases e <;> first | (cases d <;> cases ht; done) | skip
  refine ⟨sep.non m2, ?_⟩
  rw [key]
  cases d <;> cases ht <;> exact q _ _ (sep.cBl _)
end
end Lz
namespace Lz
open PySem PySem.Spec PyProof.Rows L2

theorem flat_rep {K : PySem.W.Frag} {H : Hp} {av : Addr → Prop} {v : V} {d : D} (r : Rep K H av v d) (f : flatD d = true) : flatV v = true := by
  cases r <;> first | rfl | cases f
theorem eqF_rep {K : PySem.W.Frag} {H : Hp} {av : Addr → Prop} {v u : V} {d e : D} (r : Rep K H av v d) (r2 : Rep K H av u e) (f : flatD d = true) (f2 : flatD e = true) : eqV v u = eqF d e := by
  cases r <;> first | (cases f; done) | skip
  all_goals (cases r2 <;> first | (cases f2; done) | rfl)
theorem flat_all {K : PySem.W.Frag} {H : Hp} {av : Addr → Prop} : ∀ {vs : List V} {ds : List D}, RepAll K H av vs ds → ds.all flatD = true → vs.all flatV = true
  | _, _, .nil, _ => rfl
  | _, _, .cons r t, h => by
    rw [List.all_cons, Bool.and_eq_true] at h
    rw [List.all_cons, flat_rep r h.1, flat_all t h.2]; rfl
theorem inV_rep {K : PySem.W.Frag} {H : Hp} {av : Addr → Prop} {x : V} {d : D} (rx : Rep K H av x d) (f : flatD d = true) : ∀ {vs : List V} {ds : List D}, RepAll K H av vs ds → ds.all flatD = true → inV x vs = ds.any fun y => eqF y d
  | _, _, .nil, _ => rfl
  | _, _, .cons (v := v) (vs := vs) r t, h => by
    rw [List.all_cons, Bool.and_eq_true] at h
    have ih := inV_rep rx f t h.2
    have e : inV x (v :: vs) = (eqV v x || inV x vs) := rfl
    rw [e, ih, eqF_rep r rx h.1 f, List.any_cons]
theorem RepAll.weakF {K : PySem.W.Frag} {H : Hp} {av : Addr → Prop} {vs : List V} {ds : List D} (r : RepAll K H av vs ds) : RepAll K H (fun _ => False) vs ds := r.mono (Kp.weak fun _ h => h.elim)
theorem any_toPys (ys : List D) (d : D) : ((D.toPys ys).any fun z => PyData.eqv z d.toPy) = ys.any fun y => PyData.eqv y.toPy d.toPy := by
  rw [toPys_map, List.any_map]; rfl

section
variable {X : Cx}
/-- in, not in: one proof for both -/
theorem or_inG {op : CmpOp} {neg : Bool} {g : D → D → Option T} (hg : ∀ d e, g d e = (inD d e).map fun b => (false, .bl (if neg then !b else b))) (r1 : OpR X (compareOp op) (rIn X.K neg))
    (r2 : OpR X (compareOp op) (fun x y H Q => ∃ d ds, Dp X.K H x d ∧ Dp X.K H y (.list ds) ∧ SeqAt.shaped d = true ∧ SeqAt.shaped (.list ds) = true ∧ Q (.bl (if neg then !(ds.any fun z => PyData.eqv z d) else (ds.any fun z => PyData.eqv z d))) H))
    (r3 : OpR X (compareOp op) (fun x y H Q => ∃ (c : Nat) (z : Str), x = .str ⟨#[c]⟩ ∧ y = .str z ∧ Q (.bl (if neg then !decide (c ∈ z.cps.toList) else decide (c ∈ z.cps.toList))) H)) : OpR X (compareOp op) (rOp X.K g) := by
  intro pins s σ H x y v u Q I rx ry ⟨L, d, e, o, o', t, sep, m1, m2, ht, q⟩
  rw [hg] at ht
  cases hi : inD d e with
  | none => rw [hi] at ht; cases ht
  | some b =>
    rw [hi] at ht
    cases ht
    obtain ⟨ws, w⟩ := sep
    have sp : Sep X.K H L := ⟨ws, w⟩
    have flatCase : ∀ (ys : List D) (p : Addr) (vs : List V), y = .ref p → (SqL X.K H p vs ∨ SqT X.K H p vs) → RepAll X.K H (fun _ => False) vs ys → flatD d = true → ys.all flatD = true → b = ys.any (fun y => eqF y d) →
        wpAny (model X.prog X.w) X.A (compareOp op v u) (EP X pins σ Q) X.xe s := by
      intro ys p vs ey hq r f1 f2 eb
      refine r1 pins s σ H x y v u Q I rx ry ⟨p, vs, ey, hq, flat_rep (w.any m1) f1, flat_all r f2, ?_⟩
      rw [inV_rep (w.any m1) f1 r f2, ← eb]
      exact q _ _ (sp.cBl _)
    unfold inD at hi
    split at hi
    · rename_i ys
      split at hi
      · rename_i hf
        obtain ⟨p, vs, ey, hq, r, _⟩ := w.tup m2
        exact flatCase ys p vs ey (.inr hq) r.weakF hf.1 hf.2 (Option.some.inj hi).symm
      · cases hi
    · rename_i ys
      split at hi
      · rename_i hf
        obtain ⟨p, vs, ey, hq, r⟩ := w.lst m2
        exact flatCase ys p vs ey (.inl (.inl (.inl hq))) r.weakF hf.1 hf.2 (Option.some.inj hi).symm
      · split at hi
        · rename_i hk
          have eb := (Option.some.inj hi).symm
          refine r2 pins s σ H x y v u Q I rx ry ⟨_, D.toPys ys, (w.any m1).dp (SeqAt.canLay_of_shaped hk.1), ?_, hk.1, ?_, ?_⟩
          · have := (w.any m2).dp (SeqAt.canLay_of_shaped hk.2)
            rw [D.toPy] at this
            exact this
          · have := hk.2
            unfold okD at this
            rw [D.toPy] at this
            exact this
          · rw [any_toPys, ← eb]
            exact q _ _ (sp.cBl _)
        · cases hi
    · rename_i c z
      split at hi
      · rename_i hl
        obtain ⟨⟨cl⟩⟩ := c
        have hl' : cl.length = 1 := hl
        match cl, hl' with
        | [k], _ =>
          refine r3 pins s σ H x y v u Q I rx ry ⟨k, z, sp.str m1, sp.str m2, ?_⟩
          have eb : b = decide (k ∈ z.cps.toList) := (Option.some.inj hi).symm
          rw [← eb]
          exact q _ _ (sp.cBl _)
      · cases hi
    · cases hi
theorem or_in (hu : X.A.units + 65 < cLine) : OpR X (compareOp .In) (rOp X.K opIn) := or_inG (neg := false) (fun _ _ => rfl) op_in_seq (op_inD hu) op_in_sign
theorem or_notIn (hu : X.A.units + 65 < cLine) : OpR X (compareOp .NotIn) (rOp X.K opNotIn) := or_inG (neg := true) (fun _ _ => rfl) op_notIn_seq (op_notInD hu) op_notIn_sign

theorem atI_rep {K : PySem.W.Frag} {H : Hp} {av : Addr → Prop} {vs : List V} {ds : List D} {i : Int} {d : D} (r : RepAll K H av vs ds) (h : atI ds i = some d) : ∃ v, atI vs i = some v ∧ Rep K H av v d := by
  unfold atI at h ⊢
  rw [r.length]
  cases e : ixN ds.length i with
  | none => rw [e] at h; cases h
  | some j =>
    rw [e] at h
    exact r.getD h
theorem ir_ix : IxR X (rOp X.K opIx) := by
  intro value slice pins s σ H x y v u Q I rx ry ⟨L, d, e, o, o', t, sep, m1, m2, ht, q⟩ hs
  cases d <;> cases e <;> first | (cases ht; done) | skip
  · rename_i z i
    have h' : (if z.length ≤ lim then (atI z.cps.toList i).map fun c => (false, D.str ⟨#[c]⟩) else none) = some t := ht
    by_cases hz : z.length ≤ lim
    · rw [if_pos hz] at h'
      cases hc : atI z.cps.toList i with
      | none => rw [hc] at h'; cases h'
      | some c =>
        rw [hc] at h'
        cases h'
        exact ix_str value slice pins s σ H x y v u Q I rx ry ⟨z, i, c, sep.str m1, sep.int m2, hz, hc, q _ _ (sep.cStr _)⟩ hs
    · rw [if_neg hz] at h'; cases h'
  · rename_i xs i
    have h' : (atI xs i).map (fun d => (false, d)) = some t := ht
    cases hc : atI xs i with
    | none => rw [hc] at h'; cases h'
    | some c =>
      rw [hc] at h'
      cases h'
      obtain ⟨ws, w⟩ := sep
      obtain ⟨p, vs, e1, hq, r, _⟩ := w.tup m1
      obtain ⟨x', h1, h2⟩ := atI_rep r hc
      exact ix_tup value slice pins s σ H x y v u Q I rx ry ⟨p, vs, i, x', e1, w.int m2, hq, h1, q _ _ ⟨ws, w.pure h2⟩⟩ hs
  · rename_i xs i
    have h' : (atI xs i).map (fun d => (false, d)) = some t := ht
    cases hc : atI xs i with
    | none => rw [hc] at h'; cases h'
    | some c =>
      rw [hc] at h'
      cases h'
      obtain ⟨ws, w⟩ := sep
      obtain ⟨p, vs, e1, hq, r⟩ := w.lst m1
      obtain ⟨x', h1, h2⟩ := atI_rep r hc
      exact ix_list value slice pins s σ H x y v u Q I rx ry ⟨p, vs, i, x', e1, w.int m2, .inl (.inl hq), h1, q _ _ ⟨ws, w.pure h2⟩⟩ hs
  · rename_i ns i
    have h' : (atI ns i).map (fun d => (false, D.int d)) = some t := ht
    cases hc : atI ns i with
    | none => rw [hc] at h'; cases h'
    | some c =>
      rw [hc] at h'
      cases h'
      obtain ⟨ws, w⟩ := sep
      obtain ⟨p, e1, hq⟩ := w.scr m1
      refine ix_list value slice pins s σ H x y v u Q I rx ry ⟨p, _, i, .int c, e1, w.int m2, hq, ?_, q _ _ (Sep.cInt ⟨ws, w⟩ _)⟩ hs
      unfold atI at hc ⊢
      rw [List.length_map]
      cases e : ixN ns.length i with
      | none => rw [e] at hc; cases hc
      | some j =>
        rw [e] at hc
        show (ns.map V.int)[j]? = some (.int c)
        have hc' : ns[j]? = some c := hc
        rw [List.getElem?_map, hc']; rfl

theorem cut_rep {K : PySem.W.Frag} {H : Hp} {av : Addr → Prop} {vs : List V} {ds : List D} (r : RepAll K H av vs ds) (lo hi : Option Int) : RepAll K H av (cutV vs lo hi) (cut ds lo hi) := by
  unfold cutV cut
  rw [r.length]
  exact (r.drop _).take _
theorem sl_tupF : SlR X (fun x lo hi H Q => ∃ a xs, x = .ref a ∧ SqT X.K H a xs ∧ (cutV xs lo hi = xs → Q (.ref a) H) ∧ rNewT (cutV xs lo hi) H Q) := by
  intro pins s σ H x v vl vu lo hi sl Q I rx hs pl pu ⟨a, xs, ex, hx, q1, q2⟩
  subst ex; cases rx
  obtain ⟨its, r, ht, hz⟩ := I.tuple hx
  have hlen : its.toArray.size = xs.length := by rw [List.size_toArray, r.length]
  refine ⟨"tuple", _, PyProof.Rows.slot_tuple_getitem.lookup, ht.typeIs, ?_⟩
  by_cases hw : HT.sIx xs.length 0 lo = 0 ∧ HT.sIx xs.length xs.length hi = xs.length
  · refine getItem_tuple_whole ht hs pl pu (by rw [hlen]; exact hw) ⟨.ref a, H, I, rfl, q1 ?_⟩
    unfold cutV
    rw [hw.1, hw.2]
    simp
  · refine HT.getItem_tuple_cut ht hs pl pu (by rw [hlen]; exact hw) ?_ (by rw [hlen]; exact hz)
    rw [hlen]
    exact q2.use (t' := s.toks) I ((r.drop (HT.sIx xs.length 0 lo)).take _) (Nat.le_trans (cutV_length xs lo hi) hz)
theorem sr_sl : SlR X (rSl X.K opSl) := by
  intro pins s σ H x v vl vu lo hi sl Q I rx hs pl pu ⟨L, d, o, t, sep, m1, ht, q⟩
  cases d <;> first | (cases ht; done) | skip
  · rename_i z
    have h' : (if z.length ≤ lim then some (false, D.str (cutS z lo hi)) else none) = some t := ht
    by_cases hz : z.length ≤ lim
    · rw [if_pos hz] at h'
      cases h'
      exact sl_str pins s σ H x v vl vu lo hi sl Q I rx hs pl pu ⟨z, sep.str m1, hz, q _ _ (sep.cStr _)⟩
    · rw [if_neg hz] at h'; cases h'
  · rename_i xs
    cases ht
    obtain ⟨ws, w⟩ := sep
    obtain ⟨p, vs, e1, hq, r, _⟩ := w.tup m1
    refine sl_tupF pins s σ H x v vl vu lo hi sl Q I rx hs pl pu ⟨p, vs, e1, hq, fun e => ?_, rNewT.of w (cut_rep r lo hi) q⟩
    have rr := cut_rep r lo hi
    rw [e] at rr
    have ed : cut xs lo hi = xs := by
      have l1 := rr.length
      rw [r.length] at l1
      unfold cut at l1 ⊢
      have hl : (List.take (HT.sIx xs.length xs.length hi - HT.sIx xs.length 0 lo) (List.drop (HT.sIx xs.length 0 lo) xs)).length = min (HT.sIx xs.length xs.length hi - HT.sIx xs.length 0 lo) (xs.length - HT.sIx xs.length 0 lo) := by rw [List.length_take, List.length_drop]
      rw [hl] at l1
      by_cases hn : xs = []
      · subst hn; simp
      · have hp : 0 < xs.length := List.length_pos_iff.mpr hn
        have h0 : HT.sIx xs.length 0 lo = 0 := by omega
        rw [h0, List.drop_zero]
        exact List.take_of_length_le (by omega)
    rw [ed] at q
    have hm : Rep X.K H (· ∈ ws) x (.tup xs) := by
      obtain ⟨w', o1, _⟩ := w.own.get m1
      rw [e1] at o1 ⊢
      cases o1 with | pure r => exact r
    rw [← e1]
    exact q _ _ ⟨ws, w.pure hm⟩
  · rename_i xs
    cases ht
    obtain ⟨ws, w⟩ := sep
    obtain ⟨p, vs, e1, hq, r⟩ := w.lst m1
    exact sl_list pins s σ H x v vl vu lo hi sl Q I rx hs pl pu ⟨p, vs, e1, .inl (.inl hq), newLst_of w (cut_rep r lo hi) q⟩

theorem cr_len : CallR X (.builtin "len") (rCl X.K cfLen) := by
  intro pins s σ H xs us Q I r ⟨L, ds, t, sep, ms, ht, q⟩
  obtain ⟨ws, w⟩ := sep
  have sp : Sep X.K H L := ⟨ws, w⟩
  unfold cfLen at ht
  split at ht <;> first | (cases ht; done) | skip
  · cases ht
    cases ms with
    | cons h1 t1 =>
      obtain ⟨o, m⟩ := h1
      cases t1
      obtain ⟨p, vs, e1, hq, rr, _⟩ := w.tup m
      exact call_len pins s σ H _ us Q I r ⟨_, vs.length, rfl, by rw [e1]; exact .inr ⟨vs, hq, rfl⟩, by rw [rr.length]; exact q _ _ (sp.cInt _)⟩
  · cases ht
    cases ms with
    | cons h1 t1 =>
      obtain ⟨o, m⟩ := h1
      cases t1
      obtain ⟨p, vs, e1, hq, rr⟩ := w.lst m
      exact call_len pins s σ H _ us Q I r ⟨_, vs.length, rfl, by rw [e1]; exact .inl ⟨vs, .inl (.inl hq), rfl⟩, by rw [rr.length]; exact q _ _ (sp.cInt _)⟩
  · cases ht
    cases ms with
    | cons h1 t1 =>
      obtain ⟨o, m⟩ := h1
      cases t1
      rename_i ns _
      obtain ⟨p, e1, hq⟩ := w.scr m
      exact call_len pins s σ H _ us Q I r ⟨_, ns.length, rfl, by rw [e1]; exact .inl ⟨_, hq, by rw [List.length_map]⟩, q _ _ (sp.cInt _)⟩
  · rename_i z
    split at ht
    · rename_i hz
      cases ht
      cases ms with
      | cons h1 t1 =>
        obtain ⟨o, m⟩ := h1
        cases t1
        exact call_len pins s σ H _ us Q I r ⟨_, z.length, rfl, by rw [w.str m]; exact ⟨hz, rfl⟩, q _ _ (sp.cInt _)⟩
    · cases ht
theorem blsD_rep {K : PySem.W.Frag} {H : Hp} {av : Addr → Prop} : ∀ {vs : List V} {ds : List D} {bs : List Bool}, RepAll K H av vs ds → blsD ds = some bs → vs = bs.map V.bl
  | _, _, _, .nil, h => by cases h; rfl
  | _, _, bs, .cons (d := d) (ds := ds) r t, h => by
    cases d <;> first | (cases h; done) | skip
    rename_i b
    have h' : (blsD ds).map (b :: ·) = some bs := h
    cases e : blsD ds with
    | none => rw [e] at h'; cases h'
    | some bs' =>
      rw [e] at h'
      cases h'
      cases r
      rw [blsD_rep t e]; rfl
theorem intsD_rep {K : PySem.W.Frag} {H : Hp} {av : Addr → Prop} : ∀ {vs : List V} {ds : List D} {bs : List Int}, RepAll K H av vs ds → intsD ds = some bs → vs = bs.map V.int
  | _, _, _, .nil, h => by cases h; rfl
  | _, _, bs, .cons (d := d) (ds := ds) r t, h => by
    cases d <;> first | (cases h; done) | skip
    rename_i b
    have h' : (intsD ds).map (b :: ·) = some bs := h
    cases e : intsD ds with
    | none => rw [e] at h'; cases h'
    | some bs' =>
      rw [e] at h'
      cases h'
      cases r
      rw [intsD_rep t e]; rfl
/-- a list of bools is asked -/
theorem cr_blG {id : String} {g : List Bool → Bool} {cf : List D → Option T} (hcf : ∀ ds t, cf ds = some t → ∃ xs bs, ds = [D.lst xs] ∧ blsD xs = some bs ∧ t = (false, .bl (g bs)))
    (rule : CallR X (.builtin id) (fun vs H Q => ∃ (a : Addr) (bs : List Bool), vs = [V.ref a] ∧ SqL X.K H a (bs.map V.bl) ∧ Q (.bl (g bs)) H)) : CallR X (.builtin id) (rCl X.K cf) := by
  intro pins s σ H xs us Q I r ⟨L, ds, t, sep, ms, ht, q⟩
  obtain ⟨ys, bs, rfl, hb, rfl⟩ := hcf ds t ht
  obtain ⟨ws, w⟩ := sep
  cases ms with
  | cons h1 t1 =>
    obtain ⟨o, m⟩ := h1
    cases t1
    obtain ⟨p, vs, e1, hq, rr⟩ := w.lst m
    rw [blsD_rep rr hb] at hq
    exact rule pins s σ H _ us Q I r ⟨p, bs, by rw [e1], .inl (.inl hq), q _ _ (Sep.cBl ⟨ws, w⟩ _)⟩
theorem cr_allD (hc : X.calm = true) : CallR X (.builtin "all") (rCl X.K cfAll) := cr_blG (g := fun bs => bs.all id) (fun ds t h => by
  unfold cfAll at h
  split at h <;> first | (cases h; done) | skip
  rename_i xs
  cases e : blsD xs with
  | none => rw [e] at h; cases h
  | some bs => rw [e] at h; cases h; exact ⟨xs, bs, rfl, e, rfl⟩) (cr_all hc)
theorem foldl_max : ∀ (r : List Int) (x : Int), x ≤ r.foldl max x ∧ (∀ y ∈ r, y ≤ r.foldl max x) ∧ (r.foldl max x = x ∨ r.foldl max x ∈ r)
  | [], x => ⟨Int.le_refl _, fun _ h => (by cases h), .inl rfl⟩
  | z :: r, x => by
    obtain ⟨h1, h2, h3⟩ := foldl_max r (max x z)
    rw [List.foldl_cons]
    refine ⟨by omega, fun y hy => ?_, ?_⟩
    · rcases List.mem_cons.mp hy with e | hy
      · omega
      · exact h2 y hy
    · rcases h3 with h3 | h3
      · rw [h3]
        by_cases hxz : x ≤ z
        · right; rw [show max x z = z by omega]; exact List.mem_cons_self
        · left; omega
      · exact .inr (List.mem_cons_of_mem _ h3)
theorem maxL_of {ns : List Int} {m : Int} (h1 : m ∈ ns) (h2 : ∀ y ∈ ns, y ≤ m) : maxL ns = some m := by
  cases ns with
  | nil => cases h1
  | cons x r =>
    obtain ⟨a1, a2, a3⟩ := foldl_max r x
    show some (r.foldl max x) = some m
    have hx := h2 x List.mem_cons_self
    have key : r.foldl max x ≤ m := by
      rcases a3 with e | e
      · omega
      · exact h2 _ (List.mem_cons_of_mem _ e)
    have key2 : m ≤ r.foldl max x := by
      rcases List.mem_cons.mp h1 with e | e
      · omega
      · exact a2 m e
    rw [show r.foldl max x = m by omega]
theorem cr_maxD (hc : X.calm = true) : CallR X (.builtin "max") (rCl X.K cfMax) := by
  intro pins s σ H xs us Q I r ⟨L, ds, t, sep, ms, ht, q⟩
  obtain ⟨ws, w⟩ := sep
  unfold cfMax at ht
  split at ht <;> first | (cases ht; done) | skip
  · rename_i ys
    cases hb : intsD ys with
    | none => rw [hb] at ht; cases ht
    | some bs =>
      rw [hb] at ht
      cases ms with
      | cons h1 t1 =>
        obtain ⟨o, m⟩ := h1
        cases t1
        obtain ⟨p, vs, e1, hq, rr⟩ := w.lst m
        rw [intsD_rep rr hb] at hq
        have hp : 0 < bs.length := by
          cases bs with
          | nil => cases ht
          | cons _ _ => simp
        refine cr_max hc pins s σ H _ us Q I r ⟨p, bs, by rw [e1], .inl (.inl hq), hp, fun k hk hle => ?_⟩
        have ht' : (maxL bs).map (fun m => ((false, D.int m) : T)) = some t := ht
        rw [maxL_of hk hle] at ht'
        cases ht'
        exact q _ _ (Sep.cInt ⟨ws, w⟩ _)
  · rename_i i j
    cases ht
    cases ms with
    | cons h1 t1 =>
      cases t1 with
      | cons h2 t2 =>
        obtain ⟨o, m⟩ := h1
        obtain ⟨o2, m2⟩ := h2
        cases t2
        refine call_max2 hc pins s σ H _ us Q I r ⟨i, j, by rw [w.int m, w.int m2], ?_⟩
        have e : (if j > i then j else i) = max i j := by split <;> omega
        rw [e]
        exact q _ _ (Sep.cInt ⟨ws, w⟩ _)
theorem cr_int : CallR X (.type "int") (rCl X.K cfInt) := by
  intro pins s σ H xs us Q I r ⟨L, ds, t, sep, ms, ht, q⟩
  obtain ⟨ws, w⟩ := sep
  unfold cfInt at ht
  split at ht <;> first | (cases ht; done) | skip
  · cases ht
    cases ms with
    | cons h1 t1 =>
      obtain ⟨o, m⟩ := h1
      cases t1
      exact call_int1 pins s σ H _ us Q I r (.inl ⟨_, by rw [w.int m], q _ _ (Sep.cInt ⟨ws, w⟩ _)⟩)
  · cases ht
    cases ms with
    | cons h1 t1 =>
      obtain ⟨o, m⟩ := h1
      cases t1
      exact call_int1 pins s σ H _ us Q I r (.inr ⟨_, by rw [w.bl m], q _ _ (Sep.cInt ⟨ws, w⟩ _)⟩)
theorem cr_tuple : CallR X (.type "tuple") (rCl X.K cfTuple) := by
  intro pins s σ H xs us Q I r ⟨L, ds, t, sep, ms, ht, q⟩
  obtain ⟨ws, w⟩ := sep
  unfold cfTuple at ht
  split at ht <;> first | (cases ht; done) | skip
  · cases ht
    cases ms with
    | cons h1 t1 =>
      obtain ⟨o, m⟩ := h1
      cases t1
      obtain ⟨p, vs, e1, hq, rr⟩ := w.lst m
      subst e1
      obtain ⟨u, rfl, ru⟩ := vals1 r
      cases ru
      obtain ⟨its, rv, pl, hz⟩ := I.list (.inl (.inl hq))
      refine call_tuple_list pl.isList (fun h' kp => ?_) (by rw [List.size_toArray, ← rv.length]; exact hz)
      have I1 : Inv X pins σ H { s with heap := h' } := I.kept (t' := s.toks) kp
      have q' : rNewT vs H Q := rNewT.of w rr q
      exact q'.use (t' := s.toks) I1 rv hz
  · rename_i ys
    cases ht
    cases ms with
    | cons h1 t1 =>
      obtain ⟨o, m⟩ := h1
      cases t1
      obtain ⟨p, vs, e1, hq, rr, _⟩ := w.tup m
      have hm : Rep X.K H (· ∈ ws) (.ref p) (.tup ys) := by
        obtain ⟨w', o1, _⟩ := w.own.get m
        rw [e1] at o1
        cases o1 with | pure r => exact r
      subst e1
      exact call_tupleT pins s σ H _ us Q I r ⟨p, vs, rfl, hq, q _ _ ⟨ws, w.pure hm⟩⟩
end

def tyN : D → Option String
  | .non => some "NoneType"
  | .bl _ => some "bool"
  | .int _ => some "int"
  | .str _ => some "str"
  | .tup _ => some "tuple"
  | .lst _ => some "list"
  | .scr _ => some "list"
  | _ => none
def isiD (ty : String) (d : D) : Option T := (tyN d).bind fun n => (kitB n ty).map fun b => (false, .bl b)
section
variable {X : Cx} {W : WX}
theorem tyX_of {K : PySem.W.Frag} {H : Hp} {L : List VT} {v : V} {o : Bool} {d : D} {n : String} (s : Sep K H L) (m : (v, (o, d)) ∈ L) (h : tyN d = some n) : TyX K H v (.type n) := by
  obtain ⟨ws, w⟩ := s
  have r := w.any m
  cases r with
  | non => cases h; exact .base .non
  | bl b => cases h; exact .base (.bl b)
  | int b => cases h; exact .base (.int b)
  | str b => cases h; exact .base (.str b)
  | tup n h1 e r => cases h; exact .fTuple h1
  | ktup h1 r =>
    cases h
    obtain ⟨o, its, n, h1, h2, _⟩ := h1
    exact .kTuple h1 h2
  | lst n h1 r => cases h; exact .base (.lst h1)
  | scr n h1 => cases h; exact .base (.frz h1)
  | kscr h1 =>
    cases h
    obtain ⟨o, its, n, h1, h2, _⟩ := h1
    exact .kList h1 h2
  | obj n h1 e m r => cases h
  | ob n h1 e m r => cases h
  | dct n h1 f r1 r2 => cases h
  | dk n h1 f r => cases h
  | dkl n h1 f r => cases h
  | lol n h1 r => cases h
  | pin n h1 h2 => cases h
  | fn n => cases h
  | xc n => cases h
theorem se_isi {e : Expr} {f : Env → R XV} {ty : Str} {T : String} {p p2 pos : Pos} (hu : True) (he : SE X W e f) (hg : Gl X "isinstance") (hm : X.mg "isinstance" = none) (hg2 : Gl X ty) (hm2 : X.mg ty = none) (hv2 : bootBuiltins ty = some (.type T))
    (hn2 : ty ≠ "__name__") (hd2 : (ty == ("__debug__" : Str)) = false) (hst : starEach [e, .Name ty p2] X.env = (false, eval e X.env) :: starEach [.Name ty p2] X.env) :
    SE X W (.Call (.Name "isinstance" p) [e, .Name ty p2] [] pos) (sUn (isiD T) f) := by
  have h2 : PE X (.Name ty p2) (tC (.ty T)) := pe_bltn hg2 hm2 hv2 rfl hn2 hd2
  have ha : PA X [e, .Name ty p2] (tCons (tE X.K W f) (tCons (tC (.ty T)) tNil)) := pa_cons he (pa_cons h2 pa_nil) hst
  refine PE.weak (pe_callB call_isi hg hm (by decide +kernel) ha (by decide) (by decide) hst) fun σ H Q h => ?_
  obtain ⟨ρ, hs, s, h⟩ := h
  refine ⟨ρ, hs, s, fin_mono (fin_bind0 h) fun v H1 ⟨x, ρ1, hx, s1, h1⟩ => ?_⟩
  obtain ⟨L, d, o, t, sep, m, ht, q⟩ := op1_ok s1 hx (fun p hp => by simp [hp]) h1
  unfold isiD at ht
  cases hn : tyN d with
  | none => rw [hn] at ht; cases ht
  | some n =>
    rw [hn] at ht
    have ht' : (kitB n T).map (fun b => ((false, D.bl b) : Lz.T)) = some t := ht
    cases hk : kitB n T with
    | none => rw [hk] at ht'; cases ht'
    | some b =>
      rw [hk] at ht'
      cases ht'
      exact ⟨v, .ty T, .type n, .type T, b, rfl, .ty T, tyX_of sep m hn, kit_ty hk, q _ _ (sep.cBl b)⟩
end
end Lz
namespace Lz
open PySem PySem.Spec PyProof.Rows L2

inductive Fl where
  | nx | bk | ct
  | rt (t : T)
  | ra (i : Nat)
def PinOk (pin : List Nat) (σ0 σ : Sg) : Prop := ∀ j ∈ pin, σ[j]? = σ0[j]?
def finS (K : PySem.W.Frag) (W : WX) (hs : List VT) (pin : List Nat) (σ0 : Sg) (r : R Fl) (E : Ends) : Prop := match r with
  | .ok .nx ρ => ∀ σ H, Stt K hs σ H ρ → PinOk pin σ0 σ → E.nx σ H
  | .ok .bk ρ => ∀ σ H, Stt K hs σ H ρ → PinOk pin σ0 σ → E.bk σ H
  | .ok .ct ρ => ∀ σ H, Stt K hs σ H ρ → PinOk pin σ0 σ → E.ct σ H
  | .ok (.rt t) ρ => ∀ v σ H, Stt K ((v, t) :: hs) σ H ρ → PinOk pin σ0 σ → E.rt v H
  | .ok (.ra i) ρ => ∀ v σ H, σ[i]? = some (some v) → Stt K hs σ H ρ → PinOk pin σ0 σ → E.rt v H
  | .exc c ρ => ∀ σ H, Stt K hs σ H ρ → PinOk pin σ0 σ → W (.ref (He.ga K c)) none σ H
  | .bad => False
def tS (K : PySem.W.Frag) (W : WX) (pin : List Nat) (f : Env → R Fl) : TS := fun E σ H => ∃ ρ hs σ0, Stt K hs σ H ρ ∧ PinOk pin σ0 σ ∧ finS K W hs pin σ0 (f ρ) E
def SS (X : Cx) (W : WX) (pin : List Nat) (st : Stmt) (f : Env → R Fl) : Prop := PS X st (tS X.K W pin f)
def SSs (X : Cx) (W : WX) (pin : List Nat) (st : List Stmt) (f : Env → R Fl) : Prop := PSs X st (tS X.K W pin f)
theorem PS.weak {X : Cx} {st : Stmt} {t t' : TS} (h : PS X st t) (w : ∀ E σ H, t' E σ H → t E σ H) : PS X st t' := ⟨fun pins s σ H E I q => h.run pins s σ H E I (w E σ H q)⟩
theorem PSs.weak {X : Cx} {st : List Stmt} {t t' : TS} (h : PSs X st t) (w : ∀ E σ H, t' E σ H → t E σ H) : PSs X st t' := ⟨fun pins s σ H E I q => h.run pins s σ H E I (w E σ H q)⟩

def xNx (ρ : Env) : R Fl := .ok .nx ρ
def xSeq (f g : Env → R Fl) (ρ : Env) : R Fl := match f ρ with
  | .ok .nx ρ' => g ρ'
  | .ok .bk ρ' => .ok .bk ρ'
  | .ok .ct ρ' => .ok .ct ρ'
  | .ok (.rt t) ρ' => .ok (.rt t) ρ'
  | .ok (.ra i) ρ' => .ok (.ra i) ρ'
  | .exc c ρ' => .exc c ρ'
  | .bad => .bad
def xExpr (f : Env → R XV) (ρ : Env) : R Fl := (f ρ).bind fun _ ρ => .ok .nx ρ
def retX (np : Nat) (x : XV) (ρ : Env) : R Fl := match x with
  | .v o d => .ok (.rt (o, d)) ρ
  | .b i => (match gt ρ i with
    | some t => if i < np then .ok (.ra i) ρ else .ok (.rt t) (pt ρ i none)
    | none => .bad)
def xRet (np : Nat) (f : Env → R XV) (ρ : Env) : R Fl := (f ρ).bind (retX np)
def xRetN (ρ : Env) : R Fl := .ok (.rt (false, .non)) ρ
def xIf (c : Env → R Bool) (f g : Env → R Fl) (ρ : Env) : R Fl := (c ρ).bind fun b ρ => if b = true then f ρ else g ρ
def putX (pin : List Nat) (i : Nat) (x : XV) (ρ : Env) : R Fl := if i ∈ pin then .bad else match x with
  | .v o d => .ok .nx (pt ρ i (some (o, d)))
  | .b j => (match gt ρ j with
    | some t => .ok .nx (pt (pt ρ j (some (false, t.2))) i (some (false, t.2)))
    | none => .bad)
def xSet (pin : List Nat) (i : Nat) (f : Env → R XV) (ρ : Env) : R Fl := (f ρ).bind (putX pin i)

section
variable {K : PySem.W.Frag} {W : WX} {hs A : List VT} {σ σ0 : Sg} {H : Hp} {ρ : Env} {pin : List Nat}
theorem finS_bind {k : XV → Env → R Fl} {r : R XV} {E : Ends} (h : finS K W hs pin σ0 (r.bind k) E) (hp : PinOk pin σ0 σ) :
    fin K W hs σ r (fun v H1 => ∃ x ρ1, ResV σ x v ∧ Stt K (hld x v ++ hs) σ H1 ρ1 ∧ finS K W hs pin σ0 (k x ρ1) E) := by
  cases r with
  | ok x ρ => exact fun v H1 hv s => ⟨x, ρ, hv, s, h⟩
  | exc c ρ => exact fun H1 s => h σ H1 s hp
  | bad => exact h
theorem finS_bindB {k : Bool → Env → R Fl} {r : R Bool} {E : Ends} (h : finS K W hs pin σ0 (r.bind k) E) (hp : PinOk pin σ0 σ) :
    finB K W hs σ r (fun c H1 => ∃ ρ1, Stt K hs σ H1 ρ1 ∧ finS K W hs pin σ0 (k c ρ1) E) := by
  cases r with
  | ok c ρ => exact fun H1 s => ⟨ρ, s, h⟩
  | exc c ρ => exact fun H1 s => h σ H1 s hp
  | bad => exact h
theorem finB_mono {r : R Bool} {Q Q' : Bool → Hp → Prop} (h : finB K W hs σ r Q) (m : ∀ v H, Q v H → Q' v H) : finB K W hs σ r Q' := by
  cases r with
  | ok x ρ => exact fun H s => m _ _ (h H s)
  | exc c ρ => exact h
  | bad => exact h
/-- a value is put into a slot -/
theorem Stt.put {v : V} {t : T} {i : Nat} (s : Stt K ((v, t) :: hs) σ H ρ) (hi : i < ρ.length) : Stt K hs (σ.set i (some v)) H (pt ρ i (some t)) := by
  have hl := s.ok.len
  refine ⟨s.ok.put i v t, ?_⟩
  have p := (slots_put (σ := σ) (ρ := ρ) (i := i) (v := v) (t := t) (by omega) hi).append_right hs
  have q1 : Sep K H ((v, t) :: (slotsL σ ρ ++ hs)) := s.sep.perm List.perm_middle
  refine Sep.perm p.symm ?_
  show Sep K H ((v, t) :: (slotsL σ (pt ρ i none) ++ hs))
  cases e : gt ρ i with
  | none => rw [pt_none ρ i e]; exact q1
  | some t' =>
    obtain ⟨v', hv'⟩ := s.ok.slot e
    have p2 : ((v, t) :: (slotsL σ ρ ++ hs)).Perm ([(v, t)] ++ ([(v', t')] ++ (slotsL σ (pt ρ i none) ++ hs))) := List.Perm.cons _ ((slots_take hv' e).append_right hs)
    exact (q1.perm p2).drop_mid
theorem pin_set {i : Nat} {x : Option V} (hp : PinOk pin σ0 σ) (h : i ∉ pin) : PinOk pin σ0 (σ.set i x) := fun j hj => by
  have ne : i ≠ j := fun e => h (by rw [e]; exact hj)
  rw [List.getElem?_set_ne ne]
  exact hp j hj
theorem pt_out : ∀ (ρ : Env) (i : Nat) (x : Option T), ρ.length ≤ i → pt ρ i x = ρ
  | [], _, _, _ => rfl
  | _ :: _, 0, _, h => by simp at h
  | y :: r, i + 1, x, h => by show y :: pt r i x = y :: r; rw [pt_out r i x (by simpa using h)]
/-- .. wherever the slot lies -/
theorem Stt.put' {v : V} {t : T} {i : Nat} (s : Stt K ((v, t) :: hs) σ H ρ) : Stt K hs (σ.set i (some v)) H (pt ρ i (some t)) := by
  by_cases hi : i < ρ.length
  · exact s.put hi
  · have hl := s.ok.len
    rw [pt_out ρ i _ (by omega), List.set_eq_of_length_le (by omega)]
    exact Stt.dropA (A := [(v, t)]) s
theorem putX_ok {x : XV} {v : V} {i : Nat} {E : Ends} (s : Stt K (hld x v ++ hs) σ H ρ) (hx : ResV σ x v) (hp : PinOk pin σ0 σ) (h : finS K W hs pin σ0 (putX pin i x ρ) E) : E.nx (σ.set i (some v)) H := by
  unfold putX at h
  by_cases hi : i ∈ pin
  · rw [if_pos hi] at h; exact h.elim
  · rw [if_neg hi] at h
    cases x with
    | v o d => exact h _ _ (Stt.put' s) (pin_set hp hi)
    | b j =>
      dsimp only at h
      cases e : gt ρ j with
      | none => rw [e] at h; exact h.elim
      | some t =>
        rw [e] at h
        have s1 := frz_ok (x := .b j) (d := t.2) (ρ' := pt ρ j (some (false, t.2))) s hx (by unfold frz; dsimp only; rw [e])
        exact h _ _ (Stt.put' s1) (pin_set hp hi)
end
section
variable {X : Cx} {W : WX} {pin : List Nat} {e c : Expr} {st : Stmt} {rest : List Stmt} {fe : Env → R XV} {gc : Env → R Bool} {f g : Env → R Fl} {pos : Pos}
theorem ss_nil : SSs X W pin [] xNx := PSs.weak pss_nil fun E σ H ⟨ρ, hs, σ0, s, hp, h⟩ => h σ H s hp
theorem ss_cons (h1 : SS X W pin st f) (h2 : SSs X W pin rest g) : SSs X W pin (st :: rest) (xSeq f g) := by
  refine PSs.weak (pss_cons h1 h2) fun E σ H h => ?_
  obtain ⟨ρ, hs, σ0, s, hp, h⟩ := h
  refine ⟨ρ, hs, σ0, s, hp, ?_⟩
  unfold xSeq at h
  cases e : f ρ with
  | ok a ρ1 =>
    rw [e] at h
    cases a with
    | nx => exact fun σ1 H1 s1 p1 => ⟨ρ1, hs, σ0, s1, p1, h⟩
    | bk => exact h
    | ct => exact h
    | rt t => exact h
    | ra t => exact h
  | exc c ρ1 => rw [e] at h; exact h
  | bad => rw [e] at h; exact h
theorem ss_expr (he : SE X W e fe) (hs : swapsWith e none pos.line X.env = pure false) : SS X W pin (.Expr e pos) (xExpr fe) := by
  refine PS.weak (ps_expr he hs) fun E σ H h => ?_
  obtain ⟨ρ, hs, σ0, s, hp, h⟩ := h
  exact ⟨ρ, hs, s, fin_mono (finS_bind h hp) fun v H1 ⟨x, ρ1, hx, s1, h1⟩ => h1 σ H1 s1.dropA hp⟩
theorem ss_ret {np : Nat} (he : SE X W e fe) : SS X W pin (.Return (some e) pos) (xRet np fe) := by
  refine PS.weak (ps_ret he) fun E σ H h => ?_
  obtain ⟨ρ, hs, σ0, s, hp, h⟩ := h
  refine ⟨ρ, hs, s, fin_mono (finS_bind h hp) fun v H1 ⟨x, ρ1, hx, s1, h1⟩ => ?_⟩
  unfold retX at h1
  cases x with
  | v o d => exact h1 v σ H1 s1 hp
  | b i =>
    dsimp only at h1
    cases e : gt ρ1 i with
    | none => rw [e] at h1; exact h1.elim
    | some t =>
      rw [e] at h1
      dsimp only at h1
      by_cases hn : i < np
      · rw [if_pos hn] at h1
        exact h1 v σ H1 hx s1 hp
      · rw [if_neg hn] at h1
        refine h1 v σ H1 ⟨s1.ok.clear i, ?_⟩ hp
        have hx' : σ[i]? = some (some v) := hx
        have q := s1.sep.perm ((slots_take hx' e).append_right hs)
        exact q.perm List.perm_middle.symm
theorem ss_if {a b : List Stmt} (hc : SB X W c gc) (ha : SSs X W pin a f) (hb : SSs X W pin b g) : SS X W pin (.If c a b pos) (xIf gc f g) := by
  refine PS.weak (ps_if hc ha hb) fun E σ H h => ?_
  obtain ⟨ρ, hs, σ0, s, hp, h⟩ := h
  refine ⟨ρ, hs, s, finB_mono (finS_bindB h hp) fun c H1 ⟨ρ1, s1, h1⟩ => ?_⟩
  cases c with
  | true => exact iteT ⟨ρ1, hs, σ0, s1, hp, h1⟩
  | false => exact iteF ⟨ρ1, hs, σ0, s1, hp, h1⟩
theorem ss_set {i : Nat} {x : Str} {pos' : Pos} (hN : X.N.Nodup) (hi : X.N[i]? = some x) (hx : Loc X.env.scope x) (he : SE X W e fe) (hs : swapsWith e (some (.Name x pos')) pos.line X.env = pure false) (hf : X.fn x = true ∨ X.env.scope.names.lookup x = some .local) :
    SS X W pin (.Assign [.Name x pos'] e pos) (xSet pin i fe) := by
  refine PS.weak (ps_set hN hi hx he hs hf) fun E σ H h => ?_
  obtain ⟨ρ, hs, σ0, s, hp, h⟩ := h
  exact ⟨ρ, hs, s, fin_mono (finS_bind h hp) fun v H1 ⟨x, ρ1, hx, s1, h1⟩ => putX_ok s1 hx hp h1⟩
end

def tG (K : PySem.W.Frag) (pin : List Nat) (g : D → Env → Option Env) : TG := fun v σ H Q => ∃ ρ hs d ρ', Stt K ((v, (false, d)) :: hs) σ H ρ ∧ g d ρ = some ρ' ∧ ∀ σ' H', Stt K hs σ' H' ρ' → PinOk pin σ σ' → σ'.length = σ.length → Q σ' H'
def tGs (K : PySem.W.Frag) (pin : List Nat) (g : List D → Env → Option Env) : TGs := fun vs σ H Q => ∃ ρ hs ds ρ', Stt K (prs vs ds ++ hs) σ H ρ ∧ vs.length = ds.length ∧ g ds ρ = some ρ' ∧ ∀ σ' H', Stt K hs σ' H' ρ' → PinOk pin σ σ' → σ'.length = σ.length → Q σ' H'
def SG (X : Cx) (pin : List Nat) (e : Expr) (g : D → Env → Option Env) : Prop := PG X e (tG X.K pin g)
def SGs (X : Cx) (pin : List Nat) (es : List Expr) (g : List D → Env → Option Env) : Prop := PGs X es (tGs X.K pin g)
def gNm (pin : List Nat) (i : Nat) (d : D) (ρ : Env) : Option Env := if i ∈ pin then none else some (pt ρ i (some (false, d)))
def gNl (ds : List D) (ρ : Env) : Option Env := match ds with
  | [] => some ρ
  | _ => none
def gCn (g : D → Env → Option Env) (h : List D → Env → Option Env) (ds : List D) (ρ : Env) : Option Env := match ds with
  | d :: r => (g d ρ).bind fun ρ => h r ρ
  | [] => none
def gTp (n : Nat) (h : List D → Env → Option Env) (d : D) (ρ : Env) : Option Env := match d with
  | .tup ds => if ds.length = n then h ds ρ else none
  | _ => none
theorem PG.weak {X : Cx} {e : Expr} {t t' : TG} (h : PG X e t) (w : ∀ v σ H Q, t' v σ H Q → t v σ H Q) : PG X e t' := ⟨fun pins s σ H v u Q I r q => h.run pins s σ H v u Q I r (w v σ H Q q)⟩
theorem PGs.weak {X : Cx} {es : List Expr} {t t' : TGs} (h : PGs X es t) (w : ∀ vs σ H Q, t' vs σ H Q → t vs σ H Q) : PGs X es t' := ⟨fun pins s σ H vs us Q I r q => h.run pins s σ H vs us Q I r (w vs σ H Q q)⟩
theorem PinOk.refl {pin : List Nat} {σ : Sg} : PinOk pin σ σ := fun _ _ => rfl
theorem PinOk.trans {pin : List Nat} {σ σ1 σ2 : Sg} (a : PinOk pin σ σ1) (b : PinOk pin σ1 σ2) : PinOk pin σ σ2 := fun j hj => (b j hj).trans (a j hj)
section
variable {X : Cx} {pin : List Nat} {pos : Pos}
theorem sg_nm {i : Nat} {x : Str} (hN : X.N.Nodup) (hi : X.N[i]? = some x) (hx : Loc X.env.scope x) (hf : X.fn x = true ∨ X.env.scope.names.lookup x = some .local) : SG X pin (.Name x pos) (gNm pin i) := by
  refine PG.weak (pg_name hN hi hx hf) fun v σ H Q h => ?_
  obtain ⟨ρ, hs, d, ρ', s, e, q⟩ := h
  unfold gNm at e
  by_cases hm : i ∈ pin
  · rw [if_pos hm] at e; cases e
  · rw [if_neg hm] at e
    cases e
    exact q _ _ (Stt.put' s) (pin_set PinOk.refl hm) (List.length_set ..)
theorem sg_nil : SGs X pin [] gNl := by
  refine PGs.weak pgs_nil fun vs σ H Q h => ?_
  obtain ⟨ρ, hs, ds, ρ', s, hl, e, q⟩ := h
  cases ds with
  | nil =>
    cases e
    cases vs with
    | nil => exact ⟨rfl, q σ H s PinOk.refl rfl⟩
    | cons _ _ => cases hl
  | cons _ _ => cases e
theorem sg_cons {e : Expr} {es : List Expr} {g : D → Env → Option Env} {h : List D → Env → Option Env} (h1 : SG X pin e g) (h2 : SGs X pin es h)
    (hst : (assignEach (e :: es) X.env).map (·.2) = assign e X.env :: (assignEach es X.env).map (·.2)) : SGs X pin (e :: es) (gCn g h) := by
  refine PGs.weak (pgs_cons h1 h2 hst) fun vs σ H Q hh => ?_
  obtain ⟨ρ, hs, ds, ρ', s, hl, e, q⟩ := hh
  cases ds with
  | nil => cases e
  | cons d r =>
    cases vs with
    | nil => cases hl
    | cons v vr =>
      have e' : (g d ρ).bind (fun ρ => h r ρ) = some ρ' := e
      cases e1 : g d ρ with
      | none => rw [e1] at e'; cases e'
      | some ρ1 =>
        rw [e1] at e'
        exact ⟨v, vr, rfl, ρ, prs vr r ++ hs, d, ρ1, s, e1, fun σ1 H1 s1 p1 l1 => ⟨ρ1, hs, r, ρ', s1, by simpa using hl, e', fun σ2 H2 s2 p2 l2 => q σ2 H2 s2 (p1.trans p2) (l2.trans l1)⟩⟩
theorem prs_of_all {K : PySem.W.Frag} {H : Hp} {L : List VT} {ws : List Addr} : ∀ {vs : List V} {ds : List D}, RepAll K H (· ∈ ws) vs ds → SepW K H L ws → SepW K H (prs vs ds ++ L) ws
  | _, _, .nil, s => s
  | _, _, .cons r t, s => (prs_of_all t s).pure r
theorem sg_tup {es : List Expr} {k : Nat} {h : List D → Env → Option Env} {n : Nat} (hc : X.calm = true) (h2 : SGs X pin es h) (hn : (assignEach es X.env).length = n) (hst : (assignEach es X.env).findIdx? (·.1) = none) : SG X pin (.Tuple es k pos) (gTp n h) := by
  refine PG.weak (pg_tup hc h2 hn hst) fun v σ H Q hh => ?_
  obtain ⟨ρ, hs, d, ρ', s, e, q⟩ := hh
  unfold gTp at e
  cases d <;> first | (cases e; done) | skip
  rename_i ds
  dsimp only at e
  by_cases hl : ds.length = n
  · rw [if_pos hl] at e
    obtain ⟨ws, w⟩ := s.sep
    have w' := w
    obtain ⟨a, xs, ev, hq, r, _⟩ := w.tup (o := false) (ds := ds) (v := v) (by simp)
    refine ⟨a, xs, ev, hq, by rw [r.length]; exact hl, ρ, hs, ds, ρ', ⟨s.ok, ?_⟩, r.length, e, q⟩
    have w2 := prs_of_all r w
    have p : (prs xs ds ++ (slotsL σ ρ ++ (v, (false, D.tup ds)) :: hs)).Perm ((slotsL σ ρ ++ prs xs ds) ++ ([(v, (false, D.tup ds))] ++ hs)) := by
      rw [← List.append_assoc]
      exact List.perm_append_comm.append_right _
    have q1 : Sep X.K H ((slotsL σ ρ ++ prs xs ds) ++ ([(v, (false, D.tup ds))] ++ hs)) := Sep.perm p ⟨ws, w2⟩
    have q2 := q1.drop_mid
    rw [List.append_assoc] at q2
    exact q2
  · rw [if_neg hl] at e; cases e
end
/-- a, b, .. = e (several targets, one tuple) -/
def putG (g : D → Env → Option Env) (x : XV) (ρ : Env) : R Fl := (frz x ρ).bind fun d ρ => match g d ρ with
  | some ρ => .ok .nx ρ
  | none => .bad
def xSetG (g : D → Env → Option Env) (f : Env → R XV) (ρ : Env) : R Fl := (f ρ).bind (putG g)
section
variable {X : Cx} {W : WX} {pin : List Nat} {e tg : Expr} {fe : Env → R XV} {g : D → Env → Option Env} {pos : Pos}
theorem frz_exc {x : XV} {ρ ρ' : Env} {c : Str} : frz x ρ ≠ .exc c ρ' := fun h => by
  cases x with
  | v o d => cases h
  | b i =>
    unfold frz at h
    dsimp only at h
    cases q : gt ρ i with
    | none => rw [q] at h; cases h
    | some t => rw [q] at h; cases h
theorem ss_asg (he : SE X W e fe) (hg : SG X pin tg g) (hs : swapsWithSole [tg] e pos.line X.env = pure false) (hw : swappedStores [tg] e X.env = pure none) (h1 : (assignEach [tg] X.env).map (·.2) = [assign tg X.env]) : SS X W pin (.Assign [tg] e pos) (xSetG g fe) := by
  refine PS.weak (ps_asg he hg hs hw h1) fun E σ H h => ?_
  obtain ⟨ρ, hs, σ0, s, hp, h⟩ := h
  refine ⟨ρ, hs, s, fin_mono (finS_bind h hp) fun v H1 ⟨x, ρ1, hx, s1, h1⟩ => ?_⟩
  unfold putG at h1
  cases e1 : frz x ρ1 with
  | exc c ρ2 => exact (frz_exc e1).elim
  | bad => rw [e1] at h1; exact h1.elim
  | ok d ρ2 =>
    rw [e1] at h1
    have h2 : finS X.K W hs pin σ0 (match g d ρ2 with | some ρ => .ok .nx ρ | none => .bad) E := h1
    cases e2 : g d ρ2 with
    | none => rw [e2] at h2; exact h2.elim
    | some ρ3 =>
      rw [e2] at h2
      exact ⟨ρ2, hs, d, ρ3, frz_ok s1 hx e1, e2, fun σ' H' s' p' _ => h2 σ' H' s' (hp.trans p')⟩
end

def xWhile (c : Env → R Bool) (f : Env → R Fl) : Nat → Env → R Fl
  | 0, _ => .bad
  | n + 1, ρ => (c ρ).bind fun b ρ => if b = true then (match f ρ with
    | .ok .nx ρ' => xWhile c f n ρ'
    | .ok .ct ρ' => xWhile c f n ρ'
    | .ok .bk ρ' => .ok .nx ρ'
    | .ok (.rt t) ρ' => .ok (.rt t) ρ'
    | .ok (.ra t) ρ' => .ok (.ra t) ρ'
    | .exc c ρ' => .exc c ρ'
    | .bad => .bad) else .ok .nx ρ
section
variable {X : Cx} {W : WX} {pin : List Nat} {c : Expr} {body : List Stmt} {gc : Env → R Bool} {f : Env → R Fl} {pos : Pos}
theorem ss_while (n : Nat) (hpo : PassesOwn (model X.prog X.w) X.A X.env X.xe) (hc : SB X W c gc) (hb : SSs X W pin body f) : SS X W pin (.While c body [] pos) (xWhile gc f n) := by
  refine PS.weak (ps_while hpo hc hb) fun E σ H h => ?_
  obtain ⟨ρ, hs, σ0, s, hp, h⟩ := h
  refine ⟨fun m σ H => ∃ ρ, Stt X.K hs σ H ρ ∧ PinOk pin σ0 σ ∧ finS X.K W hs pin σ0 (xWhile gc f m ρ) E, ⟨n, ρ, s, hp, h⟩, ?_⟩
  rintro m σ1 H1 ⟨ρ1, s1, p1, h1⟩
  cases m with
  | zero => exact h1.elim
  | succ m =>
    refine ⟨ρ1, hs, s1, finB_mono (finS_bindB h1 p1) fun b H2 ⟨ρ2, s2, h2⟩ => ?_⟩
    cases b with
    | false => exact iteF (h2 σ1 H2 s2 p1)
    | true =>
      refine iteT ⟨fun σ H => ∃ ρ, Stt X.K hs σ H ρ ∧ PinOk pin σ0 σ ∧ finS X.K W hs pin σ0 (xWhile gc f m ρ) E, fun σ' H' w => ⟨m, Nat.lt_succ_self m, w⟩, ρ2, hs, σ0, s2, p1, ?_⟩
      rw [if_pos rfl] at h2
      cases e : f ρ2 with
      | ok a ρ3 =>
        rw [e] at h2
        cases a with
        | nx => exact fun σ3 H3 s3 p3 => ⟨ρ3, s3, p3, h2⟩
        | ct => exact fun σ3 H3 s3 p3 => ⟨ρ3, s3, p3, h2⟩
        | bk => exact h2
        | rt t => exact h2
        | ra t => exact h2
      | exc c ρ3 => rw [e] at h2; exact h2
      | bad => rw [e] at h2; exact h2
end

/-- the items; the slot that is locked meanwhile -/
structure Its where
  items : List D
  lk : Option (Nat × T)
def itemsD : D → Option (List D)
  | .tup xs => some xs
  | .lst xs => some xs
  | .scr ns => some (ns.map .int)
  | .str z => if z.length ≤ lim then some (z.cps.toList.map fun c => .str ⟨#[c]⟩) else none
  | _ => none
def itX (x : XV) (ρ : Env) : R Its := match x with
  | .v _ d => (match itemsD d with
    | some l => .ok ⟨l, none⟩ ρ
    | none => .bad)
  | .b i => (match gt ρ i with
    | some t => (match itemsD t.2 with
      | some l => .ok ⟨l, some (i, t)⟩ (pt ρ i none)
      | none => .bad)
    | none => .bad)
def sItE (f : Env → R XV) (ρ : Env) : R Its := (f ρ).bind itX
def rngL (a : Int) (c : Int) : Nat → List D
  | 0 => []
  | n + 1 => .int a :: rngL (a + c) c n
noncomputable def rngX (xs : List XV) (ρ : Env) : R Its := match views xs ρ with
  | some [.int n] => cif (-(2 ^ 62) ≤ n ∧ n ≤ 16777216) (.ok ⟨rngL 0 1 n.toNat, none⟩ ρ) .bad
  | some [.int a, .int b] => cif (-(2 ^ 62) ≤ a ∧ a < 2 ^ 62 ∧ -(2 ^ 62) ≤ b ∧ b < 2 ^ 62 ∧ b - a ≤ 16777216) (.ok ⟨rngL a 1 (b - a).toNat, none⟩ ρ) .bad
  | _ => .bad
noncomputable def sRng (f : Env → R (List XV)) (ρ : Env) : R Its := (f ρ).bind rngX
def unlk (lk : Option (Nat × T)) (ρ : Env) : Option Env := match lk with
  | none => some ρ
  | some (i, t) => (match gt ρ i with
    | none => some (pt ρ i (some t))
    | some _ => none)
/-- a walked thing's items are these, as long as the held thing stands -/
def Src (K : PySem.W.Frag) (J : It) (v : V) (t : T) (items : List D) (B : List VT := []) : Prop := ∀ (i : Nat) (L : List VT) (H : Hp) (ws : List Addr), SepW K H L ws → (v, t) ∈ L → (∀ p ∈ B, p ∈ L) →
  (∀ d, items[i]? = some d → J.go i H ∧ ∀ x H', J.yld i H x H' → Sep K H' ((x, (false, d)) :: L)) ∧ (items.length ≤ i → J.stop i H)
theorem src_pure {K : PySem.W.Frag} {J : It} {v : V} {t : T} {items : List D} (h : ∀ (i : Nat) (L : List VT) (H : Hp) (ws : List Addr), SepW K H L ws → (v, t) ∈ L →
  (∀ d, items[i]? = some d → J.go i H ∧ ∀ x H', J.yld i H x H' → H' = H ∧ Rep K H (· ∈ ws) x d) ∧ (items.length ≤ i → J.stop i H)) : Src K J v t items := fun i L H ws w m _ =>
  ⟨fun d hd => ⟨((h i L H ws w m).1 d hd).1, fun x H' hy => by
    obtain ⟨e, r⟩ := ((h i L H ws w m).1 d hd).2 x H' hy
    rw [e]
    exact ⟨ws, w.pure r⟩⟩, (h i L H ws w m).2⟩
theorem src_lst {K : PySem.W.Frag} {a : Addr} {o : Bool} {ds : List D} : Src K (Itl K a) (.ref a) (o, .lst ds) ds := src_pure fun i L H ws w m => by
  obtain ⟨a', vs, e, hq, r⟩ := w.lst m
  cases e
  refine ⟨fun d hd => ?_, fun hl => ⟨vs, .inl (.inl hq), by rw [r.length]; exact hl⟩⟩
  obtain ⟨v, hv, rv⟩ := r.getD hd
  refine ⟨⟨vs, v, .inl (.inl hq), hv⟩, fun x H' hy => ⟨hy.1, ?_⟩⟩
  have e2 := hy.2 vs (.inl (.inl hq))
  rw [hv] at e2
  cases e2
  exact rv
theorem src_tup {K : PySem.W.Frag} {a : Addr} {o : Bool} {ds : List D} : Src K (Itt K a) (.ref a) (o, .tup ds) ds := src_pure fun i L H ws w m => by
  obtain ⟨a', vs, e, hq, r, _⟩ := w.tup m
  cases e
  refine ⟨fun d hd => ?_, fun hl => ⟨vs, hq, by rw [r.length]; exact hl⟩⟩
  obtain ⟨v, hv, rv⟩ := r.getD hd
  refine ⟨⟨vs, v, hq, hv⟩, fun x H' hy => ⟨hy.1, ?_⟩⟩
  have e2 := hy.2 vs hq
  rw [hv] at e2
  cases e2
  exact rv
theorem src_scr {K : PySem.W.Frag} {a : Addr} {o : Bool} {ns : List Int} : Src K (Itl K a) (.ref a) (o, .scr ns) (ns.map .int) := src_pure fun i L H ws w m => by
  obtain ⟨a', e, hq⟩ := w.scr m
  cases e
  refine ⟨fun d hd => ?_, fun hl => ⟨_, hq, by rw [List.length_map] at hl ⊢; exact hl⟩⟩
  rw [List.getElem?_map] at hd
  cases hn : ns[i]? with
  | none => rw [hn] at hd; cases hd
  | some n =>
    rw [hn] at hd
    cases hd
    have hv : (ns.map V.int)[i]? = some (.int n) := by rw [List.getElem?_map, hn]; rfl
    refine ⟨⟨_, .int n, hq, hv⟩, fun x H' hy => ⟨hy.1, ?_⟩⟩
    have e2 := hy.2 _ hq
    rw [hv] at e2
    cases e2
    exact .int n
theorem src_str {K : PySem.W.Frag} {z : Str} {v : V} {t : T} : Src K (L2.Its z) v t (z.cps.toList.map fun c => .str ⟨#[c]⟩) := src_pure fun i L H ws w m => by
  refine ⟨fun d hd => ?_, fun hl => by rw [List.length_map, Array.length_toList] at hl; exact hl⟩
  rw [List.getElem?_map, Array.getElem?_toList] at hd
  cases hn : z.cps[i]? with
  | none => rw [hn] at hd; cases hd
  | some n =>
    rw [hn] at hd
    cases hd
    refine ⟨(Array.getElem?_eq_some_iff.mp hn).1, fun x H' hy => ⟨hy.1, ?_⟩⟩
    obtain ⟨c, hc, rfl⟩ := hy.2
    rw [hn] at hc
    cases hc
    exact .str _
theorem rngL_get : ∀ (n : Nat) (a c : Int) (i : Nat) (d : D), (rngL a c n)[i]? = some d → i < n ∧ d = .int (a + i * c)
  | 0, _, _, _, _, h => by simp [rngL] at h
  | n + 1, a, c, 0, d, h => by
    simp [rngL] at h
    exact ⟨Nat.succ_pos n, by rw [← h]; simp⟩
  | n + 1, a, c, i + 1, d, h => by
    simp only [rngL, List.getElem?_cons_succ] at h
    obtain ⟨h1, h2⟩ := rngL_get n (a + c) c i d h
    refine ⟨Nat.succ_lt_succ h1, ?_⟩
    rw [h2]
    congr 1
    rw [Int.natCast_succ, Int.add_mul, Int.one_mul]
    omega
theorem rngL_len : ∀ (n : Nat) (a c : Int), (rngL a c n).length = n
  | 0, _, _ => rfl
  | n + 1, a, c => by show (rngL (a + c) c n).length + 1 = n + 1; rw [rngL_len]
theorem src_rng {K : PySem.W.Frag} {a : Int} {n : Nat} {v : V} {t : T} : Src K (Itr a n) v t (rngL a 1 n) := src_pure fun i L H ws w m => by
  refine ⟨fun d hd => ?_, fun hl => by rw [rngL_len] at hl; exact hl⟩
  obtain ⟨h1, h2⟩ := rngL_get n a 1 i d hd
  refine ⟨h1, fun x H' hy => ⟨hy.1, ?_⟩⟩
  rw [hy.2, h2, Int.mul_one]
  exact .int _
/-- an iterable: what comes of it -/
def finI (K : PySem.W.Frag) (W : WX) (hs : List VT) (σ : Sg) (r : R Its) (Q : It → Hp → Prop) : Prop := match r with
  | .ok it ρ => ∀ J v t B H, Src K J v t it.items B → it.items.length ≤ lim → (match it.lk with | none => True | some (i, t') => t' = t ∧ σ[i]? = some (some v) ∧ gt ρ i = none) → Stt K ((v, t) :: (B ++ hs)) σ H ρ → Q J H
  | .exc c ρ => ∀ H, Stt K hs σ H ρ → W (.ref (He.ga K c)) none σ H
  | .bad => False
def tI (K : PySem.W.Frag) (W : WX) (f : Env → R Its) : TI := fun σ H Q => ∃ ρ hs, Stt K hs σ H ρ ∧ finI K W hs σ (f ρ) Q
def SI (X : Cx) (W : WX) (tg it : Expr) (f : Env → R Its) : Prop := PI X tg it (tI X.K W f)
theorem PI.weak {X : Cx} {tg it : Expr} {t t' : TI} (h : PI X tg it t) (w : ∀ σ H Q, t' σ H Q → t σ H Q) : PI X tg it t' := ⟨fun pins s σ H Q I q => h.run pins s σ H Q I (w σ H Q q)⟩
theorem PI.or {X : Cx} {tg it : Expr} {t t' : TI} (h : PI X tg it t) (h' : PI X tg it t') : PI X tg it (fun σ H Q => t σ H Q ∨ t' σ H Q) := ⟨fun pins s σ H Q I q => q.elim (h.run pins s σ H Q I) (h'.run pins s σ H Q I)⟩
theorem lock_ok {K : PySem.W.Frag} {hs : List VT} {σ : Sg} {H : Hp} {ρ : Env} {i : Nat} {v : V} {t : T} (s : Stt K hs σ H ρ) (hx : σ[i]? = some (some v)) (e : gt ρ i = some t) : Stt K ((v, t) :: hs) σ H (pt ρ i none) :=
  ⟨s.ok.clear i, (s.sep.perm ((slots_take hx e).append_right hs)).perm List.perm_middle.symm⟩
theorem unlk_ok {K : PySem.W.Frag} {hs : List VT} {σ : Sg} {H : Hp} {ρ : Env} {i : Nat} {v : V} {t : T} (s : Stt K ((v, t) :: hs) σ H ρ) (hx : σ[i]? = some (some v)) (e : gt ρ i = none) (hi : i < ρ.length) : Stt K hs σ H (pt ρ i (some t)) := by
  refine ⟨s.ok.keep i hx, ?_⟩
  have p := (slots_keep (t := t) hx hi).append_right hs
  rw [pt_none ρ i e] at p
  exact (s.sep.perm List.perm_middle).perm p.symm
section
variable {X : Cx} {W : WX} {tg e : Expr} {f : Env → R XV}
/-- a list, a tuple is never longer than the line -/
def LenOk (K : PySem.W.Frag) (H : Hp) : Prop := ∀ a xs, SqL K H a xs ∨ SqT K H a xs → xs.length ≤ lim
theorem PE.len {t : TE} (h : PE X e t) : PE X e (fun σ H Q => t σ H fun v H1 => LenOk X.K H1 → Q v H1) :=
  ⟨fun pins s σ H Q I q => thn (h.run pins s σ H _ I q) fun u s1 hh => by
    obtain ⟨v, H1, I1, r, q1⟩ := hh
    refine ⟨v, H1, I1, r, q1 fun a xs hq => ?_⟩
    rcases hq with hq | hq
    · obtain ⟨_, _, _, hz⟩ := I1.list hq; exact hz
    · obtain ⟨_, _, _, hz⟩ := I1.tuple hq; exact hz⟩
theorem si_seq (he : SE X W e f) : SI X W tg e (sItE f) := by
  refine PI.weak (PI.or (pi_list (PE.len he)) (PI.or (pi_tup (PE.len he)) (pi_str (PE.len he)))) fun σ H Q h => ?_
  obtain ⟨ρ, hs, s, h⟩ := h
  unfold sItE at h
  cases e1 : f ρ with
  | bad => rw [e1] at h; exact h.elim
  | exc c ρ1 =>
    rw [e1] at h
    exact .inl ⟨ρ, hs, s, by rw [e1]; exact h⟩
  | ok x ρ1 =>
    rw [e1] at h
    have h1 : finI X.K W hs σ (itX x ρ1) Q := h
    -- what is walked, and the state
    have key : ∃ d l, itemsD d = some l ∧ ∀ v H1, ResV σ x v → Stt X.K (hld x v ++ hs) σ H1 ρ1 → ∃ o ρ2, Stt X.K ((v, (o, d)) :: hs) σ H1 ρ2 ∧ ∀ J, Src X.K J v (o, d) l → l.length ≤ lim → Q J H1 := by
      unfold itX at h1
      cases x with
      | v o d =>
        dsimp only at h1
        cases e2 : itemsD d with
        | none => rw [e2] at h1; exact h1.elim
        | some l =>
          rw [e2] at h1
          exact ⟨d, l, e2, fun v H1 hx s1 => ⟨o, ρ1, s1, fun J hJ hz => h1 J v (o, d) [] H1 hJ hz trivial s1⟩⟩
      | b i =>
        dsimp only at h1
        cases e3 : gt ρ1 i with
        | none => rw [e3] at h1; exact h1.elim
        | some t =>
          rw [e3] at h1
          dsimp only at h1
          cases e2 : itemsD t.2 with
          | none => rw [e2] at h1; exact h1.elim
          | some l =>
            rw [e2] at h1
            refine ⟨t.2, l, e2, fun v H1 hx s1 => ⟨t.1, _, lock_ok s1 hx e3, fun J hJ hz => h1 J v t [] H1 hJ hz ⟨rfl, hx, gt_pt_same _ _ _ (gt_lt e3)⟩ (lock_ok s1 hx e3)⟩⟩
    obtain ⟨d, l, e2, k⟩ := key
    cases d <;> first | (cases e2; done) | skip
    · rename_i z
      have e3 : (if z.length ≤ lim then some (z.cps.toList.map fun c => D.str ⟨#[c]⟩) else none) = some l := e2
      by_cases hz : z.length ≤ lim
      · rw [if_pos hz] at e3
        have e4 := Option.some.inj e3
        refine .inr (.inr ⟨ρ, hs, s, ?_⟩)
        rw [e1]
        intro v H1 hx s1 lo
        obtain ⟨o, ρ2, s2, q⟩ := k v H1 hx s1
        rw [← e4] at q
        exact ⟨_, s2.sep.str (o := o) (List.mem_append_right _ List.mem_cons_self), q _ src_str (by rw [List.length_map, Array.length_toList]; exact hz)⟩
      · rw [if_neg hz] at e3; cases e3
    · refine .inr (.inl ⟨ρ, hs, s, ?_⟩)
      rw [e1]
      intro v H1 hx s1 lo
      obtain ⟨o, ρ2, s2, q⟩ := k v H1 hx s1
      obtain ⟨ws, w⟩ := s2.sep
      cases e2
      obtain ⟨a, vs, ev, hq, hr, _⟩ := w.tup (v := v) (o := o) (List.mem_append_right _ List.mem_cons_self)
      subst ev
      exact ⟨a, rfl, ⟨vs, hq⟩, q _ src_tup (by rw [← hr.length]; exact lo a vs (.inr hq))⟩
    · refine .inl ⟨ρ, hs, s, ?_⟩
      rw [e1]
      intro v H1 hx s1 lo
      obtain ⟨o, ρ2, s2, q⟩ := k v H1 hx s1
      obtain ⟨ws, w⟩ := s2.sep
      cases e2
      obtain ⟨a, vs, ev, hq, hr⟩ := w.lst (v := v) (o := o) (List.mem_append_right _ List.mem_cons_self)
      subst ev
      exact ⟨a, rfl, ⟨vs, .inl (.inl hq)⟩, q _ src_lst (by rw [← hr.length]; exact lo a vs (.inl (.inl (.inl hq))))⟩
    · refine .inl ⟨ρ, hs, s, ?_⟩
      rw [e1]
      intro v H1 hx s1 lo
      obtain ⟨o, ρ2, s2, q⟩ := k v H1 hx s1
      obtain ⟨ws, w⟩ := s2.sep
      cases e2
      obtain ⟨a, ev, hq⟩ := w.scr (v := v) (o := o) (List.mem_append_right _ List.mem_cons_self)
      subst ev
      exact ⟨a, rfl, ⟨_, hq⟩, q _ src_scr (by have := lo a _ (.inl hq); rw [List.length_map] at this ⊢; exact this)⟩
theorem rngX_ok {K : PySem.W.Frag} {hs : List VT} {σ : Sg} {H : Hp} {ρ : Env} {xs : List XV} {vs : List V} {Q : It → Hp → Prop} (s : Stt K (hlds xs vs ++ hs) σ H ρ) (hx : ResVs σ xs vs) (h : finI K W hs σ (rngX xs ρ) Q) :
    (∃ j : Int, vs = [.int j] ∧ -(2 ^ 62) ≤ j ∧ j < 2 ^ 62 ∧ Q (Itr 0 j.toNat) H) ∨ (∃ i j : Int, vs = [.int i, .int j] ∧ (-(2 ^ 62) ≤ i ∧ i < 2 ^ 62 ∧ -(2 ^ 62) ≤ j ∧ j < 2 ^ 62) ∧ Q (Itr i (j - i).toNat) H) := by
  unfold rngX at h
  cases e : views xs ρ with
  | none => rw [e] at h; exact h.elim
  | some ds =>
    rw [e] at h
    have ms := views_mem s hx (fun p hp => List.mem_append_left _ hp) e
    have s0 : Stt K hs σ H ρ := s.dropA
    have s1 : Stt K ((.non, (false, .non)) :: hs) σ H ρ := ⟨s0.ok, Sep.perm List.perm_middle.symm (s0.sep.pureC fun _ => .non)⟩
    split at h
    · rename_i n e2
      obtain rfl := Option.some.inj e2
      by_cases hb : -(2 ^ 62) ≤ n ∧ n ≤ 16777216
      · rw [cif_pos hb] at h
        cases ms with
        | cons h1 t1 =>
          cases t1
          obtain ⟨o, m⟩ := h1
          exact .inl ⟨n, by rw [s.sep.int m], hb.1, by omega, h _ .non (false, .non) [] H src_rng (by rw [rngL_len]; show n.toNat ≤ 16777216; omega) trivial s1⟩
      · rw [cif_neg hb] at h; exact h.elim
    · rename_i a b e2
      obtain rfl := Option.some.inj e2
      by_cases hb : -(2 ^ 62) ≤ a ∧ a < 2 ^ 62 ∧ -(2 ^ 62) ≤ b ∧ b < 2 ^ 62 ∧ b - a ≤ 16777216
      · rw [cif_pos hb] at h
        cases ms with
        | cons h1 t1 =>
          cases t1 with
          | cons h2 t2 =>
            cases t2
            obtain ⟨o, m⟩ := h1
            obtain ⟨o2, m2⟩ := h2
            exact .inr ⟨a, b, by rw [s.sep.int m, s.sep.int m2], ⟨hb.1, hb.2.1, hb.2.2.1, hb.2.2.2.1⟩, h _ .non (false, .non) [] H src_rng (by rw [rngL_len]; show (b - a).toNat ≤ 16777216; omega) trivial s1⟩
      · rw [cif_neg hb] at h; exact h.elim
    · exact h.elim
theorem finI_bindA {K : PySem.W.Frag} {hs : List VT} {σ : Sg} {r : R (List XV)} {k : List XV → Env → R Its} {Q : It → Hp → Prop} (h : finI K W hs σ (r.bind k) Q) :
    finA K W hs σ r (fun vs H1 => ∃ xs ρ1, ResVs σ xs vs ∧ Stt K (hlds xs vs ++ hs) σ H1 ρ1 ∧ finI K W hs σ (k xs ρ1) Q) := by
  cases r with
  | ok x ρ => exact fun v H1 hv s => ⟨x, ρ, hv, s, h⟩
  | exc c ρ => exact h
  | bad => exact h
theorem si_rng1 {a : Expr} {fs : Env → R (List XV)} {p pos : Pos} (hg : Gl X "range") (hm : X.mg "range" = none) (ha : SA X W [a] fs) (hst : starEach [a] X.env = [(false, eval a X.env)]) (h1 : ∀ ρ xs ρ', fs ρ = .ok xs ρ' → xs.length = 1) : SI X W tg (.Call (.Name "range" p) [a] [] pos) (sRng fs) := by
  refine PI.weak (pi_range1 hg hm ha hst) fun σ H Q h => ?_
  obtain ⟨ρ, hs, s, h⟩ := h
  refine ⟨ρ, hs, s, ?_⟩
  have h2 := finI_bindA h
  cases e : fs ρ with
  | ok xs ρ1 =>
    rw [e] at h2
    intro vs H1 hx s1
    obtain ⟨xs', ρ2, hx', s2, h3⟩ := h2 vs H1 hx s1
    have hl : ∀ {xs : List XV} {vs : List V}, ResVs σ xs vs → xs.length = vs.length := by
      intro xs
      induction xs with
      | nil => intro vs h; cases vs with | nil => rfl | cons _ _ => exact h.elim
      | cons x xs ih => intro vs h; cases vs with | nil => exact h.elim | cons v vs => rw [List.length_cons, List.length_cons, ih h.2]
    rcases rngX_ok s2 hx' h3 with q | ⟨i, j, ev, _⟩
    · exact q
    · have := h1 ρ xs ρ1 e
      rw [hl hx, ev] at this
      cases this
  | exc c ρ1 => rw [e] at h2; exact h2
  | bad => rw [e] at h2; exact h2
end
end Lz
namespace Lz
open PySem PySem.Spec PyProof.Rows L2

def forL (g : D → Env → Option Env) (f : Env → R Fl) : List D → Env → R Fl
  | [], ρ => .ok .nx ρ
  | d :: ds, ρ => match g d ρ with
    | none => .bad
    | some ρ1 => match f ρ1 with
      | .ok .nx ρ2 => forL g f ds ρ2
      | .ok .ct ρ2 => forL g f ds ρ2
      | .ok .bk ρ2 => .ok .nx ρ2
      | .ok (.rt t) ρ2 => .ok (.rt t) ρ2
      | .ok (.ra t) ρ2 => .ok (.ra t) ρ2
      | .exc c ρ2 => .exc c ρ2
      | .bad => .bad
def relk {α : Type} (lk : Option (Nat × T)) (r : R α) : R α := match r with
  | .ok a ρ => (match unlk lk ρ with
    | some ρ' => .ok a ρ'
    | none => .bad)
  | .exc c ρ => (match unlk lk ρ with
    | some ρ' => .exc c ρ'
    | none => .bad)
  | .bad => .bad
def lkOk (pin : List Nat) (lk : Option (Nat × T)) : Bool := match lk with
  | none => true
  | some (i, _) => pin.contains i
def xFor (pin : List Nat) (si : Env → R Its) (g : D → Env → Option Env) (f : Env → R Fl) (ρ : Env) : R Fl := (si ρ).bind fun it ρ => if lkOk pin it.lk = true then relk it.lk (forL g f it.items ρ) else .bad
def LkC (σ : Sg) (v : V) (t : T) (lk : Option (Nat × T)) : Prop := match lk with
  | none => True
  | some (i, t') => t' = t ∧ σ[i]? = some (some v)
section
variable {K : PySem.W.Frag} {W : WX} {hs A : List VT} {σ σ0 : Sg} {H : Hp} {ρ ρ' : Env} {pin : List Nat} {v : V} {t : T} {lk : Option (Nat × T)}
theorem unlkS (s : Stt K ((v, t) :: hs) σ H ρ) (hc : LkC σ v t lk) (e : unlk lk ρ = some ρ') : Stt K hs σ H ρ' := by
  cases lk with
  | none =>
    cases e
    exact Stt.dropA (A := [(v, t)]) s
  | some p =>
    obtain ⟨i, t'⟩ := p
    obtain ⟨rfl, hx⟩ := hc
    unfold unlk at e
    dsimp only at e
    cases q : gt ρ i with
    | some _ => rw [q] at e; cases e
    | none =>
      rw [q] at e
      cases e
      by_cases hi : i < ρ.length
      · exact unlk_ok s hx q hi
      · rw [pt_out ρ i _ (by omega)]
        exact Stt.dropA (A := [(v, t')]) s
theorem finI_mono {r : R Its} {Q Q' : It → Hp → Prop} (h : finI K W hs σ r Q) (m : ∀ v H, Q v H → Q' v H) : finI K W hs σ r Q' := by
  cases r with
  | ok x ρ => exact fun J v t B H h1 h2 h3 h4 => m _ _ (h J v t B H h1 h2 h3 h4)
  | exc c ρ => exact h
  | bad => exact h
theorem finS_bindI {k : Its → Env → R Fl} {r : R Its} {E : Ends} (h : finS K W hs pin σ0 (r.bind k) E) (hp : PinOk pin σ0 σ) :
    finI K W hs σ r (fun J H1 => ∃ it ρ1 v t B, Src K J v t it.items B ∧ it.items.length ≤ lim ∧ LkC σ v t it.lk ∧ Stt K ((v, t) :: (B ++ hs)) σ H1 ρ1 ∧ finS K W hs pin σ0 (k it ρ1) E) := by
  cases r with
  | ok it ρ =>
    refine fun J v t B H1 h1 h2 h3 h4 => ⟨it, ρ, v, t, B, h1, h2, ?_, h4, h⟩
    unfold LkC
    split <;> rename_i hlk
    · trivial
    · rw [hlk] at h3; exact ⟨h3.1, h3.2.1⟩
  | exc c ρ => exact fun H1 s => h σ H1 s hp
  | bad => exact h
theorem fin_bindI {k : Its → Env → R XV} {r : R Its} {Q : VK} (h : fin K W hs σ (r.bind k) Q) :
    finI K W hs σ r (fun J H1 => ∃ it ρ1 v t B, Src K J v t it.items B ∧ it.items.length ≤ lim ∧ LkC σ v t it.lk ∧ Stt K ((v, t) :: (B ++ hs)) σ H1 ρ1 ∧ fin K W hs σ (k it ρ1) Q) := by
  cases r with
  | ok it ρ =>
    refine fun J v t B H1 h1 h2 h3 h4 => ⟨it, ρ, v, t, B, h1, h2, ?_, h4, h⟩
    unfold LkC
    split <;> rename_i hlk
    · trivial
    · rw [hlk] at h3; exact ⟨h3.1, h3.2.1⟩
  | exc c ρ => exact h
  | bad => exact h
theorem finS_more {B : List VT} {r : R Fl} {E : Ends} (h : finS K W hs pin σ0 r E) : finS K W (B ++ hs) pin σ0 r E := by
  cases r with
  | ok a ρ =>
    cases a with
    | nx => exact fun σ H s p => h σ H s.dropA p
    | bk => exact fun σ H s p => h σ H s.dropA p
    | ct => exact fun σ H s p => h σ H s.dropA p
    | rt t => exact fun u σ H s p => h u σ H (Stt.dropA (A := B) (s.perm (List.perm_middle (l₁ := B)).symm)) p
    | ra t => exact fun u σ H q s p => h u σ H q s.dropA p
  | exc c ρ => exact fun σ H s p => h σ H s.dropA p
  | bad => exact h
theorem fin_more {B : List VT} {r : R XV} {Q : VK} (h : fin K W hs σ r Q) : fin K W (B ++ hs) σ r Q := by
  cases r with
  | ok x ρ => exact fun v H hv s => h v H hv (Stt.dropA (A := B) (s.perm (by
      rw [← List.append_assoc, ← List.append_assoc]
      exact List.perm_append_comm.append_right hs)))
  | exc c ρ => exact fun H s => h H s.dropA
  | bad => exact h
/-- the loop's end: unlocked -/
theorem relk_nx {E : Ends} (h : finS K W hs pin σ0 (relk lk (.ok .nx ρ)) E) (s : Stt K ((v, t) :: hs) σ H ρ) (hc : LkC σ v t lk) (hp : PinOk pin σ0 σ) : E.nx σ H := by
  unfold relk at h
  dsimp only at h
  cases e : unlk lk ρ with
  | none => rw [e] at h; exact h.elim
  | some ρ' => rw [e] at h; exact h σ H (unlkS s hc e) hp
theorem relk_rt {E : Ends} {u : V} {t2 : T} (h : finS K W hs pin σ0 (relk lk (.ok (.rt t2) ρ)) E) (s : Stt K ((u, t2) :: (v, t) :: hs) σ H ρ) (hc : LkC σ v t lk) (hp : PinOk pin σ0 σ) : E.rt u H := by
  unfold relk at h
  dsimp only at h
  cases e : unlk lk ρ with
  | none => rw [e] at h; exact h.elim
  | some ρ' => rw [e] at h; exact h u σ H (unlkS (s.perm (.swap _ _ _)) hc e) hp
theorem relk_ra {E : Ends} {u : V} {j : Nat} (h : finS K W hs pin σ0 (relk lk (.ok (.ra j) ρ)) E) (s : Stt K ((v, t) :: hs) σ H ρ) (hj : σ[j]? = some (some u)) (hc : LkC σ v t lk) (hp : PinOk pin σ0 σ) : E.rt u H := by
  unfold relk at h
  dsimp only at h
  cases e : unlk lk ρ with
  | none => rw [e] at h; exact h.elim
  | some ρ' => rw [e] at h; exact h u σ H hj (unlkS s hc e) hp
theorem relk_exc {E : Ends} {c : Str} (h : finS K W hs pin σ0 (relk lk (.exc c ρ)) E) (s : Stt K ((v, t) :: hs) σ H ρ) (hc : LkC σ v t lk) (hp : PinOk pin σ0 σ) : W (.ref (He.ga K c)) none σ H := by
  unfold relk at h
  dsimp only at h
  cases e : unlk lk ρ with
  | none => rw [e] at h; exact h.elim
  | some ρ' => rw [e] at h; exact h σ H (unlkS s hc e) hp
theorem lkC_keep {σ1 : Sg} (hc : LkC σ v t lk) (hl : lkOk pin lk = true) (hp : PinOk pin σ σ1) : LkC σ1 v t lk := by
  cases lk with
  | none => trivial
  | some p =>
    obtain ⟨i, t'⟩ := p
    exact ⟨hc.1, by rw [hp i (by simpa [lkOk] using hl)]; exact hc.2⟩
theorem drop_succ {α : Type} {l : List α} {i : Nat} {x : α} (h : l[i]? = some x) : l.drop i = x :: l.drop (i + 1) := by
  obtain ⟨h1, h2⟩ := List.getElem?_eq_some_iff.mp h
  rw [← h2]
  exact (List.drop_eq_getElem_cons h1)
end
section
variable {X : Cx} {W : WX} {pin pin' : List Nat} {tg iter : Expr} {body : List Stmt} {si : Env → R Its} {g : D → Env → Option Env} {f : Env → R Fl} {pos : Pos}
theorem ss_for (hpo : PassesOwn (model X.prog X.w) X.A X.env X.xe) (hc : X.calm = true) (hsub : ∀ j ∈ pin, j ∈ pin') (hi : SI X W tg iter si) (hg : SG X pin' tg g) (hb : SSs X W pin' body f)
    (hs : ∀ x, foldedSetIterable iter X.env x = pure x) : SS X W pin (.For tg iter body [] pos) (xFor pin' si g f) := by
  refine PS.weak (ps_for hpo hc hi hg hb hs) fun E σ H h => ?_
  obtain ⟨ρ, hs, σ0, s, hp, h⟩ := h
  refine ⟨ρ, hs, s, finI_mono (finS_bindI h hp) fun J H1 hh => ?_⟩
  obtain ⟨it, ρ1, v, t, B, src, hz, hl, s1, h1⟩ := hh
  replace h1 := finS_more (B := B) h1
  have hB : ∀ p ∈ B, p ∈ B ++ hs := fun p hp => List.mem_append_left _ hp
  generalize B ++ hs = hs at s1 h1 hB
  cases hk : lkOk pin' it.lk with
  | false => rw [hk] at h1; exact h1.elim
  | true =>
    rw [hk, if_pos rfl] at h1
    have up : ∀ {σ1 : Sg}, PinOk pin' σ σ1 → PinOk pin σ0 σ1 := fun p => hp.trans fun j hj => p j (hsub j hj)
    refine ⟨fun i m σ1 H' => m = it.items.length - i ∧ i ≤ it.items.length ∧ ∃ ρ2, Stt X.K ((v, t) :: hs) σ1 H' ρ2 ∧ PinOk pin' σ σ1 ∧ finS X.K W hs pin σ0 (relk it.lk (forL g f (it.items.drop i) ρ2)) E,
      ⟨_, rfl, Nat.zero_le _, ρ1, s1, PinOk.refl, h1⟩, ?_⟩
    rintro i m σ1 H2 ⟨rfl, hi, ρ2, s2, p2, h2⟩
    have s2' := s2
    obtain ⟨ws, w⟩ := s2'.sep
    obtain ⟨sr1, sr2⟩ := src i _ H2 ws w (List.mem_append_right _ List.mem_cons_self) (fun p hp => List.mem_append_right _ (List.mem_cons_of_mem _ (hB p hp)))
    have hl1 := lkC_keep hl hk p2
    cases hd : it.items[i]? with
    | none =>
      have hlen : it.items.length ≤ i := List.getElem?_eq_none_iff.mp hd
      refine .inl ⟨sr2 hlen, ?_⟩
      rw [List.drop_of_length_le hlen] at h2
      exact relk_nx h2 s2 hl1 (up p2)
    | some d =>
      obtain ⟨go, yl⟩ := sr1 d hd
      have hlt : i < it.items.length := (List.getElem?_eq_some_iff.mp hd).1
      refine .inr ⟨go, fun σ3 H3 => i + 1 ≤ it.items.length ∧ ∃ ρ3, Stt X.K ((v, t) :: hs) σ3 H3 ρ3 ∧ PinOk pin' σ σ3 ∧ finS X.K W hs pin σ0 (relk it.lk (forL g f (it.items.drop (i + 1)) ρ3)) E,
        fun σ3 H3 hN => ⟨it.items.length - (i + 1), by omega, rfl, hN⟩, fun x H' hy => ?_⟩
      have sx := yl x H' hy
      rw [drop_succ hd] at h2
      unfold forL at h2
      cases eg : g d ρ2 with
      | none => rw [eg] at h2; exact h2.elim
      | some ρ3 =>
        rw [eg] at h2
        dsimp only at h2
        refine ⟨ρ2, (v, t) :: hs, d, ρ3, ⟨s2.ok, Sep.perm List.perm_middle.symm sx⟩, eg, fun σ3 H3 s3 p3 l3 => ?_⟩
        refine ⟨ρ3, (v, t) :: hs, σ, s3, p2.trans p3, ?_⟩
        cases ef : f ρ3 with
        | ok a ρ4 =>
          rw [ef] at h2
          cases a with
          | nx => exact fun σ4 H4 s4 p4 => ⟨hlt, ρ4, s4, p4, h2⟩
          | ct => exact fun σ4 H4 s4 p4 => ⟨hlt, ρ4, s4, p4, h2⟩
          | bk => exact fun σ4 H4 s4 p4 => relk_nx (W := W) (E := E) h2 s4 (lkC_keep hl hk p4) (up p4)
          | rt t2 => exact fun u σ4 H4 s4 p4 => relk_rt (W := W) (E := E) h2 s4 (lkC_keep hl hk p4) (up p4)
          | ra t2 => exact fun u σ4 H4 hj s4 p4 => relk_ra (W := W) (E := E) h2 s4 hj (lkC_keep hl hk p4) (up p4)
        | exc c ρ4 => rw [ef] at h2; exact fun σ4 H4 s4 p4 => relk_exc (W := W) (E := E) h2 s4 (lkC_keep hl hk p4) (up p4)
        | bad => rw [ef] at h2; exact h2.elim
end

def clr : List Nat → Env → Env
  | [], ρ => ρ
  | i :: r, ρ => pt (clr r ρ) i none
def compL (own : List Nat) (g : D → Env → Option Env) (c : Env → R Bool) (f : Env → R XV) : List D → Env → R (List D)
  | [], ρ => .ok [] ρ
  | d :: ds, ρ => match g d ρ with
    | none => .bad
    | some ρ1 => (c ρ1).bind fun b ρ2 => if b = true then (f ρ2).bind fun x ρ3 => (frz x ρ3).bind fun e ρ4 => (compL own g c f ds (clr own ρ4)).bind fun es ρ5 => .ok (e :: es) ρ5
      else compL own g c f ds (clr own ρ2)
def noX {α : Type} (r : R α) : R α := match r with
  | .exc _ _ => .bad
  | r => r
/-- the slots of a comprehension's own names are put back -/
def rest : List Nat → Env → Env → Env
  | [], _, ρ' => ρ'
  | i :: r, ρ, ρ' => rest r ρ (match gt (clr r ρ) i with
    | some t => pt ρ' i (some t)
    | none => ρ')
def sComp (own : List Nat) (si : Env → R Its) (g : D → Env → Option Env) (c : Env → R Bool) (f : Env → R XV) (ρ : Env) : R XV :=
  (si ρ).bind fun it ρ1 => relk it.lk ((noX (compL own g c f it.items (clr own ρ1))).bind fun es ρ2 => .ok (.v true (.lst es)) (rest own ρ1 ρ2))
def W0 : WX := fun _ _ _ _ => False
def SC (X : Cx) (ifs : List Expr) (c : Env → R Bool) : Prop := PTs X ifs (tT X.K W0 c)
theorem PTs.weak {X : Cx} {ifs : List Expr} {t t' : TT} (h : PTs X ifs t) (w : ∀ σ H Q, t' σ H Q → t σ H Q) : PTs X ifs t' := ⟨fun pins s σ H Q I q => h.run pins s σ H Q I (w σ H Q q)⟩
theorem sc_nil {X : Cx} : SC X [] (fun ρ => .ok true ρ) := PTs.weak pts_nil fun σ H Q ⟨ρ, hs, s, h⟩ => h H s
/-- the slots that are not the comprehension's own -/
def notOwn (n : Nat) (own : List Nat) : List Nat := (List.range n).filter fun i => !own.contains i

theorem gt_clr_in : ∀ (own : List Nat) (ρ : Env) (i : Nat), i ∈ own → gt (clr own ρ) i = none
  | [], _, _, h => by cases h
  | j :: r, ρ, i, h => by
    show gt (pt (clr r ρ) j none) i = none
    by_cases e : j = i
    · subst e
      by_cases hl : j < (clr r ρ).length
      · exact gt_pt_same _ _ _ hl
      · rw [pt_out _ _ _ (by omega)]
        cases q : gt (clr r ρ) j with
        | none => rfl
        | some t => exact absurd (gt_lt q) hl
    · rw [gt_pt_ne _ _ _ _ e]
      rcases List.mem_cons.mp h with e2 | h
      · exact absurd e2.symm e
      · exact gt_clr_in r ρ i h
section
variable {K : PySem.W.Frag} {W : WX} {hs A : List VT} {σ σ0 : Sg} {H : Hp} {ρ ρ' : Env}
theorem slots_eq : ∀ {σ σ' : Sg} {ρ : Env}, σ.length = ρ.length → σ'.length = ρ.length → (∀ i t, gt ρ i = some t → σ[i]? = σ'[i]?) → slotsL σ ρ = slotsL σ' ρ
  | [], [], _, _, _, _ => rfl
  | [], _ :: _, [], _, h, _ => by cases h
  | [], _ :: _, _ :: _, h, _, _ => by cases h
  | _ :: _, [], [], h, _, _ => by cases h
  | _ :: _, [], _ :: _, _, h, _ => by cases h
  | _ :: _, _ :: _, [], h, _, _ => by cases h
  | s :: σ, s' :: σ', x :: ρ, h1, h2, h => by
    have ih := slots_eq (σ := σ) (σ' := σ') (ρ := ρ) (by simpa using h1) (by simpa using h2) fun i t e => by simpa using h (i + 1) t e
    cases x with
    | none => cases s <;> cases s' <;> exact ih
    | some t =>
      have e : s = s' := by simpa using h 0 t rfl
      subst e
      cases s with
      | none => exact ih
      | some v => show _ :: _ = _ :: _; rw [ih]
theorem sok_eq : ∀ {σ σ' : Sg} {ρ : Env}, SOk σ ρ → σ'.length = ρ.length → (∀ i t, gt ρ i = some t → σ[i]? = σ'[i]?) → SOk σ' ρ
  | [], [], [], _, _, _ => trivial
  | [], _ :: _, [], _, h, _ => by cases h
  | [], _, _ :: _, h, _, _ => h.elim
  | _ :: _, _, [], h, _, _ => h.elim
  | _ :: _, [], _ :: _, _, h, _ => by cases h
  | s :: σ, s' :: σ', x :: ρ, h1, h2, h => by
    refine ⟨fun q => ?_, sok_eq h1.2 (by simpa using h2) fun i t e => by simpa using h (i + 1) t e⟩
    obtain ⟨t, rfl⟩ := Option.isSome_iff_exists.mp q
    have e : s = s' := by simpa using h 0 t rfl
    rw [← e]
    exact h1.1 rfl
theorem Stt.chg {σ' : Sg} (s : Stt K hs σ H ρ) (hl : σ'.length = σ.length) (h : ∀ i t, gt ρ i = some t → σ[i]? = σ'[i]?) : Stt K hs σ' H ρ := by
  have l := s.ok.len
  exact ⟨sok_eq s.ok (by omega) h, by rw [← slots_eq l (by omega) h]; exact s.sep⟩
theorem wipe_get : ∀ (own : List Nat) (σ : Sg) (i : Nat), i ∉ own → (wipe σ own)[i]? = σ[i]?
  | [], _, _, _ => rfl
  | j :: r, σ, i, h => by
    unfold wipe
    rw [List.getElem?_set_ne (fun e => h (by rw [← e]; exact List.mem_cons_self))]
    exact wipe_get r σ i fun q => h (List.mem_cons_of_mem _ q)
theorem wipe_in : ∀ (own : List Nat) (σ : Sg) (i : Nat), i ∈ own → i < σ.length → (wipe σ own)[i]? = some none
  | [], _, _, h, _ => by cases h
  | j :: r, σ, i, h, hl => by
    unfold wipe
    by_cases e : j = i
    · subst e
      rw [List.getElem?_set_self (by rw [wipe_length]; exact hl)]
    · rw [List.getElem?_set_ne e]
      rcases List.mem_cons.mp h with e2 | h
      · exact absurd e2.symm e
      · exact wipe_in r σ i h hl
theorem wipe_eq {own : List Nat} {σ σ' : Sg} (hl : σ'.length = σ.length) (h : ∀ i, i ∉ own → σ'[i]? = σ[i]?) : wipe σ' own = wipe σ own := by
  apply List.ext_getElem?
  intro i
  by_cases hi : i ∈ own
  · by_cases hlt : i < σ.length
    · rw [wipe_in own σ i hi hlt, wipe_in own σ' i hi (by omega)]
    · rw [List.getElem?_eq_none (by rw [wipe_length]; omega), List.getElem?_eq_none (by rw [wipe_length]; omega)]
  · rw [wipe_get own σ i hi, wipe_get own σ' i hi, h i hi]
theorem Stt.wiped {own : List Nat} (s : Stt K hs σ H ρ) (h : ∀ i ∈ own, gt ρ i = none) : Stt K hs (wipe σ own) H ρ :=
  s.chg (wipe_length _ _) fun i t e => (wipe_get own σ i fun q => by rw [h i q] at e; cases e).symm
theorem Stt.unwiped {own : List Nat} (s : Stt K hs (wipe σ own) H ρ) (h : ∀ i ∈ own, gt ρ i = none) : Stt K hs σ H ρ :=
  s.chg (wipe_length _ _).symm fun i t e => wipe_get own σ i fun q => by rw [h i q] at e; cases e
theorem Stt.clear (s : Stt K hs σ H ρ) (i : Nat) : Stt K hs σ H (pt ρ i none) := by
  refine ⟨s.ok.clear i, ?_⟩
  cases e : gt ρ i with
  | none => rw [pt_none ρ i e]; exact s.sep
  | some t =>
    obtain ⟨v, hv⟩ := s.ok.slot e
    exact (s.sep.perm ((slots_take hv e).append_right hs)).drop
theorem saved_ok : ∀ (O : List Nat) {hs : List VT} {ρ : Env}, Stt K hs σ H ρ → ∃ sav, Stt K (sav ++ hs) σ H (Lz.clr O ρ) ∧
    ∀ (hs' : List VT) (H' : Hp) (ρ' : Env), (∀ j ∈ O, gt ρ' j = none) → Stt K (sav ++ hs') σ H' ρ' → Stt K hs' σ H' (rest O ρ ρ')
  | [], hs, ρ, s => ⟨[], s, fun hs' H' ρ' _ s' => s'⟩
  | i :: r, hs, ρ, s => by
    obtain ⟨sav, s1, k1⟩ := saved_ok r s
    cases e : gt (Lz.clr r ρ) i with
    | none =>
      refine ⟨sav, ?_, fun hs' H' ρ' hn s' => ?_⟩
      · show Stt K (sav ++ hs) σ H (pt (Lz.clr r ρ) i none)
        rw [pt_none _ _ e]; exact s1
      · show Stt K hs' σ H' (rest r ρ (match gt (Lz.clr r ρ) i with | some t => pt ρ' i (some t) | none => ρ'))
        rw [e]
        exact k1 hs' H' ρ' (fun j hj => hn j (List.mem_cons_of_mem _ hj)) s'
    | some t =>
      obtain ⟨v, hv⟩ := s1.ok.slot e
      refine ⟨(v, t) :: sav, lock_ok s1 hv e, fun hs' H' ρ' hn s' => ?_⟩
      show Stt K hs' σ H' (rest r ρ (match gt (Lz.clr r ρ) i with | some t => pt ρ' i (some t) | none => ρ'))
      rw [e]
      have hni : gt ρ' i = none := hn i List.mem_cons_self
      have s2 : Stt K (sav ++ hs') σ H' (pt ρ' i (some t)) := by
        by_cases hi : i < ρ'.length
        · exact unlk_ok s' hv hni hi
        · rw [pt_out ρ' i _ (by omega)]
          exact Stt.dropA (A := [(v, t)]) s'
      refine k1 hs' H' _ (fun j hj => ?_) s2
      have ne : i ≠ j := fun q => by
        rw [← q] at hj
        rw [gt_clr_in r ρ i hj] at e
        cases e
      rw [gt_pt_ne _ _ _ _ ne]
      exact hn j (List.mem_cons_of_mem _ hj)
theorem Stt.clr (s : Stt K hs σ H ρ) : ∀ own : List Nat, Stt K hs σ H (Lz.clr own ρ)
  | [] => s
  | i :: r => (Stt.clr s r).clear i
end

section
variable {X : Cx} {W : WX} {elt tg iter : Expr} {ifs : List Expr} {scope : Scope} {own : List (Str × Nat)} {pos : Pos} {si : Env → R Its} {g : D → Env → Option Env} {c : Env → R Bool} {f : Env → R XV}
theorem tLc_of {σ : Sg} {H : Hp} {Q : VK} (hN : σ.length = X.N.length) (h : tE X.K W (sComp (own.map (·.2)) si g c f) σ H Q) :
    tLc (tI X.K W si) (tG X.K (notOwn X.N.length (own.map (·.2))) g) (tT X.K W0 c) (tE X.K W0 f) (own.map (·.2)) σ H Q := by
  generalize hO : own.map (·.2) = O at h ⊢
  obtain ⟨ρ, hs, s, h⟩ := h
  refine ⟨ρ, hs, s, finI_mono (fin_bindI h) fun J H1 hh => ?_⟩
  obtain ⟨it, ρ1, v, t, B, src, hz, hlk, s1, h1⟩ := hh
  replace h1 := fin_more (B := B) h1
  have hB : ∀ p ∈ B, p ∈ B ++ hs := fun p hp => List.mem_append_left _ hp
  generalize B ++ hs = hs at s1 h1 hB
  · obtain ⟨sav, s1', back0⟩ := saved_ok O s1
    generalize hcl : Lz.clr O ρ1 = ρc at s1'
    have hfree : ∀ i ∈ O, gt ρc i = none := fun i hi => by rw [← hcl]; exact gt_clr_in O ρ1 i hi
    rw [hcl] at h1
    cases hr : compL O g c f it.items ρc with
    | bad => rw [hr] at h1; exact h1.elim
    | exc c ρ2 => rw [hr] at h1; exact h1.elim
    | ok total ρf =>
      rw [hr] at h1
      have h2 : fin X.K W hs σ (relk it.lk (.ok (.v true (.lst total)) (rest O ρ1 ρf))) Q := h1
      intro D hD
      have s1q : Stt X.K ((v, t) :: (sav ++ hs)) σ H1 ρc := s1'.perm List.perm_middle
      have s2 := s1q.wiped hfree
      generalize hhs : sav ++ hs = hs2 at s2
      have hσ : (wipe σ O).length = X.N.length := by rw [wipe_length, hN]
      -- the new list is there
      have start : Stt X.K ((.ref D, (true, .lst [])) :: (v, t) :: hs2) (wipe σ O) (upd H1 D (.lst [])) ρc := by
        refine ⟨s2.ok, ?_⟩
        obtain ⟨ws, w⟩ := s2.sep
        exact Sep.perm List.perm_middle.symm ⟨_, w.newLst hD .nil⟩
      refine ⟨fun i m H' => m = it.items.length - i ∧ i ≤ it.items.length ∧ ∃ ρ2 acc es, Stt X.K ((.ref D, (true, .lst acc)) :: (v, t) :: hs2) (wipe σ O) H' ρ2 ∧ (∀ j ∈ O, gt ρ2 j = none) ∧ acc.length ≤ i ∧ compL O g c f (it.items.drop i) ρ2 = .ok es ρf ∧ acc ++ es = total,
        ⟨_, rfl, Nat.zero_le _, ρc, [], total, start, hfree, Nat.le_refl _, hr, rfl⟩, ?_⟩
      rintro i m H2 ⟨rfl, hi, ρ2, acc, es, s3, fr3, ha, hc3, ht⟩
      have s3' := s3
      obtain ⟨ws, w⟩ := s3'.sep
      obtain ⟨sr1, sr2⟩ := src i _ H2 ws w (List.mem_append_right _ (List.mem_cons_of_mem _ List.mem_cons_self)) (fun p hp => List.mem_append_right _ (List.mem_cons_of_mem _ (List.mem_cons_of_mem _ (by rw [← hhs]; exact List.mem_append_right _ (hB p hp)))))
      cases hd : it.items[i]? with
      | none =>
        have hlen : it.items.length ≤ i := List.getElem?_eq_none_iff.mp hd
        refine .inl ⟨sr2 hlen, ?_⟩
        rw [List.drop_of_length_le hlen] at hc3
        have hc4 : R.ok [] ρ2 = R.ok es ρf := hc3
        injection hc4 with e1 e2
        subst e1 e2
        rw [List.append_nil] at ht
        subst ht
        have s4a : Stt X.K ((v, t) :: (.ref D, (true, .lst acc)) :: hs2) σ H2 ρ2 := (s3.unwiped fr3).perm (.swap _ _ _)
        rw [← hhs] at s4a
        have pm : ((v, t) :: (V.ref D, ((true, Lz.D.lst acc) : T)) :: (sav ++ hs)).Perm (sav ++ ((v, t) :: (V.ref D, (true, Lz.D.lst acc)) :: hs)) :=
          (List.perm_append_comm (l₁ := [(v, t), (V.ref D, ((true, Lz.D.lst acc) : T))]) (l₂ := sav ++ hs)).trans (by
            rw [List.append_assoc]
            exact (List.perm_append_comm (l₁ := hs)).append_left sav)
        have s4 : Stt X.K ((v, t) :: (.ref D, (true, .lst acc)) :: hs) σ H2 (rest O ρ1 ρ2) := back0 _ _ _ fr3 (s4a.perm pm)
        unfold relk at h2
        dsimp only at h2
        cases eu : unlk it.lk (rest O ρ1 ρ2) with
        | none => rw [eu] at h2; exact h2.elim
        | some ρ5 =>
          rw [eu] at h2
          exact h2 _ _ trivial (unlkS s4 hlk eu)
      | some d =>
        obtain ⟨go, yl⟩ := sr1 d hd
        have hlt : i < it.items.length := (List.getElem?_eq_some_iff.mp hd).1
        refine .inr ⟨go, fun H3 => i + 1 ≤ it.items.length ∧ ∃ ρ3 acc es, Stt X.K ((.ref D, (true, .lst acc)) :: (v, t) :: hs2) (wipe σ O) H3 ρ3 ∧ (∀ j ∈ O, gt ρ3 j = none) ∧ acc.length ≤ i + 1 ∧ compL O g c f (it.items.drop (i + 1)) ρ3 = .ok es ρf ∧ acc ++ es = total,
          fun H3 hN => ⟨it.items.length - (i + 1), by omega, rfl, hN⟩, fun x H' hy => ?_⟩
        have sx := yl x H' hy
        rw [drop_succ hd] at hc3
        unfold compL at hc3
        cases eg : g d ρ2 with
        | none => rw [eg] at hc3; cases hc3
        | some ρ3 =>
          rw [eg] at hc3
          dsimp only at hc3
          refine ⟨ρ2, (.ref D, (true, .lst acc)) :: (v, t) :: hs2, d, ρ3, ⟨s3.ok, Sep.perm List.perm_middle.symm sx⟩, eg, fun σ3 H3 s4 p4 l4 => ?_⟩
          have hw : wipe σ3 O = wipe σ O := by
            have e := wipe_eq (own := O) (σ := wipe σ O) (σ' := σ3) l4 fun j hj => by
              by_cases hjn : j < X.N.length
              · exact p4 j (by unfold notOwn; rw [List.mem_filter]; exact ⟨List.mem_range.mpr hjn, by simpa using hj⟩)
              · rw [List.getElem?_eq_none (by omega), List.getElem?_eq_none (by omega)]
            rw [e]
            exact wipe_eq (own := O) (σ := σ) (σ' := wipe σ O) (wipe_length _ _) fun j hj => wipe_get O σ j hj
          refine ⟨hw, ρ3, _, s4, ?_⟩
          cases ec : c ρ3 with
          | bad => rw [ec] at hc3; cases hc3
          | exc c2 ρ4 => rw [ec] at hc3; cases hc3
          | ok b ρ4 =>
            rw [ec] at hc3
            intro H4 s5
            have hc4 : (if b = true then (f ρ4).bind (fun x ρ3 => (frz x ρ3).bind fun e ρ4 => (compL O g c f (it.items.drop (i + 1)) (clr O ρ4)).bind fun es ρ5 => .ok (e :: es) ρ5) else compL O g c f (it.items.drop (i + 1)) (clr O ρ4)) = R.ok es ρf := hc3
            have back : ∀ {hs' : List VT} {H5 : Hp} {ρ5 : Env}, Stt X.K hs' σ3 H5 ρ5 → Stt X.K hs' (wipe σ O) H5 (clr O ρ5) := fun {hs' H5 ρ5} s6 => by
              have := (s6.clr O).wiped (own := O) fun j hj => gt_clr_in O ρ5 j hj
              rw [hw] at this
              exact this
            cases b with
            | false =>
              rw [if_neg Bool.false_ne_true] at hc4
              rw [if_neg Bool.false_ne_true]
              exact ⟨hlt, clr O ρ4, acc, es, back s5, fun j hj => gt_clr_in O ρ4 j hj, by omega, hc4, ht⟩
            | true =>
              rw [if_pos rfl] at hc4
              rw [if_pos rfl]
              refine ⟨ρ4, _, s5, ?_⟩
              cases ef : f ρ4 with
              | bad => rw [ef] at hc4; cases hc4
              | exc c2 ρ5 => rw [ef] at hc4; cases hc4
              | ok y ρ5 =>
                rw [ef] at hc4
                intro yv H5 hy5 s6
                have hc5 : (frz y ρ5).bind (fun e ρ4 => (compL O g c f (it.items.drop (i + 1)) (clr O ρ4)).bind fun es ρ5 => .ok (e :: es) ρ5) = R.ok es ρf := hc4
                cases ez : frz y ρ5 with
                | bad => rw [ez] at hc5; cases hc5
                | exc c2 ρ6 => exact (frz_exc ez).elim
                | ok e ρ6 =>
                  rw [ez] at hc5
                  have hc6 : (compL O g c f (it.items.drop (i + 1)) (clr O ρ6)).bind (fun es ρ5 => .ok (e :: es) ρ5) = R.ok es ρf := hc5
                  cases el : compL O g c f (it.items.drop (i + 1)) (clr O ρ6) with
                  | bad => rw [el] at hc6; cases hc6
                  | exc c2 ρ7 => rw [el] at hc6; cases hc6
                  | ok es' ρ7 =>
                    rw [el] at hc6
                    have hc7 : R.ok (e :: es') ρ7 = R.ok es ρf := hc6
                    injection hc7 with e1 e2
                    subst e1 e2
                    have s7 := frz_ok s6 hy5 ez
                    -- the new item is appended
                    have p : (slotsL σ3 ρ6 ++ ((yv, (false, e)) :: (.ref D, (true, .lst acc)) :: (v, t) :: hs2)).Perm ((.ref D, (true, .lst acc)) :: (yv, (false, e)) :: (slotsL σ3 ρ6 ++ ((v, t) :: hs2))) := by
                      refine List.perm_middle.trans (List.Perm.trans (List.Perm.cons _ List.perm_middle) (.swap _ _ _))
                    obtain ⟨ws7, w7⟩ := s7.sep.perm p
                    obtain ⟨a7, vs7, ea, hq7, r7⟩ := w7.lst (v := .ref D) List.mem_cons_self
                    cases ea
                    have ry : Rep X.K H5 (· ∈ ws7) yv e := w7.rep (List.mem_cons_of_mem _ List.mem_cons_self)
                    have w8 := w7.chgLst rfl (r7.append (.cons ry .nil))
                    refine ⟨vs7, hq7, ?_, hlt, clr O ρ6, acc ++ [e], es', ?_, fun j hj => gt_clr_in O ρ6 j hj, by rw [List.length_append]; simpa using ha, el, by rw [List.append_assoc]; exact ht⟩
                    · rw [r7.length, ← lim_eq]
                      exact Nat.lt_of_le_of_lt ha (Nat.lt_of_lt_of_le hlt hz)
                    · have w9 : Sep X.K (upd H5 D (.lst (vs7 ++ [yv]))) ((.ref D, (true, .lst (acc ++ [e]))) :: (slotsL σ3 ρ6 ++ ((v, t) :: hs2))) := by
                        have q : Sep X.K (upd H5 D (.lst (vs7 ++ [yv]))) ((.ref D, (true, .lst (acc ++ [e]))) :: (yv, (false, e)) :: (slotsL σ3 ρ6 ++ ((v, t) :: hs2))) := ⟨ws7, w8⟩
                        exact Sep.drop_mid (A := [(.ref D, (true, .lst (acc ++ [e])))]) (B := [(yv, (false, e))]) q
                      exact back ⟨s7.ok, w9.perm List.perm_middle.symm⟩
theorem se_comp (hc : X.calm = true) (hN : X.N.Nodup) (hi : SI X W tg iter si) (ok : BlkOk X.N X.env.scope scope own)
    (hg : ∀ (s : Shared) (H : Hp) (C : Addr) (cl : List (Str × Addr)) (fp : List Addr), SG (X.blk s H scope (compEnvC scope cl C X.env) fp) (notOwn X.N.length (own.map (·.2))) tg g)
    (ht : ∀ (s : Shared) (H : Hp) (C : Addr) (cl : List (Str × Addr)) (fp : List Addr), SC (X.blk s H scope (compEnvC scope cl C X.env) fp) ifs c)
    (he : ∀ (s : Shared) (H : Hp) (C : Addr) (cl : List (Str × Addr)) (fp : List Addr), SE (X.blk s H scope (compEnvC scope cl C X.env) fp) W0 elt f) (hs : ∀ x, foldedSetIterable iter X.env x = pure x) :
    SE X W (.ListComp elt [⟨tg, iter, ifs, 0⟩] scope pos) (sComp (own.map (·.2)) si g c f) := by
  have h := pe_lc (pos := pos) (g := tG X.K (notOwn X.N.length (own.map fun x : Str × Nat => x.2)) g) (tt := tT X.K W0 c) (te := tE X.K W0 f) hc hN hi ok hg ht he hs
  exact ⟨fun pins s σ H Q I q => h.run pins s σ H Q I (tLc_of I.len q)⟩
end
end Lz
namespace Lz
open PySem PySem.Spec PyProof.Rows L2

inductive FR where
  | ok (r : T) (outs : Env)
  | al (i : Nat) (outs : Env)
  | exc (c : Str)
  | bad
def spF (K : PySem.W.Frag) (F : List T → FR) : Sp := fun vs H Q E => ∃ ts hs, ts.length = vs.length ∧ Sep K H (slotsL (vs.map some) (ts.map some) ++ hs) ∧
  match F ts with
  | .ok r outs => ∀ v H', Sep K H' ((v, r) :: (slotsL (vs.map some) outs ++ hs)) → Q v H'
  | .al i outs => ∀ v H', vs[i]? = some v → Sep K H' (slotsL (vs.map some) outs ++ hs) → Q v H'
  | .exc c => ∀ H', Sep K H' hs → E (.ref (He.ga K c)) none H'
  | .bad => False
def takeA : List XV → Env → Option (List T × Env)
  | [], ρ => some ([], ρ)
  | .v o d :: xs, ρ => (match takeA xs ρ with
    | some p => some ((o, d) :: p.1, p.2)
    | none => none)
  | .b i :: xs, ρ => (match gt ρ i with
    | some t => (match takeA xs (pt ρ i none) with
      | some p => some (t :: p.1, p.2)
      | none => none)
    | none => none)
def putA : List XV → Env → Env → Env
  | .b i :: xs, some t :: outs, ρ => putA xs outs (pt ρ i (some t))
  | _ :: xs, _ :: outs, ρ => putA xs outs ρ
  | _, _, ρ => ρ
def opF (F : List T → FR) (xs : List XV) (ρ : Env) : R XV := match takeA xs ρ with
  | none => .bad
  | some p => (match F p.1 with
    | .ok r outs => .ok (.v r.1 r.2) (putA xs outs p.2)
    | .al i outs => (match xs[i]? with
      | some (.b j) => .ok (.b j) (putA xs outs p.2)
      | some (.v _ _) => (match gt outs i with
        | some t => .ok (.v t.1 t.2) (putA xs (pt outs i none) p.2)
        | none => .bad)
      | none => .bad)
    | .exc c => .exc c p.2
    | .bad => .bad)
def sCallF (F : List T → FR) (f : Env → R (List XV)) (ρ : Env) : R XV := (f ρ).bind (opF F)
section
variable {K : PySem.W.Frag} {W : WX} {hs A : List VT} {σ : Sg} {H : Hp} {ρ : Env}
theorem Sep.sub {L' L : List VT} (h : L'.Sublist L) : ∀ {A : List VT}, Sep K H (A ++ L) → Sep K H (A ++ L') := by
  induction h with
  | slnil => exact fun s => s
  | @cons l₁ l₂ a _ ih => exact fun {A} s => ih (Sep.drop_mid (A := A) (B := [a]) s)
  | @cons_cons l₁ l₂ a _ ih =>
    exact fun {A} s => by
      have q := ih (A := A ++ [a]) (by rw [List.append_assoc]; exact s)
      rw [List.append_assoc] at q
      exact q
theorem takeA_ok : ∀ {xs : List XV} {vs : List V} {ts : List T} {hs : List VT} {ρ ρ' : Env}, SOk σ ρ → ResVs σ xs vs → takeA xs ρ = some (ts, ρ') →
    SOk σ ρ' ∧ ts.length = vs.length ∧ (slotsL σ ρ ++ (hlds xs vs ++ hs)).Perm (slotsL (vs.map some) (ts.map some) ++ (slotsL σ ρ' ++ hs))
  | [], [], _, _, _, _, s, _, e => by cases e; exact ⟨s, rfl, .refl _⟩
  | [], _ :: _, _, _, _, _, _, h, _ => h.elim
  | _ :: _, [], _, _, _, _, _, h, _ => h.elim
  | .v o d :: xs, v :: vs, ts, hs, ρ, ρ', s, h, e => by
    unfold takeA at e
    cases e1 : takeA xs ρ with
    | none => rw [e1] at e; cases e
    | some p =>
      obtain ⟨ts1, ρ1⟩ := p
      rw [e1] at e
      cases e
      obtain ⟨a, b, c⟩ := takeA_ok (hs := hs) s h.2 e1
      refine ⟨a, by rw [List.length_cons, List.length_cons, b], ?_⟩
      show (slotsL σ ρ ++ ((v, (o, d)) :: (hlds xs vs ++ hs))).Perm ((v, (o, d)) :: (slotsL (vs.map some) (ts1.map some) ++ (slotsL σ ρ1 ++ hs)))
      exact List.perm_middle.trans (c.cons _)
  | .b i :: xs, v :: vs, ts, hs, ρ, ρ', s, h, e => by
    unfold takeA at e
    cases e0 : gt ρ i with
    | none => rw [e0] at e; cases e
    | some t =>
      rw [e0] at e
      dsimp only at e
      cases e1 : takeA xs (pt ρ i none) with
      | none => rw [e1] at e; cases e
      | some p =>
        obtain ⟨ts1, ρ1⟩ := p
        rw [e1] at e
        cases e
        obtain ⟨a, b, c⟩ := takeA_ok (hs := hs) (s.clear i) h.2 e1
        refine ⟨a, by rw [List.length_cons, List.length_cons, b], ?_⟩
        have hx : σ[i]? = some (some v) := h.1
        exact ((slots_take hx e0).append_right _).trans (c.cons (v, t))
theorem putA_ok : ∀ {xs : List XV} {vs : List V} {outs : Env} {hs : List VT} {ρ : Env}, Stt K (slotsL (vs.map some) outs ++ hs) σ H ρ → ResVs σ xs vs → Stt K hs σ H (putA xs outs ρ)
  | [], [], _, _, _, s, _ => s
  | [], _ :: _, _, _, _, _, h => h.elim
  | _ :: _, [], _, _, _, _, h => h.elim
  | .v o d :: xs, v :: vs, [], hs, ρ, s, h => s
  | .v o d :: xs, v :: vs, none :: outs, hs, ρ, s, h => putA_ok (xs := xs) (vs := vs) (outs := outs) s h.2
  | .v o d :: xs, v :: vs, some t :: outs, hs, ρ, s, h => putA_ok (xs := xs) (vs := vs) (outs := outs) (Stt.dropA (A := [(v, t)]) s) h.2
  | .b i :: xs, v :: vs, [], hs, ρ, s, h => s
  | .b i :: xs, v :: vs, none :: outs, hs, ρ, s, h => putA_ok (xs := xs) (vs := vs) (outs := outs) s h.2
  | .b i :: xs, v :: vs, some t :: outs, hs, ρ, s, h => by
    have hx : σ[i]? = some (some v) := h.1
    have s1 := Stt.put' (i := i) s
    have e : σ.set i (some v) = σ := by
      apply List.ext_getElem?
      intro j
      by_cases hj : i = j
      · subst hj
        rw [List.getElem?_set_self (List.getElem?_eq_some_iff.mp hx).1, hx]
      · rw [List.getElem?_set_ne hj]
    rw [e] at s1
    exact putA_ok (xs := xs) (vs := vs) (outs := outs) s1 h.2
end
section
variable {X : Cx} {W : WX} {e : Expr} {es : List Expr} {fa : Env → R (List XV)} {k : Nat} {f : Addr} {fd : FuncData} {ps : List Str} {F : List T → FR} {x : Str} {p pos : Pos}
theorem callF_of {σ : Sg} {H : Hp} {Q : VK} (h : tE X.K W (sCallF F fa) σ H Q) : tCallS (spF X.K F) (WE W) (tA X.K W fa) σ H Q := by
  obtain ⟨ρ, hs, s, h⟩ := h
  refine ⟨ρ, hs, s, finA_mono (fin_bindA0 h) fun vs H1 ⟨xs, ρ1, hx, s1, h1⟩ => ?_⟩
  unfold opF at h1
  cases e1 : takeA xs ρ1 with
  | none => rw [e1] at h1; exact h1.elim
  | some q =>
    obtain ⟨ts, ρ2⟩ := q
    rw [e1] at h1
    obtain ⟨ok2, hl, pm⟩ := takeA_ok (hs := hs) s1.ok hx e1
    refine ⟨ts, slotsL σ ρ2 ++ hs, hl, s1.sep.perm pm, ?_⟩
    dsimp only at h1
    cases e2 : F ts with
    | bad => rw [e2] at h1; exact h1.elim
    | exc c =>
      rw [e2] at h1
      exact fun H' s' => h1 H' ⟨ok2, s'⟩
    | al i outs =>
      rw [e2] at h1
      intro v H' hv s'
      have pm2 : ∀ B : List VT, (B ++ (slotsL σ ρ2 ++ hs)).Perm (slotsL σ ρ2 ++ (B ++ hs)) := fun B => by
        rw [← List.append_assoc, ← List.append_assoc]
        exact List.perm_append_comm.append_right _
      have rv : ∀ {xs : List XV} {vs : List V} {i : Nat} {v : V}, ResVs σ xs vs → vs[i]? = some v → ∃ x, xs[i]? = some x ∧ ResV σ x v := by
        intro xs
        induction xs with
        | nil => intro vs i v h e; cases vs with | nil => simp at e | cons _ _ => exact h.elim
        | cons x xs ih =>
          intro vs i v h e
          cases vs with
          | nil => exact h.elim
          | cons u us =>
            cases i with
            | zero =>
              have eu : u = v := by simpa using e
              subst eu
              exact ⟨x, rfl, h.1⟩
            | succ i =>
              obtain ⟨y, h1, h2⟩ := ih (i := i) h.2 (by simpa using e)
              exact ⟨y, by simpa using h1, h2⟩
      obtain ⟨x, ex, hxv⟩ := rv hx hv
      dsimp only at h1
      rw [ex] at h1
      cases x with
      | b j =>
        refine h1 v H' hxv ?_
        exact putA_ok ⟨ok2, s'.perm (pm2 _)⟩ hx
      | v o d =>
        dsimp only at h1
        cases eg : gt outs i with
        | none => rw [eg] at h1; exact h1.elim
        | some t =>
          rw [eg] at h1
          refine h1 v H' trivial ?_
          have hv2 : (vs.map some)[i]? = some (some v) := by rw [List.getElem?_map, hv]; rfl
          have p1 := (slots_take hv2 eg).append_right (slotsL σ ρ2 ++ hs)
          have s3 : Sep X.K H' ((v, t) :: (slotsL (vs.map some) (pt outs i none) ++ (slotsL σ ρ2 ++ hs))) := s'.perm p1
          have p4 : ((v, t) :: (slotsL (vs.map some) (pt outs i none) ++ (slotsL σ ρ2 ++ hs))).Perm (slotsL σ ρ2 ++ (slotsL (vs.map some) (pt outs i none) ++ ((v, t) :: hs))) :=
            ((pm2 (slotsL (vs.map some) (pt outs i none))).cons (v, t)).trans (List.perm_middle.symm.trans (List.perm_middle.symm.append_left _))
          exact putA_ok ⟨ok2, s3.perm p4⟩ hx
    | ok r outs =>
      rw [e2] at h1
      intro v H' s'
      refine h1 v H' trivial ?_
      have s3 : Stt X.K (slotsL (vs.map some) outs ++ ((v, r) :: hs)) σ H' ρ2 := by
        refine ⟨ok2, s'.perm ?_⟩
        have p1 : ((v, r) :: (slotsL (vs.map some) outs ++ (slotsL σ ρ2 ++ hs))).Perm ((slotsL (vs.map some) outs ++ (slotsL σ ρ2 ++ hs)) ++ [(v, r)]) := (List.perm_append_comm (l₁ := [(v, r)]))
        refine p1.trans ?_
        have p2 : ((slotsL (vs.map some) outs ++ (slotsL σ ρ2 ++ hs)) ++ [(v, r)]) = (slotsL (vs.map some) outs ++ slotsL σ ρ2) ++ (hs ++ [(v, r)]) := by simp
        rw [p2]
        have p3 : (slotsL σ ρ2 ++ (slotsL (vs.map some) outs ++ ((v, r) :: hs))) = (slotsL σ ρ2 ++ slotsL (vs.map some) outs) ++ ((v, r) :: hs) := by simp
        rw [p3]
        exact List.perm_append_comm.append (List.perm_append_comm (l₁ := hs) (l₂ := [(v, r)]))
      exact putA_ok s3 hx
theorem se_callF (hF : FnOk X.prog X.w X.K X.mg X.base (L2.CX X.prog X.w) k f fd ps (spF X.K F)) (hr : Room k X.A) (hg : Gl X x) (hm : X.mg x = some (.ref f)) (hk : PySem.W.keepIn X.K (.ref f) = true) (hb : Binds X.K fd ps []) (tk : Takes X W)
    (ha : SA X W (e :: es) fa) (hdb : (x == ("__debug__" : Str)) = false) (he : starEach (e :: es) X.env = (false, eval e X.env) :: starEach es X.env) (hpl : (backTo pos (starEach es X.env)).any (·.1) = false) :
    SE X W (.Call (.Name x p) (e :: es) [] pos) (sCallF F fa) :=
  PE.weak (pe_callS (E := WE W) hF hr hg hm hk hb (fun σ => passAt tk σ) ha hdb he hpl) fun _ _ _ h => callF_of h
end
/-- the parameters' slots at the end -/
def keepP (pin : List Nat) : Nat → Nat → Env → Env
  | 0, _, _ => []
  | n + 1, j, [] => []
  | n + 1, j, x :: ρ => (if pin.contains j = true then x else none) :: keepP pin n (j + 1) ρ
def bodyF (np : Nat) (pin : List Nat) (N : Nat) (f : Env → R Fl) (ts : List T) : FR := if ts.length = np then (match f (ts.map some ++ List.replicate (N - np) none) with
  | .ok (.rt t) ρ => .ok t (keepP pin np 0 ρ)
  | .ok .nx ρ => .ok (false, .non) (keepP pin np 0 ρ)
  | .ok (.ra i) ρ => if pin.contains i = true then .al i (keepP pin np 0 ρ) else .bad
  | .exc c _ => .exc c
  | _ => .bad) else .bad
section
variable {K : PySem.W.Frag}
theorem keepP_sub {pin : List Nat} : ∀ {vs : List V} {σ : Sg} {ρ : Env} {j : Nat}, (∀ i v, vs[i]? = some v → j + i ∈ pin → σ[i]? = some (some v)) → (slotsL (vs.map some) (keepP pin vs.length j ρ)).Sublist (slotsL σ ρ)
  | [], _, _, _, _ => List.nil_sublist _
  | v :: vs, σ, [], j, h => by
    show ([] : List VT).Sublist _
    exact List.nil_sublist _
  | v :: vs, [], x :: ρ, j, h => by
    have e : ∀ (vs : List V) (ρ : Env) (j : Nat), (∀ i v, vs[i]? = some v → j + i ∈ pin → ([] : Sg)[i]? = some (some v)) → slotsL (vs.map some) (keepP pin vs.length j ρ) = [] := by
      intro vs
      induction vs with
      | nil => intro ρ j _; rfl
      | cons v vs ih =>
        intro ρ j h
        cases ρ with
        | nil => rfl
        | cons x ρ =>
          have n : pin.contains j = false := by
            cases q : pin.contains j with
            | false => rfl
            | true => have := h 0 v rfl (by simpa using q); simp at this
          show slotsL (some v :: vs.map some) ((if pin.contains j = true then x else none) :: keepP pin vs.length (j + 1) ρ) = []
          rw [n, if_neg Bool.false_ne_true]
          exact ih ρ (j + 1) fun i w hw hp => by
            have := h (i + 1) w hw (by rw [show j + (i + 1) = j + 1 + i by omega]; exact hp)
            simp at this
    rw [e (v :: vs) (x :: ρ) j h]
    exact List.nil_sublist _
  | v :: vs, s :: σ, x :: ρ, j, h => by
    have ih := keepP_sub (pin := pin) (vs := vs) (σ := σ) (ρ := ρ) (j := j + 1) fun i w hw hp => by
      have := h (i + 1) w hw (by rw [show j + (i + 1) = j + 1 + i by omega]; exact hp)
      simpa using this
    show (slotsL (some v :: vs.map some) ((if pin.contains j = true then x else none) :: keepP pin vs.length (j + 1) ρ)).Sublist _
    cases q : pin.contains j with
    | true =>
      have e : s = some v := by
        have := h 0 v rfl (by simpa using q)
        simpa using this
      subst e
      rw [if_pos rfl]
      cases x with
      | none => exact ih
      | some t => exact ih.cons_cons _
    | false =>
      rw [if_neg Bool.false_ne_true]
      cases s with
      | none => exact ih
      | some u =>
        cases x with
        | none => exact ih
        | some t => exact ih.cons _
theorem slots_none : ∀ (σ : Sg) (n : Nat), slotsL σ (List.replicate n none) = []
  | [], _ => by cases ‹Nat› <;> rfl
  | s :: σ, 0 => by cases s <;> rfl
  | s :: σ, n + 1 => by
    have ih := slots_none σ n
    cases s <;> exact ih
theorem slots_app : ∀ (vs : List V) (ts : List T) (σ : Sg) (n : Nat), ts.length = vs.length → slotsL (vs.map some ++ σ) (ts.map some ++ List.replicate n none) = slotsL (vs.map some) (ts.map some)
  | [], [], σ, n, _ => slots_none σ n
  | [], _ :: _, _, _, h => by cases h
  | _ :: _, [], _, _, h => by cases h
  | v :: vs, t :: ts, σ, n, h => by
    show (v, t) :: slotsL (vs.map some ++ σ) (ts.map some ++ List.replicate n none) = (v, t) :: slotsL (vs.map some) (ts.map some)
    rw [slots_app vs ts σ n (by simpa using h)]
theorem sok_none : ∀ (n : Nat), SOk (List.replicate n none) (List.replicate n none)
  | 0 => trivial
  | n + 1 => ⟨fun q => (by cases q), sok_none n⟩
theorem sok_app : ∀ (vs : List V) (ts : List T) (n : Nat), ts.length = vs.length → SOk (vs.map some ++ List.replicate n none) (ts.map some ++ List.replicate n none)
  | [], [], n, _ => sok_none n
  | [], _ :: _, _, h => by cases h
  | _ :: _, [], _, h => by cases h
  | v :: vs, t :: ts, n, h => ⟨fun _ => rfl, sok_app vs ts n (by simpa using h)⟩
end
section
variable {P : Program} {w : World} {K : PySem.W.Frag} {mg : Str → Option Value} {base : Heap} {x qual : Str} {params : Arguments} {body : List Stmt} {scope : Scope} {f : Addr} {fd : FuncData}
theorem fn_bad {N ps : List Str} {k : Nat} : FnOk P w K mg base (L2.CX P w) k f fd ps (spF K fun _ => .bad) :=
  ⟨fun vs H Q E ⟨_, _, _, _, h⟩ => h.elim, fun A outer s H args us vs Q E _ _ _ _ ⟨_, _, _, _, h⟩ => h.elim⟩
theorem fn_ok {N ps : List Str} {k : Nat} {pin : List Nat} {g : Env → R Fl} (F : FunD K x qual params body scope [] [] f fd) (S : FnScope N ps scope) (hp : ps.length ≤ N.length) (hpin : ∀ j ∈ pin, j < ps.length)
    (hbody : ∀ (cdv : Value) (A : Around) (outer : List PySem.Env) (s : Shared) (H : Hp) (E : XK), Room k (A.deeper (envOfC qual scope s.heap.objs.size f cdv)) →
      SSs (cxOf (L2.CX P w) P w K mg base N qual scope f cdv A outer s H E) (fun cls d _ H => E cls d H) pin body g) :
    FnOk P w K mg base (L2.CX P w) (k + 1) f fd ps (spF K (bodyF ps.length pin N.length g)) := by
  have len : ∀ vs H Q E, spF K (bodyF ps.length pin N.length g) vs H Q E → vs.length = ps.length := fun vs H Q E ⟨ts, hs, hl, _, h⟩ => by
    unfold bodyF at h
    by_cases q : ts.length = ps.length
    · rw [← hl]; exact q
    · rw [if_neg q] at h; exact h.elim
  refine F.ok S len fun cdv A outer s H vs Q E hr hsp => ⟨_, hbody cdv A outer s H E hr, ?_⟩
  have hvl := len _ _ _ _ hsp
  obtain ⟨ts, hs, hl, sep, h⟩ := hsp
  have htl : ts.length = ps.length := hl.trans hvl
  unfold bodyF at h
  rw [if_pos htl] at h
  have st : Stt K hs (L2.start N vs) H (ts.map some ++ List.replicate (N.length - ps.length) none) := by
    unfold L2.start
    rw [hvl]
    refine ⟨sok_app vs ts _ hl, ?_⟩
    rw [slots_app vs ts _ _ hl]
    exact sep
  refine ⟨_, hs, L2.start N vs, st, fun _ _ => rfl, ?_⟩
  have outs : ∀ {σ : Sg} {H' : Hp} {ρ : Env} {B : List VT}, Stt K (B ++ hs) σ H' ρ → PinOk pin (L2.start N vs) σ → Sep K H' (B ++ (slotsL (vs.map some) (keepP pin ps.length 0 ρ) ++ hs)) := fun {σ H' ρ B} s1 hp1 => by
    have sb := keepP_sub (pin := pin) (vs := vs) (σ := σ) (ρ := ρ) (j := 0) fun i v hv hi => by
      rw [Nat.zero_add] at hi
      rw [hp1 i hi]
      unfold L2.start
      rw [List.getElem?_append_left (by rw [List.length_map]; exact (List.getElem?_eq_some_iff.mp hv).1), List.getElem?_map, hv]
      rfl
    rw [hvl] at sb
    have p1 : (slotsL σ ρ ++ (B ++ hs)).Perm ((B ++ hs) ++ slotsL σ ρ) := List.perm_append_comm
    have q := Sep.sub sb (A := B ++ hs) (s1.sep.perm p1)
    refine q.perm ?_
    rw [List.append_assoc]
    exact List.perm_append_comm.append_left _
  unfold finS
  cases e : g (ts.map some ++ List.replicate (N.length - ps.length) none) with
  | bad => rw [e] at h; exact h.elim
  | exc c ρ =>
    rw [e] at h
    exact fun σ H' s1 _ => h H' s1.sep.drops
  | ok a ρ =>
    rw [e] at h
    cases a with
    | bk => exact h.elim
    | ct => exact h.elim
    | ra i =>
      intro v σ H' hi s1 hp1
      dsimp only at h
      cases hc : pin.contains i with
      | false => rw [hc, if_neg Bool.false_ne_true] at h; exact h.elim
      | true =>
        rw [hc, if_pos rfl] at h
        have hm : i ∈ pin := by simpa using hc
        have hlt : i < vs.length := by rw [hvl]; exact hpin i hm
        refine h v H' ?_ (outs (B := []) s1 hp1)
        have e1 := hp1 i hm
        rw [hi] at e1
        unfold L2.start at e1
        rw [List.getElem?_append_left (by rw [List.length_map]; exact hlt), List.getElem?_map] at e1
        cases hq : vs[i]? with
        | none => rw [hq] at e1; cases e1
        | some w =>
          rw [hq] at e1
          have e2 : some v = some w := Option.some.inj e1
          exact e2.symm
    | nx =>
      intro σ H' s1 hp1
      refine h _ H' ?_
      obtain ⟨ws, q⟩ := outs (B := []) s1 hp1
      exact ⟨ws, q.pure .non⟩
    | rt t =>
      intro v σ H' s1 hp1
      exact h v H' (outs (B := [(v, t)]) s1 hp1)
end
end Lz
namespace Lz
open PySem PySem.Spec PyProof.Rows L2

section
variable {K : PySem.W.Frag} {W : WX} {hs A : List VT} {σ σ0 : Sg} {H : Hp} {ρ : Env} {v : V}
theorem Stt.lstAt {i : Nat} {ds : List D} (s : Stt K hs σ H ρ) (hx : σ[i]? = some (some v)) (e : gt ρ i = some (true, .lst ds)) :
    ∃ a vs ws L, v = .ref a ∧ H a = some (.lst vs) ∧ RepAll K H (· ∈ ws) vs ds ∧ SepW K H L ws ∧ (∀ p, p ∈ slotsL σ ρ ++ hs → p ∈ L) ∧
      ∀ vs' ds', RepAll K H (· ∈ ws) vs' ds' → Stt K hs σ (upd H a (.lst vs')) (pt ρ i (some (true, .lst ds'))) := by
  have hi : i < ρ.length := gt_lt e
  have p := (slots_take hx e).append_right hs
  obtain ⟨ws, q⟩ := s.sep.perm p
  obtain ⟨a, vs, rfl, h1, r⟩ := q.lst List.mem_cons_self
  refine ⟨a, vs, ws, _, rfl, h1, r, q, fun x hxm => p.mem_iff.mp hxm, fun vs' ds' r' => ⟨s.ok.keep i hx, ?_⟩⟩
  have q' := q.chgLst rfl r'
  exact Sep.perm ((slots_keep (t := (true, .lst ds')) hx hi).append_right hs).symm ⟨ws, q'⟩
end
def isL (x : XV) (ρ : Env) : Bool := match x with
  | .b i => (match gt ρ i with
    | some (true, .lst _) => true
    | _ => false)
  | _ => false
def opApp (x : XV) (xs : List XV) (ρ : Env) : R XV := match x, xs with
  | .b i, [y] => (frz y ρ).bind fun d ρ => (match gt ρ i with
    | some (true, .lst ds) => if ds.length < lim then .ok (.v false .non) (pt ρ i (some (true, .lst (ds ++ [d])))) else .bad
    | _ => .bad)
  | _, _ => .bad
def opExt (x : XV) (xs : List XV) (ρ : Env) : R XV := match x, xs with
  | .b i, [y] => (match view y ρ, gt ρ i with
    | some (.lst es), some (true, .lst ds) => if ds.length + es.length ≤ lim then .ok (.v false .non) (pt ρ i (some (true, .lst (ds ++ es)))) else .bad
    | _, _ => .bad)
  | _, _ => .bad
def sMu (op : XV → List XV → Env → R XV) (a : Env → R XV) (f : Env → R (List XV)) (ρ : Env) : R XV := (a ρ).bind fun x ρ => if isL x ρ = true then (f ρ).bind fun xs ρ => op x xs ρ else .bad
section
variable {K : PySem.W.Frag} {W : WX} {hs A : List VT} {σ σ0 : Sg} {H : Hp} {ρ : Env} {v u : V} {Q : VK}
theorem non_ok (s : Stt K hs σ H ρ) (h : fin K W hs σ (.ok (.v false .non) ρ) Q) : Q .non H := fin_c (d := .non) s (fun _ => .non) h
theorem opExt_ok {x : XV} {xs : List XV} {vs : List V} (s : Stt K (hlds xs vs ++ (hld x v ++ hs)) σ H ρ) (hx : ResV σ x v) (hxs : ResVs σ xs vs) (h : fin K W hs σ (opExt x xs ρ) Q) : L2.rExtend v vs H Q := by
  unfold opExt at h
  cases x with
  | v o d => exact h.elim
  | b i =>
    match xs, vs, hxs, h, s with
    | [], _, _, h, _ => exact h.elim
    | _ :: _ :: _, _, _, h, _ => exact h.elim
    | [_], [], hxs, _, _ => exact hxs.elim
    | [_], _ :: _ :: _, hxs, _, _ => exact hxs.2.elim
    | [y], [u], hxs, h, s =>
      have s' : Stt K (hld y u ++ hs) σ H ρ := by
        have e : hlds [y] [u] ++ (hld (.b i) v ++ hs) = hld y u ++ hs := by simp [hlds, hld]
        rw [e] at s
        exact s
      dsimp only at h
      cases ev : view y ρ with
      | none => rw [ev] at h; exact h.elim
      | some dy =>
        rw [ev] at h
        cases dy <;> first | exact h.elim | skip
        rename_i es
        have hx' : σ[i]? = some (some v) := hx
        cases eg : gt ρ i with
        | none => rw [eg] at h; exact h.elim
        | some t =>
          rw [eg] at h
          obtain ⟨o, dd⟩ := t
          cases o with
          | false => exact h.elim
          | true =>
            cases dd <;> first | exact h.elim | skip
            rename_i ds
            have h2 : fin K W hs σ (if ds.length + es.length ≤ lim then .ok (.v false .non) (pt ρ i (some (true, .lst (ds ++ es)))) else .bad) Q := h
            by_cases hz : ds.length + es.length ≤ lim
            · rw [if_pos hz] at h2
              obtain ⟨o1, m1⟩ := s'.mem hxs.1 (fun p hp => by simp [hp]) ev
              obtain ⟨a, ws0, wsx, L, rfl, h1, r, q, m, fn⟩ := s'.lstAt hx' eg
              -- the other list
              have pmem := m1
              obtain ⟨ws1, q1⟩ := s'.sep
              obtain ⟨b, us0, rfl, hb1, _⟩ := q1.lst m1
              have rr : ∃ us, H b = some (.lst us) ∧ RepAll K H (· ∈ wsx) us es := by
                rcases List.mem_append.mp m1 with hm | hm
                · by_cases hin : (V.ref b, (o1, D.lst es)) ∈ L
                  · obtain ⟨b', us, eb, hb, rb⟩ := q.lst hin
                    cases eb
                    exact ⟨us, hb, rb⟩
                  · exact absurd (m _ (List.mem_append_left _ hm)) hin
                · obtain ⟨b', us, eb, hb, rb⟩ := q.lst (m _ (List.mem_append_right _ hm))
                  cases eb
                  exact ⟨us, hb, rb⟩
              obtain ⟨us, hb, rb⟩ := rr
              refine ⟨a, b, ws0, us, rfl, rfl, h1, hb, by rw [r.length, rb.length]; exact hz, ?_⟩
              have s2 := fn (ws0 ++ us) (ds ++ es) (r.append rb)
              exact non_ok (Stt.dropA (A := hld y (.ref b)) s2) h2
            · rw [if_neg hz] at h2; exact h2.elim
end
section
variable {X : Cx} {W : WX} {o e : Expr} {es : List Expr} {fa : Env → R XV} {f : Env → R (List XV)} {name : Str} {apos cpos : Pos} {id : String}
theorem se_mu {op : XV → List XV → Env → R XV} {r : V → List V → Hp → VK → Prop} (pa : PlainAttrs "list") (slot : Slot "list" name id) (hty : typeOf (.builtin id) = pure (.type "method_descriptor")) (hm : MtR X id r)
    (hop : ∀ {hs : List VT} {σ : Sg} {H : Hp} {ρ : Env} {Q : VK} {x : XV} {v : V} {xs : List XV} {vs : List V}, Stt X.K (hlds xs vs ++ (hld x v ++ hs)) σ H ρ → ResV σ x v → ResVs σ xs vs → fin X.K W hs σ (op x xs ρ) Q → r v vs H Q)
    (ho : SE X W o fa) (ha : SA X W (e :: es) f)
    (hbase : attributeBase o name X.env (eval o X.env) = eval o X.env)
    (few : ((backTo cpos (starEach (e :: es) X.env)).all (fun x => !x.1) && (backToKw cpos (keywordEach [] X.env)).all (fun x => x.1.isSome) && decide ((e :: es).length + 0 + 0 < 30)) = true)
    (hline : (apos.endLine == cpos.line) = true) (hst : starEach (e :: es) X.env = (false, eval e X.env) :: starEach es X.env) (hpl : (backTo cpos (starEach es X.env)).any (·.1) = false) :
    SE X W (.Call (.Attribute o name apos) (e :: es) [] cpos) (sMu op fa f) := by
  refine PE.weak (pe_bmW pa slot hty hm ho ha hbase few hline hst hpl) fun σ H Q h => ?_
  obtain ⟨ρ, hs, s, h⟩ := h
  refine ⟨ρ, hs, s, fin_mono (fin_bind0 h) fun v H1 ⟨x, ρ1, hx, s1, h1⟩ => ?_⟩
  cases et : isL x ρ1 with
  | false => rw [et] at h1; exact h1.elim
  | true =>
    rw [et, if_pos rfl] at h1
    refine ⟨?_, ρ1, _, s1, finA_mono (fin_bindA (hld x v) h1) fun vs H2 ⟨xs, ρ2, hxs, s2, h2⟩ => hop s2 hx hxs h2⟩
    unfold isL at et
    cases x with
    | v o d => cases et
    | b i =>
      dsimp only at et
      cases eg : gt ρ1 i with
      | none => rw [eg] at et; cases et
      | some t =>
        rw [eg] at et
        obtain ⟨o, dd⟩ := t
        cases o with
        | false => cases et
        | true =>
          cases dd <;> first | cases et | skip
          obtain ⟨a, vs, ws, L, rfl, h2, _⟩ := s1.lstAt hx eg
          exact .inl ⟨rfl, _, h2⟩
end
def opSetI (x z y : XV) (ρ : Env) : R Fl := match x, view z ρ with
  | .b j, some (.int k) => (frz y ρ).bind fun d ρ => (match gt ρ j with
    | some (true, .lst ds) => (match ixN ds.length k with
      | some m => .ok .nx (pt ρ j (some (true, .lst (ds.set m d))))
      | none => .bad)
    | _ => .bad)
  | _, _ => .bad
def xSetI (fe fo fi : Env → R XV) (ρ : Env) : R Fl := (fe ρ).bind fun y ρ => (fo ρ).bind fun x ρ => (fi ρ).bind fun z ρ => opSetI x z y ρ
section
variable {K : PySem.W.Frag} {W : WX} {hs : List VT} {σ σ0 : Sg} {H : Hp} {ρ : Env} {pin : List Nat}
theorem finS_bindA {k : XV → Env → R Fl} {r : R XV} {E : Ends} (A : List VT) (h : finS K W hs pin σ0 (r.bind k) E) (hp : PinOk pin σ0 σ) :
    fin K W (A ++ hs) σ r (fun v H1 => ∃ x ρ1, ResV σ x v ∧ Stt K (hld x v ++ (A ++ hs)) σ H1 ρ1 ∧ finS K W hs pin σ0 (k x ρ1) E) := by
  cases r with
  | ok x ρ => exact fun v H1 hv s => ⟨x, ρ, hv, s, h⟩
  | exc c ρ => exact fun H1 s => h σ H1 s.dropA hp
  | bad => exact h
end
section
variable {X : Cx} {W : WX} {pin : List Nat} {e o i : Expr} {fe fo fi : Env → R XV} {pos p2 : Pos}
theorem ss_setI (he : SE X W e fe) (ho : SE X W o fo) (hi : SE X W i fi) (hs : swapsWithSole [.Subscript o i p2] e pos.line X.env = pure false) (hw : swappedStores [.Subscript o i p2] e X.env = pure none)
    (h1 : (assignEach [.Subscript o i p2] X.env).map (·.2) = [assign (.Subscript o i p2) X.env])
    (ha : ∀ v, assign (.Subscript o i p2) X.env v = (do
      let ov ← holding [v] (eval o X.env)
      let iv ← holding [v, ov] (eval i X.env)
      standAt p2
      holding [v, ov, iv] (setItem ov iv v)
      release [v, ov, iv] [])) : SS X W pin (.Assign [.Subscript o i p2] e pos) (xSetI fe fo fi) := by
  refine PS.weak (ps_asg he (pg_sub ho hi set_list ha) hs hw h1) fun E σ H h => ?_
  obtain ⟨ρ, hs, σ0, s, hp, h⟩ := h
  refine ⟨ρ, hs, s, fin_mono (finS_bind h hp) fun u H1 ⟨y, ρ1, hy, s1, h1⟩ => ?_⟩
  refine ⟨ρ1, _, s1, fin_mono (finS_bindA (hld y u) h1 hp) fun v H2 ⟨x, ρ2, hx, s2, h2⟩ => ?_⟩
  rw [← List.append_assoc] at s2
  refine ⟨ρ2, _, s2, fin_mono (finS_bindA (hld x v ++ hld y u) h2 hp) fun w H3 ⟨z, ρ3, hz, s3, h3⟩ => ?_⟩
  unfold opSetI at h3
  cases x with
  | v _ _ => exact h3.elim
  | b j =>
    cases ev : view z ρ3 with
    | none => rw [ev] at h3; exact h3.elim
    | some dz =>
      rw [ev] at h3
      cases dz <;> first | exact h3.elim | skip
      rename_i k
      obtain ⟨o1, m1⟩ := s3.mem hz (fun p hp => by simp [hp]) ev
      obtain ⟨ws0, q0⟩ := s3.sep
      have ew := q0.int m1
      subst ew
      dsimp only at h3
      have s4 : Stt X.K (hld y u ++ hs) σ H3 ρ3 := Stt.dropA (A := hld z (.int k)) (by simpa [hld] using s3)
      cases ez : frz y ρ3 with
      | bad => rw [ez] at h3; exact h3.elim
      | exc c ρ4 => exact (frz_exc ez).elim
      | ok d ρ4 =>
        rw [ez] at h3
        have h4 : finS X.K W hs pin σ0 (match gt ρ4 j with
          | some (true, .lst ds) => (match ixN ds.length k with
            | some m => .ok .nx (pt ρ4 j (some (true, .lst (ds.set m d))))
            | none => .bad)
          | _ => .bad) E := h3
        have s5 := frz_ok s4 hy ez
        have hx' : σ[j]? = some (some v) := hx
        cases eg : gt ρ4 j with
        | none => rw [eg] at h4; exact h4.elim
        | some t =>
          rw [eg] at h4
          obtain ⟨o, dd⟩ := t
          cases o with
          | false => exact h4.elim
          | true =>
            cases dd <;> first | exact h4.elim | skip
            rename_i ds
            have h5 : finS X.K W hs pin σ0 (match ixN ds.length k with
              | some m => .ok .nx (pt ρ4 j (some (true, .lst (ds.set m d))))
              | none => .bad) E := h4
            cases em : ixN ds.length k with
            | none => rw [em] at h5; exact h5.elim
            | some m =>
              rw [em] at h5
              obtain ⟨a, vs, wsx, L, rfl, h1, r, q, mm, fn⟩ := s5.lstAt hx' eg
              have ru : Rep X.K H3 (· ∈ wsx) u d := q.rep (mm _ (List.mem_append_right _ List.mem_cons_self))
              have s6 := fn (vs.set m u) (ds.set m d) (r.set ru m)
              refine ⟨a, vs, k, m, rfl, rfl, h1, by rw [r.length]; exact em, ?_⟩
              exact h5 σ _ (Stt.dropA (A := [(u, (false, d))]) s6) hp
end
def xRaise (c : Str) (ρ : Env) : R Fl := .exc c ρ
section
variable {X : Cx} {W : WX} {pin : List Nat} {x m : Str} {j : Nat} {p p2 pos rpos : Pos}
theorem ss_raise (hc : X.calm = true) (tk : Takes X W) (q : (He.Fa.exc x).ok X.K = true) (gC : X.mg x = some (.ref (He.ga X.K x))) (hg : Gl X x) (hdb : (x == ("__debug__" : Str)) = false) :
    SS X W pin (.Raise (some (.Call (.Name x p) [.Constant (.str m) j p2] [] pos)) none rpos) (xRaise x) := by
  obtain ⟨q1, q2, q3, q4⟩ := He.exc_ok q
  have r : Raises X (.ref (He.ga X.K x)) := fun M h hx => ⟨PySem.W.looks_subIn hx q3, PySem.W.looks_typeIn hx q4⟩
  refine PS.weak (ps_raise hc tk (pmk_own PySem.F.excBase_ValueError q1 gC q2 r hg hdb)) fun E σ H h => ?_
  obtain ⟨ρ, hs, σ0, s, hp, h⟩ := h
  exact h σ H s hp
end
end Lz
namespace Lz
open PySem PySem.Spec PyProof.Rows L2

theorem room_u {k : Nat} {A : Around} (hr : Room k A) : A.units + 65 < cLine := by have := hr.un; omega
/-- a def of one's own, by its name -/
def OkF (P : Program) (w : World) (K : PySem.W.Frag) (mg : Str → Option Value) (base : Heap) (x : Str) (k : Nat) (F : List T → FR) : Prop :=
  ∃ (f : Addr) (fd : FuncData) (ps : List Str), FnOk P w K mg base (L2.CX P w) k f fd ps (spF K F) ∧ mg x = some (.ref f) ∧ PySem.W.keepIn K (.ref f) = true ∧ Binds K fd ps []
section
variable {X : Cx} {W : WX} {e : Expr} {es : List Expr} {fa : Env → R (List XV)} {k : Nat} {F : List T → FR} {x : Str} {p pos : Pos}
theorem cf (h : OkF X.prog X.w X.K X.mg X.base x k F) (hr : Room k X.A) (tk : Takes X W) (ha : SA X W (e :: es) fa) (hg : Gl X x := by rfl) (hdb : (x == ("__debug__" : Str)) = false := by decide)
    (he : starEach (e :: es) X.env = (false, eval e X.env) :: starEach es X.env := by rfl) (hpl : (backTo pos (starEach es X.env)).any (·.1) = false := by rfl) :
    SE X W (.Call (.Name x p) (e :: es) [] pos) (sCallF F fa) := by
  obtain ⟨f, fd, ps, h1, h2, h3, h4⟩ := h
  exact se_callF h1 hr hg h2 h3 h4 tk ha hdb he hpl
end

def gN (i : Nat) (d : D) (ρ : Env) : Option Env := some (pt ρ i (some (false, d)))
def putY (i : Nat) (x : XV) (ρ : Env) : R Fl := match x with
  | .v o d => .ok .nx (pt ρ i (some (o, d)))
  | .b j => (match gt ρ j with
    | some t => .ok .nx (pt (pt ρ j (some (false, t.2))) i (some (false, t.2)))
    | none => .bad)
def xSt (i : Nat) (f : Env → R XV) (ρ : Env) : R Fl := (f ρ).bind (putY i)
theorem xSt_eq {pin : List Nat} {i : Nat} (h : i ∉ pin) (f : Env → R XV) : xSt i f = xSet pin i f := by
  funext ρ
  unfold xSt xSet
  congr 1
  funext x ρ
  unfold putX putY
  rw [if_neg h]
  try (cases x <;> rfl)
theorem gN_eq {pin : List Nat} {i : Nat} (h : i ∉ pin) : gN i = gNm pin i := by
  funext d ρ
  unfold gN gNm
  rw [if_neg h]
section
variable {X : Cx} {W : WX} {pin : List Nat}
theorem va (i : Nat) {x : Str} {pos : Pos} (hN : X.N[i]? = some x := by rfl) (hv : Vis X.env.scope x := by first | exact Or.inl rfl | exact Or.inr (Or.inl rfl) | exact Or.inr (Or.inr rfl)) (hd : (x == ("__debug__" : Str)) = false := by decide)
    (hcd : (x == ("__classdict__" : Str)) = false := by decide) : SE X W (.Name x pos) (sVar i) := se_var hN hv hd hcd
theorem gn (i : Nat) {x : Str} {pos : Pos} (hN : X.N.Nodup) (hm : i ∉ pin) (hi : X.N[i]? = some x := by rfl) (hx : Loc X.env.scope x := by first | exact Or.inl rfl | exact Or.inr rfl) (hf : X.fn x = true ∨ X.env.scope.names.lookup x = some .local := by first | exact .inl rfl | exact .inr rfl) :
    SG X pin (.Name x pos) (gN i) := by
  rw [gN_eq hm]
  exact sg_nm hN hi hx hf
theorem gc {e : Expr} {es : List Expr} {g : D → Env → Option Env} {h : List D → Env → Option Env} (h1 : SG X pin e g) (h2 : SGs X pin es h)
    (hst : (assignEach (e :: es) X.env).map (·.2) = assign e X.env :: (assignEach es X.env).map (·.2) := by rfl) : SGs X pin (e :: es) (gCn g h) := sg_cons h1 h2 hst
theorem gT {es : List Expr} {k : Nat} {h : List D → Env → Option Env} {pos : Pos} {n : Nat} (h2 : SGs X pin es h) (hc : X.calm = true := by rfl) (hn : (assignEach es X.env).length = n := by rfl) (hst : (assignEach es X.env).findIdx? (·.1) = none := by rfl) : SG X pin (.Tuple es k pos) (gTp n h) := sg_tup hc h2 hn hst
theorem st {i : Nat} {x : Str} {e : Expr} {fe : Env → R XV} {pos pos' : Pos} (hN : X.N.Nodup) (hm : i ∉ pin) (he : SE X W e fe) (hi : X.N[i]? = some x := by rfl) (hx : Loc X.env.scope x := by first | exact Or.inl rfl | exact Or.inr rfl) (hs : swapsWith e (some (.Name x pos')) pos.line X.env = pure false := by rfl)
    (hf : X.fn x = true ∨ X.env.scope.names.lookup x = some .local := by first | exact .inl rfl | exact .inr rfl) : SS X W pin (.Assign [.Name x pos'] e pos) (xSt i fe) := by
  rw [xSt_eq hm]
  exact ss_set hN hi hx he hs hf
theorem sg {e tg : Expr} {fe : Env → R XV} {g : D → Env → Option Env} {pos : Pos} (he : SE X W e fe) (hg : SG X pin tg g) (hs : swapsWithSole [tg] e pos.line X.env = pure false := by rfl) (hw : swappedStores [tg] e X.env = pure none := by rfl) (h1 : (assignEach [tg] X.env).map (·.2) = [assign tg X.env] := by rfl) :
    SS X W pin (.Assign [tg] e pos) (xSetG g fe) := ss_asg he hg hs hw h1
theorem si' {e o i : Expr} {fe fo fi : Env → R XV} {pos p2 : Pos} (he : SE X W e fe) (ho : SE X W o fo) (hi : SE X W i fi) (hs : swapsWithSole [.Subscript o i p2] e pos.line X.env = pure false := by rfl) (hw : swappedStores [.Subscript o i p2] e X.env = pure none := by rfl)
    (h1 : (assignEach [.Subscript o i p2] X.env).map (·.2) = [assign (.Subscript o i p2) X.env] := by rfl)
    (ha : ∀ v, assign (.Subscript o i p2) X.env v = (do
      let ov ← holding [v] (eval o X.env)
      let iv ← holding [v, ov] (eval i X.env)
      standAt p2
      holding [v, ov, iv] (setItem ov iv v)
      release [v, ov, iv] []) := by intro _; rfl) : SS X W pin (.Assign [.Subscript o i p2] e pos) (xSetI fe fo fi) := ss_setI he ho hi hs hw h1 ha
theorem ex {e : Expr} {fe : Env → R XV} {pos : Pos} (he : SE X W e fe) (hs : swapsWith e none pos.line X.env = pure false := by rfl) : SS X W pin (.Expr e pos) (xExpr fe) := ss_expr he hs

def xFr (pin : List Nat) (si : Env → R Its) (g : D → Env → Option Env) (f : Env → R Fl) (ρ : Env) : R Fl := (si ρ).bind fun it ρ => if lkOk pin it.lk = true then relk it.lk (forL g f it.items ρ) else .bad
theorem R.bind_le {K : PySem.W.Frag} {hs : List VT} {σ0 : Sg} {E : Ends} {α : Type} {r : R α} {k k' : α → Env → R Fl} (h : ∀ a ρ, k a ρ = k' a ρ ∨ k a ρ = .bad) (f : finS K W hs pin σ0 (r.bind k) E) : finS K W hs pin σ0 (r.bind k') E := by
  cases r with
  | ok a ρ =>
    rcases h a ρ with e | e
    · have f' : finS K W hs pin σ0 (k a ρ) E := f
      rw [e] at f'
      exact f'
    · have f' : finS K W hs pin σ0 (k a ρ) E := f
      rw [e] at f'
      exact f'.elim
  | exc c ρ => exact f
  | bad => exact f
theorem fr {L pin' : List Nat} {tg iter : Expr} {body : List Stmt} {si : Env → R Its} {g : D → Env → Option Env} {f : Env → R Fl} {pos : Pos} (hpo : PassesOwn (model X.prog X.w) X.A X.env X.xe) (hsub : ∀ j ∈ pin, j ∈ pin') (hL : ∀ j ∈ L, j ∈ pin') (hi : SI X W tg iter si) (hg : SG X pin' tg g) (hb : SSs X W pin' body f)
    (hc : X.calm = true := by rfl) (hs : ∀ x, foldedSetIterable iter X.env x = pure x := by intro _; rfl) : SS X W pin (.For tg iter body [] pos) (xFr L si g f) := by
  refine PS.weak (ss_for (pin := pin) hpo hc hsub hi hg hb hs) fun E σ H h => ?_
  obtain ⟨ρ, hs, σ0, s, hp, h⟩ := h
  refine ⟨ρ, hs, σ0, s, hp, R.bind_le (fun it ρ => ?_) h⟩
  cases e : lkOk L it.lk with
  | false => exact .inr (if_neg Bool.false_ne_true)
  | true =>
    have e2 : lkOk pin' it.lk = true := by
      unfold lkOk at e ⊢
      split at e
      · rfl
      · exact List.contains_iff_mem.mpr (hL _ (List.contains_iff_mem.mp e))
    rw [e2]
    exact .inl rfl
theorem wh (n : Nat) {c : Expr} {body : List Stmt} {gc : Env → R Bool} {f : Env → R Fl} {pos : Pos} (hpo : PassesOwn (model X.prog X.w) X.A X.env X.xe) (hc : SB X W c gc) (hb : SSs X W pin body f) : SS X W pin (.While c body [] pos) (xWhile gc f n) := ss_while n hpo hc hb

theorem tv {e : Expr} {fa : Env → R XV} (h : SE X W e fa) (he : ∀ whole, isTrue e X.env whole = (do let v ← whole; standAt e.pos; holding [v] (truthy v)) := by intro _; rfl) : SB X W e (sB fa) := sb_val h he
theorem an : SA X W [] sNil := sa_nil
theorem ac {e : Expr} {es : List Expr} {f : Env → R XV} {g : Env → R (List XV)} (ha : SE X W e f) (hr : SA X W es g) (hst : starEach (e :: es) X.env = (false, eval e X.env) :: starEach es X.env := by rfl) : SA X W (e :: es) (sCons f g) := sa_cons ha hr hst
theorem cb {e : Expr} {es : List Expr} {f : Env → R (List XV)} {p pos : Pos} {x : Str} {id : String} {cf : List D → Option T} (hc : CallR X (.builtin id) (rCl X.K cf)) (hm : X.mg x = none) (ha : SA X W (e :: es) f) (hv : bootBuiltins x = some (.builtin id) := by decide +kernel) (hg : Gl X x := by rfl) (hn : x ≠ "__name__" := by decide) (hdb : (x == ("__debug__" : Str)) = false := by decide)
    (he : starEach (e :: es) X.env = (false, eval e X.env) :: starEach es X.env := by rfl) (hpl : (backTo pos (starEach es X.env)).any (·.1) = false := by rfl) : SE X W (.Call (.Name x p) (e :: es) [] pos) (sCl cf f) := se_callB hc hg hm hv ha hn hdb he hpl
theorem ct {e : Expr} {es : List Expr} {f : Env → R (List XV)} {p pos : Pos} {x : Str} {T : String} {cf : List D → Option Lz.T} (hc : CallR X (.type T) (rCl X.K cf)) (hm : X.mg x = none) (ha : SA X W (e :: es) f) (hv : bootBuiltins x = some (.type T) := by decide +kernel) (hg : Gl X x := by rfl) (hn : x ≠ "__name__" := by decide) (hdb : (x == ("__debug__" : Str)) = false := by decide)
    (he : starEach (e :: es) X.env = (false, eval e X.env) :: starEach es X.env := by rfl) (hpl : (backTo pos (starEach es X.env)).any (·.1) = false := by rfl) : SE X W (.Call (.Name x p) (e :: es) [] pos) (sCl cf f) := se_callTy hc hg hm hv ha hn hdb he hpl
theorem isi {e : Expr} {f : Env → R XV} {ty : Str} {T : String} {p p2 pos : Pos} (hm : X.mg "isinstance" = none) (hm2 : X.mg ty = none) (he : SE X W e f) (hv2 : bootBuiltins ty = some (.type T) := by decide +kernel) (hg : Gl X "isinstance" := by rfl) (hg2 : Gl X ty := by rfl) 
    (hn2 : ty ≠ "__name__" := by decide) (hd2 : (ty == ("__debug__" : Str)) = false := by decide) (hst : starEach [e, .Name ty p2] X.env = (false, eval e X.env) :: starEach [.Name ty p2] X.env := by rfl) :
    SE X W (.Call (.Name "isinstance" p) [e, .Name ty p2] [] pos) (sUn (isiD T) f) := se_isi trivial he hg hm hg2 hm2 hv2 hn2 hd2 hst
theorem ix {a b : Expr} {fa fb : Env → R XV} {pos : Pos} (ha : SE X W a fa) (hb : SE X W b fb) (hs : PlainIx b := by exact fun _ _ => rfl) : SE X W (.Subscript a b pos) (sBin opIx fa fb) := se_ix ir_ix ha hb hs
theorem sl {a : Expr} {lo hi : Option Expr} {p2 pos : Pos} {fa : Env → R XV} {fl fh : Option (Env → R XV)} (ha : SE X W a fa) (hl : SO X W lo (sOpt fl)) (hh : SO X W hi (sOpt fh)) :
    SE X W (.Subscript a (.Slice lo hi none p2) pos) (sSl opSl fa fl fh) := se_slice sr_sl ha hl hh
theorem cm {op : CmpOp} {f : D → D → Option T} {a b : Expr} {fa fb : Env → R XV} {pos : Pos} (ho : OpR X (compareOp op) (rOp X.K f)) (ha : SE X W a fa) (hb : SE X W b fb) (hm : behindInMarks op b = false := by rfl) : SE X W (.Compare a [op] [b] pos) (sBin f fa fb) := se_cmp ho ha hb hm
theorem cmB {op : CmpOp} {f : D → D → Option T} {a b : Expr} {fa fb : Env → R XV} {pos : Pos} (ho : OpR X (compareOp op) (rOp X.K f)) (ha : SE X W a fa) (hb : SE X W b fb) (hm : behindInMarks op b = false := by rfl) : SB X W (.Compare a [op] [b] pos) (sB (sBin f fa fb)) := sb_cmp ho ha hb hm
theorem mB {o e : Expr} {es : List Expr} {fa : Env → R XV} {f : Env → R (List XV)} {name : Str} {apos cpos : Pos} {ty id : String} {mf : D → List D → Option T} (pa : PlainAttrs ty) (slot : Slot ty name id) (hty : typeOf (.builtin id) = pure (.type "method_descriptor")) (hm : MtR X id (rMt X.K mf)) (ho : SE X W o fa) (ha : SA X W (e :: es) f)
    (hbase : attributeBase o name X.env (eval o X.env) = eval o X.env := by rfl)
    (few : ((backTo cpos (starEach (e :: es) X.env)).all (fun x => !x.1) && (backToKw cpos (keywordEach [] X.env)).all (fun x => x.1.isSome) && decide ((e :: es).length + 0 + 0 < 30)) = true := by rfl)
    (hline : (apos.endLine == cpos.line) = true := by rfl) (hst : starEach (e :: es) X.env = (false, eval e X.env) :: starEach es X.env := by rfl) (hpl : (backTo cpos (starEach es X.env)).any (·.1) = false := by rfl) :
    SE X W (.Call (.Attribute o name apos) (e :: es) [] cpos) (sMt ty mf fa f) := se_bm pa slot hty hm ho ha hbase few hline hst hpl
theorem mU {op : XV → List XV → Env → R XV} {r : V → List V → Hp → VK → Prop} {o e : Expr} {es : List Expr} {fa : Env → R XV} {f : Env → R (List XV)} {name : Str} {apos cpos : Pos} {id : String} (slot : Slot "list" name id) (hty : typeOf (.builtin id) = pure (.type "method_descriptor")) (hm : MtR X id r)
    (hop : ∀ {hs : List VT} {σ : Sg} {H : Hp} {ρ : Env} {Q : VK} {x : XV} {v : V} {xs : List XV} {vs : List V}, Stt X.K (hlds xs vs ++ (hld x v ++ hs)) σ H ρ → ResV σ x v → ResVs σ xs vs → fin X.K W hs σ (op x xs ρ) Q → r v vs H Q)
    (ho : SE X W o fa) (ha : SA X W (e :: es) f)
    (hbase : attributeBase o name X.env (eval o X.env) = eval o X.env := by rfl)
    (few : ((backTo cpos (starEach (e :: es) X.env)).all (fun x => !x.1) && (backToKw cpos (keywordEach [] X.env)).all (fun x => x.1.isSome) && decide ((e :: es).length + 0 + 0 < 30)) = true := by rfl)
    (hline : (apos.endLine == cpos.line) = true := by rfl) (hst : starEach (e :: es) X.env = (false, eval e X.env) :: starEach es X.env := by rfl) (hpl : (backTo cpos (starEach es X.env)).any (·.1) = false := by rfl) :
    SE X W (.Call (.Attribute o name apos) (e :: es) [] cpos) (sMu op fa f) := se_mu PySem.F.plainAttrs_list slot hty hm hop ho ha hbase few hline hst hpl
theorem mExt {o e : Expr} {fa : Env → R XV} {f : Env → R (List XV)} {apos cpos : Pos} (ho : SE X W o fa) (ha : SA X W [e] f)
    (hbase : attributeBase o "extend" X.env (eval o X.env) = eval o X.env := by rfl)
    (few : ((backTo cpos (starEach [e] X.env)).all (fun x => !x.1) && (backToKw cpos (keywordEach [] X.env)).all (fun x => x.1.isSome) && decide ([e].length + 0 + 0 < 30)) = true := by rfl)
    (hline : (apos.endLine == cpos.line) = true := by rfl) (hst : starEach [e] X.env = (false, eval e X.env) :: starEach [] X.env := by rfl) :
    SE X W (.Call (.Attribute o "extend" apos) [e] [] cpos) (sMu opExt fa f) := mU PySem.F.slot_list_extend PySem.F.type_list_extend mt_extend (fun s hx hxs h => opExt_ok s hx hxs h) ho ha hbase few hline hst rfl
theorem gInt {x : Str} {i : Int} {pos : Pos} (hm : ∃ t, X.mg x = some (.int i t)) (hg : Gl X x := by rfl) (hd : (x == ("__debug__" : Str)) = false := by decide) : SE X W (.Name x pos) (sC (.int i)) := by
  obtain ⟨t, h⟩ := hm
  exact se_cst (pe_glob hg h (v := .int i) ⟨t, rfl⟩ hd) fun _ _ => .int i
theorem rep_strs {K : PySem.W.Frag} {H : Hp} {av : Addr → Prop} : ∀ zs : List Str, RepAll K H av (zs.map V.str) (zs.map D.str)
  | [] => .nil
  | z :: zs => .cons (.str z) (rep_strs zs)
theorem gTup {x : Str} {zs : List Str} {pos : Pos} (hm : ∃ a, X.mg x = some (.ref a) ∧ KTup X.K a (zs.map V.str)) (hg : Gl X x := by rfl) (hd : (x == ("__debug__" : Str)) = false := by decide) : SE X W (.Name x pos) (sC (.tup (zs.map D.str))) := by
  obtain ⟨a, h, ht⟩ := hm
  exact se_cst (pe_glob hg h (v := .ref a) rfl hd) fun _ _ => .ktup ht (rep_strs zs)
theorem un_negD : UnR X (unaryOp .USub) (rUnD X.K fun d => match d with | .int i => pI (-i) | _ => none) := by
  intro pins s σ H x v Q I r ⟨L, d, o, t, sep, m, ht, q⟩
  cases d <;> first | (cases ht; done) | skip
  cases ht
  exact un_neg pins s σ H x v Q I r ⟨_, sep.int m, q _ _ (sep.cInt _)⟩
end
def opNeg : D → Option T := fun d => match d with | .int i => pI (-i) | _ => none
end Lz
namespace Lz
open PySem PySem.Spec PyProof.Rows L2
theorem tuple_mul1 (l : Addr) (items : Array Value) (n : Nat) (dd : Option Addr) (sl : Array (Option Value)) (u : Tok) :
    Meets (Builtin.«tuple.__mul__» ⟨[.ref l, .int 1 u], []⟩) (fun _ R s => s.heap.get? l = some { cls := .type "tuple", dict := dd, data := .seq items n, slots := sl } ∧
      R (.ok (.ret (Value.ref l))) s) :=
  .of_wp fun prog w A R s h => by
    obtain ⟨hp, g, d, tk, os⟩ := s
    obtain ⟨hl, h⟩ := h
    have f1 := AutoSeq1.idx_int
    wp_walk using wpAny_loadPart' hl
    exact ⟨_, rfl, h⟩
section
variable {X : Cx}
theorem op_rep1 : OpR X (binaryOp .Mult) (fun x y H Q => ∃ l xs, x = .ref l ∧ y = .int 1 ∧ SqT X.K H l xs ∧ Q (.ref l) H) := by
  intro pins s σ H x y v u Q I rx ry h
  obtain ⟨l, xs, rfl, rfl, hT, q⟩ := h
  cases rx
  obtain ⟨t, rfl⟩ := ry
  obtain ⟨its, r, ⟨⟨cls, dd, data, sl⟩, ho, hc, n, hd⟩, hs⟩ := I.tuple hT
  simp only at hc hd
  subst hc hd
  exact wpAny_binaryOp_repeat_ref (T := "tuple") (U := "int") (by decide) ⟨_, ho, rfl⟩ (fun s' => typeIs_int s' 1 t) noFill_tuple_mul F.fills_int_mul F.slot_int_rmul repeat_tuple F.slot_int_index.lookup
    (call_meets F.slot_int_rmul (typeIs_int s 1 t) F.entry_int_rmul (F.args_int_rmul_2 _ _) (int_rmul_tuple 1 t l its.toArray n dd sl)
      ⟨ho, rfl, ⟨_, ho, rfl⟩, call_meets F.slot_tuple_mul ⟨_, ho, rfl⟩ F.entry_tuple_mul (F.args_tuple_mul_2 _ _) (tuple_mul1 l its.toArray n dd sl t) ⟨ho, ⟨.ref l, H, I, rfl, q⟩⟩⟩)
theorem op_repF : OpR X (binaryOp .Mult) (fun x y H Q => ∃ l k xs, x = .ref l ∧ y = .int k ∧ SqT X.K H l xs ∧ xs ≠ [] ∧ 2 ≤ k ∧ k ≤ 1000 ∧ xs.length ≤ 1000 ∧ rNewT (List.replicate k.toNat xs).flatten H Q) := by
  intro pins s σ H x y v u Q I rx ry h
  obtain ⟨l, k, xs, rfl, rfl, hT, hne, h1, h2, hz, q⟩ := h
  cases rx
  obtain ⟨t, rfl⟩ := ry
  obtain ⟨its, r, ⟨⟨cls, dd, data, sl⟩, ho, hc, n, hd⟩, hs⟩ := I.tuple hT
  simp only at hc hd
  subst hc hd
  have hle : its.length = xs.length := r.length.symm
  have hn : its ≠ [] := fun e => hne (by
    rw [e] at hle
    exact List.eq_nil_of_length_eq_zero hle.symm)
  have hi : its.toArray.isEmpty = false := by
    cases its with
    | nil => exact absurd rfl hn
    | cons a b => rfl
  have hsz0 : its.toArray.size = xs.length := by rw [List.size_toArray, hle]
  have hm : ((its.toArray.size : Nat) : Int) * k ≤ 1000000 := by
    rw [hsz0]
    have a1 : ((xs.length : Nat) : Int) * k ≤ 1000 * k := Int.mul_le_mul_of_nonneg_right (by omega) (by omega)
    omega
  have flen : (List.replicate k.toNat its).flatten.length ≤ sizeLine := by
    rw [PyProof.Rows.lm_len_rep_flat, hle, sizeLine_eq]
    have a1 : k.toNat * xs.length ≤ 1000 * 1000 := Nat.mul_le_mul (by omega) hz
    omega
  have c0 : (decide (k < -(2 ^ 63)) || decide (k ≥ 2 ^ 63)) = false := by
    rw [decide_eq_false (by omega), decide_eq_false (by omega)] <;> rfl
  have c1 : (its.toArray.isEmpty || k == 1) = false := by
    rw [hi, Bool.false_or]
    exact beq_eq_false_iff_ne.mpr (by omega)
  have c2 : (decide (k ≤ 0) || its.toArray.isEmpty) = false := by
    rw [hi, Bool.or_false]
    exact decide_eq_false (by omega)
  have c4 : Builtin.Tuple.tupleTooMany (((its.toArray.size : Nat) : Int) * k) = false := by
    unfold Builtin.Tuple.tupleTooMany
    rw [sizeLine_eq]
    exact decide_eq_false (by omega)
  refine wpAny_binaryOp_repeat_ref (T := "tuple") (U := "int") (by decide) ⟨_, ho, rfl⟩ (fun s' => typeIs_int s' k t) noFill_tuple_mul F.fills_int_mul F.slot_int_rmul repeat_tuple F.slot_int_index.lookup
    (call_meets F.slot_int_rmul (typeIs_int s k t) F.entry_int_rmul (F.args_int_rmul_2 _ _) (int_rmul_tuple k t l its.toArray n dd sl)
      ⟨ho, rfl, ⟨_, ho, rfl⟩, call_meets F.slot_tuple_mul ⟨_, ho, rfl⟩ F.entry_tuple_mul (F.args_tuple_mul_2 _ _) (tuple_mulW l its.toArray n dd sl k t c0 c1 c2 (by omega) c4 (by rw [size_rep, List.size_toArray]; exact flen)) ⟨ho, ?_⟩⟩)
  rw [size_rep]
  exact q.use (t' := s.toks) I (r.rep k.toNat) (by rw [PyProof.Rows.lm_len_rep_flat, sizeLine_eq]; have a1 : k.toNat * xs.length ≤ 1000 * 1000 := Nat.mul_le_mul (by omega) hz; omega)
theorem or_mul : OpR X (binaryOp .Mult) (rOp X.K opMul) := by
  intro pins s σ H x y v u Q I rx ry ⟨L, d, e, o, o', t, sep, m1, m2, ht, q⟩
  cases d <;> cases e <;> first | (cases ht; done) | skip
  · rename_i i j
    have h' : cif ((-(2 ^ 64) < i ∧ i < 2 ^ 64) ∨ (-(2 ^ 64) < j ∧ j < 2 ^ 64)) (pI (i * j)) none = some t := ht
    by_cases hc : (-(2 ^ 64) < i ∧ i < 2 ^ 64) ∨ (-(2 ^ 64) < j ∧ j < 2 ^ 64)
    · rw [cif_pos hc] at h'
      cases h'
      exact op_mul pins s σ H x y v u Q I rx ry ⟨_, _, sep.int m1, sep.int m2, hc, q _ _ (sep.cInt _)⟩
    · rw [cif_neg hc] at h'; cases h'
  · rename_i a k
    have h' : (if a ≠ [] ∧ 2 ≤ k ∧ k ≤ 1000 ∧ a.length ≤ 1000 then some (false, .tup (List.replicate k.toNat a).flatten) else if k = 1 then some (false, .tup a) else none) = some t := ht
    obtain ⟨ws, w⟩ := sep
    obtain ⟨p, xs, rfl, hq, r, td⟩ := w.tup m1
    by_cases hc : a ≠ [] ∧ 2 ≤ k ∧ k ≤ 1000 ∧ a.length ≤ 1000
    · rw [if_pos hc] at h'
      cases h'
      refine op_repF pins s σ H _ y v u Q I rx ry ⟨p, k, xs, rfl, w.int m2, hq, fun e => hc.1 ?_, hc.2.1, hc.2.2.1, by rw [r.length]; exact hc.2.2.2, rNewT.of w (r.rep _) q⟩
      have := r.length
      rw [e] at this
      exact List.eq_nil_of_length_eq_zero this.symm
    · rw [if_neg hc] at h'
      by_cases h1 : k = 1
      · rw [if_pos h1] at h'
        cases h'
        subst h1
        refine op_rep1 pins s σ H _ y v u Q I rx ry ⟨p, xs, rfl, w.int m2, hq, q _ _ ?_⟩
        obtain ⟨w1, o1, hw1⟩ := w.own.get m1
        cases o1 with
        | pure rr => exact ⟨ws, w.pure rr⟩
      · rw [if_neg h1] at h'; cases h'
  · rename_i a k
    have h' : (if -(2 ^ 63) ≤ k ∧ k < 2 ^ 63 ∧ a.length * k.toNat ≤ lim then some (true, .lst (List.replicate k.toNat a).flatten) else none) = some t := ht
    obtain ⟨ws, w⟩ := sep
    obtain ⟨p, xs, rfl, hq, r⟩ := w.lst m1
    by_cases hc : -(2 ^ 63) ≤ k ∧ k < 2 ^ 63 ∧ a.length * k.toNat ≤ lim
    · rw [if_pos hc] at h'
      cases h'
      exact op_rep pins s σ H _ y v u Q I rx ry ⟨p, k, xs, rfl, w.int m2, hq, hc.1, hc.2.1, by rw [r.length]; exact hc.2.2, newLst_of w (r.rep _) q⟩
    · rw [if_neg hc] at h'; cases h'
end
end Lz
namespace Lz
open PySem PySem.Spec PyProof.Rows L2
theorem hu64 {u c : Nat} (h : u + 65 < c) : u + 64 < c := by omega
section
variable {X : Cx} {W : WX} {pin : List Nat}
def cT (ρ : Env) : R Bool := .ok true ρ
theorem rg1 {tg a : Expr} {f : Env → R XV} {p pos : Pos} (hm : X.mg "range" = none) (ha : SA X W [a] (sCons f sNil)) (hg : Gl X "range" := by rfl) (hst : starEach [a] X.env = [(false, eval a X.env)] := by rfl) :
    SI X W tg (.Call (.Name "range" p) [a] [] pos) (sRng (sCons f sNil)) := si_rng1 hg hm ha hst fun ρ xs ρ' h => by
  unfold sCons sNil at h
  cases e : f ρ with
  | ok x ρ1 => rw [e] at h; injection h with h1; rw [← h1]; rfl
  | exc c ρ1 => rw [e] at h; cases h
  | bad => rw [e] at h; cases h
end
def ktupB (K : PySem.W.Frag) (x : Str) (zs : List Str) : Bool := match K.lookup (He.ga K x) with
  | some ⟨.type c, none, .seq its _, _⟩ => decide (c = "tuple") && (decide (its.size ≤ sizeLine) && He.relAll (zs.map V.str) its.toList)
  | _ => false
theorem ktupB_ok {K : PySem.W.Frag} {x : Str} {zs : List Str} (h : ktupB K x zs = true) : KTup K (He.ga K x) (zs.map V.str) := by
  unfold ktupB at h
  split at h
  · rename_i c its n sl q
    obtain ⟨h1, h⟩ := He.ba h
    obtain ⟨h2, h3⟩ := He.ba h
    exact ⟨_, its, n, q, by rw [of_decide_eq_true h1], rfl, rfl, of_decide_eq_true h2, He.relAll_ok h3⟩
  · cases h
def exB (ts : List (Str × List Str)) (K : PySem.W.Frag) : Bool := ts.all fun p => ktupB K p.1 p.2
theorem ex_at {ts : List (Str × List Str)} {K : PySem.W.Frag} (h : exB ts K = true) {i : Nat} {p : Str × List Str} (e : ts[i]? = some p) : ktupB K p.1 p.2 = true :=
  List.all_eq_true.mp h p (List.mem_of_getElem? e)
end Lz
namespace Lz
open PySem PySem.Spec PyProof.Rows L2
theorem law_end {K : PySem.W.Frag} {H : Hp} {a : Addr} {ns : List Int} {F : List T → FR} (hO : Only H) (hS : SqL K H a (ns.map V.int)) (hl : ns.length ≤ sizeLine) (h : ∃ outs, F [(false, .scr ns)] = .ok (false, .bl true) outs) :
    spF K F [.ref a] H (fun v _ => v = .bl true) (fun _ _ _ => False) := by
  obtain ⟨outs, h⟩ := h
  refine ⟨[(false, .scr ns)], [], rfl, ?_, ?_⟩
  · have r : ∀ av : Addr → Prop, (∀ b, ¬ av b) → Rep K H av (.ref a) (.scr ns) := fun av hav => by
      rcases hS with (hS | ⟨o, hS⟩) | hS
      · rcases hO a with q | ⟨o, xs, q⟩ <;> rw [q] at hS <;> cases hS
      · exact .scr (hav a) hS
      · exact .kscr hS
    exact ⟨[], ⟨.cons (w := []) (.pure (r _ fun b hb => by cases hb)) .nil, List.nodup_nil⟩⟩
  · rw [h]
    intro v H' s
    exact s.bl List.mem_cons_self
end Lz
namespace Lz
open PySem PySem.Spec PyProof.Rows L2
def noE : FR → FR
  | .exc _ => .bad
  | r => r
theorem fn_ok0 {P : Program} {w : World} {K : PySem.W.Frag} {mg : Str → Option Value} {base : Heap} {x qual : Str} {params : Arguments} {body : List Stmt} {scope : Scope} {f : Addr} {fd : FuncData}
    {N ps : List Str} {k : Nat} {pin : List Nat} {g : Env → R Fl} (F : FunD K x qual params body scope [] [] f fd) (S : FnScope N ps scope) (hp : ps.length ≤ N.length) (hpin : ∀ j ∈ pin, j < ps.length)
    (hbody : ∀ (cdv : Value) (A : Around) (outer : List PySem.Env) (s : Shared) (H : Hp) (E : XK), Room k (A.deeper (envOfC qual scope s.heap.objs.size f cdv)) →
      SSs (cxOf CX0 P w K mg base N qual scope f cdv A outer s H E) W0 pin body g) :
    FnOk P w K mg base CX0 (k + 1) f fd ps (spF K fun ts => noE (bodyF ps.length pin N.length g ts)) := by
  have len : ∀ vs H Q E, spF K (fun ts => noE (bodyF ps.length pin N.length g ts)) vs H Q E → vs.length = ps.length := fun vs H Q E ⟨ts, hs, hl, _, h⟩ => by
    by_cases q : ts.length = ps.length
    · rw [← hl]; exact q
    · simp only [bodyF, if_neg q, noE] at h
  refine F.ok S len fun cdv A outer s H vs Q E hr hsp => ⟨_, hbody cdv A outer s H E hr, ?_⟩
  have hvl := len _ _ _ _ hsp
  obtain ⟨ts, hs, hl, sep, h⟩ := hsp
  have htl : ts.length = ps.length := hl.trans hvl
  simp only [bodyF, if_pos htl] at h
  have st : Stt K hs (L2.start N vs) H (ts.map some ++ List.replicate (N.length - ps.length) none) := by
    unfold L2.start
    rw [hvl]
    refine ⟨sok_app vs ts _ hl, ?_⟩
    rw [slots_app vs ts _ _ hl]
    exact sep
  refine ⟨_, hs, L2.start N vs, st, fun _ _ => rfl, ?_⟩
  have outs : ∀ {σ : Sg} {H' : Hp} {ρ : Env} {B : List VT}, Stt K (B ++ hs) σ H' ρ → PinOk pin (L2.start N vs) σ → Sep K H' (B ++ (slotsL (vs.map some) (keepP pin ps.length 0 ρ) ++ hs)) := fun {σ H' ρ B} s1 hp1 => by
    have sb := keepP_sub (pin := pin) (vs := vs) (σ := σ) (ρ := ρ) (j := 0) fun i v hv hi => by
      rw [Nat.zero_add] at hi
      rw [hp1 i hi]
      unfold L2.start
      rw [List.getElem?_append_left (by rw [List.length_map]; exact (List.getElem?_eq_some_iff.mp hv).1), List.getElem?_map, hv]
      rfl
    rw [hvl] at sb
    have p1 : (slotsL σ ρ ++ (B ++ hs)).Perm ((B ++ hs) ++ slotsL σ ρ) := List.perm_append_comm
    have q := Sep.sub sb (A := B ++ hs) (s1.sep.perm p1)
    refine q.perm ?_
    rw [List.append_assoc]
    exact List.perm_append_comm.append_left _
  unfold finS
  cases e : g (ts.map some ++ List.replicate (N.length - ps.length) none) with
  | bad => rw [e] at h; exact h.elim
  | exc c ρ => rw [e] at h; exact h.elim
  | ok a ρ =>
    rw [e] at h
    cases a with
    | bk => exact h.elim
    | ct => exact h.elim
    | ra i =>
      intro v σ H' hi s1 hp1
      dsimp only at h
      cases hc : pin.contains i with
      | false => rw [hc, if_neg Bool.false_ne_true] at h; exact h.elim
      | true =>
        rw [hc, if_pos rfl] at h
        have hm : i ∈ pin := by simpa using hc
        have hlt : i < vs.length := by rw [hvl]; exact hpin i hm
        refine h v H' ?_ (outs (B := []) s1 hp1)
        have e1 := hp1 i hm
        rw [hi] at e1
        unfold L2.start at e1
        rw [List.getElem?_append_left (by rw [List.length_map]; exact hlt), List.getElem?_map] at e1
        cases hq : vs[i]? with
        | none => rw [hq] at e1; cases e1
        | some w =>
          rw [hq] at e1
          have e2 : some v = some w := Option.some.inj e1
          exact e2.symm
    | nx =>
      intro σ H' s1 hp1
      refine h _ H' ?_
      obtain ⟨ws, q⟩ := outs (B := []) s1 hp1
      exact ⟨ws, q.pure .non⟩
    | rt t =>
      intro v σ H' s1 hp1
      exact h v H' (outs (B := [(v, t)]) s1 hp1)
theorem law_end0 {K : PySem.W.Frag} {H : Hp} {a : Addr} {ns : List Int} {F : List T → FR} (hO : Only H) (hS : SqL K H a (ns.map V.int)) (hl : ns.length ≤ sizeLine) (h : ∃ outs, F [(false, .scr ns)] = .ok (false, .bl true) outs) :
    spF K (fun ts => noE (F ts)) [.ref a] H (fun v _ => v = .bl true) (fun _ _ _ => False) := by
  obtain ⟨outs, h⟩ := h
  exact law_end hO hS hl ⟨outs, by show noE (F _) = _; rw [h]; rfl⟩
end Lz
namespace Lz
open PySem PySem.Spec PyProof.Rows L2
def strsD : List D → Option (List Str)
  | [] => some []
  | .str b :: r => (strsD r).map (b :: ·)
  | _ :: _ => none
def fstAt (z : Str) : List Str → Nat → Option Nat
  | [], _ => none
  | y :: ys, n => if y = z then some n else fstAt z ys (n + 1)
def mfIndex (d : D) (ds : List D) : Option T := match d, ds with
  | .tup xs, [.str z] => (strsD xs).bind fun ys => (fstAt z ys 0).map fun j => (false, .int (j : Nat))
  | _, _ => none
section
variable {X : Cx}
/-- list.index: the first place of an equal one -/
def fstEq (d : PyData) : List PyData → Nat → Option Nat
  | [], _ => none
  | y :: ys, n => if PyData.eqv y d = true then some n else fstEq d ys (n + 1)
def mfLIndex (d : D) (ds : List D) : Option T := match d, ds with
  | .lst xs, [z] => if okD (.lst xs) = true ∧ okD z = true then (fstEq z.toPy (D.toPys xs) 0).map fun j => (false, .int (j : Nat)) else none
  | _, _ => none
end
section
variable {X : Cx} {W : WX} {o e : Expr} {fa : Env → R XV} {f : Env → R (List XV)} {apos cpos : Pos}
end
end Lz
namespace Lz
open PySem PySem.Spec PyProof.Rows L2
/-- whether the one class stands under the other -/
def excSub (x c : Str) : Bool := x == c || (c == "LossError" || c == "ValueError")
/-- the value of a class's name -/
def clV (K : PySem.W.Frag) (c : Str) : Value := if c == "ValueError" then .type "ValueError" else .ref (He.ga K c)
def exOk (K : PySem.W.Frag) (x : Str) : Bool :=
  let D := He.ga K x
  decide (PySem.W.findIn K (.ref D) "__getattribute__" = some (some (.builtin "BaseException.__getattribute__"))) &&
  (decide (PySem.W.findIn K (.ref D) "__getattr__" = some none) &&
  (decide (PySem.W.subIn K (.ref D) (.type "BaseException") = some true) &&
  (PySem.W.hasDictIn K D &&
  (decide (PySem.W.findIn K (.ref D) "__class__" = some (some (.builtin "object.__class__"))) &&
  (decide (PySem.W.specialIn K (.builtin "object.__class__") "__get__" = some (some (.builtin "getset_descriptor.__get__"))) &&
  (decide (PySem.W.takesIn K (.builtin "object.__class__") = some true) &&
  decide (PySem.W.mroIn K D (.type "object") = some true)))))))
theorem exOk_C {K : PySem.W.Frag} {x : Str} (h : exOk K x = true) : ExcC K (He.ga K x) := by
  unfold exOk at h
  obtain ⟨h1, h⟩ := He.ba h
  obtain ⟨h2, h⟩ := He.ba h
  obtain ⟨h3, h⟩ := He.ba h
  obtain ⟨h4, h⟩ := He.ba h
  obtain ⟨h5, h⟩ := He.ba h
  obtain ⟨h6, h⟩ := He.ba h
  obtain ⟨h7, h8⟩ := He.ba h
  exact ⟨of_decide_eq_true h1, of_decide_eq_true h2, of_decide_eq_true h3, h4, of_decide_eq_true h5, of_decide_eq_true h6, of_decide_eq_true h7, of_decide_eq_true h8⟩
/-- the exceptions' facts: those that may be raised, those that are asked for -/
def exsB (xs cs : List Str) (K : PySem.W.Frag) : Bool := xs.all fun x => exOk K x && cs.all fun c =>
  decide (PySem.W.kitOne K (.ref (He.ga K x)) (clV K c) = some (excSub x c)) && (c == "ValueError" || decide (PySem.W.exmOne K (.ref (He.ga K x)) (.ref (He.ga K c)) = some (excSub x c)))
structure ExF (K : PySem.W.Frag) (xs cs : List Str) : Prop where
  c : ∀ x ∈ xs, ExcC K (He.ga K x)
  k : ∀ x ∈ xs, ∀ c ∈ cs, PySem.W.kitOne K (.ref (He.ga K x)) (clV K c) = some (excSub x c)
  m : ∀ x ∈ xs, ∀ c ∈ cs, (c == "ValueError") = false → PySem.W.exmOne K (.ref (He.ga K x)) (.ref (He.ga K c)) = some (excSub x c)
theorem exF_of {xs cs : List Str} {K : PySem.W.Frag} (h : exsB xs cs K = true) : ExF K xs cs := by
  have h1 := List.all_eq_true.mp h
  refine ⟨fun x hx => exOk_C (He.ba (h1 x hx)).1, fun x hx c hc => ?_, fun x hx c hc hne => ?_⟩
  · have h2 := List.all_eq_true.mp (He.ba (h1 x hx)).2 c hc
    exact of_decide_eq_true (He.ba h2).1
  · have h2 := List.all_eq_true.mp (He.ba (h1 x hx)).2 c hc
    have h3 := (He.ba h2).2
    rw [hne, Bool.false_or] at h3
    exact of_decide_eq_true h3
def xTry (xs : List Str) (c : Str) (f : Env → R Fl) (h : Str → Env → R Fl) (ρ : Env) : R Fl := match f ρ with
  | .exc x ρ' => if x ∈ xs then (if excSub x c = true then (match h x ρ' with
    | .exc _ _ => .bad
    | r => r) else .exc x ρ') else .bad
  | r => r
section
variable {X : Cx} {W : WX} {x : Str} {xs cs : List Str} {body suite : List Stmt} {b₀ : Stmt} {np pos pos' : Pos} {pin : List Nat} {f : Env → R Fl}
/-- in the suite: an expression that asks of which class the exception is -/
def KE (X : Cx) (xs : List Str) (i : Nat) (a : Addr) (cls : Value) (d : Option Addr) (e : Expr) (B : Str → Bool) : Prop := ∀ x ∈ xs, cls = .ref (He.ga X.K x) → d = none → PE X e (fun σ H Q => σ[i]? = some (some (.ref a)) ∧ Q (.bl (B x)) H)
section
variable {i : Nat} {a : Addr} {oe : Obj} {cls : Value} {d : Option Addr} {pn : List (Addr × Obj)} {e e1 e2 : Expr} {rest : List Expr} {B1 B2 : Str → Bool} {p : Pos}
theorem ke_isi {n c : Str} {p1 p2 p3 p4 : Pos} (F : ExF X.K xs cs) (hz : Zc cls d oe) (hf : ∃ vs, oe.data = .fields vs) (hcs : c ∈ cs) (hm : X.mg "isinstance" = none) (hc : (c = "ValueError" ∧ X.mg c = none) ∨ ((c == "ValueError") = false ∧ X.mg c = some (.ref (He.ga X.K c))))
    (hN : X.N[i]? = some n) (hv : Vis X.env.scope n) (hd : (n == ("__debug__" : Str)) = false) (hcd : (n == ("__classdict__" : Str)) = false) (hg : Gl X "isinstance") (hg2 : Gl X c) (hd2 : (c == ("__debug__" : Str)) = false)
    (hst : starEach [.Name n p1, .Name c p2] X.env = (false, eval (.Name n p1) X.env) :: starEach [.Name c p2] X.env) :
    KE (X.suite a ((a, oe) :: pn)) xs i a cls d (.Call (.Name "isinstance" p3) [.Name n p1, .Name c p2] [] p4) (fun x => excSub x c) := by
  intro x hx e1 e2
  subst e1 e2
  have hN' : (X.suite a ((a, oe) :: pn)).N[i]? = some n := hN
  have hcl : ∃ cv : V, RelV cv (clV X.K c) ∧ (∀ u, RelV cv u → u = clV X.K c) ∧ PE (X.suite a ((a, oe) :: pn)) (.Name c p2) (tC cv) := by
    rcases hc with ⟨rfl, hm2⟩ | ⟨hne, hm2⟩
    · refine ⟨.ty "ValueError", rfl, fun u r => r, ?_⟩
      exact pe_bltn (X := X.suite a ((a, oe) :: pn)) hg2 hm2 (show bootBuiltins "ValueError" = some (.type "ValueError") by decide +kernel) rfl (by decide) (by decide)
    · have e : clV X.K c = .ref (He.ga X.K c) := by unfold clV; rw [hne]; rfl
      refine ⟨.ref (He.ga X.K c), by rw [e]; rfl, fun u r => by rw [e]; exact r, ?_⟩
      exact pe_glob (X := X.suite a ((a, oe) :: pn)) hg2 hm2 rfl hd2
  obtain ⟨cv, _, hcv, hpe⟩ := hcl
  have ha : PA (X.suite a ((a, oe) :: pn)) [.Name n p1, .Name c p2] (tCons (tVar i) (tCons (tC cv) tNil)) := pa_cons (pe_var hN' hv hd hcd) (pa_cons hpe pa_nil) hst
  refine PE.weak (pe_callB (X := X.suite a ((a, oe) :: pn)) (call_isE (F.c x hx) hz hf) hg hm (by decide +kernel) ha (by decide) (by decide) hst) fun σ H Q h => ?_
  exact ⟨_, h.1, cv, _, _, rfl, hcv, F.k x hx c hcs, h.2⟩
end
section
variable {i : Nat} {a : Addr} {oe : Obj} {cls : Value} {d : Option Addr} {pn : List (Addr × Obj)} {e : Expr} {B : Str → Bool} {p p2 p3 : Pos} {k : Nat}
end
end
section
variable {xs : List Str} {c x : Str} {f : Env → R Fl} {h : Str → Env → R Fl} {ρ : Env} {i : Nat}
def tryE (h : Str → Env → R Fl) (x : Str) (ρ : Env) : R Fl := match h x ρ with
  | .exc _ _ => .bad
  | r => r
def tryK (xs : List Str) (c : Str) (h : Str → Env → R Fl) : R Fl → R Fl
  | .exc x ρ' => if x ∈ xs then (if excSub x c = true then tryE h x ρ' else .exc x ρ') else .bad
  | r => r
@[simp] theorem tryK_ok {a : Fl} : tryK xs c h (.ok a ρ) = .ok a ρ := rfl
@[simp] theorem tryK_exc : tryK xs c h (.exc x ρ) = if x ∈ xs then (if excSub x c = true then tryE h x ρ else .exc x ρ) else .bad := rfl
@[simp] theorem xTry_ev : xTry xs c f h ρ = tryK xs c h (f ρ) := by
  unfold xTry tryK
  cases f ρ <;> rfl
theorem tryE_ok {a : Fl} {ρ' : Env} (q : h x ρ = .ok a ρ') : tryE h x ρ = .ok a ρ' := by unfold tryE; rw [q]
end
end Lz
namespace Lz
open PySem PySem.Spec PyProof.Rows L2
abbrev LW : PySem.W.OpenLaw := PySem.Challenge.rw_leastloss_k31_saying_texts
def topS (i : Nat) : Stmt := PySem.Challenge.pw_leastloss_k31_saying_texts.main.body.getD i (.Pass ⟨0, 0, 0, 0⟩)
abbrev s_is_saying : Stmt := topS 8
abbrev s_saying_text : Stmt := topS 10
abbrev s_middle : Stmt := topS 11
abbrev s_parsed : Stmt := topS 12
abbrev s_saying_of : Stmt := topS 13
abbrev s_read_saying : Stmt := topS 14
abbrev s_l_cell_at : Stmt := topS 16
abbrev s_l_mixed : Stmt := topS 17
abbrev s_l_next : Stmt := topS 18
abbrev s_l_saying : Stmt := topS 19
abbrev s_l_names : Stmt := topS 20
abbrev s_l_word : Stmt := topS 21
abbrev s_l_parsed : Stmt := topS 22
abbrev s_l_deep : Stmt := topS 23
abbrev s_l_saying_of : Stmt := topS 24
abbrev s_l_text : Stmt := topS 25
abbrev s_l_spoilt : Stmt := topS 26
abbrev s_law : Stmt := topS 27
def dd_is_saying : He.DefD := ⟨("is_saying", none), "is_saying", "is_saying", defArgs s_is_saying, defBody s_is_saying, defScope s_is_saying, [], []⟩
def dd_saying_text : He.DefD := ⟨("saying_text", none), "saying_text", "saying_text", defArgs s_saying_text, defBody s_saying_text, defScope s_saying_text, [], []⟩
def dd_middle : He.DefD := ⟨("middle", none), "middle", "middle", defArgs s_middle, defBody s_middle, defScope s_middle, [], []⟩
def dd_parsed : He.DefD := ⟨("parsed", none), "parsed", "parsed", defArgs s_parsed, defBody s_parsed, defScope s_parsed, [], []⟩
def dd_saying_of : He.DefD := ⟨("saying_of", none), "saying_of", "saying_of", defArgs s_saying_of, defBody s_saying_of, defScope s_saying_of, [], []⟩
def dd_read_saying : He.DefD := ⟨("read_saying", none), "read_saying", "read_saying", defArgs s_read_saying, defBody s_read_saying, defScope s_read_saying, [], []⟩
def dd_l_cell_at : He.DefD := ⟨("_law_cell_at", none), "_law_cell_at", "_law_cell_at", defArgs s_l_cell_at, defBody s_l_cell_at, defScope s_l_cell_at, [], []⟩
def dd_l_mixed : He.DefD := ⟨("_law_mixed", none), "_law_mixed", "_law_mixed", defArgs s_l_mixed, defBody s_l_mixed, defScope s_l_mixed, [], []⟩
def dd_l_next : He.DefD := ⟨("_law_next", none), "_law_next", "_law_next", defArgs s_l_next, defBody s_l_next, defScope s_l_next, [], []⟩
def dd_l_saying : He.DefD := ⟨("_law_saying", none), "_law_saying", "_law_saying", defArgs s_l_saying, defBody s_l_saying, defScope s_l_saying, [], []⟩
def dd_l_names : He.DefD := ⟨("_law_names", none), "_law_names", "_law_names", defArgs s_l_names, defBody s_l_names, defScope s_l_names, [], []⟩
def dd_l_word : He.DefD := ⟨("_law_word", none), "_law_word", "_law_word", defArgs s_l_word, defBody s_l_word, defScope s_l_word, [], []⟩
def dd_l_parsed : He.DefD := ⟨("_law_parsed", none), "_law_parsed", "_law_parsed", defArgs s_l_parsed, defBody s_l_parsed, defScope s_l_parsed, [], []⟩
def dd_l_deep : He.DefD := ⟨("_law_deep", none), "_law_deep", "_law_deep", defArgs s_l_deep, defBody s_l_deep, defScope s_l_deep, [], []⟩
def dd_l_saying_of : He.DefD := ⟨("_law_saying_of", none), "_law_saying_of", "_law_saying_of", defArgs s_l_saying_of, defBody s_l_saying_of, defScope s_l_saying_of, [], []⟩
def dd_l_text : He.DefD := ⟨("_law_text", none), "_law_text", "_law_text", defArgs s_l_text, defBody s_l_text, defScope s_l_text, [], []⟩
def dd_l_spoilt : He.DefD := ⟨("_law_spoilt", none), "_law_spoilt", "_law_spoilt", defArgs s_l_spoilt, defBody s_l_spoilt, defScope s_l_spoilt, [], []⟩
def dd_law : He.DefD := ⟨("law", none), "law", "law", defArgs s_law, defBody s_law, defScope s_law, [], []⟩
def fnL : List He.DefD := [dd_is_saying, dd_saying_text, dd_middle, dd_parsed, dd_saying_of, dd_read_saying, dd_l_cell_at, dd_l_mixed, dd_l_next, dd_l_saying, dd_l_names, dd_l_word, dd_l_parsed, dd_l_deep, dd_l_saying_of, dd_l_text, dd_l_spoilt, dd_law]
def faL : List He.Fa := [.free "ValueError", .free "all", .free "int", .free "isinstance", .free "len", .free "max", .free "range", .free "str", .free "tuple", .glo "is_saying", .glo "saying_text", .glo "middle", .glo "parsed", .glo "saying_of", .glo "read_saying", .glo "_law_cell_at", .glo "_law_mixed", .glo "_law_next", .glo "_law_saying", .glo "_law_names", .glo "_law_word", .glo "_law_parsed", .glo "_law_deep", .glo "_law_saying_of", .glo "_law_text", .glo "_law_spoilt", .glo "law", .int "DEPTH" 8, .glo "DOUBLE", .glo "SINGLE", .glo "LossError", .glo "NoSaying", .glo "NoText", .exc "NoText"]
def tbL : List (Str × List Str) := [("DOUBLE", ["and", "or", "then", "same", "since"]), ("SINGLE", ["not", "before", "once", "sofar"])]
def exaL (K : PySem.W.Frag) : Bool := exB tbL K && exsB ["NoSaying", "NoText"] ["LossError", "NoSaying", "NoText", "ValueError"] K
def loose0 : List Str := ["is_saying", "saying_text", "middle", "parsed", "saying_of", "read_saying", "_law_cell_at", "_law_mixed", "_law_next", "_law_saying", "_law_names", "_law_word", "_law_parsed", "_law_deep", "_law_saying_of", "_law_text", "_law_spoilt", "LossError", "NoSaying", "NoText", "SINGLE", "DOUBLE", "DEPTH"]
def looseL : List Str := loose0
abbrev RR : PySem.W.OpenRow := PySem.W.OpenLaw.row LW
abbrev hkL : PySem.W.Hook := He.hookX 4 faL fnL [] [] exaL
def obL (s : PySem.W.SharedT) : He.AlX := He.obsX 4 faL fnL [] [] exaL (HandSHeadRun.getT s)
theorem obL_eq (s : PySem.W.SharedT) : obL s = hkL.obs s.abs := He.obsX_eq (HandSHeadRun.getT_eq s)
theorem mapL {α β γ δ : Type _} {r : Option α} {f : α → β} {g : α → γ} {h : α → δ} {x : β} {y : γ} {z : δ} (a : r.map (fun s => (f s, g s)) = some (x, y)) (b : r.map h = some z) : r.map (fun s => (f s, g s, h s)) = some (x, y, z) := by
  cases r with
  | none => cases a
  | some s =>
    have a' : (f s, g s) = (x, y) := Option.some.inj a
    have b' : h s = z := Option.some.inj b
    cases a'
    cases b'
    rfl
section
open PySem.W PySem.Calls HandSHeadRun
theorem runA (w : World) (os : OsState) : (HandSHeadRun.endF (stepQ (denQ tabQ) RR.prog w) 12000 RR.prog w os).map (fun s => (HandSHeadRun.looksF RR.prog (boot_heap w.params) s.abs, HandSHeadRun.seenQ (PySem.W.view RR.prog [27]) looseL (importedModules RR.prog.main.body) (fun s => xlAt (PySem.W.view RR.prog [27]) [] s && recOk RR.toRowW.records s) s.abs)) = some (true, openGood (PySem.W.view RR.prog [27]) looseL) := by kernel_rfl
theorem runB (w : World) (os : OsState) : (HandSHeadRun.endF (stepQ (denQ tabQ) RR.prog w) 12000 RR.prog w os).map (fun s => obL s) = some (hkL.val w) := by kernel_rfl
end
theorem runL (w : World) : HandSHeadRun.RunEq RR (PySem.W.view RR.prog [27]) hkL obL 12000 looseL w := by
  intro os
  exact mapL (runA w os) (runB w os)
end Lz
namespace Lz
open PySem PySem.Spec PyProof.Rows L2
noncomputable def rngX3 (xs : List XV) (ρ : Env) : R Its := match views xs ρ with
  | some [.int a, .int b, .int c] => cif (c = -1 ∧ -(2 ^ 62) ≤ a ∧ a < 2 ^ 62 ∧ -(2 ^ 62) ≤ b ∧ b < 2 ^ 62 ∧ a - b ≤ 16777216) (.ok ⟨rngL a (-1) (a - b).toNat, none⟩ ρ) .bad
  | _ => .bad
noncomputable def sRng3 (f : Env → R (List XV)) (ρ : Env) : R Its := (f ρ).bind rngX3
section
variable {X : Cx} {W : WX} {tg : Expr}
noncomputable def rng3K (ρ : Env) : Option (List D) → R Its
  | some [.int a, .int b, .int c] => cif (c = -1 ∧ -(2 ^ 62) ≤ a ∧ a < 2 ^ 62 ∧ -(2 ^ 62) ≤ b ∧ b < 2 ^ 62 ∧ a - b ≤ 16777216) (.ok ⟨rngL a (-1) (a - b).toNat, none⟩ ρ) .bad
  | _ => .bad
@[simp] theorem rng3K_s {ρ : Env} {a b c : Int} : rng3K ρ (some [.int a, .int b, .int c]) = cif (c = -1 ∧ -(2 ^ 62) ≤ a ∧ a < 2 ^ 62 ∧ -(2 ^ 62) ≤ b ∧ b < 2 ^ 62 ∧ a - b ≤ 16777216) (.ok ⟨rngL a (-1) (a - b).toNat, none⟩ ρ) .bad := rfl
@[simp] theorem rngX3_ev {ρ : Env} {xs : List XV} : rngX3 xs ρ = rng3K ρ (views xs ρ) := by
  unfold rngX3 rng3K
  rfl
@[simp] theorem sRng3_ev {f : Env → R (List XV)} {ρ : Env} : sRng3 f ρ = (f ρ).bind rngX3 := rfl
end
end Lz
namespace Lz
open PySem PySem.Spec PyProof.Rows L2
def rgOkB (a b : Int) : Prop := -(2 ^ 62) ≤ a ∧ a < 2 ^ 62 ∧ -(2 ^ 62) ≤ b ∧ b < 2 ^ 62 ∧ b - a ≤ 16777216
noncomputable def opLRg : D → D → Option T
  | .int a, .int b => cif (rgOkB a b) (some (true, .lst (rngL a 1 (b - a).toNat))) none
  | _, _ => none
noncomputable def opLRg1 : D → Option T := fun d => opLRg (.int 0) d
noncomputable def opTRg : D → D → Option T
  | .int a, .int b => cif (rgOkB a b) (some (false, .tup (rngL a 1 (b - a).toNat))) none
  | _, _ => none
noncomputable def opTRg1 : D → Option T := fun d => opTRg (.int 0) d
section
variable {X : Cx} {W : WX} {a b : Expr} {fa fb : Env → R XV} {p p2 pos pos2 : Pos}
@[simp] theorem opLRg_s {i j : Int} : opLRg (.int i) (.int j) = cif (rgOkB i j) (some (true, .lst (rngL i 1 (j - i).toNat))) none := rfl
@[simp] theorem opLRg1_s {j : Int} : opLRg1 (.int j) = cif (rgOkB 0 j) (some (true, .lst (rngL 0 1 (j - 0).toNat))) none := rfl
@[simp] theorem opTRg1_s {j : Int} : opTRg1 (.int j) = cif (rgOkB 0 j) (some (false, .tup (rngL 0 1 (j - 0).toNat))) none := rfl
end
end Lz
namespace Lz
open PySem PySem.Spec PyProof.Rows L2
def viewT (x : XV) (ρ : Env) : Option T := match x with
  | .v o d => some (o, d)
  | .b i => gt ρ i
theorem lk_names {K : PySem.W.Frag} {H : Hp} {av : Addr → Prop} {f : Str} {b : Bool} {d : D} : ∀ {fs : List (Str × V)} {gs : List (Str × Bool × D)}, fs.map (·.1) = gs.map (·.1) → RepAll K H av (fs.map (·.2)) (gs.map (·.2.2)) → gs.lookup f = some (b, d) → ∃ u, fs.lookup f = some u ∧ Rep K H av u d
  | [], [], _, _, h => by cases h
  | [], _ :: _, h, _, _ => by cases h
  | _ :: _, [], h, _, _ => by cases h
  | (g, v) :: fs, (g', b', d') :: gs, hn, r, h => by
    simp only [List.map_cons, List.cons.injEq] at hn r
    obtain ⟨rfl, hn⟩ := hn
    cases r with
    | cons r1 r2 =>
      rw [List.lookup_cons] at h ⊢
      cases hb : (f == g) with
      | true =>
        rw [hb] at h
        cases h
        exact ⟨v, rfl, r1⟩
      | false =>
        rw [hb] at h
        exact lk_names hn r2 h
theorem lk_own {K : PySem.W.Frag} {H : Hp} {av : Addr → Prop} {f : Str} {d : D} : ∀ {fs : List (Str × V)} {gs : List (Str × Bool × D)} {w : List Addr}, OwnFs K H av fs gs w → gs.lookup f = some (false, d) → ∃ u, fs.lookup f = some u ∧ Rep K H av u d
  | _, _, _, .nil, h => by cases h
  | _, _, _, .pure (f := g) r t, h => by
    rw [List.lookup_cons] at h ⊢
    cases hb : (f == g) with
    | true => rw [hb] at h; cases h; exact ⟨_, rfl, r⟩
    | false => rw [hb] at h; exact lk_own t h
  | _, _, _, .lst (f := g) e r t, h => by
    rw [List.lookup_cons] at h ⊢
    cases hb : (f == g) with
    | true => rw [hb] at h; cases h
    | false => rw [hb] at h; exact lk_own t h
/-- what an object's attribute gives free -/
def fldV (o : Bool) (gs : List (Str × Bool × D)) (f : Str) : Option D := match gs.lookup f with
  | some (b, d) => if (o && b) = true then none else some d
  | none => none
theorem SepW.ob {K : PySem.W.Frag} {H : Hp} {L : List VT} {ws : List Addr} {v : V} {o : Bool} {c : Str} {gs : List (Str × Bool × D)} (s : SepW K H L ws) (hm0 : (v, (o, D.ob c gs)) ∈ L) :
    ∃ a dx fs, v = .ref a ∧ H a = some (.ins (He.ga K c) dx fs) ∧ fs.map (·.1) = gs.map (·.1) ∧ ∀ f d, fldV o gs f = some d → ∃ u, fs.lookup f = some u ∧ Rep K H (· ∈ ws) u d := by
  obtain ⟨w, q, hw⟩ := s.own.get hm0
  cases q with
  | pure r =>
    cases r with
    | ob n h e m r =>
      subst e
      refine ⟨_, _, _, rfl, h, m, fun f d hf => ?_⟩
      unfold fldV at hf
      cases hl : gs.lookup f with
      | none => rw [hl] at hf; cases hf
      | some p =>
        obtain ⟨b, d'⟩ := p
        rw [hl] at hf
        simp only [Bool.false_and, Bool.false_eq_true, if_false, Option.some.injEq] at hf
        subst hf
        exact lk_names m r hl
  | ob h e r =>
    subst e
    refine ⟨_, _, _, rfl, h, r.names, fun f d hf => ?_⟩
    unfold fldV at hf
    cases hl : gs.lookup f with
    | none => rw [hl] at hf; cases hf
    | some p =>
      obtain ⟨b, d'⟩ := p
      rw [hl] at hf
      cases b with
      | true => simp at hf
      | false =>
        simp at hf
        subst hf
        exact lk_own r hl
def fldX (c f : Str) (x : XV) (ρ : Env) : R XV := match viewT x ρ with
  | some (o, .ob c' gs) => if c' = c then (match fldV o gs f with
    | some d => .ok (.v false d) ρ
    | none => .bad) else .bad
  | _ => .bad
def sFld (c f : Str) (fe : Env → R XV) (ρ : Env) : R XV := (fe ρ).bind (fldX c f)
section
variable {X : Cx} {W : WX} {e : Expr} {fe : Env → R XV} {c f : Str} {pos : Pos}
end
/-- nothing is let out -/
def nX (F : List T → FR) (ts : List T) : FR := match F ts with
  | .exc _ => .bad
  | r => r
/-- whether it is an object of the class, without an attribute of the name -/
def isOb (c m : Str) (x : XV) (ρ : Env) : Bool := match viewT x ρ with
  | some (_, .ob c' gs) => decide (c' = c) && (gs.lookup m).isNone
  | _ => false
def sMeth (c m : Str) (F : List T → FR) (fo : Env → R XV) (fa : Env → R (List XV)) (ρ : Env) : R XV := (fo ρ).bind fun x ρ => if isOb c m x ρ = true then (fa ρ).bind fun xs ρ => opF (nX F) (x :: xs) ρ else .bad
section
variable {X : Cx} {W : WX} {o e : Expr} {es : List Expr} {fo : Env → R XV} {fa : Env → R (List XV)} {k : Nat} {F : List T → FR} {c m : Str} {apos pos : Pos}
def opMk (c : Str) (F : List T → FR) (xs : List XV) (ρ : Env) : R XV := match takeA xs ρ with
  | none => .bad
  | some p => (match F ((true, .ob c []) :: p.1) with
    | .ok (false, .non) (some t :: outs) => .ok (.v t.1 t.2) (putA xs outs p.2)
    | _ => .bad)
def sMake (c : Str) (F : List T → FR) (fa : Env → R (List XV)) (ρ : Env) : R XV := (fa ρ).bind (opMk c F)
end
end Lz
namespace Lz
open PySem PySem.Spec PyProof.Rows L2
def putO (f : Str) (x : Bool × D) : List (Str × Bool × D) → List (Str × Bool × D)
  | [] => [(f, x)]
  | (g, y) :: r => if g = f then (g, x) :: r else (g, y) :: putO f x r
section
variable {K : PySem.W.Frag} {H : Hp} {av : Addr → Prop}
theorem OwnFs.put {f : Str} {y : V} {d : D} (q : Rep K H av y d) : ∀ {fs : List (Str × V)} {gs : List (Str × Bool × D)} {w : List Addr}, OwnFs K H av fs gs w → ∃ w', OwnFs K H av (putF f y fs) (putO f (false, d) gs) w' ∧ w'.Sublist w
  | _, _, _, .nil => ⟨[], .pure q .nil, List.Sublist.refl _⟩
  | _, _, _, .pure (f := g) (fs := fs) (gs := gs) (w := w) r t => by
    unfold putF putO
    by_cases h : g = f
    · rw [if_pos h, if_pos h]
      exact ⟨w, .pure q t, List.Sublist.refl _⟩
    · rw [if_neg h, if_neg h]
      obtain ⟨w', h1, h2⟩ := OwnFs.put q t
      exact ⟨w', .pure r h1, h2⟩
  | _, _, _, .lst (f := g) (b := b) (w := w) e r t => by
    unfold putF putO
    by_cases h : g = f
    · rw [if_pos h, if_pos h]
      exact ⟨w, .pure q t, List.sublist_cons_self _ _⟩
    · rw [if_neg h, if_neg h]
      obtain ⟨w', h1, h2⟩ := OwnFs.put q t
      exact ⟨b :: w', .lst e r h1, h2.cons_cons b⟩
end
def setFld (i : Nat) (c f : Str) (own : Bool) (y : XV) (ρ : Env) : R Fl := match own with
  | false => (frz y ρ).bind fun d ρ => (match gt ρ i with
    | some (true, .ob c' gs) => if c' = c ∧ gs.length < 1000 then .ok .nx (pt ρ i (some (true, .ob c (putO f (false, d) gs)))) else .bad
    | _ => .bad)
  | true => (match y, gt ρ i with
    | .v true (.lst ds), some (true, .ob c' gs) => if c' = c ∧ gs.length < 1000 then .ok .nx (pt ρ i (some (true, .ob c (putO f (true, .lst ds) gs)))) else .bad
    | _, _ => .bad)
def xFset (i : Nat) (c f : Str) (own : Bool) (fe : Env → R XV) (ρ : Env) : R Fl := (fe ρ).bind (setFld i c f own)
section
variable {X : Cx} {W : WX} {pin : List Nat} {value : Expr} {fe : Env → R XV} {c f x : Str} {i : Nat} {p pos pos' : Pos}
end
section
variable {ρ : Env} {c f m : Str} {gs : List (Str × Bool × D)} {o : Bool} {i : Nat} {d : D}
@[simp] theorem viewT_v : viewT (.v o d) ρ = some (o, d) := rfl
@[simp] theorem viewT_b : viewT (.b i) ρ = gt ρ i := rfl
def fldK (c f : Str) (ρ : Env) : Option T → R XV
  | some (o, .ob c' gs) => if c' = c then (match fldV o gs f with
    | some d => .ok (.v false d) ρ
    | none => .bad) else .bad
  | _ => .bad
def fldK2 (ρ : Env) : Option D → R XV
  | some d => .ok (.v false d) ρ
  | none => .bad
@[simp] theorem fldK2_s : fldK2 ρ (some d) = .ok (.v false d) ρ := rfl
@[simp] theorem fldK_s : fldK c f ρ (some (o, .ob c gs)) = fldK2 ρ (fldV o gs f) := by
  unfold fldK fldK2
  dsimp only
  rw [if_pos rfl]
  try (cases fldV o gs f <;> rfl)
@[simp] theorem fldX_ev {x : XV} : fldX c f x ρ = fldK c f ρ (viewT x ρ) := by
  unfold fldX fldK
  try (cases viewT x ρ with
  | none => rfl
  | some t => obtain ⟨o, d⟩ := t; cases d <;> rfl)
@[simp] theorem sFld_ev {fe : Env → R XV} : sFld c f fe ρ = (fe ρ).bind (fldX c f) := rfl
@[simp] theorem isOb_v {c' : Str} : isOb c m (.v o (.ob c' gs)) ρ = (decide (c' = c) && (gs.lookup m).isNone) := rfl
def isObK (c m : Str) : Option T → Bool
  | some (_, .ob c' gs) => decide (c' = c) && (gs.lookup m).isNone
  | _ => false
@[simp] theorem isObK_s {c' : Str} : isObK c m (some (o, .ob c' gs)) = (decide (c' = c) && (gs.lookup m).isNone) := rfl
@[simp] theorem isOb_b : isOb c m (.b i) ρ = isObK c m (gt ρ i) := by
  show isOb c m (.b i) ρ = _
  unfold isOb isObK
  rw [viewT_b]
  try (cases gt ρ i with
  | none => rfl
  | some t => obtain ⟨o, d⟩ := t; cases d <;> rfl)
def methK (F : List T → FR) (x : XV) (xs : List XV) (ρ : Env) : R XV := opF (nX F) (x :: xs) ρ
@[simp] theorem methK_ev {F : List T → FR} {x : XV} {xs : List XV} : methK F x xs ρ = opF (nX F) (x :: xs) ρ := rfl
def methK2 (c m : Str) (F : List T → FR) (fa : Env → R (List XV)) (x : XV) (ρ : Env) : R XV := if isOb c m x ρ = true then (fa ρ).bind (methK F x) else .bad
@[simp] theorem methK2_ev {F : List T → FR} {fa : Env → R (List XV)} {x : XV} : methK2 c m F fa x ρ = if isOb c m x ρ = true then (fa ρ).bind (methK F x) else .bad := rfl
@[simp] theorem sMeth_ev {F : List T → FR} {fo : Env → R XV} {fa : Env → R (List XV)} : sMeth c m F fo fa ρ = (fo ρ).bind (methK2 c m F fa) := rfl
def nXK : FR → FR
  | .exc _ => .bad
  | r => r
@[simp] theorem nXK_ok {r : T} {outs : Env} : nXK (.ok r outs) = .ok r outs := rfl
@[simp] theorem nXK_al {outs : Env} : nXK (.al i outs) = .al i outs := rfl
@[simp] theorem nX_ev {F : List T → FR} {ts : List T} : nX F ts = nXK (F ts) := by
  unfold nX nXK
  try (cases F ts <;> rfl)
@[simp] theorem sMake_ev {F : List T → FR} {fa : Env → R (List XV)} : sMake c F fa ρ = (fa ρ).bind (opMk c F) := rfl
def mkK2 (xs : List XV) (ρ : Env) : FR → R XV
  | .ok (false, .non) (some t :: outs) => .ok (.v t.1 t.2) (putA xs outs ρ)
  | _ => .bad
@[simp] theorem mkK2_s {xs : List XV} {t : T} {outs : Env} : mkK2 xs ρ (.ok (false, .non) (some t :: outs)) = .ok (.v t.1 t.2) (putA xs outs ρ) := rfl
def mkK (c : Str) (F : List T → FR) (xs : List XV) : Option (List T × Env) → R XV
  | none => .bad
  | some p => mkK2 xs p.2 (F ((true, .ob c []) :: p.1))
@[simp] theorem mkK_s {F : List T → FR} {xs : List XV} {ts : List T} {ρ' : Env} : mkK c F xs (some (ts, ρ')) = mkK2 xs ρ' (F ((true, .ob c []) :: ts)) := rfl
@[simp] theorem opMk_ev {F : List T → FR} {xs : List XV} : opMk c F xs ρ = mkK c F xs (takeA xs ρ) := by
  unfold opMk mkK
  cases takeA xs ρ with
  | none => rfl
  | some p =>
    dsimp only
    unfold mkK2
    rfl
@[simp] theorem xFset_ev {own : Bool} {fe : Env → R XV} : xFset i c f own fe ρ = (fe ρ).bind (setFld i c f own) := rfl
def setK2 (i : Nat) (c f : Str) (x : Bool × D) (ρ : Env) : Option T → R Fl
  | some (true, .ob c' gs) => if c' = c ∧ gs.length < 1000 then .ok .nx (pt ρ i (some (true, .ob c (putO f x gs)))) else .bad
  | _ => .bad
@[simp] theorem setK2_s {x : Bool × D} {c' : Str} : setK2 i c f x ρ (some (true, .ob c' gs)) = if c' = c ∧ gs.length < 1000 then .ok .nx (pt ρ i (some (true, .ob c (putO f x gs)))) else .bad := rfl
def setK (i : Nat) (c f : Str) (d : D) (ρ : Env) : R Fl := setK2 i c f (false, d) ρ (gt ρ i)
@[simp] theorem setK_ev : setK i c f d ρ = setK2 i c f (false, d) ρ (gt ρ i) := rfl
@[simp] theorem setFld_f {y : XV} : setFld i c f false y ρ = (frz y ρ).bind (setK i c f) := by
  unfold setFld
  dsimp only
  congr 1
  try funext d ρ
  try (cases gt ρ i with
  | none => rfl
  | some t => obtain ⟨o, d⟩ := t; cases o <;> cases d <;> rfl)
@[simp] theorem setFld_t {ds : List D} : setFld i c f true (.v true (.lst ds)) ρ = setK2 i c f (true, .lst ds) ρ (gt ρ i) := by
  unfold setFld setK2
  dsimp only
  try (cases gt ρ i with
  | none => rfl
  | some t => obtain ⟨o, d⟩ := t; cases o <;> cases d <;> rfl)
@[simp] theorem putO_n {x : Bool × D} : putO f x [] = [(f, x)] := rfl
@[simp] theorem putO_c {g : Str} {x y : Bool × D} : putO f x ((g, y) :: gs) = if g = f then (g, x) :: gs else (g, y) :: putO f x gs := rfl
end
end Lz
namespace Lz
open PySem PySem.Spec PyProof.Rows L2
section
variable {X : Cx} {pins : List (Addr × Obj)} {σ : Sg} {H : Hp} {s : Shared} {av : Addr → Prop}
mutual
theorem rep_nk (I : L2.Inv X pins σ H s) : ∀ {v : V} {d : D} {k : NestedKey} {u : Value}, Rep X.K H av v d → nkD d = some k → RelV v u → NestedIs s.heap k u
  | _, _, _, _, .non, h, _ => by rw [nkD] at h; cases h; all_goals exact nofun
  | _, _, _, _, .bl b, h, r => by
    rw [nkD] at h
    cases h
    have e : _ = Value.bool b := r
    subst e
    exact .bool rfl
  | _, _, _, _, .int i, h, r => by
    rw [nkD] at h
    cases h
    obtain ⟨t, rfl⟩ := r
    exact .int i t
  | _, _, _, _, .str x, h, _ => by rw [nkD] at h; cases h; all_goals exact nofun
  | _, _, _, _, .tup (a := a) (vs := vs) (ds := ds) n h1 e rr, h, r => by
    rw [nkD] at h
    have eu : _ = Value.ref a := r
    subst eu
    cases e2 : nkDs ds with
    | none => rw [e2] at h; cases h
    | some ks =>
      rw [e2] at h
      cases h
      obtain ⟨_, _, its, rv, ob, q1, q2, m, q3⟩ := I.hok a _ h1
      exact .tup q1 q2 q3 (reps_nk I rr e2 rv)
  | _, _, _, _, .ktup (a := a) (vs := vs) (ds := ds) h1 rr, h, r => by
    rw [nkD] at h
    have eu : _ = Value.ref a := r
    subst eu
    cases e2 : nkDs ds with
    | none => rw [e2] at h; cases h
    | some ks =>
      rw [e2] at h
      cases h
      obtain ⟨o, its, n, q1, q2, _, q3, _, rv⟩ := h1
      exact .tup (I.kIn a o q1) q2 q3 (reps_nk I rr e2 rv)
  | _, _, _, _, .lst _ _ _, h, _ => by rw [nkD] at h; cases h; all_goals exact nofun
  | _, _, _, _, .scr _ _, h, _ => by rw [nkD] at h; cases h; all_goals exact nofun
  | _, _, _, _, .kscr _, h, _ => by rw [nkD] at h; cases h; all_goals exact nofun
  | _, _, _, _, .obj _ _ _ _ _, h, _ => by rw [nkD] at h; cases h; all_goals exact nofun
  | _, _, _, _, .ob _ _ _ _ _, h, _ => by rw [nkD] at h; cases h; all_goals exact nofun
  | _, _, _, _, .dct _ _ _ _ _, h, _ => by rw [nkD] at h; cases h; all_goals exact nofun
  | _, _, _, _, .dk _ _ _ _, h, _ => by rw [nkD] at h; cases h; all_goals exact nofun
  | _, _, _, _, .dkl _ _ _ _, h, _ => by rw [nkD] at h; cases h; all_goals exact nofun
  | _, _, _, _, .lol _ _ _, h, _ => by rw [nkD] at h; cases h; all_goals exact nofun
  | _, _, _, _, .pin _ _ _, h, _ => by rw [nkD] at h; cases h; all_goals exact nofun
  | _, _, _, _, .fn _, h, _ => by rw [nkD] at h; cases h; all_goals exact nofun
  | _, _, _, _, .xc _, h, _ => by rw [nkD] at h; cases h; all_goals exact nofun
theorem reps_nk (I : L2.Inv X pins σ H s) : ∀ {vs : List V} {ds : List D} {ks : List NestedKey} {us : List Value}, RepAll X.K H av vs ds → nkDs ds = some ks → Vals vs us → NestedAll s.heap ks us
  | _, _, _, _, .nil, h, r => by
    rw [nkDs] at h
    cases h
    cases r
    exact .nil
  | _, _, _, _, .cons (d := d) (ds := ds) r1 r2, h, r => by
    rw [nkDs] at h
    cases e : nkD d with
    | none => rw [e] at h; cases h
    | some k =>
      rw [e] at h
      cases e2 : nkDs ds with
      | none => rw [e2] at h; cases h
      | some ks =>
        rw [e2] at h
        cases h
        cases r with
        | cons ra rb => exact .cons (rep_nk I r1 e ra) (reps_nk I r2 e2 rb)
end
end
def dGet : List (D × D) → NestedKey → Option D
  | [], _ => none
  | p :: r, k => if nkD p.1 = some k then some p.2 else dGet r k
def dSet : List (D × D) → NestedKey → D → List (D × D)
  | [], _, _ => []
  | p :: r, k, d => (if nkD p.1 = some k then (p.1, d) else p) :: dSet r k d
def dPut (kvs : List (D × D)) (k : D) (nk : NestedKey) (d : D) : List (D × D) := if (dGet kvs nk).isSome = true then dSet kvs nk d else kvs ++ [(k, d)]
section
variable {K : PySem.W.Frag} {H : Hp} {av : Addr → Prop} {nk : NestedKey}
theorem atKey_cons {e : DEnt} {es : List DEnt} : atKey (e :: es) nk = if e.1 = nk then some e.2 else atKey es nk := by
  unfold atKey
  by_cases h : e.1 = nk
  · simp [h]
  · simp [h]
theorem dGet_at : ∀ {es : List DEnt} {vs : List V} {kvs : List (D × D)}, es.map (fun x => some x.1) = kvs.map (fun p => nkD p.1) → Vals vs (es.map (·.2.2)) → RepAll K H av vs (kvs.map (·.2)) →
    (dGet kvs nk = none → atKey es nk = none) ∧ ∀ d, dGet kvs nk = some d → ∃ p v, atKey es nk = some p ∧ RelV v p.2 ∧ Rep K H av v d
  | [], _, [], _, _, _ => ⟨fun _ => rfl, fun d h => by cases h⟩
  | [], _, _ :: _, h, _, _ => by cases h
  | _ :: _, _, [], h, _, _ => by cases h
  | e :: es, [], p :: kvs, _, r, _ => by cases r
  | e :: es, v :: vs, p :: kvs, h, r, q => by
    simp only [List.map_cons, List.cons.injEq] at h
    rw [List.map_cons] at r q
    cases r with
    | cons ra rb =>
      cases q with
      | cons qa qb =>
        obtain ⟨i1, i2⟩ := dGet_at h.2 rb qb
        rw [atKey_cons]
        unfold dGet
        rw [← h.1]
        by_cases he : e.1 = nk
        · rw [if_pos (by rw [he]), if_pos he]
          exact ⟨fun h => (by cases h), fun d hd => ⟨e.2, v, rfl, ra, by cases hd; exact qa⟩⟩
        · rw [if_neg (fun q => he (Option.some.inj q)), if_neg he]
          exact ⟨i1, i2⟩
theorem dSet_ok {val : Value} {v : V} {d : D} (rv : RelV v val) (rd : Rep K H av v d) : ∀ {es : List DEnt} {vs : List V} {kvs : List (D × D)}, es.map (fun x => some x.1) = kvs.map (fun p => nkD p.1) → Vals vs (es.map (·.2.2)) → RepAll K H av (es.map fun x => .ref x.2.1) (kvs.map (·.1)) → RepAll K H av vs (kvs.map (·.2)) →
    ∃ vs', Vals vs' ((es.map (putAt nk val)).map (·.2.2)) ∧ (es.map (putAt nk val)).map (fun x => some x.1) = (dSet kvs nk d).map (fun p => nkD p.1) ∧ RepAll K H av ((es.map (putAt nk val)).map fun x => .ref x.2.1) ((dSet kvs nk d).map (·.1)) ∧ RepAll K H av vs' ((dSet kvs nk d).map (·.2))
  | [], vs, [], _, r, _, q => by
    cases r
    exact ⟨[], .nil, rfl, .nil, .nil⟩
  | [], _, _ :: _, h, _, _, _ => by cases h
  | _ :: _, _, [], h, _, _, _ => by cases h
  | e :: es, [], p :: kvs, _, r, _, _ => by cases r
  | e :: es, u :: vs, p :: kvs, h, r, q1, q2 => by
    simp only [List.map_cons, List.cons.injEq] at h
    rw [List.map_cons] at r q2
    rw [List.map_cons, List.map_cons] at q1
    cases r with
    | cons ra rb =>
      cases q1 with
      | cons qa qb =>
        cases q2 with
        | cons qc qd =>
          obtain ⟨vs', i1, i2, i3, i4⟩ := dSet_ok rv rd h.2 rb qb qd
          unfold dSet
          by_cases he : e.1 = nk
          · have hp : nkD p.1 = some nk := by rw [← h.1, he]
            have hq : putAt nk val e = (e.1, e.2.1, val) := by unfold putAt; rw [if_pos he]
            rw [if_pos hp]
            simp only [List.map_cons, hq]
            exact ⟨v :: vs', .cons rv i1, by rw [i2, h.1], .cons qa i3, .cons rd i4⟩
          · have hp : ¬ nkD p.1 = some nk := fun q => he (by rw [← h.1] at q; exact Option.some.inj q)
            have hq : putAt nk val e = e := by unfold putAt; rw [if_neg he]
            rw [if_neg hp]
            simp only [List.map_cons, hq]
            exact ⟨u :: vs', .cons ra i1, by rw [i2, h.1], .cons qa i3, .cons qc i4⟩
theorem keys_put {es : List DEnt} {val : Value} : (es.map (putAt nk val)).map (·.1) = es.map (·.1) := by
  rw [List.map_map]
  refine List.map_congr_left fun x _ => ?_
  show (putAt nk val x).1 = x.1
  unfold putAt
  split <;> rfl
theorem RepAll.snoc {vs : List V} {ds : List D} {v : V} {d : D} (r : RepAll K H av vs ds) (q : Rep K H av v d) : RepAll K H av (vs ++ [v]) (ds ++ [d]) := r.append (.cons q .nil)
theorem DFm.put {a ka : Addr} {es : List DEnt} {vs : List V} {kvs : List (D × D)} {val : Value} {v : V} {k d : D} (f : DFm a es vs kvs) (r1 : RepAll K H av (es.map fun x => .ref x.2.1) (kvs.map (·.1))) (r2 : RepAll K H av vs (kvs.map (·.2)))
    (hk : nkD k = some nk) (hd : nk.depth ≤ 8) (rk : Rep K H av (.ref ka) k) (rv : RelV v val) (rd : Rep K H av v d) :
    ∃ vs', DFm a (storedH es nk ka val) vs' (dPut kvs k nk d) ∧ RepAll K H av ((storedH es nk ka val).map fun x => .ref x.2.1) ((dPut kvs k nk d).map (·.1)) ∧ RepAll K H av vs' ((dPut kvs k nk d).map (·.2)) := by
  obtain ⟨i1, i2⟩ := dGet_at (nk := nk) f.keys f.vals r2
  unfold dPut
  cases hg : dGet kvs nk with
  | none =>
    have ha := i1 hg
    rw [storedH_new ha, if_neg (by simp)]
    refine ⟨vs ++ [v], ⟨f.sys, ?_, ?_, ?_, ?_⟩, ?_, ?_⟩
    · rw [List.map_append]
      refine List.nodup_append.mpr ⟨f.nd, by simp, fun x hx y hy e => ?_⟩
      have ey : y = nk := List.mem_singleton.mp hy
      subst ey
      subst e
      obtain ⟨z, hz, ez⟩ := List.mem_map.mp hx
      have : atKey es x ≠ none := by
        intro q
        unfold atKey at q
        rw [Option.map_eq_none_iff, List.find?_eq_none] at q
        exact q z hz (by simp [ez])
      exact this ha
    · rw [List.map_append]
      exact f.vals.append (.cons rv .nil)
    · rw [List.map_append, List.map_append, f.keys]
      simp [hk]
    · intro x hx
      rcases List.mem_append.mp hx with hx | hx
      · exact f.dep x hx
      · rw [List.mem_singleton.mp hx]; exact hd
    · rw [List.map_append, List.map_append]
      exact r1.snoc rk
    · rw [List.map_append]
      exact r2.snoc rd
  | some d0 =>
    obtain ⟨p, u, ha, _, _⟩ := i2 d0 hg
    rw [storedH_old ha, if_pos (by simp)]
    obtain ⟨vs', j1, j2, j3, j4⟩ := dSet_ok (nk := nk) rv rd f.keys f.vals r1 r2
    refine ⟨vs', ⟨f.sys, by rw [keys_put]; exact f.nd, j1, j2, fun x hx => ?_⟩, j3, j4⟩
    obtain ⟨y, hy, rfl⟩ := List.mem_map.mp hx
    have e : (putAt nk val y).1 = y.1 := by unfold putAt; split <;> rfl
    rw [e]
    exact f.dep y hy
end
end Lz
namespace Lz
open PySem PySem.Spec PyProof.Rows L2
theorem SepW.dct {K : PySem.W.Frag} {H : Hp} {L : List VT} {ws : List Addr} {v : V} {o : Bool} {kvs : List (D × D)} (s : SepW K H L ws) (hm0 : (v, (o, D.dct kvs)) ∈ L) :
    ∃ a es vs, v = .ref a ∧ H a = some (.ext (dPhi a es)) ∧ DFm a es vs kvs ∧ RepAll K H (· ∈ ws) (es.map fun x => .ref x.2.1) (kvs.map (·.1)) ∧ RepAll K H (· ∈ ws) vs (kvs.map (·.2)) := by
  obtain ⟨w, q, _⟩ := s.own.get hm0
  cases q with
  | pure r =>
    cases r with
    | dct n h f r1 r2 => exact ⟨_, _, _, rfl, h, f, r1, r2⟩
  | dct h f r1 r2 => exact ⟨_, _, _, rfl, h, f, r1, r2⟩
/-- the key that a tuple is -/
def nkOf : D → Option NestedKey
  | .tup xs => (nkD (.tup xs)).bind fun k => if k.depth ≤ 8 then some k else none
  | _ => none
section
variable {X : Cx}
def opSetT (x z y : XV) (ρ : Env) : R Fl := match x, view z ρ with
  | .b j, some k => (match nkOf k with
    | some nk => (frz y ρ).bind fun d ρ => (match gt ρ j with
      | some (true, .dct kvs) => if kvs.length < lim then .ok .nx (pt ρ j (some (true, .dct (dPut kvs k nk d)))) else .bad
      | _ => .bad)
    | none => .bad)
  | _, _ => .bad
def xSetT (fe fo fi : Env → R XV) (ρ : Env) : R Fl := (fe ρ).bind fun y ρ => (fo ρ).bind fun x ρ => (fi ρ).bind fun z ρ => opSetT x z y ρ
end
section
variable {X : Cx} {W : WX} {pin : List Nat} {e o i : Expr} {fe fo fi : Env → R XV} {pos p2 : Pos}
def opDisp (x y : XV) (ρ : Env) : R XV := match view x ρ with
  | some k => (match nkOf k with
    | some _ => (frz y ρ).bind fun d ρ => .ok (.v true (.dct [(k, d)])) ρ
    | none => .bad)
  | none => .bad
def sDisp (fk fv : Env → R XV) (ρ : Env) : R XV := (fk ρ).bind fun x ρ => (fv ρ).bind fun y ρ => opDisp x y ρ
end
section
variable {X : Cx} {W : WX} {k v : Expr} {fk fv : Env → R XV} {pos : Pos}
end
section
variable {X : Cx} {W : WX} {pin : List Nat}
end
section
variable {ρ : Env} {i : Nat}
def dspK2 (k d : D) (ρ : Env) : R XV := .ok (.v true (.dct [(k, d)])) ρ
@[simp] theorem dspK2_ev {k d : D} : dspK2 k d ρ = .ok (.v true (.dct [(k, d)])) ρ := rfl
def dspK1 (y : XV) (ρ : Env) (k : D) : Option NestedKey → R XV
  | some _ => (frz y ρ).bind (dspK2 k)
  | none => .bad
@[simp] theorem dspK1_s {y : XV} {k : D} {nk : NestedKey} : dspK1 y ρ k (some nk) = (frz y ρ).bind (dspK2 k) := rfl
def dspK (y : XV) (ρ : Env) : Option D → R XV
  | some k => dspK1 y ρ k (nkOf k)
  | none => .bad
@[simp] theorem dspK_s {y : XV} {k : D} : dspK y ρ (some k) = dspK1 y ρ k (nkOf k) := rfl
@[simp] theorem opDisp_ev {x y : XV} : opDisp x y ρ = dspK y ρ (view x ρ) := by
  unfold opDisp dspK
  cases view x ρ with
  | none => rfl
  | some k =>
    dsimp only
    unfold dspK1
    cases nkOf k <;> rfl
def dspB (fv : Env → R XV) (x : XV) (ρ : Env) : R XV := (fv ρ).bind (opDisp x)
@[simp] theorem dspB_ev {fv : Env → R XV} {x : XV} : dspB fv x ρ = (fv ρ).bind (opDisp x) := rfl
@[simp] theorem sDisp_ev {fk fv : Env → R XV} : sDisp fk fv ρ = (fk ρ).bind (dspB fv) := rfl
def stT3 (i : Nat) (k : D) (nk : NestedKey) (d : D) (ρ : Env) : Option T → R Fl
  | some (true, .dct kvs) => if kvs.length < lim then .ok .nx (pt ρ i (some (true, .dct (dPut kvs k nk d)))) else .bad
  | _ => .bad
@[simp] theorem stT3_s {k d : D} {nk : NestedKey} {kvs : List (D × D)} : stT3 i k nk d ρ (some (true, .dct kvs)) = if kvs.length < lim then .ok .nx (pt ρ i (some (true, .dct (dPut kvs k nk d)))) else .bad := rfl
def stT2 (i : Nat) (k : D) (nk : NestedKey) (d : D) (ρ : Env) : R Fl := stT3 i k nk d ρ (gt ρ i)
@[simp] theorem stT2_ev {k d : D} {nk : NestedKey} : stT2 i k nk d ρ = stT3 i k nk d ρ (gt ρ i) := rfl
def stT1 (i : Nat) (y : XV) (ρ : Env) (k : D) : Option NestedKey → R Fl
  | some nk => (frz y ρ).bind (stT2 i k nk)
  | none => .bad
@[simp] theorem stT1_s {y : XV} {k : D} {nk : NestedKey} : stT1 i y ρ k (some nk) = (frz y ρ).bind (stT2 i k nk) := rfl
def stT0 (i : Nat) (y : XV) (ρ : Env) : Option D → R Fl
  | some k => stT1 i y ρ k (nkOf k)
  | none => .bad
@[simp] theorem stT0_s {y : XV} {k : D} : stT0 i y ρ (some k) = stT1 i y ρ k (nkOf k) := rfl
def stTc (x y z : XV) (ρ : Env) : R Fl := opSetT x z y ρ
@[simp] theorem stTc_b {z y : XV} : stTc (.b i) y z ρ = stT0 i y ρ (view z ρ) := by
  unfold stTc opSetT stT0
  cases view z ρ with
  | none => rfl
  | some k =>
    dsimp only
    unfold stT1
    cases nkOf k with
    | none => rfl
    | some nk =>
      dsimp only
      congr 1
      try (funext d ρ
           unfold stT2 stT3
           cases gt ρ i with
           | none => rfl
           | some t => obtain ⟨o, d⟩ := t; cases o <;> cases d <;> rfl)
def stTb (fi : Env → R XV) (y x : XV) (ρ : Env) : R Fl := (fi ρ).bind (stTc x y)
@[simp] theorem stTb_ev {fi : Env → R XV} {y x : XV} : stTb fi y x ρ = (fi ρ).bind (stTc x y) := rfl
def stTa (fo fi : Env → R XV) (y : XV) (ρ : Env) : R Fl := (fo ρ).bind (stTb fi y)
@[simp] theorem stTa_ev {fo fi : Env → R XV} {y : XV} : stTa fo fi y ρ = (fo ρ).bind (stTb fi y) := rfl
@[simp] theorem xSetT_ev {fe fo fi : Env → R XV} : xSetT fe fo fi ρ = (fe ρ).bind (stTa fo fi) := rfl
end
section
variable {X : Cx} {W : WX} {pin : List Nat} {e o i : Expr} {fe fo fi : Env → R XV} {pos p2 : Pos}
end
end Lz
namespace Lz
open PySem PySem.Spec PyProof.Rows L2
section
variable {X : Cx}
variable {xs : List Str} {pin : List Nat} {i : Nat} {a : Addr} {oe : Obj} {cls : Value} {d : Option Addr} {pn : List (Addr × Obj)} {e : Expr} {B : Str → Bool} {p p2 p3 p4 p5 : Pos} {z : Str} {j : Nat}
end
end Lz
namespace Lz
open PySem PySem.Spec PyProof.Rows L2
theorem SepW.dk {K : PySem.W.Frag} {H : Hp} {L : List VT} {ws : List Addr} {v : V} {o : Bool} {kvs : List (Key × D)} (s : SepW K H L ws) (hm0 : (v, (o, D.dk kvs)) ∈ L) :
    ∃ (a : Addr) (es : List (Key × V)), v = .ref a ∧ Rd H a (.dK es) ∧ es.map (·.1) = kvs.map (·.1) ∧ RepAll K H (· ∈ ws) (es.map (·.2)) (kvs.map (·.2)) := by
  obtain ⟨w, q, _⟩ := s.own.get hm0
  cases q with
  | pure r =>
    cases r with
    | dk n h f r => exact ⟨_, _, rfl, h, f, r⟩
  | dk h f r => exact ⟨_, _, rfl, .inl h, f, r⟩
/-- the key that an int, a text is -/
def kdOf : D → Option Key
  | .int i => some (.inl i)
  | .str s => some (.inr s)
  | _ => none
theorem SepW.key {K : PySem.W.Frag} {H : Hp} {L : List VT} {ws : List Addr} {v : V} {o : Bool} {d : D} {k : Key} (s : SepW K H L ws) (hm0 : (v, (o, d)) ∈ L) (h : kdOf d = some k) : v = kV k := by
  cases d <;> first | (cases h; done) | skip
  · cases h
    exact s.int hm0
  · cases h
    exact s.str hm0
def kGet : List (Key × D) → Key → Option D
  | [], _ => none
  | p :: r, k => if p.1 = k then some p.2 else kGet r k
def kSet : List (Key × D) → Key → D → List (Key × D)
  | [], _, _ => []
  | p :: r, k, d => (if p.1 = k then (p.1, d) else p) :: kSet r k d
def kPut (kvs : List (Key × D)) (k : Key) (d : D) : List (Key × D) := if (kGet kvs k).isSome = true then kSet kvs k d else kvs ++ [(k, d)]
section
variable {K : PySem.W.Frag} {H : Hp} {av : Addr → Prop} {k : Key}
end
def opInK (k d : D) : Option T := match d with
  | .dk kvs => (kdOf k).map fun nk => (false, .bl (kGet kvs nk).isSome)
  | _ => none
def opNotInK (k d : D) : Option T := match d with
  | .dk kvs => (kdOf k).map fun nk => (false, .bl (!(kGet kvs nk).isSome))
  | _ => none
def opIxK (d k : D) : Option T := match d with
  | .dk kvs => (kdOf k).bind fun nk => (kGet kvs nk).map fun x => (false, x)
  | _ => none
section
variable {X : Cx}
end
section
variable {K : PySem.W.Frag} {H : Hp} {av : Addr → Prop} {k : Key} {v : V} {d : D}
end
section
variable {X : Cx}
def opSetK (x z y : XV) (ρ : Env) : R Fl := match x, view z ρ with
  | .b j, some k => (match kdOf k with
    | some nk => (frz y ρ).bind fun d ρ => (match gt ρ j with
      | some (true, .dk kvs) => if kvs.length < lim then .ok .nx (pt ρ j (some (true, .dk (kPut kvs nk d)))) else .bad
      | _ => .bad)
    | none => .bad)
  | _, _ => .bad
def xSetK (fe fo fi : Env → R XV) (ρ : Env) : R Fl := (fe ρ).bind fun y ρ => (fo ρ).bind fun x ρ => (fi ρ).bind fun z ρ => opSetK x z y ρ
end
section
variable {X : Cx} {W : WX} {pin : List Nat} {e o i : Expr} {fe fo fi : Env → R XV} {pos p2 : Pos}
def sDk0 (ρ : Env) : R XV := .ok (.v true (.dk [])) ρ
end
end Lz
namespace Lz
open PySem PySem.Spec PyProof.Rows L2
section
variable {K : PySem.W.Frag} {H : Hp} {av : Addr → Prop} {a : Addr} {es : List (Key × V)} {od : Obj}
theorem lk_ne {b : Addr} {o : HO} (h : H a = some (.dK es)) (hb : H b = some o) (n : ∀ e, o ≠ .dK e) : upd H a (.frz od (.dK es)) b = some o := by
  by_cases e : b = a
  · subst e; rw [h] at hb; cases hb; exact absurd rfl (n es)
  · rw [upd_ne e]; exact hb
theorem lk_rd {b : Addr} {u : HO} (h : H a = some (.dK es)) (hb : Rd H b u) : Rd (upd H a (.frz od (.dK es))) b u := by
  by_cases e : b = a
  · subst e
    rcases hb with hb | ⟨o, hb⟩
    · rw [h] at hb; cases hb; exact .inr ⟨od, upd_same⟩
    · rw [h] at hb; cases hb
  · rcases hb with hb | ⟨o, hb⟩
    · exact .inl (by rw [upd_ne e]; exact hb)
    · exact .inr ⟨o, by rw [upd_ne e]; exact hb⟩
mutual
theorem Rep.lk (h : H a = some (.dK es)) : ∀ {v : V} {d : D}, Rep K H av v d → Rep K (upd H a (.frz od (.dK es))) av v d
  | _, _, .non => .non
  | _, _, .bl b => .bl b
  | _, _, .int i => .int i
  | _, _, .str x => .str x
  | _, _, .tup n q e r => .tup n (lk_ne h q nofun) e (RepAll.lk h r)
  | _, _, .ktup q r => .ktup q (RepAll.lk h r)
  | _, _, .lst n q r => .lst n (lk_ne h q nofun) (RepAll.lk h r)
  | _, _, .scr n q => .scr n (lk_ne h q nofun)
  | _, _, .kscr q => .kscr q
  | _, _, .obj n q e m r => .obj n (lk_ne h q nofun) e m (RepAll.lk h r)
  | _, _, .ob n q e m r => .ob n (lk_ne h q nofun) e m (RepAll.lk h r)
  | _, _, .dct n q f r1 r2 => .dct n (lk_ne h q nofun) f (RepAll.lk h r1) (RepAll.lk h r2)
  | _, _, .dk n q f r => .dk n (lk_rd h q) f (RepAll.lk h r)
  | _, _, .dkl n q f r => .dkl n (lk_ne h q nofun) f (RepAll.lk h r)
  | _, _, .lol n q r => .lol n (lk_ne h q nofun) (RepAll.lk h r)
  | _, _, .pin n q z => .pin n (lk_ne h q z) z
  | _, _, .fn n => .fn n
  | _, _, .xc n => .xc n
theorem RepAll.lk (h : H a = some (.dK es)) : ∀ {vs : List V} {ds : List D}, RepAll K H av vs ds → RepAll K (upd H a (.frz od (.dK es))) av vs ds
  | _, _, .nil => .nil
  | _, _, .cons q r => .cons (Rep.lk h q) (RepAll.lk h r)
end
theorem OwnFs.lk (h : H a = some (.dK es)) : ∀ {fs : List (Str × V)} {gs : List (Str × Bool × D)} {w : List Addr}, OwnFs K H av fs gs w → OwnFs K (upd H a (.frz od (.dK es))) av fs gs w
  | _, _, _, .nil => .nil
  | _, _, _, .pure r t => .pure (r.lk h) (OwnFs.lk h t)
  | _, _, _, .lst q r t => .lst (lk_ne h q nofun) (r.lk h) (OwnFs.lk h t)
theorem OwnRs.lk (h : H a = some (.dK es)) : ∀ {us : List V} {rs : List D} {w : List Addr}, OwnRs K H av us rs w → OwnRs K (upd H a (.frz od (.dK es))) av us rs w
  | _, _, _, .nil => .nil
  | _, _, _, .cons q r t => .cons (lk_ne h q nofun) (r.lk h) (OwnRs.lk h t)
theorem Own.lk (h : H a = some (.dK es)) {v : V} {t : T} {w : List Addr} (hw : a ∉ w) (q : Own K H av v t w) : Own K (upd H a (.frz od (.dK es))) av v t w := by
  cases q with
  | pure r => exact .pure (r.lk h)
  | lst q r => exact .lst (lk_ne h q nofun) (r.lk h)
  | obj q e m r => exact .obj (lk_ne h q nofun) e m (r.lk h)
  | ob q e r => exact .ob (lk_ne h q nofun) e (r.lk h)
  | dct q f r1 r2 => exact .dct (lk_ne h q nofun) f (r1.lk h) (r2.lk h)
  | dk q f r => exact .dk (by rw [upd_ne (fun e => hw (by rw [← e]; simp))]; exact q) f (r.lk h)
  | lol q r => exact .lol (lk_ne h q nofun) (r.lk h)
  | pin q z => exact .pin (lk_ne h q z) z
theorem OwnAll.lk (h : H a = some (.dK es)) : ∀ {L : List VT} {ws : List Addr}, a ∉ ws → OwnAll K H av L ws → OwnAll K (upd H a (.frz od (.dK es))) av L ws
  | _, _, _, .nil => .nil
  | _, _, hw, .cons q t => .cons (q.lk h fun m => hw (List.mem_append_left _ m)) (OwnAll.lk h (fun m => hw (List.mem_append_right _ m)) t)
theorem SepW.lk {L : List VT} {ws : List Addr} (h : H a = some (.dK es)) (hw : a ∉ ws) (s : SepW K H L ws) : SepW K (upd H a (.frz od (.dK es))) L ws := ⟨s.own.lk h hw, s.nd⟩
end
section
variable {X : Cx} {W : WX} {tg e : Expr} {td : TE}
end
/-- the data that a key is -/
def kD : Key → D
  | .inl i => .int i
  | .inr z => .str z
end Lz
namespace Lz
open PySem PySem.Spec PyProof.Rows L2 RZ
/-- the new pair at a turn -/
def NewPair (H H' : Hp) (v x y : V) : Prop := ∃ (T : Addr) (o : Obj), v = .ref T ∧ H T = none ∧ o.dict = none ∧ H' = upd H T (.frz o (.tup [x, y]))
theorem NewPair.of {X : Cx} {pins : List (Addr × Obj)} {σ : Sg} {H : Hp} {s : Shared} {x y : V} {u u2 : Value} {ch : List Addr} {h'' : Heap} {t' : Nat} (I : L2.Inv X pins σ H s) (ru : RelV x u) (ru2 : RelV y u2)
    (k : ∀ b o, b ∉ ch → s.heap.get? b = some o → h''.get? b = some o) (hf : ∀ b ∈ ch, FpOk X pins H b) (hT : h''.get? s.heap.objs.size = some { cls := .type "tuple", data := .seq #[u, u2] }) :
    ∃ H', L2.Inv X pins σ H' { s with heap := h'', toks := t' } ∧ NewPair H H' (.ref s.heap.objs.size) x y ∧ ∀ b, b < s.heap.objs.size → H' b = H b :=
  ⟨_, I.turnedNew (ch := ch) (T := s.heap.objs.size) (ob := .frz { cls := .type "tuple", data := .seq #[u, u2] } (.tup [x, y])) k hf (Nat.le_refl _)
    ⟨hT, by show 2 ≤ sizeLine; decide, [u, u2], .cons ru (.cons ru2 .nil), ⟨_, hT, rfl, _, rfl⟩⟩, ⟨_, _, rfl, I.hok.fresh (Nat.le_refl _), rfl, rfl⟩, fun b hb => upd_ne (Nat.ne_of_lt hb)⟩
section
variable {P : Program} {w : World} {K : PySem.W.Frag} {elts : List Expr} {kk : Nat} {tpos : Pos} {a b z TI TO i1 i2 : Addr}
end
section
variable {X : Cx} {e e2 : Expr} {ta : TA} {p pos tpos : Pos} {elts : List Expr} {kk : Nat}
end
def zipD : List D → List D → List D
  | a :: as, b :: bs => .tup [a, b] :: zipD as bs
  | _, _ => []
def enumD (n : Nat) : List D → List D
  | [] => []
  | d :: ds => .tup [.int (n : Int), d] :: enumD (n + 1) ds
def lstD : D → Option (List D)
  | .lst xs => some xs
  | .scr ns => some (ns.map .int)
  | _ => none
def zipL (ρ : Env) : Option (List D) → Option (List D) → R Its
  | some as, some bs => .ok ⟨zipD as bs, none⟩ ρ
  | _, _ => .bad
def zipK (ds : List D) (ρ : Env) : R Its := match ds with
  | [.tup as, .tup bs] => .ok ⟨zipD as bs, none⟩ ρ
  | [d, e] => zipL ρ (lstD d) (lstD e)
  | _ => .bad
def zipX (xs : List XV) (ρ : Env) : R Its := (frzs xs ρ).bind zipK
def sZip (f : Env → R (List XV)) (ρ : Env) : R Its := (f ρ).bind zipX
def enumL (ρ : Env) : Option (List D) → R Its
  | some as => .ok ⟨enumD 0 as, none⟩ ρ
  | _ => .bad
def enumK (ds : List D) (ρ : Env) : R Its := match ds with
  | [d] => enumL ρ (lstD d)
  | _ => .bad
def enumX (xs : List XV) (ρ : Env) : R Its := (frzs xs ρ).bind enumK
def sEnum (f : Env → R (List XV)) (ρ : Env) : R Its := (f ρ).bind enumX
section
variable {X : Cx} {W : WX} {elts : List Expr} {kk : Nat} {tpos : Pos}
end
section
variable {ρ : Env}
@[simp] theorem sZip_ev {f : Env → R (List XV)} : sZip f ρ = (f ρ).bind zipX := rfl
@[simp] theorem zipX_ev {xs : List XV} : zipX xs ρ = (frzs xs ρ).bind zipK := rfl
@[simp] theorem zipK_tt {as bs : List D} : zipK [.tup as, .tup bs] ρ = .ok ⟨zipD as bs, none⟩ ρ := rfl
@[simp] theorem zipK_ll {as bs : List D} : zipK [.lst as, .lst bs] ρ = .ok ⟨zipD as bs, none⟩ ρ := rfl
@[simp] theorem zipK_ls {as : List D} {ns : List Int} : zipK [.lst as, .scr ns] ρ = .ok ⟨zipD as (ns.map .int), none⟩ ρ := rfl
@[simp] theorem zipK_sl {as : List D} {ns : List Int} : zipK [.scr ns, .lst as] ρ = .ok ⟨zipD (ns.map .int) as, none⟩ ρ := rfl
@[simp] theorem sEnum_ev {f : Env → R (List XV)} : sEnum f ρ = (f ρ).bind enumX := rfl
@[simp] theorem enumX_ev {xs : List XV} : enumX xs ρ = (frzs xs ρ).bind enumK := rfl
@[simp] theorem enumK_l {as : List D} : enumK [.lst as] ρ = .ok ⟨enumD 0 as, none⟩ ρ := rfl
end
end Lz
namespace Lz
open PySem PySem.Spec PyProof.Rows L2
section
variable {X : Cx} {W : WX} {pos : Pos}
def sDct0 (ρ : Env) : R XV := .ok (.v true (.dct [])) ρ
end
def cfLenD : List D → Option T
  | [.dct kvs] => if kvs.length ≤ lim then some (false, .int kvs.length) else none
  | [.dk kvs] => some (false, .int kvs.length)
  | _ => none
section
variable {X : Cx}
end
@[simp] theorem cfLenD_dct {kvs : List (D × D)} : cfLenD [.dct kvs] = if kvs.length ≤ lim then some (false, .int kvs.length) else none := rfl
@[simp] theorem cfLenD_dk {kvs : List (Key × D)} : cfLenD [.dk kvs] = some (false, .int kvs.length) := rfl
def isDct (x : XV) (ρ : Env) : Bool := match x with
  | .b i => (match gt ρ i with
    | some (true, .dct _) => true
    | _ => false)
  | _ => false
def sdT3 (i : Nat) (k : D) (nk : NestedKey) (d : D) (ρ : Env) : Option T → R XV
  | some (true, .dct kvs) => if kvs.length < lim then (match dGet kvs nk with
    | some e => .ok (.v false e) ρ
    | none => .ok (.v false d) (pt ρ i (some (true, .dct (dPut kvs k nk d))))) else .bad
  | _ => .bad
def sdT2 (i : Nat) (k : D) (nk : NestedKey) (d : D) (ρ : Env) : R XV := sdT3 i k nk d ρ (gt ρ i)
def sdT1 (i : Nat) (y : XV) (ρ : Env) (k : D) : Option NestedKey → R XV
  | some nk => (frz y ρ).bind (sdT2 i k nk)
  | none => .bad
def sdT0 (i : Nat) (y : XV) (ρ : Env) : Option D → R XV
  | some k => sdT1 i y ρ k (nkOf k)
  | none => .bad
def sdTc (x z y : XV) (ρ : Env) : R XV := match x with
  | .b i => sdT0 i y ρ (view z ρ)
  | _ => .bad
def sdTb (fd : Env → R XV) (x z : XV) (ρ : Env) : R XV := (fd ρ).bind fun y ρ => sdTc x z y ρ
def sdTa (fk fd : Env → R XV) (x : XV) (ρ : Env) : R XV := if isDct x ρ = true then (fk ρ).bind (sdTb fd x) else .bad
def sSetd (fo fk fd : Env → R XV) (ρ : Env) : R XV := (fo ρ).bind (sdTa fk fd)
section
variable {X : Cx} {W : WX} {o e f : Expr} {fo fk fd : Env → R XV} {apos cpos : Pos}
end
section
variable {ρ : Env} {i : Nat}
@[simp] theorem sDct0_ev : sDct0 ρ = .ok (.v true (.dct [])) ρ := rfl
@[simp] theorem sSetd_ev {fo fk fd : Env → R XV} : sSetd fo fk fd ρ = (fo ρ).bind (sdTa fk fd) := rfl
@[simp] theorem sdTa_ev {fk fd : Env → R XV} {x : XV} : sdTa fk fd x ρ = if isDct x ρ = true then (fk ρ).bind (sdTb fd x) else .bad := rfl
@[simp] theorem sdTb_ev {fd : Env → R XV} {x z : XV} : sdTb fd x z ρ = (fd ρ).bind (sdTc x z) := rfl
@[simp] theorem sdTc_ev {z y : XV} : sdTc (.b i) z y ρ = sdT0 i y ρ (view z ρ) := rfl
@[simp] theorem sdT0_s {y : XV} {k : D} : sdT0 i y ρ (some k) = sdT1 i y ρ k (nkOf k) := rfl
@[simp] theorem sdT1_s {y : XV} {k : D} {nk : NestedKey} : sdT1 i y ρ k (some nk) = (frz y ρ).bind (sdT2 i k nk) := rfl
@[simp] theorem sdT2_ev {k d : D} {nk : NestedKey} : sdT2 i k nk d ρ = sdT3 i k nk d ρ (gt ρ i) := rfl
def sdT4 (i : Nat) (k d : D) (nk : NestedKey) (kvs : List (D × D)) (ρ : Env) : Option D → R XV
  | some e => .ok (.v false e) ρ
  | none => .ok (.v false d) (pt ρ i (some (true, .dct (dPut kvs k nk d))))
@[simp] theorem sdT4_s {k d e : D} {nk : NestedKey} {kvs : List (D × D)} : sdT4 i k d nk kvs ρ (some e) = .ok (.v false e) ρ := rfl
@[simp] theorem sdT4_n {k d : D} {nk : NestedKey} {kvs : List (D × D)} : sdT4 i k d nk kvs ρ none = .ok (.v false d) (pt ρ i (some (true, .dct (dPut kvs k nk d)))) := rfl
@[simp] theorem sdT3_s {k d : D} {nk : NestedKey} {kvs : List (D × D)} : sdT3 i k nk d ρ (some (true, .dct kvs)) = if kvs.length < lim then sdT4 i k d nk kvs ρ (dGet kvs nk) else .bad := by
  show (if kvs.length < lim then _ else _) = _
  by_cases hl : kvs.length < lim
  · rw [if_pos hl, if_pos hl]
    cases h : dGet kvs nk <;> simp [sdT4, h]
  · rw [if_neg hl, if_neg hl]
def isDctO : Option T → Bool
  | some (true, .dct _) => true
  | _ => false
@[simp] theorem isDctO_s {kvs : List (D × D)} : isDctO (some (true, .dct kvs)) = true := rfl
@[simp] theorem isDct_b : isDct (.b i) ρ = isDctO (gt ρ i) := by
  unfold isDct
  dsimp only
  cases gt ρ i with
  | none => rfl
  | some t => obtain ⟨o, d⟩ := t; cases o <;> cases d <;> rfl
end
end Lz
namespace Lz
open PySem PySem.Spec PyProof.Rows L2
def dsK2 (nk : Key) (d : D) (ρ : Env) : R XV := .ok (.v true (.dk [(nk, d)])) ρ
def dsK1 (y : XV) (ρ : Env) : Option Key → R XV
  | some nk => (frz y ρ).bind (dsK2 nk)
  | none => .bad
def dsK0 (y : XV) (ρ : Env) : Option D → R XV
  | some k => dsK1 y ρ (kdOf k)
  | none => .bad
def dsKc (x y : XV) (ρ : Env) : R XV := dsK0 y ρ (view x ρ)
def dsKb (fv : Env → R XV) (x : XV) (ρ : Env) : R XV := (fv ρ).bind (dsKc x)
def sDispK (fk fv : Env → R XV) (ρ : Env) : R XV := (fk ρ).bind (dsKb fv)
def gtK4 (d : D) (ρ : Env) : R XV := .ok (.v false d) ρ
def gtK3 (y : XV) (ρ : Env) : Option D → R XV
  | some e => .ok (.v false e) ρ
  | none => (frz y ρ).bind gtK4
def gtK2 (kvs : List (Key × D)) (y : XV) (ρ : Env) : Option Key → R XV
  | some nk => gtK3 y ρ (kGet kvs nk)
  | none => .bad
def gtK1 (kvs : List (Key × D)) (y : XV) (ρ : Env) : Option D → R XV
  | some k => gtK2 kvs y ρ (kdOf k)
  | none => .bad
def gtK0 (z y : XV) (ρ : Env) : Option D → R XV
  | some (.dk kvs) => gtK1 kvs y ρ (view z ρ)
  | _ => .bad
def gtKc (x z y : XV) (ρ : Env) : R XV := gtK0 z y ρ (view x ρ)
def gtKb (fd : Env → R XV) (x z : XV) (ρ : Env) : R XV := (fd ρ).bind (gtKc x z)
def isDk : Option D → Bool
  | some (.dk _) => true
  | _ => false
def gtKa (fk fd : Env → R XV) (x : XV) (ρ : Env) : R XV := if isDk (view x ρ) = true then (fk ρ).bind (gtKb fd x) else .bad
def sGetK (fo fk fd : Env → R XV) (ρ : Env) : R XV := (fo ρ).bind (gtKa fk fd)
def itKs (x : XV) (ρ : Env) : R Its := match x with
  | .v false (.dk kvs) => if kvs.length ≤ lim then .ok ⟨kvs.map fun p => kD p.1, none⟩ ρ else .bad
  | _ => .bad
def sItK (f : Env → R XV) (ρ : Env) : R Its := (f ρ).bind itKs
section
variable {X : Cx} {W : WX} {k v o e f tg : Expr} {fk fv fo fd : Env → R XV} {pos apos cpos : Pos}
end
section
variable {ρ : Env} {i : Nat}
@[simp] theorem sDispK_ev {fk fv : Env → R XV} : sDispK fk fv ρ = (fk ρ).bind (dsKb fv) := rfl
@[simp] theorem dsKb_ev {fv : Env → R XV} {x : XV} : dsKb fv x ρ = (fv ρ).bind (dsKc x) := rfl
@[simp] theorem dsKc_ev {x y : XV} : dsKc x y ρ = dsK0 y ρ (view x ρ) := rfl
@[simp] theorem dsK0_s {y : XV} {k : D} : dsK0 y ρ (some k) = dsK1 y ρ (kdOf k) := rfl
@[simp] theorem dsK1_s {y : XV} {nk : Key} : dsK1 y ρ (some nk) = (frz y ρ).bind (dsK2 nk) := rfl
@[simp] theorem dsK2_ev {nk : Key} {d : D} : dsK2 nk d ρ = .ok (.v true (.dk [(nk, d)])) ρ := rfl
@[simp] theorem kdOf_int {n : Int} : kdOf (.int n) = some (.inl n) := rfl
@[simp] theorem kdOf_str {z : Str} : kdOf (.str z) = some (.inr z) := rfl
@[simp] theorem sGetK_ev {fo fk fd : Env → R XV} : sGetK fo fk fd ρ = (fo ρ).bind (gtKa fk fd) := rfl
@[simp] theorem gtKa_ev {fk fd : Env → R XV} {x : XV} : gtKa fk fd x ρ = if isDk (view x ρ) = true then (fk ρ).bind (gtKb fd x) else .bad := rfl
@[simp] theorem isDk_s {kvs : List (Key × D)} : isDk (some (.dk kvs)) = true := rfl
@[simp] theorem gtKb_ev {fd : Env → R XV} {x z : XV} : gtKb fd x z ρ = (fd ρ).bind (gtKc x z) := rfl
@[simp] theorem gtKc_ev {x z y : XV} : gtKc x z y ρ = gtK0 z y ρ (view x ρ) := rfl
@[simp] theorem gtK0_s {z y : XV} {kvs : List (Key × D)} : gtK0 z y ρ (some (.dk kvs)) = gtK1 kvs y ρ (view z ρ) := rfl
@[simp] theorem gtK1_s {y : XV} {kvs : List (Key × D)} {k : D} : gtK1 kvs y ρ (some k) = gtK2 kvs y ρ (kdOf k) := rfl
@[simp] theorem gtK2_s {y : XV} {kvs : List (Key × D)} {k : Key} : gtK2 kvs y ρ (some k) = gtK3 y ρ (kGet kvs k) := rfl
@[simp] theorem gtK3_s {y : XV} {d : D} : gtK3 y ρ (some d) = .ok (.v false d) ρ := rfl
@[simp] theorem gtK3_n {y : XV} : gtK3 y ρ none = (frz y ρ).bind gtK4 := rfl
@[simp] theorem gtK4_ev {d : D} : gtK4 d ρ = .ok (.v false d) ρ := rfl
@[simp] theorem sItK_ev {f : Env → R XV} : sItK f ρ = (f ρ).bind itKs := rfl
@[simp] theorem itKs_ev {kvs : List (Key × D)} : itKs (.v false (.dk kvs)) ρ = if kvs.length ≤ lim then .ok ⟨kvs.map fun p => kD p.1, none⟩ ρ else .bad := rfl
@[simp] theorem sDk0_ev : sDk0 ρ = .ok (.v true (.dk [])) ρ := rfl
def stK3 (i : Nat) (nk : Key) (d : D) (ρ : Env) : Option T → R Fl
  | some (true, .dk kvs) => if kvs.length < lim then .ok .nx (pt ρ i (some (true, .dk (kPut kvs nk d)))) else .bad
  | _ => .bad
@[simp] theorem stK3_s {d : D} {nk : Key} {kvs : List (Key × D)} : stK3 i nk d ρ (some (true, .dk kvs)) = if kvs.length < lim then .ok .nx (pt ρ i (some (true, .dk (kPut kvs nk d)))) else .bad := rfl
def stK2 (i : Nat) (nk : Key) (d : D) (ρ : Env) : R Fl := stK3 i nk d ρ (gt ρ i)
@[simp] theorem stK2_ev {d : D} {nk : Key} : stK2 i nk d ρ = stK3 i nk d ρ (gt ρ i) := rfl
def stK1 (i : Nat) (y : XV) (ρ : Env) : Option Key → R Fl
  | some nk => (frz y ρ).bind (stK2 i nk)
  | none => .bad
@[simp] theorem stK1_s {y : XV} {nk : Key} : stK1 i y ρ (some nk) = (frz y ρ).bind (stK2 i nk) := rfl
def stK0 (i : Nat) (y : XV) (ρ : Env) : Option D → R Fl
  | some k => stK1 i y ρ (kdOf k)
  | none => .bad
@[simp] theorem stK0_s {y : XV} {k : D} : stK0 i y ρ (some k) = stK1 i y ρ (kdOf k) := rfl
def stKc (x y z : XV) (ρ : Env) : R Fl := opSetK x z y ρ
@[simp] theorem stKc_b {z y : XV} : stKc (.b i) y z ρ = stK0 i y ρ (view z ρ) := by
  unfold stKc opSetK stK0
  cases view z ρ with
  | none => rfl
  | some k =>
    dsimp only
    unfold stK1
    cases kdOf k with
    | none => rfl
    | some nk =>
      dsimp only
      cases frz y ρ with
      | ok d ρ1 =>
        show _ = stK3 i nk d ρ1 (gt ρ1 i)
        show (match gt ρ1 i with
          | some (true, .dk kvs) => if kvs.length < lim then R.ok Fl.nx (pt ρ1 i (some (true, .dk (kPut kvs nk d)))) else .bad
          | _ => .bad) = _
        cases gt ρ1 i with
        | none => rfl
        | some t => obtain ⟨o, d2⟩ := t; cases o <;> cases d2 <;> rfl
      | exc c ρ1 => rfl
      | bad => rfl
def stKb (fi : Env → R XV) (y x : XV) (ρ : Env) : R Fl := (fi ρ).bind (stKc x y)
@[simp] theorem stKb_ev {fi : Env → R XV} {x y : XV} : stKb fi y x ρ = (fi ρ).bind (stKc x y) := rfl
def stKa (fo fi : Env → R XV) (y : XV) (ρ : Env) : R Fl := (fo ρ).bind (stKb fi y)
@[simp] theorem stKa_ev {fo fi : Env → R XV} {y : XV} : stKa fo fi y ρ = (fo ρ).bind (stKb fi y) := rfl
@[simp] theorem xSetK_ev {fe fo fi : Env → R XV} : xSetK fe fo fi ρ = (fe ρ).bind (stKa fo fi) := rfl
@[simp] theorem opInK_s {k : D} {kvs : List (Key × D)} : opInK k (.dk kvs) = (kdOf k).map fun nk => (false, .bl (kGet kvs nk).isSome) := rfl
@[simp] theorem opNotInK_s {k : D} {kvs : List (Key × D)} : opNotInK k (.dk kvs) = (kdOf k).map fun nk => (false, .bl (!(kGet kvs nk).isSome)) := rfl
@[simp] theorem opIxK_s {k : D} {kvs : List (Key × D)} : opIxK (.dk kvs) k = (kdOf k).bind fun nk => (kGet kvs nk).map fun x => (false, x) := rfl
end
end Lz
namespace Lz
open PySem PySem.Spec PyProof.Rows L2
def fsV : List (Str × V) → List (Str × Bool × D) → List VT
  | p :: fs, q :: gs => (p.2, q.2) :: fsV fs gs
  | _, _ => []
def okF (t : Lz.T) : Prop := t.1 = true → ∃ ds, t.2 = D.lst ds
section
variable {K : PySem.W.Frag} {H : Hp} {av : Addr → Prop} {L : List VT}
theorem OwnFs.all {ws : List Addr} (o : OwnAll K H av L ws) : ∀ {fs : List (Str × V)} {gs : List (Str × Bool × D)} {w : List Addr}, OwnFs K H av fs gs w → OwnAll K H av (fsV fs gs ++ L) (w ++ ws) ∧ ∀ p ∈ gs, okF p.2
  | _, _, _, .nil => ⟨o, by simp⟩
  | _, _, _, .pure r t => by
    obtain ⟨h1, h2⟩ := OwnFs.all o t
    exact ⟨.cons (w := []) (.pure r) h1, fun p hp => by
      rcases List.mem_cons.mp hp with rfl | hp
      · exact fun e => by cases e
      · exact h2 p hp⟩
  | _, _, _, .lst (b := b) (ds := ds) e r t => by
    obtain ⟨h1, h2⟩ := OwnFs.all o t
    exact ⟨.cons (w := [b]) (.lst e r) h1, fun p hp => by
      rcases List.mem_cons.mp hp with rfl | hp
      · exact fun _ => ⟨ds, rfl⟩
      · exact h2 p hp⟩
end
section
variable {K : PySem.W.Frag} {W : WX} {hs A : List VT} {σ σ0 : Sg} {H : Hp} {ρ : Env} {v : V}
end
def ownF (i : Nat) (c f : Str) (ρ : Env) : Option (List (Str × Bool × D) × List D) := match gt ρ i with
  | some (true, .ob c' gs) => if c' = c then (match gs.lookup f with
    | some (true, .lst ds) => some (gs, ds)
    | _ => none) else none
  | _ => none
def ixF2 (op : D → D → Option T) (i : Nat) (c : Str) (p : List (Str × Bool × D) × List D) (y : XV) (ρ : Env) : R XV := match gt ρ i, view y ρ with
  | none, some d => (match op (.lst p.2) d with
    | some t => .ok (.v t.1 t.2) (pt ρ i (some (true, .ob c p.1)))
    | none => .bad)
  | _, _ => .bad
/-- name.f [op] e -/
def sOpF (op : D → D → Option T) (i : Nat) (c f : Str) (fb : Env → R XV) (ρ : Env) : R XV := match ownF i c f ρ with
  | some p => (noX (fb (pt ρ i none))).bind (ixF2 op i c p)
  | none => sBin op (sFld c f (sVar i)) fb ρ
/-- e [op] name.f -/
def sOpFR (op : D → D → Option T) (fa : Env → R XV) (i : Nat) (c f : Str) (ρ : Env) : R XV := (fa ρ).bind fun x ρ1 => match ownF i c f ρ1 with
  | some p => (match view x (pt ρ1 i none) with
    | some d => (match op d (.lst p.2) with
      | some t => .ok (.v t.1 t.2) ρ1
      | none => .bad)
    | none => .bad)
  | none => (sFld c f (sVar i) ρ1).bind fun y ρ2 => op2 op x y ρ2
/-- a built-in of name.f -/
def sClF (cf : List D → Option T) (i : Nat) (c f : Str) (ρ : Env) : R XV := match ownF i c f ρ with
  | some p => (match cf [.lst p.2] with
    | some t => .ok (.v t.1 t.2) ρ
    | none => .bad)
  | none => sCl cf (sCons (sFld c f (sVar i)) sNil) ρ
section
variable {X : Cx} {W : WX} {b e : Expr} {fa fb : Env → R XV} {c f x : Str} {i : Nat} {p pos apos : Pos}
end
end Lz
namespace Lz
open PySem PySem.Spec PyProof.Rows L2
def setF2 (i : Nat) (c f : Str) (p : List (Str × Bool × D) × List D) (k : Int) (d : D) (ρ : Env) : R Fl := match ixN p.2.length k, gt ρ i with
  | some m, none => .ok .nx (pt ρ i (some (true, .ob c (putO f (true, .lst (p.2.set m d)) p.1))))
  | _, _ => .bad
def setF1 (i : Nat) (c f : Str) (p : List (Str × Bool × D) × List D) (y z : XV) (ρ : Env) : R Fl := match view z ρ with
  | some (.int k) => (frz y ρ).bind (setF2 i c f p k)
  | _ => .bad
def xSetF (fe : Env → R XV) (i : Nat) (c f : Str) (fi : Env → R XV) (ρ : Env) : R Fl := (fe ρ).bind fun y ρ1 => match ownF i c f ρ1 with
  | some p => (noX (fi (pt ρ1 i none))).bind (setF1 i c f p y)
  | none => .bad
section
variable {X : Cx} {W : WX} {pin : List Nat} {e ie : Expr} {fe fi : Env → R XV} {c f x : Str} {i : Nat} {p pos apos p2 : Pos}
end
def frzF (i : Nat) (f : Str) (ρ : Env) : Env := match gt ρ i with
  | some (true, .ob c gs) => (match gs.lookup f with
    | some t => pt ρ i (some (true, .ob c (putO f (false, t.2) gs)))
    | none => ρ)
  | _ => ρ
def frzL (i : Nat) (ρ : Env) : Env := match gt ρ i with
  | some (true, .lol rs) => pt ρ i (some (true, .lst rs))
  | _ => ρ
def xGh (g : Env → Env) (f : Env → R Fl) (ρ : Env) : R Fl := f (g ρ)
section
variable {K : PySem.W.Frag} {H : Hp} {av : Addr → Prop} {L : List VT}
theorem OwnRs.snoc {b : Addr} {vs : List V} {ds : List D} (h : H b = some (.lst vs)) (r : RepAll K H av vs ds) : ∀ {us : List V} {rs : List D} {w : List Addr}, OwnRs K H av us rs w → OwnRs K H av (us ++ [.ref b]) (rs ++ [.lst ds]) (w ++ [b])
  | _, _, _, .nil => .cons h r .nil
  | _, _, _, .cons q r2 t => .cons q r2 (OwnRs.snoc h r t)
theorem OwnRs.length : ∀ {us : List V} {rs : List D} {w : List Addr}, OwnRs K H av us rs w → us.length = rs.length
  | _, _, _, .nil => rfl
  | _, _, _, .cons _ _ t => by rw [List.length_cons, List.length_cons, OwnRs.length t]
theorem OwnRs.chg {H' : Hp} {b : Addr} {vs' : List V} {ds' : List D} (k : Kp H H' av av) (hb : H' b = some (.lst vs')) (r' : RepAll K H' av vs' ds') : ∀ {us : List V} {rs : List D} {w : List Addr} {m : Nat}, OwnRs K H av us rs w → w.Nodup → us[m]? = some (.ref b) → (∀ x ∈ w, x ≠ b → H' x = H x) →
    OwnRs K H' av us (rs.set m (.lst ds')) w
  | _, _, _, _, .nil, _, h, _ => by simp at h
  | _, _, _, 0, .cons (b := b2) q r t, n, h, hw => by
    simp at h
    subst h
    have n1 := (List.nodup_cons.mp n).1
    exact .cons hb r' (t.mono k fun x hx => hw x (List.mem_cons_of_mem _ hx) fun e => n1 (e ▸ hx))
  | _, _, _, m + 1, .cons (b := b2) (us := us) q r t, n, h, hw => by
    have n1 := (List.nodup_cons.mp n).1
    have h' : us[m]? = some (.ref b) := by simpa using h
    have ne : b2 ≠ b := fun e => by
      have mem : ∀ {us : List V} {rs : List D} {w : List Addr} {m : Nat}, OwnRs K H av us rs w → us[m]? = some (V.ref b) → b ∈ w := by
        intro us rs w m o
        induction o generalizing m with
        | nil => intro h; simp at h
        | cons q r t ih =>
          intro h
          cases m with
          | zero => simp at h; rw [h]; exact List.mem_cons_self
          | succ m => exact List.mem_cons_of_mem _ (ih (m := m) (by simpa using h))
      exact n1 (e ▸ mem t h')
    exact .cons (by rw [hw _ List.mem_cons_self ne]; exact q) (r.mono k) (OwnRs.chg k hb r' t (List.nodup_cons.mp n).2 h' fun x hx => hw x (List.mem_cons_of_mem _ hx))
end
section
variable {X : Cx} {W : WX} {pin : List Nat} {st : Stmt} {rest : List Stmt} {f : Env → R Fl} {g : Env → Env}
end
section
variable {X : Cx} {W : WX} {elt tg iter : Expr} {ifs : List Expr} {scope : Scope} {own : List (Str × Nat)} {pos : Pos} {si : Env → R Its} {g : D → Env → Option Env} {c : Env → R Bool} {f : Env → R XV}
end
def setL2 (i j1 j2 : Nat) (d : D) (ρ : Env) : R Fl := match gt ρ i, gt ρ j1, gt ρ j2 with
  | some (true, .lol rows), some (false, .int k1), some (false, .int k2) => (match ixN rows.length k1 with
    | some m1 => (match rows[m1]? with
      | some (.lst ds) => (match ixN ds.length k2 with
        | some m2 => .ok .nx (pt ρ i (some (true, .lol (rows.set m1 (.lst (ds.set m2 d))))))
        | none => .bad)
      | _ => .bad)
    | none => .bad)
  | _, _, _ => .bad
def xSetL2 (fe : Env → R XV) (i j1 j2 : Nat) (ρ : Env) : R Fl := (fe ρ).bind fun y ρ1 => (frz y ρ1).bind (setL2 i j1 j2)
section
variable {X : Cx} {W : WX} {pin : List Nat} {e : Expr} {fe : Env → R XV} {x x1 x2 : Str} {p q1 q2 pos apos p2 : Pos}
end
end Lz
namespace Lz
open PySem PySem.Spec PyProof.Rows L2
theorem xWhile_more {c : Env → R Bool} {f : Env → R Fl} : ∀ (n m : Nat) (ρ : Env), n ≤ m → xWhile c f n ρ ≠ .bad → xWhile c f m ρ = xWhile c f n ρ
  | 0, _, _, _, h => absurd rfl h
  | n + 1, 0, _, h, _ => by omega
  | n + 1, m + 1, ρ, hl, h => by
    unfold xWhile at h ⊢
    cases e : c ρ with
    | bad => rfl
    | exc x ρ1 => rfl
    | ok b ρ1 =>
      rw [e] at h
      cases b with
      | false => rfl
      | true =>
        have h' : (match f ρ1 with
          | .ok .nx ρ' => xWhile c f n ρ'
          | .ok .ct ρ' => xWhile c f n ρ'
          | .ok .bk ρ' => .ok .nx ρ'
          | .ok (.rt t) ρ' => .ok (.rt t) ρ'
          | .ok (.ra t) ρ' => .ok (.ra t) ρ'
          | .exc c ρ' => .exc c ρ'
          | .bad => .bad) ≠ R.bad := h
        show (match f ρ1 with
          | .ok .nx ρ' => xWhile c f m ρ'
          | .ok .ct ρ' => xWhile c f m ρ'
          | .ok .bk ρ' => .ok .nx ρ'
          | .ok (.rt t) ρ' => .ok (.rt t) ρ'
          | .ok (.ra t) ρ' => .ok (.ra t) ρ'
          | .exc c ρ' => .exc c ρ'
          | .bad => .bad) = (match f ρ1 with
          | .ok .nx ρ' => xWhile c f n ρ'
          | .ok .ct ρ' => xWhile c f n ρ'
          | .ok .bk ρ' => .ok .nx ρ'
          | .ok (.rt t) ρ' => .ok (.rt t) ρ'
          | .ok (.ra t) ρ' => .ok (.ra t) ρ'
          | .exc c ρ' => .exc c ρ'
          | .bad => .bad)
        cases ef : f ρ1 with
        | bad => rfl
        | exc x ρ2 => rfl
        | ok a ρ2 =>
          rw [ef] at h'
          cases a with
          | nx => exact xWhile_more n m ρ2 (by omega) h'
          | ct => exact xWhile_more n m ρ2 (by omega) h'
          | bk => rfl
          | rt t => rfl
          | ra t => rfl
open Classical in
noncomputable def xWU (c : Env → R Bool) (f : Env → R Fl) (ρ : Env) : R Fl := if h : ∃ n, xWhile c f n ρ ≠ .bad then xWhile c f (Classical.choose h) ρ else .bad
theorem xWU_of {c : Env → R Bool} {f : Env → R Fl} {ρ : Env} {n : Nat} (h : xWhile c f n ρ ≠ .bad) : xWU c f ρ = xWhile c f n ρ := by
  have q : ∃ n, xWhile c f n ρ ≠ .bad := ⟨n, h⟩
  unfold xWU
  rw [dif_pos q]
  have h2 := Classical.choose_spec q
  rcases Nat.le_total n (Classical.choose q) with l | l
  · exact xWhile_more _ _ _ l h
  · exact (xWhile_more _ _ _ l h2).symm
theorem xWU_no {c : Env → R Bool} {f : Env → R Fl} {ρ : Env} (h : ¬ ∃ n, xWhile c f n ρ ≠ .bad) : xWU c f ρ = .bad := by unfold xWU; rw [dif_neg h]
section
variable {c : Env → R Bool} {f : Env → R Fl} {ρ ρ1 ρ2 : Env}
theorem xWhile_nx (n : Nat) (h1 : c ρ = .ok true ρ1) (h2 : f ρ1 = .ok .nx ρ2) : xWhile c f (n + 1) ρ = xWhile c f n ρ2 := by
  rw [xWhile, h1]
  dsimp only [R.bind]
  rw [if_pos rfl, h2]
theorem xWU_nx (h1 : c ρ = .ok true ρ1) (h2 : f ρ1 = .ok .nx ρ2) : xWU c f ρ = xWU c f ρ2 := by
  by_cases q : ∃ n, xWhile c f n ρ2 ≠ .bad
  · obtain ⟨n, hn⟩ := q
    have e := xWhile_nx n h1 h2
    rw [xWU_of hn, ← e]
    exact xWU_of (by rw [e]; exact hn)
  · rw [xWU_no q]
    refine xWU_no fun ⟨n, hn⟩ => ?_
    cases n with
    | zero => exact hn rfl
    | succ n => exact q ⟨n, by rw [← xWhile_nx n h1 h2]; exact hn⟩
theorem xWU_stop (h1 : c ρ = .ok false ρ1) : xWU c f ρ = .ok .nx ρ1 := by
  have e : xWhile c f 1 ρ = .ok .nx ρ1 := by rw [xWhile, h1]; rfl
  rw [xWU_of (n := 1) (by rw [e]; intro h; cases h), e]
end
section
variable {X : Cx} {W : WX} {pin : List Nat} {c : Expr} {body : List Stmt} {gc : Env → R Bool} {f : Env → R Fl} {pos : Pos}
theorem whU (hpo : PassesOwn (model X.prog X.w) X.A X.env X.xe) (hc : SB X W c gc) (hb : SSs X W pin body f) : SS X W pin (.While c body [] pos) (xWU gc f) := by
  refine ⟨fun pins s σ H E I q => ?_⟩
  obtain ⟨ρ, hs, σ0, st, hp, h⟩ := q
  by_cases z : ∃ n, xWhile gc f n ρ ≠ .bad
  · obtain ⟨n, hn⟩ := z
    rw [xWU_of hn] at h
    exact (wh n hpo hc hb).run pins s σ H E I ⟨ρ, hs, σ0, st, hp, h⟩
  · rw [xWU_no z] at h
    exact h.elim
end
end Lz
namespace Lz
open PySem PySem.Spec PyProof.Rows L2 RZ
section
variable {P : Program} {w : World} {K : PySem.W.Frag} {elts : List Expr} {kk : Nat} {tpos : Pos}
end
section
variable {X : Cx} {e : Expr} {ta : TA} {p pos tpos : Pos} {elts : List Expr} {kk : Nat}
end
def enumTK (ds : List D) (ρ : Env) : R Its := match ds with
  | [.tup as] => .ok ⟨enumD 0 as, none⟩ ρ
  | _ => .bad
def enumTX (xs : List XV) (ρ : Env) : R Its := (frzs xs ρ).bind enumTK
def sEnumT (f : Env → R (List XV)) (ρ : Env) : R Its := (f ρ).bind enumTX
section
variable {X : Cx} {W : WX} {elts : List Expr} {kk : Nat} {tpos : Pos}
end
section
variable {ρ : Env}
@[simp] theorem sEnumT_ev {f : Env → R (List XV)} : sEnumT f ρ = (f ρ).bind enumTX := rfl
@[simp] theorem enumTX_ev {xs : List XV} : enumTX xs ρ = (frzs xs ρ).bind enumTK := rfl
@[simp] theorem enumTK_t {as : List D} : enumTK [.tup as] ρ = .ok ⟨enumD 0 as, none⟩ ρ := rfl
end
end Lz
namespace Lz
open PySem PySem.Spec PyProof.Rows L2
def sBad (_ : Env) : R XV := .bad
def xBad (_ : Env) : R Fl := .bad
section
variable {X : Cx} {W : WX} {pin : List Nat}
end
@[simp] theorem sBad_ev {ρ : Env} : sBad ρ = .bad := rfl
@[simp] theorem xBad_ev {ρ : Env} : xBad ρ = .bad := rfl
def mfSplit (d : D) (ds : List D) : Option T := match d, ds with
  | .str a, [.str b] => if b.length ≠ 0 ∧ a.length + 2 ≤ lim then some (true, .lst ((Txt.split a b).map D.str)) else none
  | _, _ => none
def opMulS (d e : D) : Option T := match d, e with
  | .str z, .int k => if 0 ≤ k ∧ k ≤ 1000 ∧ z.length ≤ 10000 then some (false, .str (Txt.mul z k)) else none
  | _, _ => none
section
variable {X : Cx}
theorem mr_split : MtR X "str.split" (rMt X.K mfSplit) := by
  intro pins s σ H x xs v us Q I rx rs ⟨L, d, o, ds, t, sep, m, ms, ht, q⟩
  unfold mfSplit at ht
  split at ht
  · rename_i a b
    cases ms with
    | cons h1 t1 =>
      cases t1
      obtain ⟨o1, m1⟩ := h1
      obtain ⟨ws, w⟩ := sep
      split at ht
      · rename_i hc
        cases ht
        have e1 := w.str m
        have e2 := w.str m1
        subst e1 e2
        refine mt_split pins s σ H _ _ v us Q I rx rs ⟨a, b, rfl, rfl, beq_eq_false_iff_ne.mpr hc.1, hc.2, fun p hp => ?_⟩
        refine q _ _ ⟨_, w.newLst hp ?_⟩
        exact rep_strs _
      · cases ht
  · cases ht
theorem or_mulS : OpR X (binaryOp .Mult) (rOp X.K opMulS) := by
  intro pins s σ H x y v u Q I rx ry ⟨L, d, e, o, o', t, sep, m1, m2, ht, q⟩
  unfold opMulS at ht
  split at ht
  · rename_i z k
    split at ht
    · rename_i hc
      cases ht
      have e1 := sep.str m1
      have e2 := sep.int m2
      subst e1 e2
      obtain ⟨t, rfl⟩ := rx
      obtain ⟨t2, rfl⟩ := ry
      exact SB.mul (mulOk_of 10000 1000 hc.2.2 hc.2.1 (by omega) (by decide) (by decide)) fun t' k' => ⟨.str (Txt.mul z k), H, I.tok _, ⟨_, rfl⟩, q _ _ (sep.cStr _)⟩
    · cases ht
  · cases ht
end
section
variable {X : Cx} {W : WX} {o e : Expr} {fa : Env → R XV} {f : Env → R (List XV)} {apos cpos : Pos}
theorem tSplit (ho : SE X W o fa) (ha : SA X W [e] f)
    (hbase : attributeBase o "split" X.env (eval o X.env) = eval o X.env := by rfl)
    (few : ((backTo cpos (starEach [e] X.env)).all (fun x => !x.1) && (backToKw cpos (keywordEach [] X.env)).all (fun x => x.1.isSome) && decide ([e].length + 0 + 0 < 30)) = true := by rfl)
    (hline : (apos.endLine == cpos.line) = true := by rfl) (hst : starEach [e] X.env = (false, eval e X.env) :: starEach [] X.env := by rfl) :
    SE X W (.Call (.Attribute o "split" apos) [e] [] cpos) (sMt "str" mfSplit fa f) := mB PySem.F.plainAttrs_str PySem.F.slot_str_split PySem.F.type_str_split mr_split ho ha hbase few hline hst rfl
end
theorem Sep.fn {K : PySem.W.Frag} {H : Hp} {L : List VT} {v : V} {o : Bool} {n : Str} (s : Sep K H L) (m : (v, (o, D.fn n)) ∈ L) : v = .ref (He.fAd K (n, none)) := by
  obtain ⟨ws, w⟩ := s
  cases w.any m
  rfl
/-- a def of one's own, by its name, at its place -/
def OkV (P : Program) (w : World) (K : PySem.W.Frag) (mg : Str → Option Value) (base : Heap) (x : Str) (k : Nat) (F : List T → FR) : Prop :=
  ∃ (fd : FuncData) (ps : List Str), FnOk P w K mg base (L2.CX P w) k (He.fAd K (x, none)) fd ps (spF K F) ∧ PySem.W.keepIn K (.ref (He.fAd K (x, none))) = true ∧ Binds K fd ps []
theorem OkF.v {P : Program} {w : World} {K : PySem.W.Frag} {mg : Str → Option Value} {base : Heap} {x : Str} {k : Nat} {F : List T → FR} (h : OkF P w K mg base x k F) (hm : mg x = some (.ref (He.fAd K (x, none)))) : OkV P w K mg base x k F := by
  obtain ⟨f, fd, ps, h1, h2, h3, h4⟩ := h
  have e := h2.symm.trans hm
  cases e
  exact ⟨fd, ps, h1, h3, h4⟩
inductive OkVs (P : Program) (w : World) (K : PySem.W.Frag) (mg : Str → Option Value) (base : Heap) (A : Around) : List (Str × (List T → FR)) → Prop
  | nil : OkVs P w K mg base A []
  | cons {x : Str} {k : Nat} {F : List T → FR} {tb : List (Str × (List T → FR))} : OkV P w K mg base x k F → Room k A → OkVs P w K mg base A tb → OkVs P w K mg base A ((x, F) :: tb)
theorem OkVs.at {P : Program} {w : World} {K : PySem.W.Frag} {mg : Str → Option Value} {base : Heap} {A : Around} : ∀ {tb : List (Str × (List T → FR))} {x : Str} {F : List T → FR}, OkVs P w K mg base A tb → tb.lookup x = some F → ∃ k, OkV P w K mg base x k F ∧ Room k A
  | _, _, _, .nil, h => by cases h
  | _, x, F, .cons (x := y) h1 h2 t, h => by
    rw [List.lookup_cons] at h
    split at h
    · rename_i e
      cases h
      have e2 := eq_of_beq e
      subst e2
      exact ⟨_, h1, h2⟩
    · exact OkVs.at t h
def callN (tb : List (Str × (List T → FR))) (fa : Env → R (List XV)) (d : Option D) (ρ : Env) : R XV := match d with
  | some (.fn n) => (match tb.lookup n with
    | some F => (fa ρ).bind (opF F)
    | none => .bad)
  | _ => .bad
def sCallV (tb : List (Str × (List T → FR))) (fe : Env → R XV) (fa : Env → R (List XV)) (ρ : Env) : R XV := (fe ρ).bind fun x ρ => callN tb fa (view x ρ) ρ
section
variable {X : Cx} {W : WX} {fe e : Expr} {es : List Expr} {ff : Env → R XV} {fa : Env → R (List XV)} {tb : List (Str × (List T → FR))} {pos : Pos}
end
end Lz
namespace HT
open PySem PySem.Spec PyProof.Rows
section
variable {prog : Program} {w : World} {A : Around} {E : Value → Shared → Prop} {s : Shared}
end
end HT
namespace Lz
open PySem PySem.Spec PyProof.Rows L2
def opRev : D → Option T
  | .tup xs => some (false, .tup xs.reverse)
  | .lst xs => some (true, .lst xs.reverse)
  | _ => none
section
variable {X : Cx} {W : WX} {e : Expr} {f : Env → R XV} {k : Nat} {p1 p2 p3 pos : Pos}
end
def gAtt (i : Nat) (c f : Str) (d : D) (ρ : Env) : Option Env := match gt ρ i with
  | some (true, .ob c' gs) => if c' = c ∧ gs.length < 1000 then some (pt ρ i (some (true, .ob c (putO f (false, d) gs)))) else none
  | _ => none
section
variable {X : Cx} {pin : List Nat} {c f x : Str} {i : Nat} {p pos' : Pos}
end
section
variable {ρ : Env} {i : Nat} {c f : Str} {d : D}
def gAttK (i : Nat) (c f : Str) (d : D) (ρ : Env) : Option T → Option Env
  | some (true, .ob c' gs) => if c' = c ∧ gs.length < 1000 then some (pt ρ i (some (true, .ob c (putO f (false, d) gs)))) else none
  | _ => none
@[simp] theorem gAttK_s {c' : Str} {gs : List (Str × Bool × D)} : gAttK i c f d ρ (some (true, .ob c' gs)) = if c' = c ∧ gs.length < 1000 then some (pt ρ i (some (true, .ob c (putO f (false, d) gs)))) else none := rfl
@[simp] theorem gAtt_ev : gAtt i c f d ρ = gAttK i c f d ρ (gt ρ i) := by
  unfold gAtt gAttK
  rfl
@[simp] theorem opRev_t {xs : List D} : opRev (.tup xs) = some (false, .tup xs.reverse) := rfl
@[simp] theorem opRev_l {xs : List D} : opRev (.lst xs) = some (true, .lst xs.reverse) := rfl
end
section
variable {ρ : Env} {tb : List (Str × (List T → FR))} {fa : Env → R (List XV)} {fe : Env → R XV}
def callM (fa : Env → R (List XV)) (ρ : Env) : Option (List T → FR) → R XV
  | some F => (fa ρ).bind (opF F)
  | none => .bad
@[simp] theorem callM_s {F : List T → FR} : callM fa ρ (some F) = (fa ρ).bind (opF F) := rfl
@[simp] theorem callN_s {n : Str} : callN tb fa (some (.fn n)) ρ = callM fa ρ (tb.lookup n) := by
  unfold callN callM
  rfl
def callK (tb : List (Str × (List T → FR))) (fa : Env → R (List XV)) (x : XV) (ρ : Env) : R XV := callN tb fa (view x ρ) ρ
@[simp] theorem callK_ev {x : XV} : callK tb fa x ρ = callN tb fa (view x ρ) ρ := rfl
@[simp] theorem sCallV_ev : sCallV tb fe fa ρ = (fe ρ).bind (callK tb fa) := rfl
end
end Lz
namespace Lz
open PySem PySem.Spec PyProof.Rows L2 RZ
section
variable {P : Program} {w : World} {K : PySem.W.Frag} {elts : List Expr} {kk : Nat} {tpos : Pos} {a b z TI TO i1 i2 : Addr} {n1 n2 : Nat}
end
section
variable {X : Cx} {e e2 : Expr} {ta : TA} {p pos tpos : Pos} {elts : List Expr} {kk : Nat}
end
def zipMK (ds : List D) (ρ : Env) : R Its := match ds with
  | [.tup as, .lst bs] => .ok ⟨zipD as bs, none⟩ ρ
  | _ => .bad
def zipMX (xs : List XV) (ρ : Env) : R Its := (frzs xs ρ).bind zipMK
def sZipM (f : Env → R (List XV)) (ρ : Env) : R Its := (f ρ).bind zipMX
section
variable {X : Cx} {W : WX} {elts : List Expr} {kk : Nat} {tpos : Pos}
end
section
variable {ρ : Env}
@[simp] theorem sZipM_ev {f : Env → R (List XV)} : sZipM f ρ = (f ρ).bind zipMX := rfl
@[simp] theorem zipMX_ev {xs : List XV} : zipMX xs ρ = (frzs xs ρ).bind zipMK := rfl
@[simp] theorem zipMK_tl {as bs : List D} : zipMK [.tup as, .lst bs] ρ = .ok ⟨zipD as bs, none⟩ ρ := rfl
end
end Lz
namespace Lz
open PySem PySem.Spec PyProof.Rows L2
def clrE (i : Nat) : R Fl → R Fl
  | .ok .nx ρ => .ok .nx (pt ρ i none)
  | .ok (.rt t) ρ => .ok (.rt t) (pt ρ i none)
  | _ => .bad
noncomputable def asX (i : Nat) (h : Addr → Env → R Fl) (ρ : Env) : R Fl :=
  cif (i < ρ.length ∧ ∀ a, clrE i (h a (pt ρ i (some (false, .xc a)))) = clrE i (h 0 (pt ρ i (some (false, .xc 0))))) (clrE i (h 0 (pt ρ i (some (false, .xc 0))))) .bad
theorem asX_of {i : Nat} {h : Addr → Env → R Fl} {ρ : Env} {r : R Fl} (hl : i < ρ.length) (e : ∀ a, clrE i (h a (pt ρ i (some (false, .xc a)))) = r) : asX i h ρ = r := by
  unfold asX
  rw [cif_pos ⟨hl, fun a => by rw [e a, e 0]⟩, e 0]
def isX (a : Addr) (x c : Str) (d : D) : Option T := match d with
  | .xc b => if b = a then pB (excSub x c) else none
  | _ => none
@[simp] theorem isX_s {a : Addr} {x c : Str} : isX a x c (.xc a) = pB (excSub x c) := if_pos rfl
def tsX (K : PySem.W.Frag) (xs : List Str) (h : Addr → Str → Env → R Fl) (pin : List Nat) (a : Addr) (cls : Value) (d : Option Addr) : TS := fun D σ H => d = none ∧ ∃ x ∈ xs, cls = .ref (He.ga K x) ∧ tS K W0 pin (h a x) D σ H
section
variable {X : Cx} {W : WX} {x : Str} {xs cs : List Str} {body suite : List Stmt} {b₀ : Stmt} {np pos pos' : Pos} {pin : List Nat} {f : Env → R Fl}
theorem ss_tryX {n : Str} {i : Nat} {h : Addr → Str → Env → R Fl} (hs : X.stack = X.env :: X.outer) (hf : X.env.frame = some X.env.locals) (hN : X.N.Nodup) (hi : X.N[i]? = some n) (hln : X.env.kindOf n = some .local) (hip : i ∉ pin) (hc : Names X x (.ref (He.ga X.K x))) (tk : Takes X W) (F : ExF X.K xs cs) (hx : x ∈ cs) (hne : (x == "ValueError") = false)
    (hb : ∀ (W : WX) (pn : List (Addr × Obj)) (xe : Value → Shared → Prop), Takes (X.tr pn xe) W → PassesOwn (model X.prog X.w) X.A X.env xe → SSs (X.tr pn xe) W pin body f)
    (hh : ∀ (a : Addr) (oe : Obj) (cls : Value) (d : Option Addr) (pn : List (Addr × Obj)) (x : Str), Zc cls d oe → (∃ vs, oe.data = .fields vs) → x ∈ xs → cls = .ref (He.ga X.K x) → d = none → SSs (X.suite a ((a, oe) :: pn)) W0 pin (b₀ :: suite) (h a x)) :
    SS X W pin (.Try body [.ExceptHandler (some (.Name x np)) (some n) (b₀ :: suite) pos'] [] [] pos) (xTry xs x f fun x => asX i fun a => h a x) := by
  have hps := ps_try_as (np := np) (pos := pos) (pos' := pos') (tb := fun W => tS X.K W pin f) (ts := fun a cls d => tsX X.K xs h pin a cls d) hs hf hN hi hln hc tk hb
    (fun a oe cls d pn hz hfl => ⟨fun pins s σ H E I hq => by
      obtain ⟨hd, x, hx, hcl, hq⟩ := hq
      exact (hh a oe cls d pn x hz hfl hx hcl hd).run pins s σ H E I hq⟩)
  refine ⟨fun pins s σ H E I hq => hps.run pins s σ H E I ?_⟩
  obtain ⟨ρ, hs', σ0, s, hp, hq⟩ := hq
  refine ⟨ρ, hs', σ0, s, hp, ?_⟩
  unfold xTry at hq
  cases e : f ρ with
  | ok a ρ1 => rw [e] at hq; cases a <;> exact hq
  | bad => rw [e] at hq; exact hq
  | exc y ρ1 =>
    rw [e] at hq
    intro σ1 H1 s1 p1
    have hq' : finS X.K W hs' pin σ0 (if y ∈ xs then (if excSub y x = true then (match asX i (fun a => h a y) ρ1 with | .exc _ _ => .bad | r => r) else .exc y ρ1) else .bad) E := hq
    by_cases hy : y ∈ xs
    · rw [if_pos hy] at hq'
      refine ⟨excSub y x, F.m y hy x hx hne, fun hb1 a na => ?_, fun hb0 => ?_⟩
      · rw [if_pos hb1] at hq'
        unfold asX at hq'
        by_cases hlt : i < ρ1.length ∧ ∀ a, clrE i (h a y (pt ρ1 i (some (false, .xc a)))) = clrE i (h 0 y (pt ρ1 i (some (false, .xc 0))))
        · rw [cif_pos hlt] at hq'
          obtain ⟨hl, hall⟩ := hlt
          rw [← hall a] at hq'
          have hl1 := s1.ok.len
          refine ⟨rfl, y, hy, rfl, pt ρ1 i (some (false, .xc a)), hs', σ0, ?_, pin_set p1 hip, ?_⟩
          · refine Stt.put' (v := .ref a) (t := (false, .xc a)) ⟨s1.ok, ?_⟩
            obtain ⟨ws, q⟩ := s1.sep
            exact Sep.perm List.perm_middle.symm ⟨ws, q.pure (.xc a)⟩
          · cases e2 : h a y (pt ρ1 i (some (false, .xc a))) with
            | bad => rw [e2] at hq'; exact hq'.elim
            | exc c ρ2 => rw [e2] at hq'; exact hq'.elim
            | ok b ρ2 =>
              rw [e2] at hq'
              cases b with
              | bk => exact hq'.elim
              | ct => exact hq'.elim
              | ra j => exact hq'.elim
              | rt t =>
                intro v σ2 H2 s2 p2
                exact hq' v σ2 H2 (s2.clear i) p2
              | nx =>
                intro σ2 H2 s2 p2
                refine hq' _ H2 ((s2.clear i).chg (List.length_set ..) fun j t hj => ?_) (pin_set p2 hip)
                by_cases ne : i = j
                · subst ne
                  by_cases hl2 : i < ρ2.length
                  · rw [gt_pt_same ρ2 i none hl2] at hj; cases hj
                  · rw [pt_out ρ2 i none (by omega)] at hj
                    exact absurd (gt_lt hj) hl2
                · rw [List.getElem?_set_ne ne]
        · rw [cif_neg hlt] at hq'; exact hq'.elim
      · rw [if_neg (by rw [hb0]; exact Bool.false_ne_true)] at hq'
        exact hq' σ1 H1 s1 p1
    · rw [if_neg hy] at hq'; exact hq'.elim
theorem Stt.xcAt {K : PySem.W.Frag} {hs : List VT} {σ : Sg} {H : Hp} {ρ : Env} {i : Nat} {o : Bool} {a : Addr} (s : Stt K hs σ H ρ) (h : gt ρ i = some (o, .xc a)) : σ[i]? = some (some (.ref a)) := by
  obtain ⟨v, hv⟩ := s.ok.slot h
  obtain ⟨ws, w⟩ := s.sep
  cases w.any (List.mem_append_left _ (slots_mem hv h))
  exact hv
theorem se_isX {i : Nat} {a : Addr} {oe : Obj} {cls : Value} {d : Option Addr} {pn : List (Addr × Obj)} {n c : Str} {p1 p2 p3 p4 : Pos} (F : ExF X.K xs cs) (hz : Zc cls d oe) (hf : ∃ vs, oe.data = .fields vs) (hx : x ∈ xs) (e1 : cls = .ref (He.ga X.K x)) (e2 : d = none) (hcs : c ∈ cs) (hm : X.mg "isinstance" = none) (hc : (c = "ValueError" ∧ X.mg c = none) ∨ ((c == "ValueError") = false ∧ X.mg c = some (.ref (He.ga X.K c))))
    (hN : X.N[i]? = some n) (hv : Vis X.env.scope n) (hd : (n == ("__debug__" : Str)) = false) (hcd : (n == ("__classdict__" : Str)) = false) (hg : Gl X "isinstance") (hg2 : Gl X c) (hd2 : (c == ("__debug__" : Str)) = false)
    (hst : starEach [.Name n p1, .Name c p2] X.env = (false, eval (.Name n p1) X.env) :: starEach [.Name c p2] X.env) :
    SE (X.suite a ((a, oe) :: pn)) W (.Call (.Name "isinstance" p3) [.Name n p1, .Name c p2] [] p4) (sUn (isX a x c) (sVar i)) := by
  have h := ke_isi (a := a) (oe := oe) (pn := pn) (p3 := p3) (p4 := p4) F hz hf hcs hm hc hN hv hd hcd hg hg2 hd2 hst x hx e1 e2
  refine PE.weak h fun σ H Q hq => ?_
  obtain ⟨ρ, hs, s, hq⟩ := hq
  unfold sUn sVar at hq
  cases eg : gt ρ i with
  | none => rw [eg] at hq; exact hq.elim
  | some t =>
    obtain ⟨o, dd⟩ := t
    have key : ∀ {xv : XV}, view xv ρ = some dd → fin X.K W hs σ (op1 (isX a x c) xv ρ) Q → σ[i]? = some (some (.ref a)) ∧ Q (.bl (excSub x c)) H := fun {xv} hvw hq => by
      unfold op1 at hq
      rw [hvw] at hq
      dsimp only at hq
      unfold isX at hq
      cases dd <;> first | exact hq.elim | skip
      rename_i b
      dsimp only at hq
      by_cases hb : b = a
      · subst hb
        rw [if_pos rfl] at hq
        refine ⟨s.xcAt eg, hq _ H trivial ⟨s.ok, ?_⟩⟩
        obtain ⟨ws, q⟩ := s.sep
        exact Sep.perm List.perm_middle.symm ⟨ws, q.pure (.bl _)⟩
      · rw [if_neg hb] at hq; exact hq.elim
    rw [eg] at hq
    cases o with
    | true =>
      have hq2 : fin X.K W hs σ (op1 (isX a x c) (.b i) ρ) Q := hq
      exact key (xv := .b i) (by show (gt ρ i).map _ = _; rw [eg]; rfl) hq2
    | false =>
      have hq2 : fin X.K W hs σ (op1 (isX a x c) (.v false dd) ρ) Q := hq
      exact key (xv := .v false dd) rfl hq2
end
section
variable {ρ : Env} {i : Nat} {t : T}
@[simp] theorem clrE_nx : clrE i (.ok .nx ρ) = .ok .nx (pt ρ i none) := rfl
@[simp] theorem clrE_rt : clrE i (.ok (.rt t) ρ) = .ok (.rt t) (pt ρ i none) := rfl
end
section
variable {X : Cx}
end
section
variable {X : Cx} {W : WX} {o e : Expr} {fa : Env → R XV} {f : Env → R (List XV)} {apos cpos : Pos}
end
end Lz
namespace Lz
open PySem PySem.Spec PyProof.Rows L2
@[simp] theorem lim_ev : lim = 16777216 := rfl
@[simp] theorem gt_z {x : Option T} {r : Env} : gt (x :: r) 0 = x := rfl
@[simp] theorem gt_s {x : Option T} {r : Env} {n : Nat} : gt (x :: r) (n + 1) = gt r n := rfl
@[simp] theorem pt_z {x y : Option T} {r : Env} : pt (x :: r) 0 y = y :: r := rfl
@[simp] theorem pt_s {x y : Option T} {r : Env} {n : Nat} : pt (x :: r) (n + 1) y = x :: pt r n y := rfl
@[simp] theorem bind_ok {α β : Type} {a : α} {ρ : Env} {k : α → Env → R β} : (R.ok a ρ).bind k = k a ρ := rfl
@[simp] theorem bind_exc {α β : Type} {c : Str} {ρ : Env} {k : α → Env → R β} : (R.exc c ρ : R α).bind k = .exc c ρ := rfl
@[simp] theorem bind_bad {α β : Type} {k : α → Env → R β} : (R.bad : R α).bind k = .bad := rfl
section
variable {ρ : Env} {i : Nat} {d : D} {x : XV} {o : Bool}
@[simp] theorem sC_ev : sC d ρ = .ok (.v false d) ρ := rfl
@[simp] theorem view_v : view (.v o d) ρ = some d := rfl
def viewK : Option T → Option D
  | some t => some t.2
  | none => none
@[simp] theorem viewK_s {t : T} : viewK (some t) = some t.2 := rfl
@[simp] theorem view_b : view (.b i) ρ = viewK (gt ρ i) := by show (gt ρ i).map _ = _; cases gt ρ i <;> rfl
def varK (i : Nat) (ρ : Env) : Option T → R XV
  | some (true, _) => .ok (.b i) ρ
  | some (false, d) => .ok (.v false d) ρ
  | none => .bad
@[simp] theorem varK_t : varK i ρ (some (true, d)) = .ok (.b i) ρ := rfl
@[simp] theorem varK_f : varK i ρ (some (false, d)) = .ok (.v false d) ρ := rfl
@[simp] theorem sVar_ev : sVar i ρ = varK i ρ (gt ρ i) := by
  unfold sVar varK
  cases gt ρ i with
  | none => rfl
  | some t => obtain ⟨o, d⟩ := t; cases o <;> rfl
def ansK (ρ : Env) : Option T → R XV
  | some t => .ok (.v t.1 t.2) ρ
  | none => .bad
@[simp] theorem ansK_s {t : T} : ansK ρ (some t) = .ok (.v t.1 t.2) ρ := rfl
@[simp] theorem ansK_n : ansK ρ none = .bad := rfl
def op2K (f : D → D → Option T) (ρ : Env) : Option D → Option D → R XV
  | some d, some e => ansK ρ (f d e)
  | _, _ => .bad
@[simp] theorem op2K_s {f : D → D → Option T} {d e : D} : op2K f ρ (some d) (some e) = ansK ρ (f d e) := rfl
@[simp] theorem op2_ev {f : D → D → Option T} {x y : XV} : op2 f x y ρ = op2K f ρ (view x ρ) (view y ρ) := by
  unfold op2 op2K ansK
  cases view x ρ <;> cases view y ρ <;> try rfl
def kBin (f : D → D → Option T) (b : Env → R XV) (x : XV) (ρ : Env) : R XV := (b ρ).bind (op2 f x)
@[simp] theorem kBin_ev {f : D → D → Option T} {b : Env → R XV} : kBin f b x ρ = (b ρ).bind (op2 f x) := rfl
@[simp] theorem sBin_ev {f : D → D → Option T} {a b : Env → R XV} : sBin f a b ρ = (a ρ).bind (kBin f b) := rfl
def op1K (f : D → Option T) (ρ : Env) : Option D → R XV
  | some d => ansK ρ (f d)
  | _ => .bad
@[simp] theorem op1K_s {f : D → Option T} {d : D} : op1K f ρ (some d) = ansK ρ (f d) := rfl
@[simp] theorem op1_ev {f : D → Option T} {x : XV} : op1 f x ρ = op1K f ρ (view x ρ) := by
  unfold op1 op1K ansK
  cases view x ρ <;> rfl
@[simp] theorem sUn_ev {f : D → Option T} {a : Env → R XV} : sUn f a ρ = (a ρ).bind (op1 f) := rfl
def asBK (ρ : Env) : Option D → R Bool
  | some (.bl b) => .ok b ρ
  | _ => .bad
@[simp] theorem asBK_s {b : Bool} : asBK ρ (some (.bl b)) = .ok b ρ := rfl
@[simp] theorem asB_ev {x : XV} : asB x ρ = asBK ρ (view x ρ) := by
  unfold asB asBK
  cases view x ρ with
  | none => rfl
  | some d => cases d <;> rfl
@[simp] theorem sB_ev {f : Env → R XV} : sB f ρ = (f ρ).bind asB := rfl
def andK (g : Env → R Bool) (c : Bool) (ρ : Env) : R Bool := match c with
  | true => g ρ
  | false => .ok false ρ
@[simp] theorem andK_t {g : Env → R Bool} : andK g true ρ = g ρ := rfl
@[simp] theorem andK_f {g : Env → R Bool} : andK g false ρ = .ok false ρ := rfl
@[simp] theorem bAnd_ev {f g : Env → R Bool} : bAnd f g ρ = (f ρ).bind (andK g) := by unfold bAnd; congr 1; funext c ρ; cases c <;> rfl
def orK (g : Env → R Bool) (c : Bool) (ρ : Env) : R Bool := match c with
  | true => .ok true ρ
  | false => g ρ
@[simp] theorem orK_t {g : Env → R Bool} : orK g true ρ = .ok true ρ := rfl
@[simp] theorem orK_f {g : Env → R Bool} : orK g false ρ = g ρ := rfl
@[simp] theorem bOr_ev {f g : Env → R Bool} : bOr f g ρ = (f ρ).bind (orK g) := by unfold bOr; congr 1; funext c ρ; cases c <;> rfl
def notK (c : Bool) (ρ : Env) : R Bool := .ok (!c) ρ
@[simp] theorem notK_ev {c : Bool} : notK c ρ = .ok (!c) ρ := rfl
@[simp] theorem bNot_ev {f : Env → R Bool} : bNot f ρ = (f ρ).bind notK := rfl
def ofBK (c : Bool) (ρ : Env) : R XV := .ok (.v false (.bl c)) ρ
@[simp] theorem ofBK_ev {c : Bool} : ofBK c ρ = .ok (.v false (.bl c)) ρ := rfl
@[simp] theorem sOfB_ev {f : Env → R Bool} : sOfB f ρ = (f ρ).bind ofBK := rfl
def sAndK (g : Env → R XV) (c : Bool) (ρ : Env) : R XV := match c with
  | true => g ρ
  | false => .ok (.v false (.bl false)) ρ
@[simp] theorem sAndK_t {g : Env → R XV} : sAndK g true ρ = g ρ := rfl
@[simp] theorem sAndK_f {g : Env → R XV} : sAndK g false ρ = .ok (.v false (.bl false)) ρ := rfl
@[simp] theorem sAnd_ev {f : Env → R Bool} {g : Env → R XV} : sAnd f g ρ = (f ρ).bind (sAndK g) := by unfold sAnd; congr 1; funext c ρ; cases c <;> rfl
def sOrK (g : Env → R XV) (c : Bool) (ρ : Env) : R XV := match c with
  | true => .ok (.v false (.bl true)) ρ
  | false => g ρ
@[simp] theorem sOrK_t {g : Env → R XV} : sOrK g true ρ = .ok (.v false (.bl true)) ρ := rfl
@[simp] theorem sOrK_f {g : Env → R XV} : sOrK g false ρ = g ρ := rfl
@[simp] theorem sOr_ev {f : Env → R Bool} {g : Env → R XV} : sOr f g ρ = (f ρ).bind (sOrK g) := by unfold sOr; congr 1; funext c ρ; cases c <;> rfl
@[simp] theorem sNil_ev : sNil ρ = .ok [] ρ := rfl
def consK2 (x : XV) (xs : List XV) (ρ : Env) : R (List XV) := .ok (x :: xs) ρ
@[simp] theorem consK2_ev {xs : List XV} : consK2 x xs ρ = .ok (x :: xs) ρ := rfl
def consK (g : Env → R (List XV)) (x : XV) (ρ : Env) : R (List XV) := (g ρ).bind (consK2 x)
@[simp] theorem consK_ev {g : Env → R (List XV)} : consK g x ρ = (g ρ).bind (consK2 x) := rfl
@[simp] theorem sCons_ev {f : Env → R XV} {g : Env → R (List XV)} : sCons f g ρ = (f ρ).bind (consK g) := rfl
@[simp] theorem frz_v : frz (.v o d) ρ = .ok d ρ := rfl
def frzK (i : Nat) (ρ : Env) : Option T → R D
  | some t => .ok t.2 (pt ρ i (some (false, t.2)))
  | none => .bad
@[simp] theorem frzK_s {t : T} : frzK i ρ (some t) = .ok t.2 (pt ρ i (some (false, t.2))) := rfl
@[simp] theorem frz_b : frz (.b i) ρ = frzK i ρ (gt ρ i) := by unfold frz frzK; (try dsimp only); try (cases gt ρ i <;> rfl)
@[simp] theorem frzs_nil : frzs [] ρ = .ok [] ρ := rfl
def frzsK2 (d : D) (ds : List D) (ρ : Env) : R (List D) := .ok (d :: ds) ρ
@[simp] theorem frzsK2_ev {ds : List D} : frzsK2 d ds ρ = .ok (d :: ds) ρ := rfl
def frzsK (xs : List XV) (d : D) (ρ : Env) : R (List D) := (frzs xs ρ).bind (frzsK2 d)
@[simp] theorem frzsK_ev {xs : List XV} : frzsK xs d ρ = (frzs xs ρ).bind (frzsK2 d) := rfl
@[simp] theorem frzs_cons {xs : List XV} : frzs (x :: xs) ρ = (frz x ρ).bind (frzsK xs) := rfl
def tupK2 (ds : List D) (ρ : Env) : R XV := if ds.length ≤ lim then .ok (.v false (.tup ds)) ρ else .bad
@[simp] theorem tupK2_ev {ds : List D} : tupK2 ds ρ = if ds.length ≤ lim then .ok (.v false (.tup ds)) ρ else .bad := rfl
def tupK (xs : List XV) (ρ : Env) : R XV := (frzs xs ρ).bind tupK2
@[simp] theorem tupK_ev {xs : List XV} : tupK xs ρ = (frzs xs ρ).bind tupK2 := rfl
@[simp] theorem sTup_ev {f : Env → R (List XV)} : sTup f ρ = (f ρ).bind tupK := rfl
def lstK2 (ds : List D) (ρ : Env) : R XV := if ds.length ≤ lim then .ok (.v true (.lst ds)) ρ else .bad
@[simp] theorem lstK2_ev {ds : List D} : lstK2 ds ρ = if ds.length ≤ lim then .ok (.v true (.lst ds)) ρ else .bad := rfl
def lstK (xs : List XV) (ρ : Env) : R XV := (frzs xs ρ).bind lstK2
@[simp] theorem lstK_ev {xs : List XV} : lstK xs ρ = (frzs xs ρ).bind lstK2 := rfl
@[simp] theorem sLst_ev {f : Env → R (List XV)} : sLst f ρ = (f ρ).bind lstK := rfl
@[simp] theorem views_nil : views [] ρ = some [] := rfl
def vcK : Option D → Option (List D) → Option (List D)
  | some d, some ds => some (d :: ds)
  | _, _ => none
@[simp] theorem vcK_s {ds : List D} : vcK (some d) (some ds) = some (d :: ds) := rfl
@[simp] theorem views_cons {xs : List XV} : views (x :: xs) ρ = vcK (view x ρ) (views xs ρ) := by
  show (view x ρ).bind _ = _
  cases view x ρ <;> cases views xs ρ <;> rfl
def opNK (cf : List D → Option T) (ρ : Env) : Option (List D) → R XV
  | some ds => ansK ρ (cf ds)
  | none => .bad
@[simp] theorem opNK_s {cf : List D → Option T} {ds : List D} : opNK cf ρ (some ds) = ansK ρ (cf ds) := rfl
@[simp] theorem opN_ev {cf : List D → Option T} {xs : List XV} : opN cf xs ρ = opNK cf ρ (views xs ρ) := by
  unfold opN opNK ansK
  cases views xs ρ <;> rfl
@[simp] theorem sCl_ev {cf : List D → Option T} {f : Env → R (List XV)} : sCl cf f ρ = (f ρ).bind (opN cf) := rfl
@[simp] theorem sOpt_none : sOpt none ρ = .ok none ρ := rfl
def optK2 (ρ : Env) : Option D → R (Option Int)
  | some (.int i) => .ok (some i) ρ
  | _ => .bad
@[simp] theorem optK2_s {i : Int} : optK2 ρ (some (.int i)) = .ok (some i) ρ := rfl
def optK (x : XV) (ρ : Env) : R (Option Int) := optK2 ρ (view x ρ)
@[simp] theorem optK_ev : optK x ρ = optK2 ρ (view x ρ) := rfl
@[simp] theorem sOpt_some {f : Env → R XV} : sOpt (some f) ρ = (f ρ).bind optK := by
  unfold sOpt
  dsimp only
  congr 1
def slK3 (f : D → Option Int → Option Int → Option T) (x : XV) (l h : Option Int) (ρ : Env) : R XV := op1K (fun d => f d l h) ρ (view x ρ)
def slK4 (f : D → Option Int → Option Int → Option T) (l h : Option Int) (ρ : Env) : Option D → R XV
  | some d => ansK ρ (f d l h)
  | none => .bad
@[simp] theorem slK4_s {f : D → Option Int → Option Int → Option T} {l h : Option Int} : slK4 f l h ρ (some d) = ansK ρ (f d l h) := rfl
@[simp] theorem slK3_ev {f : D → Option Int → Option Int → Option T} {l h : Option Int} : slK3 f x l h ρ = slK4 f l h ρ (view x ρ) := by
  unfold slK3 slK4 op1K
  cases view x ρ <;> rfl
def slK2 (f : D → Option Int → Option Int → Option T) (hi : Option (Env → R XV)) (x : XV) (l : Option Int) (ρ : Env) : R XV := (sOpt hi ρ).bind (slK3 f x l)
@[simp] theorem slK2_ev {f : D → Option Int → Option Int → Option T} {hi : Option (Env → R XV)} {l : Option Int} : slK2 f hi x l ρ = (sOpt hi ρ).bind (slK3 f x l) := rfl
def slK (f : D → Option Int → Option Int → Option T) (lo hi : Option (Env → R XV)) (x : XV) (ρ : Env) : R XV := (sOpt lo ρ).bind (slK2 f hi x)
@[simp] theorem slK_ev {f : D → Option Int → Option Int → Option T} {lo hi : Option (Env → R XV)} : slK f lo hi x ρ = (sOpt lo ρ).bind (slK2 f hi x) := rfl
@[simp] theorem sSl_ev {f : D → Option Int → Option Int → Option T} {a : Env → R XV} {lo hi : Option (Env → R XV)} : sSl f a lo hi ρ = (a ρ).bind (slK f lo hi) := by
  unfold sSl
  congr 1
def opMK (mf : D → List D → Option T) (ρ : Env) : Option D → Option (List D) → R XV
  | some d, some ds => ansK ρ (mf d ds)
  | _, _ => .bad
@[simp] theorem opMK_s {mf : D → List D → Option T} {ds : List D} : opMK mf ρ (some d) (some ds) = ansK ρ (mf d ds) := rfl
@[simp] theorem opM_ev {mf : D → List D → Option T} {xs : List XV} : opM mf x xs ρ = opMK mf ρ (view x ρ) (views xs ρ) := by
  unfold opM opMK ansK
  cases view x ρ <;> cases views xs ρ <;> rfl
def mtK2 (ty : String) (mf : D → List D → Option T) (f : Env → R (List XV)) (x : XV) (ρ : Env) : Option D → R XV
  | some d => if isTy ty d = true then (f ρ).bind (opM mf x) else .bad
  | none => .bad
@[simp] theorem mtK2_s {ty : String} {mf : D → List D → Option T} {f : Env → R (List XV)} : mtK2 ty mf f x ρ (some d) = if isTy ty d = true then (f ρ).bind (opM mf x) else .bad := rfl
def mtK (ty : String) (mf : D → List D → Option T) (f : Env → R (List XV)) (x : XV) (ρ : Env) : R XV := mtK2 ty mf f x ρ (view x ρ)
@[simp] theorem mtK_ev {ty : String} {mf : D → List D → Option T} {f : Env → R (List XV)} : mtK ty mf f x ρ = mtK2 ty mf f x ρ (view x ρ) := rfl
@[simp] theorem sMt_ev {ty : String} {mf : D → List D → Option T} {a : Env → R XV} {f : Env → R (List XV)} : sMt ty mf a f ρ = (a ρ).bind (mtK ty mf f) := by
  unfold sMt
  congr 1
@[simp] theorem isTy_tup {xs : List D} : isTy "tuple" (.tup xs) = true := rfl
@[simp] theorem isTy_lst {xs : List D} : isTy "list" (.lst xs) = true := rfl
@[simp] theorem isTy_str {z : Str} : isTy "str" (.str z) = true := rfl
def isLK : Option T → Bool
  | some (true, .lst _) => true
  | _ => false
@[simp] theorem isLK_s {ds : List D} : isLK (some (true, .lst ds)) = true := rfl
@[simp] theorem isL_b : isL (.b i) ρ = isLK (gt ρ i) := by
  unfold isL isLK
  rfl
def muK (op : XV → List XV → Env → R XV) (f : Env → R (List XV)) (x : XV) (ρ : Env) : R XV := if isL x ρ = true then (f ρ).bind (op x) else .bad
@[simp] theorem muK_ev {op : XV → List XV → Env → R XV} {f : Env → R (List XV)} : muK op f x ρ = if isL x ρ = true then (f ρ).bind (op x) else .bad := rfl
@[simp] theorem sMu_ev {op : XV → List XV → Env → R XV} {a : Env → R XV} {f : Env → R (List XV)} : sMu op a f ρ = (a ρ).bind (muK op f) := rfl
def appK2 (i : Nat) (d : D) (ρ : Env) : Option T → R XV
  | some (true, .lst ds) => if ds.length < lim then .ok (.v false .non) (pt ρ i (some (true, .lst (ds ++ [d])))) else .bad
  | _ => .bad
@[simp] theorem appK2_s {ds : List D} : appK2 i d ρ (some (true, .lst ds)) = if ds.length < lim then .ok (.v false .non) (pt ρ i (some (true, .lst (ds ++ [d])))) else .bad := rfl
def appK (i : Nat) (d : D) (ρ : Env) : R XV := appK2 i d ρ (gt ρ i)
@[simp] theorem appK_ev : appK i d ρ = appK2 i d ρ (gt ρ i) := rfl
@[simp] theorem opApp_ev {y : XV} : opApp (.b i) [y] ρ = (frz y ρ).bind (appK i) := by
  unfold opApp
  dsimp only
  congr 1
def extK (i : Nat) (ρ : Env) : Option D → Option T → R XV
  | some (.lst es), some (true, .lst ds) => if ds.length + es.length ≤ lim then .ok (.v false .non) (pt ρ i (some (true, .lst (ds ++ es)))) else .bad
  | _, _ => .bad
@[simp] theorem extK_s {es ds : List D} : extK i ρ (some (.lst es)) (some (true, .lst ds)) = if ds.length + es.length ≤ lim then .ok (.v false .non) (pt ρ i (some (true, .lst (ds ++ es)))) else .bad := rfl
@[simp] theorem opExt_ev {y : XV} : opExt (.b i) [y] ρ = extK i ρ (view y ρ) (gt ρ i) := by
  unfold opExt extK
  rfl
@[simp] theorem xNx_ev : xNx ρ = .ok .nx ρ := rfl
def seqK (g : Env → R Fl) : R Fl → R Fl
  | .ok .nx ρ' => g ρ'
  | .ok .bk ρ' => .ok .bk ρ'
  | .ok .ct ρ' => .ok .ct ρ'
  | .ok (.rt t) ρ' => .ok (.rt t) ρ'
  | .ok (.ra i) ρ' => .ok (.ra i) ρ'
  | .exc c ρ' => .exc c ρ'
  | .bad => .bad
@[simp] theorem seqK_nx {g : Env → R Fl} : seqK g (.ok .nx ρ) = g ρ := rfl
@[simp] theorem seqK_bk {g : Env → R Fl} : seqK g (.ok .bk ρ) = .ok .bk ρ := rfl
@[simp] theorem seqK_ct {g : Env → R Fl} : seqK g (.ok .ct ρ) = .ok .ct ρ := rfl
@[simp] theorem seqK_rt {g : Env → R Fl} {t : T} : seqK g (.ok (.rt t) ρ) = .ok (.rt t) ρ := rfl
@[simp] theorem seqK_ra {g : Env → R Fl} : seqK g (.ok (.ra i) ρ) = .ok (.ra i) ρ := rfl
@[simp] theorem seqK_exc {g : Env → R Fl} {c : Str} : seqK g (.exc c ρ) = .exc c ρ := rfl
@[simp] theorem xSeq_ev {f g : Env → R Fl} : xSeq f g ρ = seqK g (f ρ) := rfl
def dropK (_ : XV) (ρ : Env) : R Fl := .ok .nx ρ
@[simp] theorem dropK_ev : dropK x ρ = .ok .nx ρ := rfl
@[simp] theorem xExpr_ev {f : Env → R XV} : xExpr f ρ = (f ρ).bind dropK := rfl
@[simp] theorem retX_v {np : Nat} : retX np (.v o d) ρ = .ok (.rt (o, d)) ρ := rfl
def retK (np i : Nat) (ρ : Env) : Option T → R Fl
  | some t => if i < np then .ok (.ra i) ρ else .ok (.rt t) (pt ρ i none)
  | none => .bad
@[simp] theorem retK_s {np : Nat} {t : T} : retK np i ρ (some t) = if i < np then .ok (.ra i) ρ else .ok (.rt t) (pt ρ i none) := rfl
@[simp] theorem retX_b {np : Nat} : retX np (.b i) ρ = retK np i ρ (gt ρ i) := by unfold retX retK; (try dsimp only); try (cases gt ρ i <;> rfl)
@[simp] theorem xRet_ev {np : Nat} {f : Env → R XV} : xRet np f ρ = (f ρ).bind (retX np) := rfl
@[simp] theorem xRetN_ev : xRetN ρ = .ok (.rt (false, .non)) ρ := rfl
def ifK (f g : Env → R Fl) (b : Bool) (ρ : Env) : R Fl := match b with
  | true => f ρ
  | false => g ρ
@[simp] theorem ifK_t {f g : Env → R Fl} : ifK f g true ρ = f ρ := rfl
@[simp] theorem ifK_f {f g : Env → R Fl} : ifK f g false ρ = g ρ := rfl
@[simp] theorem xIf_ev {c : Env → R Bool} {f g : Env → R Fl} : xIf c f g ρ = (c ρ).bind (ifK f g) := by unfold xIf; congr 1; funext b ρ; cases b <;> rfl
@[simp] theorem putY_v : putY i (.v o d) ρ = .ok .nx (pt ρ i (some (o, d))) := rfl
def putK (i j : Nat) (ρ : Env) : Option T → R Fl
  | some t => .ok .nx (pt (pt ρ j (some (false, t.2))) i (some (false, t.2)))
  | none => .bad
@[simp] theorem putK_s {j : Nat} {t : T} : putK i j ρ (some t) = .ok .nx (pt (pt ρ j (some (false, t.2))) i (some (false, t.2))) := rfl
@[simp] theorem putY_b {j : Nat} : putY i (.b j) ρ = putK i j ρ (gt ρ j) := by unfold putY putK; (try dsimp only); try (cases gt ρ j <;> rfl)
@[simp] theorem xSt_ev {f : Env → R XV} : xSt i f ρ = (f ρ).bind (putY i) := rfl
@[simp] theorem gN_ev : gN i d ρ = some (pt ρ i (some (false, d))) := rfl
@[simp] theorem gNl_ev : gNl [] ρ = some ρ := rfl
def gCnK (h : List D → Env → Option Env) (r : List D) : Option Env → Option Env
  | some ρ => h r ρ
  | none => none
@[simp] theorem gCnK_s {h : List D → Env → Option Env} {r : List D} : gCnK h r (some ρ) = h r ρ := rfl
@[simp] theorem gCn_ev {g : D → Env → Option Env} {h : List D → Env → Option Env} {r : List D} : gCn g h (d :: r) ρ = gCnK h r (g d ρ) := by
  show (g d ρ).bind _ = _
  cases g d ρ <;> rfl
@[simp] theorem gTp_ev {n : Nat} {h : List D → Env → Option Env} {ds : List D} : gTp n h (.tup ds) ρ = if ds.length = n then h ds ρ else none := rfl
def pgK2 : Option Env → R Fl
  | some ρ => .ok .nx ρ
  | none => .bad
@[simp] theorem pgK2_s : pgK2 (some ρ) = .ok .nx ρ := rfl
def pgK (g : D → Env → Option Env) (d : D) (ρ : Env) : R Fl := pgK2 (g d ρ)
@[simp] theorem pgK_ev {g : D → Env → Option Env} : pgK g d ρ = pgK2 (g d ρ) := rfl
@[simp] theorem putG_ev {g : D → Env → Option Env} : putG g x ρ = (frz x ρ).bind (pgK g) := by
  unfold putG
  congr 1
@[simp] theorem xSetG_ev {g : D → Env → Option Env} {f : Env → R XV} : xSetG g f ρ = (f ρ).bind (putG g) := rfl
def siK4 (i : Nat) (ρ : Env) (d : D) (ds : List D) : Option Nat → R Fl
  | some m => .ok .nx (pt ρ i (some (true, .lst (ds.set m d))))
  | none => .bad
@[simp] theorem siK4_s {ds : List D} {m : Nat} : siK4 i ρ d ds (some m) = .ok .nx (pt ρ i (some (true, .lst (ds.set m d)))) := rfl
def siK2 (i : Nat) (k : Int) (d : D) (ρ : Env) : Option T → R Fl
  | some (true, .lst ds) => siK4 i ρ d ds (ixN ds.length k)
  | _ => .bad
@[simp] theorem siK2_s {ds : List D} {k : Int} : siK2 i k d ρ (some (true, .lst ds)) = siK4 i ρ d ds (ixN ds.length k) := rfl
def siK1 (i : Nat) (k : Int) (d : D) (ρ : Env) : R Fl := siK2 i k d ρ (gt ρ i)
@[simp] theorem siK1_ev {k : Int} : siK1 i k d ρ = siK2 i k d ρ (gt ρ i) := rfl
def siK0 (i : Nat) (y : XV) (ρ : Env) : Option D → R Fl
  | some (.int k) => (frz y ρ).bind (siK1 i k)
  | _ => .bad
@[simp] theorem siK0_s {y : XV} {k : Int} : siK0 i y ρ (some (.int k)) = (frz y ρ).bind (siK1 i k) := rfl
def siKc (x y z : XV) (ρ : Env) : R Fl := opSetI x z y ρ
@[simp] theorem siKc_b {z y : XV} : siKc (.b i) y z ρ = siK0 i y ρ (view z ρ) := by
  unfold siKc opSetI siK0
  cases view z ρ with
  | none => rfl
  | some d =>
    cases d <;> try rfl
def siKb (fi : Env → R XV) (y x : XV) (ρ : Env) : R Fl := (fi ρ).bind (siKc x y)
@[simp] theorem siKb_ev {fi : Env → R XV} {y : XV} : siKb fi y x ρ = (fi ρ).bind (siKc x y) := rfl
def siKa (fo fi : Env → R XV) (y : XV) (ρ : Env) : R Fl := (fo ρ).bind (siKb fi y)
@[simp] theorem siKa_ev {fo fi : Env → R XV} {y : XV} : siKa fo fi y ρ = (fo ρ).bind (siKb fi y) := rfl
@[simp] theorem xSetI_ev {fe fo fi : Env → R XV} : xSetI fe fo fi ρ = (fe ρ).bind (siKa fo fi) := rfl
@[simp] theorem xRaise_ev {c : Str} : xRaise c ρ = .exc c ρ := rfl
@[simp] theorem cT_ev : cT ρ = .ok true ρ := rfl
def itsK (ρ : Env) (lk : Option (Nat × T)) : Option (List D) → R Its
  | some l => .ok ⟨l, lk⟩ ρ
  | none => .bad
@[simp] theorem itsK_s {l : List D} {lk : Option (Nat × T)} : itsK ρ lk (some l) = .ok ⟨l, lk⟩ ρ := rfl
@[simp] theorem itX_v : itX (.v o d) ρ = itsK ρ none (itemsD d) := by unfold itX itsK; (try dsimp only); try (cases itemsD d <;> rfl)
def itbK (i : Nat) (ρ : Env) : Option T → R Its
  | some t => itsK (pt ρ i none) (some (i, t)) (itemsD t.2)
  | none => .bad
@[simp] theorem itbK_s {t : T} : itbK i ρ (some t) = itsK (pt ρ i none) (some (i, t)) (itemsD t.2) := rfl
@[simp] theorem itX_b : itX (.b i) ρ = itbK i ρ (gt ρ i) := by
  unfold itX itbK
  dsimp only
  cases gt ρ i with
  | none => rfl
  | some t => dsimp only; unfold itsK; cases itemsD t.2 <;> rfl
@[simp] theorem sItE_ev {f : Env → R XV} : sItE f ρ = (f ρ).bind itX := rfl
@[simp] theorem itemsD_tup {xs : List D} : itemsD (.tup xs) = some xs := rfl
@[simp] theorem itemsD_lst {xs : List D} : itemsD (.lst xs) = some xs := rfl
@[simp] theorem sRng_ev {f : Env → R (List XV)} : sRng f ρ = (f ρ).bind rngX := rfl
noncomputable def rngK (ρ : Env) : Option (List D) → R Its
  | some [.int n] => cif (-(2 ^ 62) ≤ n ∧ n ≤ 16777216) (.ok ⟨rngL 0 1 n.toNat, none⟩ ρ) .bad
  | some [.int a, .int b] => cif (-(2 ^ 62) ≤ a ∧ a < 2 ^ 62 ∧ -(2 ^ 62) ≤ b ∧ b < 2 ^ 62 ∧ b - a ≤ 16777216) (.ok ⟨rngL a 1 (b - a).toNat, none⟩ ρ) .bad
  | _ => .bad
@[simp] theorem rngK_1 {n : Int} : rngK ρ (some [.int n]) = cif (-(2 ^ 62) ≤ n ∧ n ≤ 16777216) (.ok ⟨rngL 0 1 n.toNat, none⟩ ρ) .bad := rfl
@[simp] theorem rngK_2 {a b : Int} : rngK ρ (some [.int a, .int b]) = cif (-(2 ^ 62) ≤ a ∧ a < 2 ^ 62 ∧ -(2 ^ 62) ≤ b ∧ b < 2 ^ 62 ∧ b - a ≤ 16777216) (.ok ⟨rngL a 1 (b - a).toNat, none⟩ ρ) .bad := rfl
@[simp] theorem rngX_ev {xs : List XV} : rngX xs ρ = rngK ρ (views xs ρ) := by
  unfold rngX rngK
  rfl
@[simp] theorem relk_none {α : Type} {a : α} : relk none (R.ok a ρ) = .ok a ρ := rfl
@[simp] theorem relk_none_exc {α : Type} {c : Str} : relk none (R.exc c ρ : R α) = .exc c ρ := rfl
def relkK {α : Type} (i : Nat) (t : T) (a : α) (ρ : Env) : Option T → R α
  | none => .ok a (pt ρ i (some t))
  | some _ => .bad
@[simp] theorem relkK_n {α : Type} {a : α} {t : T} : relkK i t a ρ none = .ok a (pt ρ i (some t)) := rfl
@[simp] theorem relk_some {α : Type} {a : α} {t : T} : relk (some (i, t)) (R.ok a ρ) = relkK i t a ρ (gt ρ i) := by
  unfold relk unlk relkK
  dsimp only
  cases gt ρ i <;> rfl
@[simp] theorem lkOk_none {L : List Nat} : lkOk L none = true := rfl
@[simp] theorem lkOk_some {L : List Nat} {t : T} : lkOk L (some (i, t)) = L.contains i := rfl
def frK (L : List Nat) (g : D → Env → Option Env) (f : Env → R Fl) (it : Its) (ρ : Env) : R Fl := if lkOk L it.lk = true then relk it.lk (forL g f it.items ρ) else .bad
@[simp] theorem frK_ev {L : List Nat} {g : D → Env → Option Env} {f : Env → R Fl} {it : Its} : frK L g f it ρ = if lkOk L it.lk = true then relk it.lk (forL g f it.items ρ) else .bad := rfl
@[simp] theorem xFr_ev {L : List Nat} {si : Env → R Its} {g : D → Env → Option Env} {f : Env → R Fl} : xFr L si g f ρ = (si ρ).bind (frK L g f) := rfl
@[simp] theorem noX_ok {α : Type} {a : α} : noX (R.ok a ρ) = .ok a ρ := rfl
@[simp] theorem clr_nil : clr [] ρ = ρ := rfl
@[simp] theorem clr_cons {r : List Nat} : clr (i :: r) ρ = pt (clr r ρ) i none := rfl
@[simp] theorem rest_nil {ρ' : Env} : rest [] ρ ρ' = ρ' := rfl
def restK (i : Nat) (ρ' : Env) : Option T → Env
  | some t => pt ρ' i (some t)
  | none => ρ'
@[simp] theorem restK_s {ρ' : Env} {t : T} : restK i ρ' (some t) = pt ρ' i (some t) := rfl
@[simp] theorem restK_n {ρ' : Env} : restK i ρ' none = ρ' := rfl
@[simp] theorem rest_cons {r : List Nat} {ρ' : Env} : rest (i :: r) ρ ρ' = rest r ρ (restK i ρ' (gt (clr r ρ) i)) := by
  show rest r ρ _ = _
  unfold restK
  rfl
def compK2 (own : List Nat) (ρ1 : Env) (es : List D) (ρ2 : Env) : R XV := .ok (.v true (.lst es)) (rest own ρ1 ρ2)
@[simp] theorem compK2_ev {own : List Nat} {ρ1 : Env} {es : List D} : compK2 own ρ1 es ρ = .ok (.v true (.lst es)) (rest own ρ1 ρ) := rfl
def compK (own : List Nat) (g : D → Env → Option Env) (c : Env → R Bool) (f : Env → R XV) (it : Its) (ρ1 : Env) : R XV := relk it.lk ((noX (compL own g c f it.items (clr own ρ1))).bind (compK2 own ρ1))
@[simp] theorem compK_ev {own : List Nat} {g : D → Env → Option Env} {c : Env → R Bool} {f : Env → R XV} {it : Its} : compK own g c f it ρ = relk it.lk ((noX (compL own g c f it.items (clr own ρ))).bind (compK2 own ρ)) := rfl
@[simp] theorem sComp_ev {own : List Nat} {si : Env → R Its} {g : D → Env → Option Env} {c : Env → R Bool} {f : Env → R XV} : sComp own si g c f ρ = (si ρ).bind (compK own g c f) := rfl
@[simp] theorem takeA_nil : takeA [] ρ = some ([], ρ) := rfl
def tkK (t : T) : Option (List T × Env) → Option (List T × Env)
  | some p => some (t :: p.1, p.2)
  | none => none
@[simp] theorem tkK_s {t : T} {l : List T} : tkK t (some (l, ρ)) = some (t :: l, ρ) := rfl
@[simp] theorem takeA_v {xs : List XV} : takeA (.v o d :: xs) ρ = tkK (o, d) (takeA xs ρ) := by
  show (match takeA xs ρ with
    | some p => some ((o, d) :: p.1, p.2)
    | none => none) = _
  unfold tkK
  cases takeA xs ρ <;> rfl
def tkK2 (xs : List XV) (i : Nat) (ρ : Env) : Option T → Option (List T × Env)
  | some t => tkK t (takeA xs (pt ρ i none))
  | none => none
@[simp] theorem tkK2_s {xs : List XV} {t : T} : tkK2 xs i ρ (some t) = tkK t (takeA xs (pt ρ i none)) := rfl
@[simp] theorem takeA_b {xs : List XV} : takeA (.b i :: xs) ρ = tkK2 xs i ρ (gt ρ i) := by
  show (match gt ρ i with
    | some t => (match takeA xs (pt ρ i none) with
      | some p => some (t :: p.1, p.2)
      | none => none)
    | none => none) = _
  unfold tkK2 tkK
  cases gt ρ i with
  | none => rfl
  | some t => cases takeA xs (pt ρ i none) <;> rfl
@[simp] theorem putA_nil {outs : Env} : putA [] outs ρ = ρ := by cases outs <;> rfl
@[simp] theorem putA_v {xs : List XV} {t : Option T} {outs : Env} : putA (.v o d :: xs) (t :: outs) ρ = putA xs outs ρ := rfl
@[simp] theorem putA_b {xs : List XV} {t : T} {outs : Env} : putA (.b i :: xs) (some t :: outs) ρ = putA xs outs (pt ρ i (some t)) := rfl
def alK2 (xs : List XV) (outs : Env) (i : Nat) (ρ : Env) : Option T → R XV
  | some t => .ok (.v t.1 t.2) (putA xs (pt outs i none) ρ)
  | none => .bad
@[simp] theorem alK2_s {xs : List XV} {outs : Env} {t : T} : alK2 xs outs i ρ (some t) = .ok (.v t.1 t.2) (putA xs (pt outs i none) ρ) := rfl
def alK (xs : List XV) (outs : Env) (i : Nat) (ρ : Env) : Option XV → R XV
  | some (.b j) => .ok (.b j) (putA xs outs ρ)
  | some (.v _ _) => alK2 xs outs i ρ (gt outs i)
  | none => .bad
@[simp] theorem alK_b {xs : List XV} {outs : Env} {j : Nat} : alK xs outs i ρ (some (.b j)) = .ok (.b j) (putA xs outs ρ) := rfl
@[simp] theorem alK_v {xs : List XV} {outs : Env} : alK xs outs i ρ (some (.v o d)) = alK2 xs outs i ρ (gt outs i) := rfl
def calK2 (xs : List XV) (ρ : Env) : FR → R XV
  | .ok r outs => .ok (.v r.1 r.2) (putA xs outs ρ)
  | .al i outs => alK xs outs i ρ xs[i]?
  | .exc c => .exc c ρ
  | .bad => .bad
@[simp] theorem calK2_ok {xs : List XV} {r : T} {outs : Env} : calK2 xs ρ (.ok r outs) = .ok (.v r.1 r.2) (putA xs outs ρ) := rfl
@[simp] theorem calK2_al {xs : List XV} {outs : Env} : calK2 xs ρ (.al i outs) = alK xs outs i ρ xs[i]? := rfl
@[simp] theorem calK2_exc {xs : List XV} {c : Str} : calK2 xs ρ (.exc c) = .exc c ρ := rfl
def calK (F : List T → FR) (xs : List XV) : Option (List T × Env) → R XV
  | some p => calK2 xs p.2 (F p.1)
  | none => .bad
@[simp] theorem calK_s {F : List T → FR} {xs : List XV} {ts : List T} : calK F xs (some (ts, ρ)) = calK2 xs ρ (F ts) := rfl
@[simp] theorem opF_ev {F : List T → FR} {xs : List XV} : opF F xs ρ = calK F xs (takeA xs ρ) := by
  unfold opF calK
  cases takeA xs ρ with
  | none => rfl
  | some p =>
    dsimp only
    cases F p.1 with
    | al i outs =>
      dsimp only [calK2]
      unfold alK alK2
      cases xs[i]? with
      | none => rfl
      | some y => cases y <;> rfl
    | _ => rfl
@[simp] theorem sCallF_ev {F : List T → FR} {f : Env → R (List XV)} : sCallF F f ρ = (f ρ).bind (opF F) := rfl
@[simp] theorem keepP_z {pin : List Nat} {j : Nat} : keepP pin 0 j ρ = [] := by cases ρ <;> rfl
@[simp] theorem keepP_s {pin : List Nat} {n j : Nat} {y : Option T} : keepP pin (n + 1) j (y :: ρ) = (if pin.contains j = true then y else none) :: keepP pin n (j + 1) ρ := rfl
def bodyK (np : Nat) (pin : List Nat) : R Fl → FR
  | .ok (.rt t) ρ => .ok t (keepP pin np 0 ρ)
  | .ok .nx ρ => .ok (false, .non) (keepP pin np 0 ρ)
  | .ok (.ra i) ρ => if pin.contains i = true then .al i (keepP pin np 0 ρ) else .bad
  | .exc c _ => .exc c
  | _ => .bad
@[simp] theorem bodyK_rt {np : Nat} {pin : List Nat} {t : T} : bodyK np pin (.ok (.rt t) ρ) = .ok t (keepP pin np 0 ρ) := rfl
@[simp] theorem bodyK_nx {np : Nat} {pin : List Nat} : bodyK np pin (.ok .nx ρ) = .ok (false, .non) (keepP pin np 0 ρ) := rfl
@[simp] theorem bodyK_ra {np : Nat} {pin : List Nat} : bodyK np pin (.ok (.ra i) ρ) = if pin.contains i = true then .al i (keepP pin np 0 ρ) else .bad := rfl
@[simp] theorem bodyK_exc {np : Nat} {pin : List Nat} {c : Str} : bodyK np pin (.exc c ρ) = .exc c := rfl
@[simp] theorem bodyF_ev {np N : Nat} {pin : List Nat} {f : Env → R Fl} {ts : List T} : bodyF np pin N f ts = if ts.length = np then bodyK np pin (f (ts.map some ++ List.replicate (N - np) none)) else .bad := rfl
def chK2 (f' : D → D → Option T) (fc : Env → R XV) (y : XV) (ρ : Env) : Option T → R XV
  | some (_, .bl true) => (fc ρ).bind (op2 f' y)
  | some (_, .bl false) => .ok (.v false (.bl false)) ρ
  | _ => .bad
@[simp] theorem chK2_t {f' : D → D → Option T} {fc : Env → R XV} {y : XV} {o : Bool} : chK2 f' fc y ρ (some (o, .bl true)) = (fc ρ).bind (op2 f' y) := rfl
@[simp] theorem chK2_f {f' : D → D → Option T} {fc : Env → R XV} {y : XV} {o : Bool} : chK2 f' fc y ρ (some (o, .bl false)) = .ok (.v false (.bl false)) ρ := rfl
def chK1 (f f' : D → D → Option T) (fc : Env → R XV) (y : XV) (ρ : Env) : Option D → Option D → R XV
  | some d, some e => chK2 f' fc y ρ (f d e)
  | _, _ => .bad
@[simp] theorem chK1_s {f f' : D → D → Option T} {fc : Env → R XV} {y : XV} {e : D} : chK1 f f' fc y ρ (some d) (some e) = chK2 f' fc y ρ (f d e) := rfl
def chKb (f f' : D → D → Option T) (fc : Env → R XV) (x y : XV) (ρ : Env) : R XV := chK1 f f' fc y ρ (view x ρ) (view y ρ)
@[simp] theorem chKb_ev {f f' : D → D → Option T} {fc : Env → R XV} {y : XV} : chKb f f' fc x y ρ = chK1 f f' fc y ρ (view x ρ) (view y ρ) := rfl
def chKa (f f' : D → D → Option T) (fb fc : Env → R XV) (x : XV) (ρ : Env) : R XV := (fb ρ).bind (chKb f f' fc x)
@[simp] theorem chKa_ev {f f' : D → D → Option T} {fb fc : Env → R XV} : chKa f f' fb fc x ρ = (fb ρ).bind (chKb f f' fc x) := rfl
@[simp] theorem sChain_ev {f f' : D → D → Option T} {fa fb fc : Env → R XV} : sChain f f' fa fb fc ρ = (fa ρ).bind (chKa f f' fb fc) := by
  unfold sChain
  congr 1
end
section
variable {i j : Int} {a b : Str} {xs ys : List D}
@[simp] theorem opAdd_int : opAdd (.int i) (.int j) = some (false, .int (i + j)) := rfl
@[simp] theorem opAdd_tup : opAdd (.tup xs) (.tup ys) = if xs.length + ys.length ≤ lim then some (false, .tup (xs ++ ys)) else none := rfl
@[simp] theorem opAdd_lst : opAdd (.lst xs) (.lst ys) = if xs.length + ys.length ≤ lim then some (true, .lst (xs ++ ys)) else none := rfl
@[simp] theorem opAdd_str : opAdd (.str a) (.str b) = if a.length + b.length ≤ lim then some (false, .str (a ++ b)) else none := rfl
@[simp] theorem opSub_int : opSub (.int i) (.int j) = some (false, .int (i - j)) := rfl
@[simp] theorem opMul_int : opMul (.int i) (.int j) = cif ((-(2 ^ 64) < i ∧ i < 2 ^ 64) ∨ (-(2 ^ 64) < j ∧ j < 2 ^ 64)) (some (false, .int (i * j))) none := rfl
@[simp] theorem opMod_int : opMod (.int i) (.int j) = if j = 0 then none else some (false, .int (i.fmod j)) := rfl
@[simp] theorem opFdv_int : opFdv (.int i) (.int j) = if j ≠ 0 ∧ j.natAbs < 1073741824 then some (false, .int (i.fdiv j)) else none := rfl
@[simp] theorem opPow_int : opPow (.int i) (.int j) = if 0 ≤ j ∧ j ≤ 1000000 ∧ i.natAbs < 2 ^ 64 then some (false, .int (i ^ j.toNat)) else none := rfl
@[simp] theorem opNeg_int : opNeg (.int i) = some (false, .int (-i)) := rfl
@[simp] theorem opLt_int : opLt (.int i) (.int j) = some (false, .bl (decide (i < j))) := rfl
@[simp] theorem opLe_int : opLe (.int i) (.int j) = some (false, .bl (decide (i ≤ j))) := rfl
@[simp] theorem opGt_int : opGt (.int i) (.int j) = some (false, .bl (decide (j < i))) := rfl
@[simp] theorem opGe_int : opGe (.int i) (.int j) = some (false, .bl (decide (j ≤ i))) := rfl
@[simp] theorem opEq_ev {d e : D} : opEq d e = (eqD d e).map fun b => (false, .bl b) := rfl
@[simp] theorem opNe_ev {d e : D} : opNe d e = (eqD d e).map fun b => (false, .bl (!b)) := rfl
@[simp] theorem eqD_int : eqD (.int i) (.int j) = some (decide (i = j)) := rfl
@[simp] theorem eqD_str : eqD (.str a) (.str b) = some (decide (a = b)) := by
  show some (a == b) = _
  congr 1
@[simp] theorem eqD_bl {c d : Bool} : eqD (.bl c) (.bl d) = some (decide (c = d)) := by cases c <;> cases d <;> rfl
@[simp] theorem opIn_ev {d e : D} : opIn d e = (inD d e).map fun b => (false, .bl b) := rfl
@[simp] theorem opNotIn_ev {d e : D} : opNotIn d e = (inD d e).map fun b => (false, .bl (!b)) := rfl
def isNon : D → Bool
  | .non => true
  | _ => false
@[simp] theorem isNon_non : isNon .non = true := rfl
@[simp] theorem isNon_int : isNon (.int i) = false := rfl
@[simp] theorem isNon_str : isNon (.str a) = false := rfl
@[simp] theorem isNon_tup : isNon (.tup xs) = false := rfl
@[simp] theorem isNon_lst : isNon (.lst xs) = false := rfl
@[simp] theorem isNon_bl {c : Bool} : isNon (.bl c) = false := rfl
@[simp] theorem opIsN_ev {d : D} : opIsN d .non = some (false, .bl (isNon d)) := by cases d <;> rfl
@[simp] theorem opIsNotN_ev {d : D} : opIsNotN d .non = some (false, .bl (!isNon d)) := by cases d <;> rfl
@[simp] theorem opIx_tup : opIx (.tup xs) (.int i) = (atI xs i).map fun d => (false, d) := rfl
@[simp] theorem opIx_lst : opIx (.lst xs) (.int i) = (atI xs i).map fun d => (false, d) := rfl
@[simp] theorem opIx_scr {ns : List Int} : opIx (.scr ns) (.int i) = (atI ns i).map fun d => (false, .int d) := rfl
@[simp] theorem opSl_tup {lo hi : Option Int} : opSl (.tup xs) lo hi = some (false, .tup (cut xs lo hi)) := rfl
@[simp] theorem opSl_lst {lo hi : Option Int} : opSl (.lst xs) lo hi = some (true, .lst (cut xs lo hi)) := rfl
@[simp] theorem cfLen_tup : cfLen [.tup xs] = some (false, .int xs.length) := rfl
@[simp] theorem cfLen_lst : cfLen [.lst xs] = some (false, .int xs.length) := rfl
@[simp] theorem cfLen_scr {ns : List Int} : cfLen [.scr ns] = some (false, .int ns.length) := rfl
@[simp] theorem cfLen_str : cfLen [.str a] = if a.length ≤ lim then some (false, .int a.length) else none := rfl
@[simp] theorem cfAll_ev : cfAll [.lst xs] = (blsD xs).map fun bs => (false, .bl (bs.all id)) := rfl
@[simp] theorem cfAny_ev : cfAny [.lst xs] = (blsD xs).map fun bs => (false, .bl (bs.any id)) := rfl
@[simp] theorem cfSum_ev : cfSum [.lst xs] = (intsD xs).map fun bs => (false, .int bs.sum) := rfl
@[simp] theorem cfMax_lst : cfMax [.lst xs] = (intsD xs).bind fun bs => (maxL bs).map fun m => (false, .int m) := rfl
@[simp] theorem cfMax_two : cfMax [.int i, .int j] = some (false, .int (max i j)) := rfl
@[simp] theorem cfMin_lst : cfMin [.lst xs] = (intsD xs).bind fun bs => (minL bs).map fun m => (false, .int m) := rfl
@[simp] theorem cfMin_two : cfMin [.int i, .int j] = some (false, .int (min i j)) := rfl
@[simp] theorem cfInt_int : cfInt [.int i] = some (false, .int i) := rfl
@[simp] theorem cfInt_bl {c : Bool} : cfInt [.bl c] = some (false, .int (if c then 1 else 0)) := rfl
@[simp] theorem cfList_lst : cfList [.lst xs] = some (true, .lst xs) := rfl
@[simp] theorem cfList_tup : cfList [.tup xs] = some (true, .lst xs) := rfl
@[simp] theorem cfTuple_lst : cfTuple [.lst xs] = some (false, .tup xs) := rfl
@[simp] theorem cfTuple_tup : cfTuple [.tup xs] = some (false, .tup xs) := rfl
end
end Lz
namespace Lz
open PySem PySem.Spec PyProof.Rows L2
section
variable {ρ : Env} {g : D → Env → Option Env} {f : Env → R Fl} {d : D} {ds : List D}
@[simp] theorem forL_nil : forL g f [] ρ = .ok .nx ρ := rfl
def forK2 (g : D → Env → Option Env) (f : Env → R Fl) (ds : List D) : R Fl → R Fl
  | .ok .nx ρ2 => forL g f ds ρ2
  | .ok .ct ρ2 => forL g f ds ρ2
  | .ok .bk ρ2 => .ok .nx ρ2
  | .ok (.rt t) ρ2 => .ok (.rt t) ρ2
  | .ok (.ra t) ρ2 => .ok (.ra t) ρ2
  | .exc c ρ2 => .exc c ρ2
  | .bad => .bad
@[simp] theorem forK2_nx : forK2 g f ds (.ok .nx ρ) = forL g f ds ρ := rfl
@[simp] theorem forK2_ct : forK2 g f ds (.ok .ct ρ) = forL g f ds ρ := rfl
@[simp] theorem forK2_bk : forK2 g f ds (.ok .bk ρ) = .ok .nx ρ := rfl
@[simp] theorem forK2_rt {t : T} : forK2 g f ds (.ok (.rt t) ρ) = .ok (.rt t) ρ := rfl
@[simp] theorem forK2_ra {t : Nat} : forK2 g f ds (.ok (.ra t) ρ) = .ok (.ra t) ρ := rfl
@[simp] theorem forK2_exc {c : Str} : forK2 g f ds (.exc c ρ) = .exc c ρ := rfl
def forK1 (g : D → Env → Option Env) (f : Env → R Fl) (ds : List D) : Option Env → R Fl
  | some ρ1 => forK2 g f ds (f ρ1)
  | none => .bad
@[simp] theorem forK1_s : forK1 g f ds (some ρ) = forK2 g f ds (f ρ) := rfl
@[simp] theorem forL_cons : forL g f (d :: ds) ρ = forK1 g f ds (g d ρ) := by
  show (match g d ρ with
    | none => R.bad
    | some ρ1 => match f ρ1 with
      | .ok .nx ρ2 => forL g f ds ρ2
      | .ok .ct ρ2 => forL g f ds ρ2
      | .ok .bk ρ2 => .ok .nx ρ2
      | .ok (.rt t) ρ2 => .ok (.rt t) ρ2
      | .ok (.ra t) ρ2 => .ok (.ra t) ρ2
      | .exc c ρ2 => .exc c ρ2
      | .bad => .bad) = _
  unfold forK1 forK2
  cases g d ρ with
  | none => rfl
  | some ρ1 =>
    cases f ρ1 with
    | ok a ρ2 => cases a <;> rfl
    | _ => rfl
section
variable {own : List Nat} {c : Env → R Bool} {e : Env → R XV}
@[simp] theorem compL_nil : compL own g c e [] ρ = .ok [] ρ := rfl
def cpK5 (d : D) (es : List D) (ρ5 : Env) : R (List D) := .ok (d :: es) ρ5
@[simp] theorem cpK5_ev {es : List D} : cpK5 d es ρ = .ok (d :: es) ρ := rfl
def cpK4 (own : List Nat) (g : D → Env → Option Env) (c : Env → R Bool) (f : Env → R XV) (ds : List D) (d : D) (ρ : Env) : R (List D) := (compL own g c f ds (clr own ρ)).bind (cpK5 d)
@[simp] theorem cpK4_ev : cpK4 own g c e ds d ρ = (compL own g c e ds (clr own ρ)).bind (cpK5 d) := rfl
def cpK3 (own : List Nat) (g : D → Env → Option Env) (c : Env → R Bool) (f : Env → R XV) (ds : List D) (x : XV) (ρ : Env) : R (List D) := (frz x ρ).bind (cpK4 own g c f ds)
@[simp] theorem cpK3_ev {x : XV} : cpK3 own g c e ds x ρ = (frz x ρ).bind (cpK4 own g c e ds) := rfl
def cpK2 (own : List Nat) (g : D → Env → Option Env) (c : Env → R Bool) (f : Env → R XV) (ds : List D) (b : Bool) (ρ : Env) : R (List D) := match b with
  | true => (f ρ).bind (cpK3 own g c f ds)
  | false => compL own g c f ds (clr own ρ)
@[simp] theorem cpK2_t : cpK2 own g c e ds true ρ = (e ρ).bind (cpK3 own g c e ds) := rfl
@[simp] theorem cpK2_f : cpK2 own g c e ds false ρ = compL own g c e ds (clr own ρ) := rfl
def cpK1 (own : List Nat) (g : D → Env → Option Env) (c : Env → R Bool) (f : Env → R XV) (ds : List D) : Option Env → R (List D)
  | some ρ1 => (c ρ1).bind (cpK2 own g c f ds)
  | none => .bad
@[simp] theorem cpK1_s : cpK1 own g c e ds (some ρ) = (c ρ).bind (cpK2 own g c e ds) := rfl
@[simp] theorem compL_cons : compL own g c e (d :: ds) ρ = cpK1 own g c e ds (g d ρ) := by
  show (match g d ρ with
    | none => R.bad
    | some ρ1 => (c ρ1).bind fun b ρ2 => if b = true then (e ρ2).bind fun x ρ3 => (frz x ρ3).bind fun e' ρ4 => (compL own g c e ds (clr own ρ4)).bind fun es ρ5 => .ok (e' :: es) ρ5
      else compL own g c e ds (clr own ρ2)) = _
  unfold cpK1
  cases g d ρ with
  | none => rfl
  | some ρ1 =>
    dsimp only
    congr 1
    funext b ρ2
    cases b <;> rfl
end
section
variable {c : Env → R Bool} {n : Nat}
def whK2 (c : Env → R Bool) (f : Env → R Fl) (n : Nat) : R Fl → R Fl
  | .ok .nx ρ' => xWhile c f n ρ'
  | .ok .ct ρ' => xWhile c f n ρ'
  | .ok .bk ρ' => .ok .nx ρ'
  | .ok (.rt t) ρ' => .ok (.rt t) ρ'
  | .ok (.ra t) ρ' => .ok (.ra t) ρ'
  | .exc c ρ' => .exc c ρ'
  | .bad => .bad
@[simp] theorem whK2_nx : whK2 c f n (.ok .nx ρ) = xWhile c f n ρ := rfl
@[simp] theorem whK2_ct : whK2 c f n (.ok .ct ρ) = xWhile c f n ρ := rfl
@[simp] theorem whK2_bk : whK2 c f n (.ok .bk ρ) = .ok .nx ρ := rfl
@[simp] theorem whK2_rt {t : T} : whK2 c f n (.ok (.rt t) ρ) = .ok (.rt t) ρ := rfl
@[simp] theorem whK2_exc {x : Str} : whK2 c f n (.exc x ρ) = .exc x ρ := rfl
def whK1 (c : Env → R Bool) (f : Env → R Fl) (n : Nat) (b : Bool) (ρ : Env) : R Fl := match b with
  | true => whK2 c f n (f ρ)
  | false => .ok .nx ρ
@[simp] theorem whK1_t : whK1 c f n true ρ = whK2 c f n (f ρ) := rfl
@[simp] theorem whK1_f : whK1 c f n false ρ = .ok .nx ρ := rfl
end
end
end Lz
namespace Lz
@[simp] theorem opMul_tup {xs : List D} {k : Int} : opMul (.tup xs) (.int k) = if xs ≠ [] ∧ 2 ≤ k ∧ k ≤ 1000 ∧ xs.length ≤ 1000 then some (false, .tup (List.replicate k.toNat xs).flatten) else if k = 1 then some (false, .tup xs) else none := rfl
end Lz
namespace Lz
open PySem PySem.Spec PyProof.Rows L2
section
variable {ρ : Env} {c f : Str} {gs : List (Str × Bool × D)} {ds : List D} {i : Nat} {d : D} {o : Bool}
def ownK2 (gs : List (Str × Bool × D)) : Option T → Option (List (Str × Bool × D) × List D)
  | some (true, .lst ds) => some (gs, ds)
  | _ => none
@[simp] theorem ownK2_t : ownK2 gs (some (true, .lst ds)) = some (gs, ds) := rfl
@[simp] theorem ownK2_f : ownK2 gs (some (false, d)) = none := rfl
def ownK (c f : Str) : Option T → Option (List (Str × Bool × D) × List D)
  | some (true, .ob c' gs) => if c' = c then ownK2 gs (gs.lookup f) else none
  | _ => none
@[simp] theorem ownK_t : ownK c f (some (true, .ob c gs)) = ownK2 gs (gs.lookup f) := by unfold ownK; dsimp only; rw [if_pos rfl]
@[simp] theorem ownK_f : ownK c f (some (false, d)) = none := rfl
@[simp] theorem ownF_ev : ownF i c f ρ = ownK c f (gt ρ i) := by
  unfold ownF ownK
  try (cases gt ρ i with
  | none => rfl
  | some t =>
    obtain ⟨o, d⟩ := t
    cases o <;> cases d <;> try rfl)
@[simp] theorem noX_ok' {α : Type} {a : α} : noX (R.ok a ρ) = .ok a ρ := rfl
def ixF4 (i : Nat) (c : Str) (gs : List (Str × Bool × D)) (ρ : Env) : Option T → R XV
  | some t => .ok (.v t.1 t.2) (pt ρ i (some (true, .ob c gs)))
  | none => .bad
@[simp] theorem ixF4_s {t : T} : ixF4 i c gs ρ (some t) = .ok (.v t.1 t.2) (pt ρ i (some (true, .ob c gs))) := rfl
def ixF3 (op : D → D → Option T) (i : Nat) (c : Str) (p : List (Str × Bool × D) × List D) (ρ : Env) : Option T → Option D → R XV
  | none, some d => ixF4 i c p.1 ρ (op (.lst p.2) d)
  | _, _ => .bad
@[simp] theorem ixF3_s {op : D → D → Option T} {p : List (Str × Bool × D) × List D} : ixF3 op i c p ρ none (some d) = ixF4 i c p.1 ρ (op (.lst p.2) d) := rfl
@[simp] theorem ixF2_ev {op : D → D → Option T} {p : List (Str × Bool × D) × List D} {y : XV} : ixF2 op i c p y ρ = ixF3 op i c p ρ (gt ρ i) (view y ρ) := by
  unfold ixF2 ixF3 ixF4
  try (cases gt ρ i <;> cases view y ρ <;> try rfl)
def sOpFK (op : D → D → Option T) (i : Nat) (c f : Str) (fb : Env → R XV) (ρ : Env) : Option (List (Str × Bool × D) × List D) → R XV
  | some p => (noX (fb (pt ρ i none))).bind (ixF2 op i c p)
  | none => sBin op (sFld c f (sVar i)) fb ρ
@[simp] theorem sOpFK_s {op : D → D → Option T} {fb : Env → R XV} {p : List (Str × Bool × D) × List D} : sOpFK op i c f fb ρ (some p) = (noX (fb (pt ρ i none))).bind (ixF2 op i c p) := rfl
@[simp] theorem sOpFK_n {op : D → D → Option T} {fb : Env → R XV} : sOpFK op i c f fb ρ none = sBin op (sFld c f (sVar i)) fb ρ := rfl
@[simp] theorem sOpF_ev {op : D → D → Option T} {fb : Env → R XV} : sOpF op i c f fb ρ = sOpFK op i c f fb ρ (ownF i c f ρ) := by
  unfold sOpF sOpFK
  try (cases ownF i c f ρ <;> rfl)
def oprK3 (ρ : Env) : Option T → R XV
  | some t => .ok (.v t.1 t.2) ρ
  | none => .bad
@[simp] theorem oprK3_s {t : T} : oprK3 ρ (some t) = .ok (.v t.1 t.2) ρ := rfl
def oprK2 (op : D → D → Option T) (ds : List D) (ρ : Env) : Option D → R XV
  | some d => oprK3 ρ (op d (.lst ds))
  | none => .bad
@[simp] theorem oprK2_s {op : D → D → Option T} : oprK2 op ds ρ (some d) = oprK3 ρ (op d (.lst ds)) := rfl
def oprK1 (op : D → D → Option T) (i : Nat) (c f : Str) (x : XV) (ρ : Env) : Option (List (Str × Bool × D) × List D) → R XV
  | some p => oprK2 op p.2 ρ (view x (pt ρ i none))
  | none => (sFld c f (sVar i) ρ).bind (op2 op x)
@[simp] theorem oprK1_s {op : D → D → Option T} {x : XV} {p : List (Str × Bool × D) × List D} : oprK1 op i c f x ρ (some p) = oprK2 op p.2 ρ (view x (pt ρ i none)) := rfl
@[simp] theorem oprK1_n {op : D → D → Option T} {x : XV} : oprK1 op i c f x ρ none = (sFld c f (sVar i) ρ).bind (op2 op x) := rfl
def oprK (op : D → D → Option T) (i : Nat) (c f : Str) (x : XV) (ρ : Env) : R XV := oprK1 op i c f x ρ (ownF i c f ρ)
@[simp] theorem oprK_ev {op : D → D → Option T} {x : XV} : oprK op i c f x ρ = oprK1 op i c f x ρ (ownF i c f ρ) := rfl
@[simp] theorem sOpFR_ev {op : D → D → Option T} {fa : Env → R XV} : sOpFR op fa i c f ρ = (fa ρ).bind (oprK op i c f) := by
  unfold sOpFR
  congr 1
  try (
    funext x ρ1
    unfold oprK oprK1 oprK2 oprK3
    cases ownF i c f ρ1 with
    | none => rfl
    | some p => dsimp only; cases view x (pt ρ1 i none) <;> rfl)
def sClFK (cf : List D → Option T) (i : Nat) (c f : Str) (ρ : Env) : Option (List (Str × Bool × D) × List D) → R XV
  | some p => oprK3 ρ (cf [.lst p.2])
  | none => sCl cf (sCons (sFld c f (sVar i)) sNil) ρ
@[simp] theorem sClFK_s {cf : List D → Option T} {p : List (Str × Bool × D) × List D} : sClFK cf i c f ρ (some p) = oprK3 ρ (cf [.lst p.2]) := rfl
@[simp] theorem sClFK_n {cf : List D → Option T} : sClFK cf i c f ρ none = sCl cf (sCons (sFld c f (sVar i)) sNil) ρ := rfl
@[simp] theorem sClF_ev {cf : List D → Option T} : sClF cf i c f ρ = sClFK cf i c f ρ (ownF i c f ρ) := by
  unfold sClF sClFK oprK3
  try (cases ownF i c f ρ <;> rfl)
def setF3 (i : Nat) (c f : Str) (p : List (Str × Bool × D) × List D) (d : D) (ρ : Env) : Option Nat → Option T → R Fl
  | some m, none => .ok .nx (pt ρ i (some (true, .ob c (putO f (true, .lst (p.2.set m d)) p.1))))
  | _, _ => .bad
@[simp] theorem setF3_s {p : List (Str × Bool × D) × List D} {m : Nat} : setF3 i c f p d ρ (some m) none = .ok .nx (pt ρ i (some (true, .ob c (putO f (true, .lst (p.2.set m d)) p.1)))) := rfl
@[simp] theorem setF2_ev {p : List (Str × Bool × D) × List D} {k : Int} : setF2 i c f p k d ρ = setF3 i c f p d ρ (ixN p.2.length k) (gt ρ i) := by
  unfold setF2 setF3
  try (cases ixN p.2.length k <;> cases gt ρ i <;> rfl)
def setF1K (i : Nat) (c f : Str) (p : List (Str × Bool × D) × List D) (y : XV) (ρ : Env) : Option D → R Fl
  | some (.int k) => (frz y ρ).bind (setF2 i c f p k)
  | _ => .bad
@[simp] theorem setF1K_s {p : List (Str × Bool × D) × List D} {y : XV} {k : Int} : setF1K i c f p y ρ (some (.int k)) = (frz y ρ).bind (setF2 i c f p k) := rfl
@[simp] theorem setF1_ev {p : List (Str × Bool × D) × List D} {y z : XV} : setF1 i c f p y z ρ = setF1K i c f p y ρ (view z ρ) := by
  unfold setF1 setF1K
  try (cases view z ρ with
  | none => rfl
  | some d => cases d <;> rfl)
def setF0K (i : Nat) (c f : Str) (fi : Env → R XV) (y : XV) (ρ : Env) : Option (List (Str × Bool × D) × List D) → R Fl
  | some p => (noX (fi (pt ρ i none))).bind (setF1 i c f p y)
  | none => .bad
@[simp] theorem setF0K_s {fi : Env → R XV} {y : XV} {p : List (Str × Bool × D) × List D} : setF0K i c f fi y ρ (some p) = (noX (fi (pt ρ i none))).bind (setF1 i c f p y) := rfl
def setF0 (i : Nat) (c f : Str) (fi : Env → R XV) (y : XV) (ρ : Env) : R Fl := setF0K i c f fi y ρ (ownF i c f ρ)
@[simp] theorem setF0_ev {fi : Env → R XV} {y : XV} : setF0 i c f fi y ρ = setF0K i c f fi y ρ (ownF i c f ρ) := rfl
@[simp] theorem xSetF_ev {fe fi : Env → R XV} : xSetF fe i c f fi ρ = (fe ρ).bind (setF0 i c f fi) := by
  unfold xSetF
  congr 1
  try (
    funext y ρ1
    unfold setF0 setF0K
    cases ownF i c f ρ1 <;> rfl)
def frzFK2 (i : Nat) (c f : Str) (gs : List (Str × Bool × D)) (ρ : Env) : Option T → Env
  | some t => pt ρ i (some (true, .ob c (putO f (false, t.2) gs)))
  | none => ρ
@[simp] theorem frzFK2_s {t : T} : frzFK2 i c f gs ρ (some t) = pt ρ i (some (true, .ob c (putO f (false, t.2) gs))) := rfl
def frzFK (i : Nat) (f : Str) (ρ : Env) : Option T → Env
  | some (true, .ob c gs) => frzFK2 i c f gs ρ (gs.lookup f)
  | _ => ρ
@[simp] theorem frzFK_s : frzFK i f ρ (some (true, .ob c gs)) = frzFK2 i c f gs ρ (gs.lookup f) := rfl
@[simp] theorem frzF_ev : frzF i f ρ = frzFK i f ρ (gt ρ i) := by
  unfold frzF frzFK frzFK2
  try (cases gt ρ i with
  | none => rfl
  | some t =>
    obtain ⟨o, d⟩ := t
    cases o <;> cases d <;> rfl)
def frzLK (i : Nat) (ρ : Env) : Option T → Env
  | some (true, .lol rs) => pt ρ i (some (true, .lst rs))
  | _ => ρ
@[simp] theorem frzLK_s : frzLK i ρ (some (true, .lol ds)) = pt ρ i (some (true, .lst ds)) := rfl
@[simp] theorem frzL_ev : frzL i ρ = frzLK i ρ (gt ρ i) := by
  unfold frzL frzLK
  try (cases gt ρ i with
  | none => rfl
  | some t =>
    obtain ⟨o, d⟩ := t
    cases o <;> cases d <;> rfl)
@[simp] theorem xGh_ev {g : Env → Env} {h : Env → R Fl} : xGh g h ρ = h (g ρ) := rfl
def setL4 (i m1 : Nat) (rows ds : List D) (d : D) (ρ : Env) : Option Nat → R Fl
  | some m2 => .ok .nx (pt ρ i (some (true, .lol (rows.set m1 (.lst (ds.set m2 d))))))
  | none => .bad
@[simp] theorem setL4_s {m1 m2 : Nat} {rows : List D} : setL4 i m1 rows ds d ρ (some m2) = .ok .nx (pt ρ i (some (true, .lol (rows.set m1 (.lst (ds.set m2 d)))))) := rfl
def setL5 (i m1 : Nat) (k2 : Int) (rows : List D) (d : D) (ρ : Env) : Option D → R Fl
  | some (.lst ds) => setL4 i m1 rows ds d ρ (ixN ds.length k2)
  | _ => .bad
@[simp] theorem setL5_s {m1 : Nat} {k2 : Int} {rows : List D} : setL5 i m1 k2 rows d ρ (some (.lst ds)) = setL4 i m1 rows ds d ρ (ixN ds.length k2) := rfl
def setL6 (i : Nat) (k2 : Int) (rows : List D) (d : D) (ρ : Env) : Option Nat → R Fl
  | some m1 => setL5 i m1 k2 rows d ρ rows[m1]?
  | none => .bad
@[simp] theorem setL6_s {m1 : Nat} {k2 : Int} {rows : List D} : setL6 i k2 rows d ρ (some m1) = setL5 i m1 k2 rows d ρ rows[m1]? := rfl
def setL7 (i : Nat) (d : D) (ρ : Env) : Option T → Option T → Option T → R Fl
  | some (true, .lol rows), some (false, .int k1), some (false, .int k2) => setL6 i k2 rows d ρ (ixN rows.length k1)
  | _, _, _ => .bad
@[simp] theorem setL7_s {rows : List D} {k1 k2 : Int} : setL7 i d ρ (some (true, .lol rows)) (some (false, .int k1)) (some (false, .int k2)) = setL6 i k2 rows d ρ (ixN rows.length k1) := rfl
@[simp] theorem setL2_ev {j1 j2 : Nat} : setL2 i j1 j2 d ρ = setL7 i d ρ (gt ρ i) (gt ρ j1) (gt ρ j2) := by
  unfold setL2 setL7 setL6 setL5 setL4
  try rfl
def setL1 (i j1 j2 : Nat) (y : XV) (ρ : Env) : R Fl := (frz y ρ).bind (setL2 i j1 j2)
@[simp] theorem setL1_ev {j1 j2 : Nat} {y : XV} : setL1 i j1 j2 y ρ = (frz y ρ).bind (setL2 i j1 j2) := rfl
@[simp] theorem xSetL2_ev {fe : Env → R XV} {j1 j2 : Nat} : xSetL2 fe i j1 j2 ρ = (fe ρ).bind (setL1 i j1 j2) := rfl
end
end Lz
namespace Lz
open PySem PySem.Spec PyProof.Rows L2
end Lz
namespace Lz
open PySem PySem.Spec PyProof.Rows L2

def okN (n : Nat) (d : D) : Prop := d.toPy.canLay0 = true ∧ d.toPy.depth ≤ n
theorem okD_of {d : D} {n : Nat} (h : okN n d) (hn : n ≤ 64) : okD d = true := by
  unfold okD SeqAt.shaped
  rw [h.1, Bool.true_and]
  exact decide_eq_true (Nat.le_trans h.2 hn)
theorem okN_mono {d : D} {n m : Nat} (h : okN n d) (hn : n ≤ m) : okN m d := ⟨h.1, Nat.le_trans h.2 hn⟩
theorem okN_bl {n : Nat} {b : Bool} : okN n (.bl b) := ⟨rfl, Nat.zero_le _⟩
theorem okN_int {n : Nat} {i : Int} : okN n (.int i) := ⟨rfl, Nat.zero_le _⟩
theorem okN_str {n : Nat} {z : Str} (h : PyData.strOk z = true) : okN n (.str z) := ⟨h, Nat.zero_le _⟩
theorem lays_of : ∀ {xs : List D}, (∀ x ∈ xs, x.toPy.canLay0 = true) → PyData.canLayAll0 (D.toPys xs) = true
  | [], _ => by rw [D.toPys]; rfl
  | x :: xs, h => by
    rw [D.toPys, PyData.canLayAll0, h x List.mem_cons_self, Bool.true_and]
    exact lays_of fun y hy => h y (List.mem_cons_of_mem _ hy)
theorem deps_of {n : Nat} : ∀ {xs : List D}, (∀ x ∈ xs, x.toPy.depth ≤ n) → PyData.depthAll (D.toPys xs) ≤ n
  | [], _ => by rw [D.toPys]; exact Nat.zero_le _
  | x :: xs, h => by
    rw [D.toPys, PyData.depthAll]
    exact Nat.max_le.mpr ⟨h x List.mem_cons_self, deps_of fun y hy => h y (List.mem_cons_of_mem _ hy)⟩
theorem okN_tup {n : Nat} {xs : List D} (h : ∀ x ∈ xs, okN n x) : okN (n + 1) (.tup xs) := by
  refine ⟨?_, ?_⟩
  · rw [D.toPy, PyData.canLay0]; exact lays_of fun x hx => (h x hx).1
  · rw [D.toPy, PyData.depth]; exact Nat.succ_le_succ (deps_of fun x hx => (h x hx).2)
theorem okN_lst {n : Nat} {xs : List D} (h : ∀ x ∈ xs, okN n x) : okN (n + 1) (.lst xs) := by
  refine ⟨?_, ?_⟩
  · rw [D.toPy, PyData.canLay0]; exact lays_of fun x hx => (h x hx).1
  · rw [D.toPy, PyData.depth]; exact Nat.succ_le_succ (deps_of fun x hx => (h x hx).2)
theorem toPys_ints : ∀ ns : List Int, ns.map PyData.int = D.toPys (ns.map D.int)
  | [] => by rw [List.map_nil, List.map_nil, D.toPys]
  | n :: ns => by rw [List.map_cons, List.map_cons, D.toPys, D.toPy, toPys_ints ns]
theorem okN_scr {n : Nat} {ns : List Int} : okN (n + 1) (.scr ns) := by
  have h : okN (n + 1) (.lst (ns.map D.int)) := okN_lst fun x hx => by
    obtain ⟨i, _, rfl⟩ := List.mem_map.mp hx
    exact okN_int
  have e : (D.scr ns).toPy = (D.lst (ns.map D.int)).toPy := by rw [D.toPy, D.toPy, toPys_ints]
  unfold okN at h ⊢
  rw [e]
  exact h

-- True and False as whole numbers
mutual
def nrm : D → D
  | .bl b => .int (if b then 1 else 0)
  | .tup xs => .tup (nrms xs)
  | .lst xs => .lst (nrms xs)
  | .scr ns => .lst (ns.map .int)
  | d => d
def nrms : List D → List D
  | [] => []
  | x :: xs => nrm x :: nrms xs
end
mutual
def nP : PyData → PyData
  | .bool b => .int (if b then 1 else 0)
  | .list xs => .list (nPs xs)
  | .tuple xs => .tuple (nPs xs)
  | d => d
def nPs : List PyData → List PyData
  | [] => []
  | x :: xs => nP x :: nPs xs
end
mutual
theorem eqv_nP : ∀ x y : PyData, x.canLay0 = true → y.canLay0 = true → (PyData.eqv x y = true ↔ nP x = nP y)
  | .none, y, _, hy => by cases y <;> simp [PyData.eqv, nP, PyData.canLay0] at hy ⊢
  | .bool a, y, _, hy => by
    cases y <;> simp [PyData.eqv, nP, PyData.canLay0] at hy ⊢
    · rename_i b
      cases a <;> cases b <;> simp
  | .int a, y, _, hy => by cases y <;> simp [PyData.eqv, nP, PyData.canLay0] at hy ⊢
  | .str a, y, _, hy => by cases y <;> simp [PyData.eqv, nP, PyData.canLay0] at hy ⊢
  | .list xs, y, hx, hy => by
    cases y with
    | list ys =>
      rw [PyData.canLay0] at hx hy
      rw [PyData.eqv, nP, nP]
      simpa using eqv_nPs xs ys hx hy
    | _ => simp [PyData.eqv, nP, PyData.canLay0] at hy ⊢
  | .tuple xs, y, hx, hy => by
    cases y with
    | tuple ys =>
      rw [PyData.canLay0] at hx hy
      rw [PyData.eqv, nP, nP]
      simpa using eqv_nPs xs ys hx hy
    | _ => simp [PyData.eqv, nP, PyData.canLay0] at hy ⊢
  | .dict _, y, hx, _ => by simp [PyData.canLay0] at hx
theorem eqv_nPs : ∀ xs ys : List PyData, PyData.canLayAll0 xs = true → PyData.canLayAll0 ys = true → (PyData.eqvAll xs ys = true ↔ nPs xs = nPs ys)
  | [], [], _, _ => by simp [PyData.eqvAll, nPs]
  | [], y :: ys, _, _ => by simp [PyData.eqvAll, nPs]
  | x :: xs, [], _, _ => by simp [PyData.eqvAll, nPs]
  | x :: xs, y :: ys, hx, hy => by
    rw [PyData.canLayAll0, Bool.and_eq_true] at hx hy
    rw [PyData.eqvAll, nPs, nPs, Bool.and_eq_true, eqv_nP x y hx.1 hy.1, eqv_nPs xs ys hx.2 hy.2]
    simp
end
end Lz
namespace Lz
open PySem PySem.Spec PyProof.Rows L2
mutual
def ofP : PyData → D
  | .none => .non
  | .bool b => .bl b
  | .int i => .int i
  | .str s => .str s
  | .list xs => .lst (ofPs xs)
  | .tuple xs => .tup (ofPs xs)
  | .dict _ => .non
def ofPs : List PyData → List D
  | [] => []
  | x :: xs => ofP x :: ofPs xs
end
theorem ofPs_ints : ∀ ns : List Int, ofPs (nPs (ns.map PyData.int)) = ns.map D.int
  | [] => by simp [nPs, ofPs]
  | n :: ns => by
    rw [List.map_cons, List.map_cons, nPs, nP, ofPs, ofP, ofPs_ints ns]
    intro b; exact nofun
    all_goals exact nofun
mutual
theorem ofP_nP : ∀ d : D, d.toPy.canLay0 = true → ofP (nP d.toPy) = nrm d
  | .non, _ => by simp [D.toPy, nP, ofP, nrm]
  | .bl b, _ => by simp [D.toPy, nP, ofP, nrm]
  | .int i, _ => by simp [D.toPy, nP, ofP, nrm]
  | .str s, _ => by simp [D.toPy, nP, ofP, nrm]
  | .tup xs, h => by
    rw [D.toPy, PyData.canLay0] at h
    simp [D.toPy, nP, ofP, nrm, ofPs_nPs xs h]
  | .lst xs, h => by
    rw [D.toPy, PyData.canLay0] at h
    simp [D.toPy, nP, ofP, nrm, ofPs_nPs xs h]
  | .scr ns, h => by
    simp [D.toPy, nP, ofP, nrm, ofPs_ints]
  | .dct _, h => by simp [D.toPy, PyData.canLay0] at h
  | .dk _, h => by simp [D.toPy, PyData.canLay0] at h
  | .dkl _ _, h => by simp [D.toPy, PyData.canLay0] at h
  | .lol _, h => by simp [D.toPy, PyData.canLay0] at h
  | .pin _, h => by simp [D.toPy, PyData.canLay0] at h
  | .fn _, h => by simp [D.toPy, PyData.canLay0] at h
  | .xc _, h => by simp [D.toPy, PyData.canLay0] at h
  | .obj _ _, h => by simp [D.toPy, PyData.canLay0] at h
  | .ob _ _, h => by simp [D.toPy, PyData.canLay0] at h
theorem ofPs_nPs : ∀ xs : List D, PyData.canLayAll0 (D.toPys xs) = true → ofPs (nPs (D.toPys xs)) = nrms xs
  | [], _ => by simp [D.toPys, nPs, ofPs, nrms]
  | x :: xs, h => by
    rw [D.toPys, PyData.canLayAll0, Bool.and_eq_true] at h
    simp [D.toPys, nPs, ofPs, nrms, ofP_nP x h.1, ofPs_nPs xs h.2]
end
theorem nPs_ints : ∀ ns : List Int, nPs (ns.map PyData.int) = D.toPys (ns.map D.int)
  | [] => by simp [nPs, D.toPys]
  | n :: ns => by simp [nPs, nP, D.toPys, D.toPy, nPs_ints ns]
mutual
theorem nP_toPy : ∀ d : D, d.toPy.canLay0 = true → nP d.toPy = (nrm d).toPy
  | .non, _ => by simp [D.toPy, nP, nrm]
  | .bl b, _ => by simp [D.toPy, nP, nrm]
  | .int i, _ => by simp [D.toPy, nP, nrm]
  | .str s, _ => by simp [D.toPy, nP, nrm]
  | .tup xs, h => by
    rw [D.toPy, PyData.canLay0] at h
    simp [D.toPy, nP, nrm, nPs_toPys xs h]
  | .lst xs, h => by
    rw [D.toPy, PyData.canLay0] at h
    simp [D.toPy, nP, nrm, nPs_toPys xs h]
  | .scr ns, h => by simp [D.toPy, nP, nrm, nPs_ints]
  | .dct _, h => by simp [D.toPy, PyData.canLay0] at h
  | .dk _, h => by simp [D.toPy, PyData.canLay0] at h
  | .dkl _ _, h => by simp [D.toPy, PyData.canLay0] at h
  | .lol _, h => by simp [D.toPy, PyData.canLay0] at h
  | .pin _, h => by simp [D.toPy, PyData.canLay0] at h
  | .fn _, h => by simp [D.toPy, PyData.canLay0] at h
  | .xc _, h => by simp [D.toPy, PyData.canLay0] at h
  | .obj _ _, h => by simp [D.toPy, PyData.canLay0] at h
  | .ob _ _, h => by simp [D.toPy, PyData.canLay0] at h
theorem nPs_toPys : ∀ xs : List D, PyData.canLayAll0 (D.toPys xs) = true → nPs (D.toPys xs) = D.toPys (nrms xs)
  | [], _ => by simp [D.toPys, nPs, nrms]
  | x :: xs, h => by
    rw [D.toPys, PyData.canLayAll0, Bool.and_eq_true] at h
    simp [D.toPys, nPs, nrms, nP_toPy x h.1, nPs_toPys xs h.2]
end
theorem eqv_iff {d e : D} (hd : d.toPy.canLay0 = true) (he : e.toPy.canLay0 = true) : PyData.eqv d.toPy e.toPy = true ↔ nrm d = nrm e := by
  rw [eqv_nP _ _ hd he]
  constructor
  · intro h
    rw [← ofP_nP d hd, ← ofP_nP e he, h]
  · intro h
    rw [nP_toPy d hd, nP_toPy e he, h]
/-- what == tells of data that is not too deep -/
theorem eqD_ok {d e : D} {n m : Nat} (hd : okN n d) (he : okN m e) (hn : n ≤ 64) (hm : m ≤ 64) : ∃ b, eqD d e = some b ∧ (b = true ↔ nrm d = nrm e) := by
  have gen : (if okD d = true ∧ okD e = true then some (PyData.eqv d.toPy e.toPy) else none) = some (PyData.eqv d.toPy e.toPy) := if_pos ⟨okD_of hd hn, okD_of he hm⟩
  have iff := eqv_iff hd.1 he.1
  unfold eqD
  split
  · rename_i i j
    exact ⟨_, rfl, by simp [nrm]⟩
  · rename_i i j
    exact ⟨_, rfl, by simp [nrm]⟩
  · rename_i i j
    exact ⟨_, rfl, by cases i <;> cases j <;> simp [nrm]⟩
  · exact ⟨_, rfl, by simp [nrm]⟩
  · exact ⟨_, gen, iff⟩
theorem eqD_t {d e : D} {n m : Nat} (hd : okN n d) (he : okN m e) (hn : n ≤ 64) (hm : m ≤ 64) (h : nrm d = nrm e) : eqD d e = some true := by
  obtain ⟨b, h1, h2⟩ := eqD_ok hd he hn hm
  rw [h1, h2.mpr h]
theorem eqD_f {d e : D} {n m : Nat} (hd : okN n d) (he : okN m e) (hn : n ≤ 64) (hm : m ≤ 64) (h : nrm d ≠ nrm e) : eqD d e = some false := by
  obtain ⟨b, h1, h2⟩ := eqD_ok hd he hn hm
  rw [h1]
  cases b with
  | false => rfl
  | true => exact absurd (h2.mp rfl) h
/-- in a list -/
theorem inL_ok {d : D} {ys : List D} {n m : Nat} (hd : okN n d) (hy : ∀ y ∈ ys, okN m y) (hn : n ≤ 64) (hm : m < 64) : ∃ b, inD d (.lst ys) = some b ∧ (b = true ↔ ∃ y ∈ ys, nrm y = nrm d) := by
  have e : inD d (.lst ys) = (if flatD d = true ∧ ys.all flatD = true then some (ys.any fun y => eqF y d) else if okD d = true ∧ okD (.lst ys) = true then some (ys.any fun y => PyData.eqv y.toPy d.toPy) else none) := by
    cases d <;> rfl
  rw [e]
  by_cases hf : flatD d = true ∧ ys.all flatD = true
  · rw [if_pos hf]
    refine ⟨_, rfl, ?_⟩
    rw [List.any_eq_true]
    have key : ∀ y ∈ ys, (eqF y d = true ↔ nrm y = nrm d) := fun y hy' => by
      have f1 := List.all_eq_true.mp hf.2 y hy'
      have f2 := hf.1
      cases y <;> first | (cases f1; done) | skip
      all_goals (cases d <;> first | (cases f2; done) | skip)
      all_goals (simp [eqF, nrm])
      · rename_i a b; cases a <;> cases b <;> simp
    constructor
    · rintro ⟨y, h1, h2⟩; exact ⟨y, h1, (key y h1).mp h2⟩
    · rintro ⟨y, h1, h2⟩; exact ⟨y, h1, (key y h1).mpr h2⟩
  · rw [if_neg hf, if_pos ⟨okD_of hd hn, okD_of (okN_lst hy) hm⟩]
    refine ⟨_, rfl, ?_⟩
    rw [List.any_eq_true]
    constructor
    · rintro ⟨y, h1, h2⟩; exact ⟨y, h1, (eqv_iff (hy y h1).1 hd.1).mp h2⟩
    · rintro ⟨y, h1, h2⟩; exact ⟨y, h1, (eqv_iff (hy y h1).1 hd.1).mpr h2⟩
end Lz
namespace Lz
open PySem PySem.Spec PyProof.Rows L2
/-- w tells things as data, no two alike, not deeper than n -/
structure PT {α : Type} (w : α → D) (n : Nat) : Prop where
  ok : ∀ x, okN n (w x)
  inj : ∀ x y, nrm (w x) = nrm (w y) → x = y
theorem PT.bl : PT D.bl 0 := ⟨fun _ => okN_bl, fun x y h => by cases x <;> cases y <;> simp [nrm] at h ⊢⟩
theorem PT.int : PT D.int 0 := ⟨fun _ => okN_int, fun x y h => by simpa [nrm] using h⟩
theorem PT.nat : PT (fun k : Nat => D.int k) 0 := ⟨fun _ => okN_int, fun x y h => by simp [nrm] at h; omega⟩
theorem nrms_inj {α : Type} {w : α → D} {n : Nat} (p : PT w n) : ∀ {xs ys : List α}, nrms (xs.map w) = nrms (ys.map w) → xs = ys
  | [], [], _ => rfl
  | [], _ :: _, h => by simp [nrms] at h
  | _ :: _, [], h => by simp [nrms] at h
  | x :: xs, y :: ys, h => by
    simp only [List.map_cons, nrms, List.cons.injEq] at h
    rw [p.inj x y h.1, nrms_inj p h.2]
theorem PT.tup {α : Type} {w : α → D} {n : Nat} (p : PT w n) : PT (fun l : List α => D.tup (l.map w)) (n + 1) :=
  ⟨fun l => okN_tup fun x hx => by obtain ⟨y, _, rfl⟩ := List.mem_map.mp hx; exact p.ok y, fun x y h => nrms_inj p (by simpa [nrm] using h)⟩
theorem PT.lst {α : Type} {w : α → D} {n : Nat} (p : PT w n) : PT (fun l : List α => D.lst (l.map w)) (n + 1) :=
  ⟨fun l => okN_lst fun x hx => by obtain ⟨y, _, rfl⟩ := List.mem_map.mp hx; exact p.ok y, fun x y h => nrms_inj p (by simpa [nrm] using h)⟩
theorem PT.mono {α : Type} {w : α → D} {n m : Nat} (p : PT w n) (h : n ≤ m) : PT w m := ⟨fun x => okN_mono (p.ok x) h, p.inj⟩
theorem PT.pair {α β : Type} {w : α → D} {v : β → D} {n : Nat} (p : PT w n) (q : PT v n) : PT (fun x : α × β => D.tup [w x.1, v x.2]) (n + 1) :=
  ⟨fun x => okN_tup fun y hy => by
    rcases List.mem_cons.mp hy with rfl | hy
    · exact p.ok _
    · rw [List.mem_singleton.mp hy]; exact q.ok _, fun x y h => by
    simp [nrm, nrms] at h
    exact Prod.ext (p.inj _ _ h.1) (q.inj _ _ h.2)⟩
theorem PT.eqD {α : Type} [DecidableEq α] {w : α → D} {n : Nat} (p : PT w n) (hn : n ≤ 64) (x y : α) : Lz.eqD (w x) (w y) = some (decide (x = y)) := by
  by_cases h : x = y
  · subst h
    rw [eqD_t (p.ok x) (p.ok x) hn hn rfl, decide_eq_true rfl]
  · rw [eqD_f (p.ok x) (p.ok y) hn hn fun e => h (p.inj x y e), decide_eq_false h]
theorem PT.opEq {α : Type} [DecidableEq α] {w : α → D} {n : Nat} (p : PT w n) (hn : n ≤ 64) (x y : α) : Lz.opEq (w x) (w y) = some (false, .bl (decide (x = y))) := by unfold Lz.opEq; rw [p.eqD hn]; rfl
theorem PT.opNe {α : Type} [DecidableEq α] {w : α → D} {n : Nat} (p : PT w n) (hn : n ≤ 64) (x y : α) : Lz.opNe (w x) (w y) = some (false, .bl (!decide (x = y))) := by unfold Lz.opNe; rw [p.eqD hn]; rfl
theorem PT.inD {α : Type} [DecidableEq α] {w : α → D} {n : Nat} (p : PT w n) (hn : n < 64) (x : α) (l : List α) : Lz.inD (w x) (.lst (l.map w)) = some (decide (x ∈ l)) := by
  obtain ⟨b, h1, h2⟩ := inL_ok (n := n) (m := n) (d := w x) (ys := l.map w) (p.ok x) (fun y hy => by obtain ⟨z, _, rfl⟩ := List.mem_map.mp hy; exact p.ok z) (by omega) hn
  rw [h1]
  congr 1
  have h3 : b = true ↔ x ∈ l := by
    rw [h2]
    constructor
    · rintro ⟨y, hy, e⟩
      obtain ⟨z, hz, rfl⟩ := List.mem_map.mp hy
      rw [← p.inj z x e]
      exact hz
    · exact fun hx => ⟨w x, List.mem_map_of_mem hx, rfl⟩
  cases b with
  | true => exact (decide_eq_true (h3.mp rfl)).symm
  | false => exact (decide_eq_false fun e => absurd (h3.mpr e) Bool.false_ne_true).symm
/-- the first place of a thing -/
def ixOf {α : Type} [DecidableEq α] (x : α) : List α → Nat
  | [] => 0
  | y :: l => if y = x then 0 else ixOf x l + 1
theorem ixOf_get {α : Type} [DecidableEq α] {x : α} : ∀ {l : List α}, x ∈ l → l[ixOf x l]? = some x
  | y :: l, h => by
    unfold ixOf
    by_cases e : y = x
    · rw [if_pos e, e]; rfl
    · rw [if_neg e]
      have hm : x ∈ l := by
        rcases List.mem_cons.mp h with h | h
        · exact absurd h.symm e
        · exact h
      rw [List.getElem?_cons_succ]
      exact ixOf_get hm
theorem ixOf_app {α : Type} [DecidableEq α] {x : α} : ∀ {l r : List α}, x ∈ l → ixOf x (l ++ r) = ixOf x l
  | y :: l, r, h => by
    rw [List.cons_append]
    unfold ixOf
    by_cases e : y = x
    · rw [if_pos e, if_pos e]
    · rw [if_neg e, if_neg e]
      have hm : x ∈ l := by
        rcases List.mem_cons.mp h with h | h
        · exact absurd h.symm e
        · exact h
      rw [ixOf_app hm]
theorem fstEq_map {α : Type} [DecidableEq α] {w : α → D} {n : Nat} (p : PT w n) (x : α) : ∀ (l : List α) (k : Nat), x ∈ l → fstEq (w x).toPy (D.toPys (l.map w)) k = some (k + ixOf x l)
  | [], _, h => by cases h
  | y :: l, k, h => by
    have iff := eqv_iff (p.ok y).1 (p.ok x).1
    rw [List.map_cons, D.toPys]
    unfold fstEq ixOf
    by_cases e : y = x
    · subst e
      rw [if_pos (iff.mpr rfl), if_pos rfl]
      rfl
    · rw [if_neg fun q => e (p.inj y x (iff.mp q)), if_neg e]
      have hm : x ∈ l := by
        rcases List.mem_cons.mp h with h | h
        · exact absurd h.symm e
        · exact h
      rw [fstEq_map p x l (k + 1) hm]
      congr 1
      omega
theorem PT.index {α : Type} [DecidableEq α] {w : α → D} {n : Nat} (p : PT w n) (hn : n < 64) {x : α} {l : List α} (h : x ∈ l) : mfLIndex (.lst (l.map w)) [w x] = some (false, .int (ixOf x l : Nat)) := by
  have h1 : okD (.lst (l.map w)) = true := okD_of (p.lst.ok l) (by omega)
  have h2 : okD (w x) = true := okD_of (p.ok x) (by omega)
  show (if okD (.lst (l.map w)) = true ∧ okD (w x) = true then (fstEq (w x).toPy (D.toPys (l.map w)) 0).map fun j => ((false, D.int (j : Nat)) : T) else none) = _
  rw [if_pos ⟨h1, h2⟩, fstEq_map p x l 0 h, Nat.zero_add]
  rfl
end Lz
namespace Lz
open PySem PySem.Spec PyProof.Rows L2
noncomputable section
def b_parts_of : Env → R Fl := (xSeq (xIf (sB (sBin opEq (sBin opIx (sVar 0) (sC (.int 0))) (sC (.str "lamp")))) (xSeq (xRet 1 (sTup sNil)) xNx) xNx) (xSeq (xRet 1 (sSl opSl (sVar 0) (some (sC (.int 1))) none)) xNx))
def F_parts_of : List T → FR := bodyF 1 [0] 1 b_parts_of
def b_l_cell_at : Env → R Fl := (xSeq (xIf (sB (sBin opLt (sVar 1) (sCl cfLen (sCons (sVar 0) sNil)))) (xSeq (xRet 2 (sBin opIx (sVar 0) (sVar 1))) xNx) xNx) (xSeq (xIf (sB (sBin opEq (sVar 0) (sLst sNil))) (xSeq (xRet 2 (sC (.int 0))) xNx) xNx) (xSeq (xRet 2 (sBin opAdd (sBin opMul (sBin opIx (sVar 0) (sBin opMod (sVar 1) (sCl cfLen (sCons (sVar 0) sNil)))) (sC (.int 31))) (sVar 1))) xNx)))
def F_l_cell_at : List T → FR := bodyF 2 [0, 1] 2 b_l_cell_at
def b_l_mixed : Env → R Fl := (xSeq (xSt 3 (sBin opMod (sBin opMul (sBin opAdd (sBin opAdd (sCallF F_l_cell_at (sCons (sVar 0) (sCons (sVar 1) sNil))) (sBin opMul (sC (.int 7919)) (sVar 1))) (sC (.int 1))) (sC (.int 48271))) (sC (.int 2147483647)))) (xSeq (xRet 3 (sBin opMod (sBin opMod (sBin opAdd (sBin opAdd (sBin opMul (sVar 3) (sVar 3)) (sBin opMul (sC (.int 7)) (sVar 3))) (sVar 1)) (sC (.int 2147483629))) (sVar 2))) xNx))
def F_l_mixed : List T → FR := bodyF 3 [0, 1, 2] 4 b_l_mixed
def b_l_next : Env → R Fl := (xSeq (xSetI (sBin opAdd (sBin opIx (sVar 1) (sC (.int 0))) (sC (.int 1))) (sVar 1) (sC (.int 0))) (xSeq (xRet 3 (sCallF F_l_mixed (sCons (sVar 0) (sCons (sBin opIx (sVar 1) (sC (.int 0))) (sCons (sVar 2) sNil))))) xNx))
def F_l_next : List T → FR := bodyF 3 [0, 1, 2] 3 b_l_next
def b_l_saying (r : List T → FR) : Env → R Fl := (xSeq (xSt 5 (sCallF F_l_next (sCons (sVar 0) (sCons (sVar 1) (sCons (sC (.int 13)) sNil))))) (xSeq (xIf (bOr (sB (sBin opEq (sVar 3) (sC (.int 0)))) (sB (sBin opLt (sVar 5) (sC (.int 3))))) (xSeq (xRet 5 (sTup (sCons (sC (.str "lamp")) (sCons (sBin opIx (sVar 2) (sCallF F_l_next (sCons (sVar 0) (sCons (sVar 1) (sCons (sCl cfLen (sCons (sVar 2) sNil)) sNil))))) sNil)))) xNx) xNx) (xSeq (xIf (sB (sBin opEq (sVar 5) (sC (.int 3)))) (xSeq (xRet 5 (sTup (sCons (sBin opIx (sLst (sCons (sC (.str "yes")) (sCons (sC (.str "no")) sNil))) (sCallF F_l_next (sCons (sVar 0) (sCons (sVar 1) (sCons (sC (.int 2)) sNil))))) sNil))) xNx) xNx) (xSeq (xIf (bAnd (sB (sBin opGt (sVar 5) (sC (.int 8)))) (sB (sBin opGt (sBin opIx (sVar 4) (sC (.int 0))) (sC (.int 0))))) (xSeq (xSetI (sBin opSub (sBin opIx (sVar 4) (sC (.int 0))) (sC (.int 1))) (sVar 4) (sC (.int 0))) (xSeq (xSt 6 (sCallF r (sCons (sVar 0) (sCons (sVar 1) (sCons (sVar 2) (sCons (sBin opSub (sVar 3) (sC (.int 1))) (sCons (sVar 4) sNil))))))) (xSeq (xIf (sB (sBin opEq (sVar 5) (sC (.int 12)))) (xSeq (xRet 5 (sTup (sCons (sC (.str "since")) (sCons (sVar 6) (sCons (sCallF r (sCons (sVar 0) (sCons (sVar 1) (sCons (sVar 2) (sCons (sBin opSub (sVar 3) (sC (.int 1))) (sCons (sVar 4) sNil)))))) sNil))))) xNx) xNx) (xSeq (xRet 5 (sTup (sCons (sBin opIx (sLst (sCons (sC (.str "before")) (sCons (sC (.str "once")) (sCons (sC (.str "sofar")) sNil)))) (sBin opSub (sVar 5) (sC (.int 9)))) (sCons (sVar 6) sNil)))) xNx)))) xNx) (xSeq (xSt 6 (sCallF r (sCons (sVar 0) (sCons (sVar 1) (sCons (sVar 2) (sCons (sBin opSub (sVar 3) (sC (.int 1))) (sCons (sVar 4) sNil))))))) (xSeq (xIf (bOr (sB (sBin opEq (sVar 5) (sC (.int 4)))) (sB (sBin opGt (sVar 5) (sC (.int 8))))) (xSeq (xRet 5 (sTup (sCons (sC (.str "not")) (sCons (sVar 6) sNil)))) xNx) xNx) (xSeq (xRet 5 (sTup (sCons (sBin opIx (sLst (sCons (sC (.str "and")) (sCons (sC (.str "or")) (sCons (sC (.str "then")) (sCons (sC (.str "same")) sNil))))) (sBin opSub (sVar 5) (sC (.int 5)))) (sCons (sVar 6) (sCons (sCallF r (sCons (sVar 0) (sCons (sVar 1) (sCons (sVar 2) (sCons (sBin opSub (sVar 3) (sC (.int 1))) (sCons (sVar 4) sNil)))))) sNil))))) xNx)))))))
def R_l_saying : Nat → List T → FR
  | 0 => fun _ => .bad
  | n + 1 => bodyF 5 [0, 1, 2, 3, 4] 7 (b_l_saying (R_l_saying n))
def F_l_saying : List T → FR := R_l_saying 24
def b_l_names : Env → R Fl := (xSeq (xSt 2 (sLst (sCons (sC (.str "a")) (sCons (sC (.str "b")) (sCons (sC (.str "x")) (sCons (sC (.str "y")) (sCons (sC (.str "lamp")) (sCons (sC (.str "far")) (sCons (sC (.str "yesno")) (sCons (sC (.str "abcdefgh")) sNil)))))))))) (xSeq (xSt 3 (sCallF F_l_next (sCons (sVar 0) (sCons (sVar 1) (sCons (sC (.int 8)) sNil))))) (xSeq (xSt 4 (sBin opAdd (sSl opSl (sVar 2) (some (sVar 3)) none) (sSl opSl (sVar 2) none (some (sVar 3))))) (xSeq (xSt 5 (sBin opAdd (sC (.int 1)) (sCallF F_l_next (sCons (sVar 0) (sCons (sVar 1) (sCons (sC (.int 2)) sNil)))))) (xSeq (xSt 6 (sBin opAdd (sC (.int 1)) (sCallF F_l_next (sCons (sVar 0) (sCons (sVar 1) (sCons (sC (.int 2)) sNil)))))) (xSeq (xRet 2 (sTup (sCons (sCl cfTuple (sCons (sSl opSl (sVar 4) none (some (sVar 5))) sNil)) (sCons (sCl cfTuple (sCons (sSl opSl (sVar 4) (some (sVar 5)) (some (sBin opAdd (sVar 5) (sVar 6)))) sNil)) sNil)))) xNx))))))
def F_l_names : List T → FR := bodyF 2 [0, 1] 7 b_l_names
def b_is_saying (r : List T → FR) : Env → R Fl := (xSeq (xIf (bOr (sB (sBin opEq (sVar 2) (sC (.int 0)))) (bOr (bNot (sB (sUn (isiD "tuple") (sVar 1)))) (bOr (sB (sBin opEq (sCl cfLen (sCons (sVar 1) sNil)) (sC (.int 0)))) (bNot (sB (sUn (isiD "str") (sBin opIx (sVar 1) (sC (.int 0))))))))) (xSeq (xRet 3 (sC (.bl false))) xNx) xNx) (xSeq (xIf (sB (sBin opEq (sBin opIx (sVar 1) (sC (.int 0))) (sC (.str "lamp")))) (xSeq (xRet 3 (sAnd (sB (sBin opEq (sCl cfLen (sCons (sVar 1) sNil)) (sC (.int 2)))) (sAnd (sB (sUn (isiD "str") (sBin opIx (sVar 1) (sC (.int 1))))) (sBin opIn (sBin opIx (sVar 1) (sC (.int 1))) (sVar 0))))) xNx) xNx) (xSeq (xIf (bOr (sB (sBin opEq (sBin opIx (sVar 1) (sC (.int 0))) (sC (.str "yes")))) (sB (sBin opEq (sBin opIx (sVar 1) (sC (.int 0))) (sC (.str "no"))))) (xSeq (xRet 3 (sBin opEq (sCl cfLen (sCons (sVar 1) sNil)) (sC (.int 1)))) xNx) xNx) (xSeq (xIf (bAnd (sB (sBin opNotIn (sBin opIx (sVar 1) (sC (.int 0))) (sC (.tup [.str "not", .str "before", .str "once", .str "sofar"])))) (sB (sBin opNotIn (sBin opIx (sVar 1) (sC (.int 0))) (sC (.tup [.str "and", .str "or", .str "then", .str "same", .str "since"]))))) (xSeq (xRet 3 (sC (.bl false))) xNx) xNx) (xSeq (xIf (sB (sBin opNe (sCl cfLen (sCons (sVar 1) sNil)) (sBin opAdd (sC (.int 2)) (sCl cfInt (sCons (sBin opIn (sBin opIx (sVar 1) (sC (.int 0))) (sC (.tup [.str "and", .str "or", .str "then", .str "same", .str "since"]))) sNil))))) (xSeq (xRet 3 (sC (.bl false))) xNx) xNx) (xSeq (xRet 3 (sCl cfAll (sCons (sComp [3] (sItE (sSl opSl (sVar 1) (some (sC (.int 1))) none)) (gN 3) cT (sCallF r (sCons (sVar 0) (sCons (sVar 3) (sCons (sBin opSub (sVar 2) (sC (.int 1))) sNil))))) sNil))) xNx))))))
def R_is_saying : Nat → List T → FR
  | 0 => fun _ => .bad
  | n + 1 => bodyF 3 [0, 1, 2] 4 (b_is_saying (R_is_saying n))
def F_is_saying : List T → FR := R_is_saying 24
def b_Teller_past_C1 (r0 : List T → FR) (r1 : List T → FR) : Env → R XV := (sMeth "Teller" "holds" r1 (sVar 0) (sCons (sVar 6) (sCons (sVar 2) (sCons (sVar 3) sNil))))
def b_Teller_past (r0 : List T → FR) (r1 : List T → FR) : Env → R Fl := (xSeq (xSt 4 (sBin opIx (sVar 2) (sMt "list" mfLIndex (sFld "Teller" "pieces" (sVar 0)) (sCons (sVar 1) sNil)))) (xSeq (xIf (sB (sBin opEq (sBin opIx (sVar 1) (sC (.int 0))) (sC (.str "before")))) (xSeq (xRet 4 (sVar 4)) xNx) xNx) (xSeq (xSt 5 (sComp [6] (sItE (sCallF F_parts_of (sCons (sVar 1) sNil))) (gN 6) cT (b_Teller_past_C1 r0 r1))) (xSeq (xIf (sB (sBin opEq (sBin opIx (sVar 1) (sC (.int 0))) (sC (.str "once")))) (xSeq (xRet 4 (sOr (sB (sBin opIx (sVar 5) (sC (.int 0)))) (sVar 4))) xNx) xNx) (xSeq (xIf (sB (sBin opEq (sBin opIx (sVar 1) (sC (.int 0))) (sC (.str "sofar")))) (xSeq (xRet 4 (sAnd (sB (sBin opIx (sVar 5) (sC (.int 0)))) (sVar 4))) xNx) xNx) (xSeq (xRet 4 (sOr (sB (sBin opIx (sVar 5) (sC (.int 1)))) (sAnd (sB (sBin opIx (sVar 5) (sC (.int 0)))) (sVar 4)))) xNx))))))
def b_Teller_holds_C1 (r0 : List T → FR) (r1 : List T → FR) : Env → R XV := (sMeth "Teller" "holds" r1 (sVar 0) (sCons (sVar 5) (sCons (sVar 2) (sCons (sVar 3) sNil))))
def b_Teller_holds (r0 : List T → FR) (r1 : List T → FR) : Env → R Fl := (xSeq (xIf (sB (sBin opEq (sBin opIx (sVar 1) (sC (.int 0))) (sC (.str "lamp")))) (xSeq (xRet 4 (sBin opIx (sVar 3) (sMt "tuple" mfIndex (sFld "Teller" "names" (sVar 0)) (sCons (sBin opIx (sVar 1) (sC (.int 1))) sNil)))) xNx) xNx) (xSeq (xIf (bOr (sB (sBin opEq (sBin opIx (sVar 1) (sC (.int 0))) (sC (.str "yes")))) (sB (sBin opEq (sBin opIx (sVar 1) (sC (.int 0))) (sC (.str "no"))))) (xSeq (xRet 4 (sBin opEq (sBin opIx (sVar 1) (sC (.int 0))) (sC (.str "yes")))) xNx) xNx) (xSeq (xIf (sB (sBin opIn (sBin opIx (sVar 1) (sC (.int 0))) (sTup (sCons (sC (.str "before")) (sCons (sC (.str "once")) (sCons (sC (.str "sofar")) (sCons (sC (.str "since")) sNil))))))) (xSeq (xRet 4 (sMeth "Teller" "past" r0 (sVar 0) (sCons (sVar 1) (sCons (sVar 2) (sCons (sVar 3) sNil))))) xNx) xNx) (xSeq (xSt 4 (sComp [5] (sItE (sCallF F_parts_of (sCons (sVar 1) sNil))) (gN 5) cT (b_Teller_holds_C1 r0 r1))) (xSeq (xIf (sB (sBin opEq (sBin opIx (sVar 1) (sC (.int 0))) (sC (.str "not")))) (xSeq (xRet 4 (sOfB (bNot (sB (sBin opIx (sVar 4) (sC (.int 0))))))) xNx) xNx) (xSeq (xIf (sB (sBin opEq (sBin opIx (sVar 1) (sC (.int 0))) (sC (.str "and")))) (xSeq (xRet 4 (sAnd (sB (sBin opIx (sVar 4) (sC (.int 0)))) (sBin opIx (sVar 4) (sC (.int 1))))) xNx) xNx) (xSeq (xIf (sB (sBin opEq (sBin opIx (sVar 1) (sC (.int 0))) (sC (.str "or")))) (xSeq (xRet 4 (sOr (sB (sBin opIx (sVar 4) (sC (.int 0)))) (sBin opIx (sVar 4) (sC (.int 1))))) xNx) xNx) (xSeq (xIf (sB (sBin opEq (sBin opIx (sVar 1) (sC (.int 0))) (sC (.str "then")))) (xSeq (xRet 4 (sOr (sB (sBin opIx (sVar 4) (sC (.int 1)))) (sOfB (bNot (sB (sBin opIx (sVar 4) (sC (.int 0)))))))) xNx) xNx) (xSeq (xRet 4 (sBin opEq (sBin opIx (sVar 4) (sC (.int 0))) (sBin opIx (sVar 4) (sC (.int 1))))) xNx)))))))))
mutual
def R_Teller_past : Nat → List T → FR
  | 0 => fun _ => .bad
  | n + 1 => bodyF 4 [0, 1, 2, 3] 7 (b_Teller_past (R_Teller_past n) (R_Teller_holds n))
def R_Teller_holds : Nat → List T → FR
  | 0 => fun _ => .bad
  | n + 1 => bodyF 4 [0, 1, 2, 3] 6 (b_Teller_holds (R_Teller_past n) (R_Teller_holds n))
end
def b_saying_text (r : List T → FR) : Env → R Fl := (xSeq (xIf (sB (sBin opEq (sBin opIx (sVar 0) (sC (.int 0))) (sC (.str "lamp")))) (xSeq (xRet 1 (sBin opIx (sVar 0) (sC (.int 1)))) xNx) xNx) (xSeq (xIf (bOr (sB (sBin opEq (sBin opIx (sVar 0) (sC (.int 0))) (sC (.str "yes")))) (sB (sBin opEq (sBin opIx (sVar 0) (sC (.int 0))) (sC (.str "no"))))) (xSeq (xRet 1 (sBin opIx (sVar 0) (sC (.int 0)))) xNx) xNx) (xSeq (xIf (sB (sBin opIn (sBin opIx (sVar 0) (sC (.int 0))) (sC (.tup [.str "not", .str "before", .str "once", .str "sofar"])))) (xSeq (xRet 1 (sBin opAdd (sBin opAdd (sBin opIx (sVar 0) (sC (.int 0))) (sC (.str " "))) (sCallF r (sCons (sBin opIx (sVar 0) (sC (.int 1))) sNil)))) xNx) xNx) (xSeq (xRet 1 (sBin opAdd (sBin opAdd (sBin opAdd (sBin opAdd (sBin opAdd (sBin opAdd (sC (.str "(")) (sCallF r (sCons (sBin opIx (sVar 0) (sC (.int 1))) sNil))) (sC (.str " "))) (sBin opIx (sVar 0) (sC (.int 0)))) (sC (.str " "))) (sCallF r (sCons (sBin opIx (sVar 0) (sC (.int 2))) sNil))) (sC (.str ")")))) xNx))))
def R_saying_text : Nat → List T → FR
  | 0 => fun _ => .bad
  | n + 1 => bodyF 1 [0] 1 (b_saying_text (R_saying_text n))
def F_saying_text : List T → FR := R_saying_text 24
def b_middle_L1 : Env → R Fl := (xSeq (xSt 1 (sBin opSub (sBin opAdd (sVar 1) (sCl cfInt (sCons (sBin opEq (sBin opIx (sVar 0) (sVar 2)) (sC (.str "("))) sNil))) (sCl cfInt (sCons (sBin opEq (sBin opIx (sVar 0) (sVar 2)) (sC (.str ")"))) sNil)))) (xSeq (xSt 3 (sMt "str" mfSplit (sSl opSl (sVar 0) (some (sVar 2)) none) (sCons (sC (.str " ")) sNil))) (xSeq (xIf (bAnd (sB (sBin opEq (sVar 1) (sC (.int 1)))) (bAnd (sB (sBin opEq (sBin opIx (sVar 0) (sVar 2)) (sC (.str " ")))) (bAnd (sB (sBin opGt (sCl cfLen (sCons (sVar 3) sNil)) (sC (.int 2)))) (sB (sBin opIn (sBin opIx (sVar 3) (sC (.int 1))) (sC (.tup [.str "and", .str "or", .str "then", .str "same", .str "since"]))))))) (xSeq (xRet 1 (sVar 2)) xNx) xNx) xNx)))
def b_middle : Env → R Fl := (xSeq (xSt 1 (sC (.int 0))) (xSeq (xFr [] (sRng (sCons (sCl cfLen (sCons (sVar 0) sNil)) sNil)) (gN 2) b_middle_L1) (xSeq (xRaise "NoText") xNx)))
def F_middle : List T → FR := bodyF 1 [0] 4 b_middle
def b_parsed (r : List T → FR) : Env → R Fl := (xSeq (xIf (sB (sBin opEq (sVar 1) (sC (.int 0)))) (xSeq (xRaise "NoText") xNx) xNx) (xSeq (xIf (bOr (sB (sBin opEq (sVar 0) (sC (.str "yes")))) (sB (sBin opEq (sVar 0) (sC (.str "no"))))) (xSeq (xRet 2 (sTup (sCons (sVar 0) sNil))) xNx) xNx) (xSeq (xIf (bAnd (sB (sBin opEq (sSl opSl (sVar 0) none (some (sC (.int 1)))) (sC (.str "(")))) (sB (sBin opEq (sSl opSl (sVar 0) (some (sUn opNeg (sC (.int 1)))) none) (sC (.str ")"))))) (xSeq (xSt 2 (sCallF F_middle (sCons (sVar 0) sNil))) (xSeq (xSt 3 (sBin opIx (sMt "str" mfSplit (sSl opSl (sVar 0) (some (sBin opAdd (sVar 2) (sC (.int 1)))) none) (sCons (sC (.str " ")) sNil)) (sC (.int 0)))) (xSeq (xRet 2 (sTup (sCons (sVar 3) (sCons (sCallF r (sCons (sSl opSl (sVar 0) (some (sC (.int 1))) (some (sVar 2))) (sCons (sBin opSub (sVar 1) (sC (.int 1))) sNil))) (sCons (sCallF r (sCons (sSl opSl (sVar 0) (some (sBin opAdd (sBin opAdd (sVar 2) (sC (.int 2))) (sCl cfLen (sCons (sVar 3) sNil)))) (some (sUn opNeg (sC (.int 1))))) (sCons (sBin opSub (sVar 1) (sC (.int 1))) sNil))) sNil))))) xNx))) xNx) (xSeq (xSt 3 (sBin opIx (sMt "str" mfSplit (sVar 0) (sCons (sC (.str " ")) sNil)) (sC (.int 0)))) (xSeq (xIf (bAnd (sB (sBin opIn (sVar 3) (sC (.tup [.str "not", .str "before", .str "once", .str "sofar"])))) (sB (sBin opLt (sCl cfLen (sCons (sVar 3) sNil)) (sCl cfLen (sCons (sVar 0) sNil))))) (xSeq (xRet 2 (sTup (sCons (sVar 3) (sCons (sCallF r (sCons (sSl opSl (sVar 0) (some (sBin opAdd (sCl cfLen (sCons (sVar 3) sNil)) (sC (.int 1)))) none) (sCons (sBin opSub (sVar 1) (sC (.int 1))) sNil))) sNil)))) xNx) xNx) (xSeq (xRet 2 (sTup (sCons (sC (.str "lamp")) (sCons (sVar 0) sNil)))) xNx))))))
def R_parsed : Nat → List T → FR
  | 0 => fun _ => .bad
  | n + 1 => bodyF 2 [0, 1] 4 (b_parsed (R_parsed n))
def F_parsed : List T → FR := R_parsed 24
def b_saying_of : Env → R Fl := (xSeq (xSt 2 (sCallF F_parsed (sCons (sVar 1) (sCons (sC (.int 8)) sNil)))) (xSeq (xIf (bOr (bNot (sB (sCallF F_is_saying (sCons (sVar 0) (sCons (sVar 2) (sCons (sC (.int 8)) sNil)))))) (sB (sBin opNe (sCallF F_saying_text (sCons (sVar 2) sNil)) (sVar 1)))) (xSeq (xRaise "NoText") xNx) xNx) (xSeq (xRet 2 (sVar 2)) xNx)))
def F_saying_of : List T → FR := bodyF 2 [0, 1] 3 b_saying_of
def b_read_saying : Env → R Fl := (xSeq (xIf (bNot (sB (sUn (isiD "str") (sVar 1)))) (xSeq (xRaise "NoText") xNx) xNx) (xSeq (xRet 2 (sCallF F_saying_of (sCons (sVar 0) (sCons (sVar 1) sNil)))) xNx))
def F_read_saying : List T → FR := bodyF 2 [0, 1] 2 b_read_saying
def b_l_word : Env → R Fl := (xSeq (xSt 2 (sVar 1)) (xSeq (xWU (bAnd (sB (sBin opLt (sVar 2) (sCl cfLen (sCons (sVar 0) sNil)))) (sB (sBin opIn (sBin opIx (sVar 0) (sVar 2)) (sC (.str "abcdefghijklmnopqrstuvwxyz"))))) (xSeq (xSt 2 (sBin opAdd (sVar 2) (sC (.int 1)))) xNx)) (xSeq (xRet 2 (sSl opSl (sVar 0) (some (sVar 1)) (some (sVar 2)))) xNx)))
def F_l_word : List T → FR := bodyF 2 [0, 1] 3 b_l_word
def b_l_parsed (r : List T → FR) : Env → R Fl := (xSeq (xIf (sB (sBin opEq (sSl opSl (sVar 0) (some (sVar 1)) (some (sBin opAdd (sVar 1) (sC (.int 1))))) (sC (.str "(")))) (xSeq (xSt 3 (sCallF r (sCons (sVar 0) (sCons (sBin opAdd (sVar 1) (sC (.int 1))) (sCons (sVar 2) sNil))))) (xSeq (xIf (bOr (sB (sBin opIsN (sVar 3) (sC .non))) (sB (sBin opNe (sSl opSl (sVar 0) (some (sBin opIx (sVar 3) (sC (.int 1)))) (some (sBin opAdd (sBin opIx (sVar 3) (sC (.int 1))) (sC (.int 1))))) (sC (.str " "))))) (xSeq (xRet 3 (sC .non)) xNx) xNx) (xSeq (xSt 4 (sCallF F_l_word (sCons (sVar 0) (sCons (sBin opAdd (sBin opIx (sVar 3) (sC (.int 1))) (sC (.int 1))) sNil)))) (xSeq (xSt 5 (sBin opAdd (sBin opAdd (sBin opIx (sVar 3) (sC (.int 1))) (sC (.int 1))) (sCl cfLen (sCons (sVar 4) sNil)))) (xSeq (xIf (bOr (sB (sBin opNotIn (sVar 4) (sTup (sCons (sC (.str "and")) (sCons (sC (.str "or")) (sCons (sC (.str "then")) (sCons (sC (.str "same")) (sCons (sC (.str "since")) sNil)))))))) (sB (sBin opNe (sSl opSl (sVar 0) (some (sVar 5)) (some (sBin opAdd (sVar 5) (sC (.int 1))))) (sC (.str " "))))) (xSeq (xRet 3 (sC .non)) xNx) xNx) (xSeq (xSt 6 (sCallF r (sCons (sVar 0) (sCons (sBin opAdd (sVar 5) (sC (.int 1))) (sCons (sVar 2) sNil))))) (xSeq (xIf (bOr (sB (sBin opIsN (sVar 6) (sC .non))) (sB (sBin opNe (sSl opSl (sVar 0) (some (sBin opIx (sVar 6) (sC (.int 1)))) (some (sBin opAdd (sBin opIx (sVar 6) (sC (.int 1))) (sC (.int 1))))) (sC (.str ")"))))) (xSeq (xRet 3 (sC .non)) xNx) xNx) (xSeq (xRet 3 (sTup (sCons (sTup (sCons (sVar 4) (sCons (sBin opIx (sVar 3) (sC (.int 0))) (sCons (sBin opIx (sVar 6) (sC (.int 0))) sNil)))) (sCons (sBin opAdd (sBin opIx (sVar 6) (sC (.int 1))) (sC (.int 1))) sNil)))) xNx)))))))) xNx) (xSeq (xSt 4 (sCallF F_l_word (sCons (sVar 0) (sCons (sVar 1) sNil)))) (xSeq (xIf (bAnd (sB (sBin opIn (sVar 4) (sTup (sCons (sC (.str "not")) (sCons (sC (.str "before")) (sCons (sC (.str "once")) (sCons (sC (.str "sofar")) sNil))))))) (sB (sBin opEq (sSl opSl (sVar 0) (some (sBin opAdd (sVar 1) (sCl cfLen (sCons (sVar 4) sNil)))) (some (sBin opAdd (sBin opAdd (sVar 1) (sCl cfLen (sCons (sVar 4) sNil))) (sC (.int 1))))) (sC (.str " "))))) (xSeq (xSt 3 (sCallF r (sCons (sVar 0) (sCons (sBin opAdd (sBin opAdd (sVar 1) (sCl cfLen (sCons (sVar 4) sNil))) (sC (.int 1))) (sCons (sVar 2) sNil))))) (xSeq (xIf (sB (sBin opIsN (sVar 3) (sC .non))) (xSeq (xRet 3 (sC .non)) xNx) xNx) (xSeq (xRet 3 (sTup (sCons (sTup (sCons (sVar 4) (sCons (sBin opIx (sVar 3) (sC (.int 0))) sNil))) (sCons (sBin opIx (sVar 3) (sC (.int 1))) sNil)))) xNx))) xNx) (xSeq (xIf (bOr (sB (sBin opEq (sVar 4) (sC (.str "yes")))) (sB (sBin opEq (sVar 4) (sC (.str "no"))))) (xSeq (xRet 3 (sTup (sCons (sTup (sCons (sVar 4) sNil)) (sCons (sBin opAdd (sVar 1) (sCl cfLen (sCons (sVar 4) sNil))) sNil)))) xNx) xNx) (xSeq (xIf (sB (sBin opNotIn (sVar 4) (sVar 2))) (xSeq (xRet 3 (sC .non)) xNx) xNx) (xSeq (xRet 3 (sTup (sCons (sTup (sCons (sC (.str "lamp")) (sCons (sVar 4) sNil))) (sCons (sBin opAdd (sVar 1) (sCl cfLen (sCons (sVar 4) sNil))) sNil)))) xNx))))))
def R_l_parsed : Nat → List T → FR
  | 0 => fun _ => .bad
  | n + 1 =>  bodyF 3 [0, 1, 2] 7 (b_l_parsed (R_l_parsed n))
def F_l_parsed : List T → FR := R_l_parsed 150
def b_l_deep_k31 (r : List T → FR) : Env → R Fl := (xSeq (xIf (sB (sBin opIn (sBin opIx (sVar 0) (sC (.int 0))) (sTup (sCons (sC (.str "lamp")) (sCons (sC (.str "yes")) (sCons (sC (.str "no")) sNil)))))) (xSeq (xRet 1 (sC (.int 1))) xNx) xNx) (xSeq (xRet 1 (sBin opAdd (sC (.int 1)) (sCl cfMax (sCons (sComp [1] (sItE (sSl opSl (sVar 0) (some (sC (.int 1))) none)) (gN 1) cT (sCallF r (sCons (sVar 1) sNil))) sNil)))) xNx))
def R_l_deep_k31 : Nat → List T → FR
  | 0 => fun _ => .bad
  | n + 1 =>  bodyF 1 [0] 2 (b_l_deep_k31 (R_l_deep_k31 n))
def F_l_deep_k31 : List T → FR := R_l_deep_k31 150
def b_l_saying_of : Env → R Fl := (xSeq (xSt 2 (sCallF F_l_parsed (sCons (sVar 0) (sCons (sC (.int 0)) (sCons (sVar 1) sNil))))) (xSeq (xIf (bOr (sB (sBin opIsN (sVar 2) (sC .non))) (bOr (sB (sBin opNe (sBin opIx (sVar 2) (sC (.int 1))) (sCl cfLen (sCons (sVar 0) sNil)))) (sB (sBin opGt (sCallF F_l_deep_k31 (sCons (sBin opIx (sVar 2) (sC (.int 0))) sNil)) (sC (.int 8)))))) (xSeq (xRet 2 (sC .non)) xNx) xNx) (xSeq (xRet 2 (sBin opIx (sVar 2) (sC (.int 0)))) xNx)))
def F_l_saying_of : List T → FR := bodyF 2 [0, 1] 3 b_l_saying_of
def b_l_text (r : List T → FR) : Env → R Fl := (xSeq (xIf (sB (sBin opEq (sBin opIx (sVar 0) (sC (.int 0))) (sC (.str "lamp")))) (xSeq (xRet 1 (sBin opIx (sVar 0) (sC (.int 1)))) xNx) xNx) (xSeq (xIf (sB (sBin opEq (sCl cfLen (sCons (sVar 0) sNil)) (sC (.int 1)))) (xSeq (xRet 1 (sBin opIx (sVar 0) (sC (.int 0)))) xNx) xNx) (xSeq (xIf (sB (sBin opEq (sCl cfLen (sCons (sVar 0) sNil)) (sC (.int 2)))) (xSeq (xRet 1 (sBin opAdd (sBin opAdd (sBin opIx (sVar 0) (sC (.int 0))) (sC (.str " "))) (sCallF r (sCons (sBin opIx (sVar 0) (sC (.int 1))) sNil)))) xNx) xNx) (xSeq (xRet 1 (sBin opAdd (sBin opAdd (sBin opAdd (sBin opAdd (sBin opAdd (sBin opAdd (sC (.str "(")) (sCallF r (sCons (sBin opIx (sVar 0) (sC (.int 1))) sNil))) (sC (.str " "))) (sBin opIx (sVar 0) (sC (.int 0)))) (sC (.str " "))) (sCallF r (sCons (sBin opIx (sVar 0) (sC (.int 2))) sNil))) (sC (.str ")")))) xNx))))
def R_l_text : Nat → List T → FR
  | 0 => fun _ => .bad
  | n + 1 => bodyF 1 [0] 1 (b_l_text (R_l_text n))
def F_l_text : List T → FR := R_l_text 24
def b_l_spoilt_k31 : Env → R Fl := (xSeq (xSt 3 (sBin opMod (sVar 1) (sBin opAdd (sCl cfLen (sCons (sVar 0) sNil)) (sC (.int 1))))) (xSeq (xSt 4 (sBin opIx (sC (.str " ()\nabxyznotrdlamp0123456789-+<>.TF")) (sBin opMod (sBin opFdv (sVar 1) (sC (.int 1000))) (sC (.int 35))))) (xSeq (xSt 5 (sBin opMod (sBin opFdv (sVar 1) (sC (.int 40000))) (sC (.int 6)))) (xSeq (xIf (sB (sBin opEq (sVar 5) (sC (.int 0)))) (xSeq (xRet 3 (sBin opAdd (sBin opAdd (sSl opSl (sVar 0) none (some (sVar 3))) (sVar 4)) (sSl opSl (sVar 0) (some (sVar 3)) none))) xNx) xNx) (xSeq (xIf (sB (sBin opEq (sVar 5) (sC (.int 1)))) (xSeq (xRet 3 (sBin opAdd (sSl opSl (sVar 0) none (some (sVar 3))) (sSl opSl (sVar 0) (some (sBin opAdd (sVar 3) (sC (.int 1)))) none))) xNx) xNx) (xSeq (xIf (sB (sBin opEq (sVar 5) (sC (.int 2)))) (xSeq (xRet 3 (sBin opAdd (sBin opAdd (sSl opSl (sVar 0) none (some (sVar 3))) (sVar 4)) (sSl opSl (sVar 0) (some (sBin opAdd (sVar 3) (sC (.int 1)))) none))) xNx) xNx) (xSeq (xIf (sB (sBin opEq (sVar 5) (sC (.int 3)))) (xSeq (xSt 6 (sBin opAdd (sVar 3) (sBin opMod (sBin opFdv (sVar 1) (sC (.int 7))) (sC (.int 9))))) (xSeq (xRet 3 (sBin opAdd (sSl opSl (sVar 0) none (some (sVar 3))) (sSl opSl (sVar 0) (some (sVar 6)) none))) xNx)) xNx) (xSeq (xIf (sB (sBin opEq (sVar 5) (sC (.int 4)))) (xSeq (xRet 3 (sBin opIx (sLst (sCons (sBin opAdd (sVar 0) (sVar 0)) (sCons (sBin opAdd (sSl opSl (sVar 0) (some (sVar 3)) none) (sSl opSl (sVar 0) none (some (sVar 3)))) (sCons (sBin opAdd (sC (.str " ")) (sVar 0)) (sCons (sBin opAdd (sVar 0) (sC (.str " "))) sNil))))) (sBin opMod (sVar 1) (sC (.int 4))))) xNx) xNx) (xSeq (xRet 3 (sBin opIx (sBin opAdd (sVar 2) (sLst (sCons (sC .non) (sCons (sC (.int 5)) (sCons (sLst (sCons (sVar 0) sNil)) (sCons (sC (.str "")) sNil)))))) (sBin opMod (sVar 1) (sBin opAdd (sCl cfLen (sCons (sVar 2) sNil)) (sC (.int 4)))))) xNx)))))))))
def F_l_spoilt_k31 : List T → FR := bodyF 3 [0, 1, 2] 7 b_l_spoilt_k31
def b_law_k31 : Env → R Fl := (xSeq (xSt 1 (sLst (sCons (sC (.int 2)) sNil))) (xSeq (xSetG (gTp 2 (gCn (gN 2) (gCn (gN 3) gNl))) (sCallF F_l_names (sCons (sVar 0) (sCons (sVar 1) sNil)))) (xSeq (xSt 4 (sBin opAdd (sVar 2) (sVar 3))) (xSeq (xSt 5 (sCallF F_l_saying (sCons (sVar 0) (sCons (sVar 1) (sCons (sVar 4) (sCons (sC (.int 4)) (sCons (sLst (sCons (sC (.int 4)) sNil)) sNil))))))) (xSeq (xSt 6 (sCallF F_saying_text (sCons (sVar 5) sNil))) (xSeq (xIf (bOr (bNot (sB (sUn (isiD "str") (sVar 6)))) (bOr (sB (sBin opNe (sVar 6) (sCallF F_l_text (sCons (sVar 5) sNil)))) (sB (sBin opNe (sCallF F_read_saying (sCons (sVar 4) (sCons (sVar 6) sNil))) (sVar 5))))) (xSeq (xRet 1 (sC (.bl false))) xNx) xNx) (xSeq (xSt 7 (sLst (sCons (sBin opAdd (sBin opMulS (sC (.str "not ")) (sC (.int 8))) (sBin opIx (sVar 4) (sC (.int 0)))) (sCons (sBin opAdd (sBin opMulS (sC (.str "not ")) (sC (.int 7))) (sBin opIx (sVar 4) (sC (.int 0)))) (sCons (sC (.str "(yes and no")) (sCons (sC (.str "(yes and  no)")) (sCons (sC (.str "zzz")) (sCons (sC (.str "not")) sNil)))))))) (xSeq (xExpr (sMu opExt (sVar 7) (sCons (sLst (sCons (sC (.str "(yes nor no)")) (sCons (sC (.str "yes no")) sNil))) sNil))) (xSeq (xSt 6 (sCallF F_l_spoilt_k31 (sCons (sVar 6) (sCons (sCallF F_l_mixed (sCons (sVar 0) (sCons (sC (.int 0)) (sCons (sBin opPow (sC (.int 10)) (sC (.int 7))) sNil)))) (sCons (sVar 7) sNil))))) (xSeq (xSt 8 (sC .non)) (xSeq (xIf (sB (sUn (isiD "str") (sVar 6))) (xSeq (xSt 8 (sCallF F_l_saying_of (sCons (sVar 6) (sCons (sVar 4) sNil)))) xNx) xNx) (xSeq (xSt 9 (sC .non)) (xSeq (xTry ["NoSaying", "NoText"] "NoText" (xSeq (xSt 9 (sCallF F_read_saying (sCons (sVar 4) (sCons (sVar 6) sNil)))) xNx) fun x => asX 10 fun a => (xSeq (xIf (bOr (bNot (sB (sUn (isX a x "LossError") (sVar 10)))) (bOr (bNot (sB (sUn (isX a x "ValueError") (sVar 10)))) (sB (sUn (isX a x "NoSaying") (sVar 10))))) (xSeq (xRet 1 (sC (.bl false))) xNx) xNx) xNx)) (xSeq (xRet 1 (sBin opEq (sVar 9) (sVar 8))) xNx))))))))))))))
def F_law_k31 : List T → FR := bodyF 1 [0] 11 b_law_k31
end
end Lz
namespace Lz
open PySem PySem.Spec PyProof.Rows L2
theorem atI_lt {α : Type} {l : List α} {k : Nat} (h : k < l.length) : atI l (k : Int) = some l[k] := atI_nat (List.getElem?_eq_getElem h)
def cellAt (ns : List Int) (k : Nat) : Int := if h : k < ns.length then ns[k] else if h : ns = [] then 0 else ns[k % ns.length]'(Nat.mod_lt _ (by cases ns; exact absurd rfl h; simp)) * 31 + k
theorem eqD_scr_nil {ns : List Int} : eqD (.scr ns) (.lst []) = some (decide (ns = [])) := by
  by_cases h : ns = []
  · rw [decide_eq_true h]
    subst h
    exact eqD_t (n := 1) (m := 1) okN_scr (okN_lst (by simp)) (by decide) (by decide) (by simp [nrm, nrms])
  · rw [decide_eq_false h]
    refine eqD_f (n := 1) (m := 1) okN_scr (okN_lst (by simp)) (by decide) (by decide) ?_
    cases ns with
    | nil => exact absurd rfl h
    | cons a b => simp [nrm, nrms]
theorem fmod_nat (a b : Nat) : ((a : Int)).fmod (b : Int) = ((a % b : Nat) : Int) := by
  rw [Int.fmod_eq_emod_of_nonneg _ (Int.natCast_nonneg b)]
  exact (Int.natCast_emod a b).symm
theorem cell_sp (ns : List Int) (hl : ns.length ≤ 63) (k : Nat) : F_l_cell_at [(false, .scr ns), (false, .int k)] = .ok (false, .int (cellAt ns k)) [some (false, .scr ns), some (false, .int k)] := by
  unfold cellAt
  by_cases h : k < ns.length
  · simp [F_l_cell_at, b_l_cell_at, h, atI_lt h]
  · by_cases h2 : ns = []
    · subst h2
      have h3 : ¬ (k : Int) < 0 := by omega
      simp [F_l_cell_at, b_l_cell_at, eqD_scr_nil, h3]
    · have hp : 0 < ns.length := by cases ns; exact absurd rfl h2; simp
      have hm := Nat.mod_lt k hp
      simp [F_l_cell_at, b_l_cell_at, h, h2, eqD_scr_nil, fmod_nat, ← Int.natCast_emod, atI_lt hm]
def drawn (ns : List Int) (k : Nat) : Int := (cellAt ns k + 7919 * k + 1) * 48271 % 2147483647
def mixed (ns : List Int) (k many : Nat) : Nat := ((drawn ns k * drawn ns k + 7 * drawn ns k + k) % 2147483629 % (many : Int)).toNat
theorem mixed_lt (ns : List Int) (k many : Nat) (h : 0 < many) : mixed ns k many < many := by
  unfold mixed
  have := Int.emod_lt_of_pos ((drawn ns k * drawn ns k + 7 * drawn ns k + k) % 2147483629) (show (0 : Int) < many by omega)
  have h2 := Int.emod_nonneg ((drawn ns k * drawn ns k + 7 * drawn ns k + k) % 2147483629) (show (many : Int) ≠ 0 by omega)
  omega
theorem fmod_pos (x : Int) (m : Nat) : x.fmod (m : Int) = x % (m : Int) := Int.fmod_eq_emod_of_nonneg _ (by omega)
theorem mixed_sp (ns : List Int) (hl : ns.length ≤ 63) (k many : Nat) (hm : 0 < many) : F_l_mixed [(false, .scr ns), (false, .int k), (false, .int many)] = .ok (false, .int (mixed ns k many)) [some (false, .scr ns), some (false, .int k), some (false, .int many)] := by
  have h1 : (many : Int) ≠ 0 := by omega
  have e2 : ∀ x : Int, x.fmod 2147483647 = x % 2147483647 := fun x => fmod_pos x 2147483647
  have e3 : ∀ x : Int, x.fmod 2147483629 = x % 2147483629 := fun x => fmod_pos x 2147483629
  have hd : (cellAt ns k + 7919 * k + 1) * 48271 % 2147483647 = drawn ns k := rfl
  have d0 : 0 ≤ drawn ns k := Int.emod_nonneg _ (by decide)
  have d1 : drawn ns k < 2147483647 := Int.emod_lt_of_pos _ (by decide)
  have d2 : -18446744073709551616 < drawn ns k := by omega
  have d3 : drawn ns k < 18446744073709551616 := by omega
  have hr : ((mixed ns k many : Nat) : Int) = (drawn ns k * drawn ns k + 7 * drawn ns k + k) % 2147483629 % (many : Int) := by
    unfold mixed
    exact Int.toNat_of_nonneg (Int.emod_nonneg _ h1)
  have h1' : many ≠ 0 := by omega
  simp [F_l_mixed, b_l_mixed, cell_sp ns hl k, e2, e3, hd, d2, d3, fmod_pos, h1', hr]
theorem next_sp (ns : List Int) (hl : ns.length ≤ 63) (m many : Nat) (hm : 0 < many) : F_l_next [(false, .scr ns), (true, .lst [.int m]), (false, .int many)] = .ok (false, .int (mixed ns (m + 1) many)) [some (false, .scr ns), some (true, .lst [.int (m + 1 : Nat)]), some (false, .int many)] := by
  have a0 : ∀ d : D, atI [d] 0 = some d := fun _ => rfl
  have i0 : ixN 1 0 = some 0 := rfl
  have h := mixed_sp ns hl (m + 1) many hm
  rw [Int.natCast_add] at h
  simp at h
  simp [F_l_next, b_l_next, a0, i0, h]
end Lz
namespace Lz
open PySem PySem.Spec PyProof.Rows L2
section
variable {α : Type} {xs : List α} {i j : Nat}
theorem cut_to : cut xs none (some (j : Int)) = xs.take j := by
  unfold cut
  rw [HT.sIx_nat]
  show (xs.drop 0).take (min j xs.length - 0) = _
  rw [List.drop_zero, Nat.sub_zero]
  by_cases h : j ≤ xs.length
  · rw [Nat.min_eq_left h]
  · have e : min j xs.length = xs.length := Nat.min_eq_right (by omega)
    rw [e, List.take_of_length_le (Nat.le_refl _), List.take_of_length_le (by omega)]
theorem cut_from : cut xs (some (i : Int)) none = xs.drop i := by
  unfold cut
  rw [HT.sIx_nat]
  show (xs.drop (min i xs.length)).take (xs.length - min i xs.length) = _
  by_cases h : i ≤ xs.length
  · rw [Nat.min_eq_left h]
    exact List.take_of_length_le (by rw [List.length_drop]; exact Nat.le_refl _)
  · have e : min i xs.length = xs.length := Nat.min_eq_right (by omega)
    rw [e, List.drop_of_length_le (Nat.le_refl _), List.drop_of_length_le (by omega), List.take_nil]
theorem cut_mid : cut xs (some (i : Int)) (some (j : Int)) = (xs.drop i).take (j - i) := by
  unfold cut
  rw [HT.sIx_nat, HT.sIx_nat]
  by_cases h : i ≤ xs.length
  · have e : min i xs.length = i := Nat.min_eq_left h
    rw [e]
    by_cases h2 : j ≤ xs.length
    · rw [Nat.min_eq_left h2]
    · have e : min j xs.length = xs.length := Nat.min_eq_right (by omega)
      rw [e, List.take_of_length_le (by rw [List.length_drop]; exact Nat.le_refl _), List.take_of_length_le (by rw [List.length_drop]; omega)]
  · have e : min i xs.length = xs.length := Nat.min_eq_right (by omega)
    rw [e, List.drop_of_length_le (Nat.le_refl _), List.drop_of_length_le (by omega : xs.length ≤ i), List.take_nil, List.take_nil]
end
@[simp] theorem cut_from1 {α : Type} {xs : List α} : cut xs (some 1) none = xs.drop 1 := cut_from (i := 1)

inductive U1 where
  | nt | bf | on | sf
  deriving DecidableEq
inductive U2 where
  | an | or | th | sm | sn
  deriving DecidableEq
def U1.str : U1 → Str
  | .nt => "not"
  | .bf => "before"
  | .on => "once"
  | .sf => "sofar"
def U2.str : U2 → Str
  | .an => "and"
  | .or => "or"
  | .th => "then"
  | .sm => "same"
  | .sn => "since"
inductive Say where
  | lamp (n : Str)
  | cst (b : Bool)
  | un (o : U1) (s : Say)
  | bin (o : U2) (s t : Say)
  deriving DecidableEq
def Say.toD : Say → D
  | .lamp n => .tup [.str "lamp", .str n]
  | .cst b => .tup [.str (if b then "yes" else "no")]
  | .un o s => .tup [.str o.str, s.toD]
  | .bin o s t => .tup [.str o.str, s.toD, t.toD]
def Say.dep : Say → Nat
  | .lamp _ => 1
  | .cst _ => 1
  | .un _ s => s.dep + 1
  | .bin _ s t => max s.dep t.dep + 1
/-- the lamps are among these -/
def Say.Over (ns : List Str) : Say → Prop
  | .lamp n => n ∈ ns
  | .cst _ => True
  | .un _ s => s.Over ns
  | .bin _ s t => s.Over ns ∧ t.Over ns
theorem Say.dep_pos (s : Say) : 1 ≤ s.dep := by cases s <;> simp [Say.dep]
theorem Say.nrm_toD : ∀ s : Say, nrm s.toD = s.toD
  | .lamp n => by simp [Say.toD, nrm, nrms]
  | .cst b => by simp [Say.toD, nrm, nrms]
  | .un o s => by simp [Say.toD, nrm, nrms, Say.nrm_toD s]
  | .bin o s t => by simp [Say.toD, nrm, nrms, Say.nrm_toD s, Say.nrm_toD t]
theorem U1.str_inj {o p : U1} (h : o.str = p.str) : o = p := by cases o <;> cases p <;> first | rfl | exact absurd h (by decide)
theorem U2.str_inj {o p : U2} (h : o.str = p.str) : o = p := by cases o <;> cases p <;> first | rfl | exact absurd h (by decide)
theorem U1.ne_lamp (o : U1) : o.str ≠ "lamp" := by cases o <;> decide
theorem U2.ne_lamp (o : U2) : o.str ≠ "lamp" := by cases o <;> decide
theorem U1.ne_yes (o : U1) : o.str ≠ "yes" := by cases o <;> decide
theorem U2.ne_yes (o : U2) : o.str ≠ "yes" := by cases o <;> decide
theorem U1.ne_no (o : U1) : o.str ≠ "no" := by cases o <;> decide
theorem U2.ne_no (o : U2) : o.str ≠ "no" := by cases o <;> decide
theorem Say.toD_inj : ∀ {s t : Say}, s.toD = t.toD → s = t
  | .lamp n, .lamp m, h => by simp [Say.toD] at h; rw [h]
  | .lamp n, .cst b, h => by simp [Say.toD] at h
  | .lamp n, .un o s, h => by simp [Say.toD] at h; exact absurd h.1.symm o.ne_lamp
  | .lamp n, .bin o s t, h => by simp [Say.toD] at h
  | .cst b, .lamp m, h => by simp [Say.toD] at h
  | .cst b, .cst c, h => by simp [Say.toD] at h; cases b <;> cases c <;> first | rfl | exact absurd h (by decide)
  | .cst b, .un o s, h => by simp [Say.toD] at h
  | .cst b, .bin o s t, h => by simp [Say.toD] at h
  | .un o s, .lamp m, h => by simp [Say.toD] at h; exact absurd h.1 o.ne_lamp
  | .un o s, .cst c, h => by simp [Say.toD] at h
  | .un o s, .un p t, h => by
    simp [Say.toD] at h
    rw [U1.str_inj h.1, Say.toD_inj h.2]
  | .un o s, .bin p t u, h => by simp [Say.toD] at h
  | .bin o s u, .lamp m, h => by simp [Say.toD] at h
  | .bin o s u, .cst c, h => by simp [Say.toD] at h
  | .bin o s u, .un p t, h => by simp [Say.toD] at h
  | .bin o s u, .bin p t w, h => by
    simp [Say.toD] at h
    rw [U2.str_inj h.1, Say.toD_inj h.2.1, Say.toD_inj h.2.2]
abbrev okStr (n : Str) : Prop := PyData.strOk n = true
theorem U1.ok (o : U1) : okStr o.str := by cases o <;> exact (by decide +kernel)
theorem U2.ok (o : U2) : okStr o.str := by cases o <;> exact (by decide +kernel)
theorem Say.okN {ns : List Str} (hn : ∀ n ∈ ns, okStr n) : ∀ s : Say, s.Over ns → Lz.okN s.dep s.toD
  | .lamp n, h => okN_tup (n := 0) fun x hx => by
    rcases List.mem_cons.mp hx with rfl | hx
    · exact okN_str (by decide +kernel)
    · rcases List.mem_cons.mp hx with rfl | hx
      · exact okN_str (hn n h)
      · cases hx
  | .cst b, h => okN_tup (n := 0) fun x hx => by
    rcases List.mem_cons.mp hx with rfl | hx
    · cases b <;> exact okN_str (by decide +kernel)
    · cases hx
  | .un o s, h => okN_tup fun x hx => by
    rcases List.mem_cons.mp hx with rfl | hx
    · exact okN_str o.ok
    · rcases List.mem_cons.mp hx with rfl | hx
      · exact Say.okN hn s h
      · cases hx
  | .bin o s t, h => okN_tup fun x hx => by
    rcases List.mem_cons.mp hx with rfl | hx
    · exact okN_str o.ok
    · rcases List.mem_cons.mp hx with rfl | hx
      · exact okN_mono (Say.okN hn s h.1) (Nat.le_max_left _ _)
      · rcases List.mem_cons.mp hx with rfl | hx
        · exact okN_mono (Say.okN hn t h.2) (Nat.le_max_right _ _)
        · cases hx
theorem Say.eqD {ns ms : List Str} (hn : ∀ n ∈ ns, okStr n) (hm : ∀ n ∈ ms, okStr n) {s t : Say} (hs : s.Over ns) (ht : t.Over ms) (ds : s.dep ≤ 64) (dt : t.dep ≤ 64) : Lz.eqD s.toD t.toD = some (decide (s = t)) := by
  obtain ⟨b, h1, h2⟩ := eqD_ok (Say.okN hn s hs) (Say.okN hm t ht) ds dt
  rw [h1, Say.nrm_toD, Say.nrm_toD] at *
  congr 1
  cases b with
  | true => exact (decide_eq_true (Say.toD_inj (h2.mp rfl))).symm
  | false => exact (decide_eq_false fun e => by rw [e] at h2; exact absurd (h2.mpr rfl) (by decide)).symm

def allN : List Str := ["a", "b", "x", "y", "lamp", "far", "yesno", "abcdefgh"]
def rowN (t : Nat) : List Str := allN.drop t ++ allN.take t
def foeN (t f : Nat) : List Str := (rowN t).take (f + 1)
def friN (t f r : Nat) : List Str := ((rowN t).drop (f + 1)).take (r + 1)
/-- names as a law draws them -/
def GNm (foe fri : List Str) : Prop := ∃ t f r, t < 8 ∧ f < 2 ∧ r < 2 ∧ foe = foeN t f ∧ fri = friN t f r
theorem GNm.all {P : List Str → List Str → Prop} (h : ∀ t, t < 8 → ∀ f, f < 2 → ∀ r, r < 2 → P (foeN t f) (friN t f r)) {foe fri : List Str} (g : GNm foe fri) : P foe fri := by
  obtain ⟨t, f, r, ht, hf, hr, rfl, rfl⟩ := g
  exact h t ht f hf r hr
def nmD (l : List Str) : D := .tup (l.map .str)
theorem GNm.ok {foe fri : List Str} (g : GNm foe fri) : ∀ n ∈ foe ++ fri, okStr n := GNm.all (P := fun foe fri => ∀ n ∈ foe ++ fri, okStr n) (by unfold okStr; decide +kernel) g
theorem GNm.len {foe fri : List Str} (g : GNm foe fri) : 1 ≤ foe.length ∧ foe.length ≤ 2 ∧ 1 ≤ fri.length ∧ fri.length ≤ 2 := GNm.all (P := fun foe fri => 1 ≤ foe.length ∧ foe.length ≤ 2 ∧ 1 ≤ fri.length ∧ fri.length ≤ 2) (by decide +kernel) g
theorem GNm.nodup {foe fri : List Str} (g : GNm foe fri) : (foe ++ fri).Nodup := GNm.all (P := fun foe fri => (foe ++ fri).Nodup) (by decide +kernel) g
theorem names_sp (ns : List Int) (hl : ns.length ≤ 63) (m : Nat) : ∃ foe fri, GNm foe fri ∧ F_l_names [(false, .scr ns), (true, .lst [.int m])] = .ok (false, .tup [nmD foe, nmD fri]) [some (false, .scr ns), some (true, .lst [.int (m + 3 : Nat)])] := by
  have h1 := next_sp ns hl m 8 (by decide)
  have h2 := next_sp ns hl (m + 1) 2 (by decide)
  have h3 := next_sp ns hl (m + 1 + 1) 2 (by decide)
  have l1 := mixed_lt ns (m + 1) 8 (by decide)
  have l2 := mixed_lt ns (m + 1 + 1) 2 (by decide)
  have l3 := mixed_lt ns (m + 1 + 1 + 1) 2 (by decide)
  generalize mixed ns (m + 1) 8 = t at *
  generalize mixed ns (m + 1 + 1) 2 = f at *
  generalize mixed ns (m + 1 + 1 + 1) 2 = r at *
  refine ⟨foeN t f, friN t f r, ⟨t, f, r, l1, l2, l3, rfl, rfl⟩, ?_⟩
  have e1 : (1 : Int) + (f : Int) = ((f + 1 : Nat) : Int) := by omega
  have e2 : ((f + 1 : Nat) : Int) + (1 + (r : Int)) = ((f + 1 + (r + 1) : Nat) : Int) := by omega
  have e3 : (f : Int) + 1 + ((r : Int) + 1) = ((f + 1 + (r + 1) : Nat) : Int) := by omega
  have e4 : (1 : Int) + (f : Int) + (1 + (r : Int)) = ((f + 1 + (r + 1) : Nat) : Int) := by omega
  simp at h1 h2 h3
  have row : (List.map D.str allN).drop t ++ (List.map D.str allN).take t = (rowN t).map D.str := by
    unfold rowN
    rw [List.map_append, List.map_drop, List.map_take]
  have eAll : [D.str "a", D.str "b", D.str "x", D.str "y", D.str "lamp", D.str "far", D.str "yesno", D.str "abcdefgh"] = allN.map D.str := rfl
  have al : allN.length = 8 := rfl
  have q1 : 8 - t + min t 8 ≤ 16777216 := by omega
  have e5 : ((f + 1 : Nat) : Int) = 1 + (f : Int) := by omega
  have cf : ∀ xs : List D, cut xs none (some (1 + (f : Int))) = xs.take (f + 1) := fun xs => by rw [← e5]; exact cut_to
  have cr : ∀ xs : List D, cut xs (some (1 + (f : Int))) (some (1 + (f : Int) + (1 + (r : Int)))) = (xs.drop (f + 1)).take (r + 1) := fun xs => by
    rw [e4, ← e5, cut_mid, Nat.add_sub_cancel_left]
  have row2 : (allN.drop t).map D.str ++ (allN.take t).map D.str = (rowN t).map D.str := by rw [← row, List.map_drop, List.map_take]
  simp [F_l_names, b_l_names, h1, h2, h3, cut_from, cut_to, eAll, al, q1, row, row2, cf, cr, nmD, foeN, friN]
  omega
end Lz
namespace Lz
open PySem PySem.Spec PyProof.Rows L2
def U1.past : U1 → Nat
  | .nt => 0
  | _ => 1
def U2.past : U2 → Nat
  | .sn => 1
  | _ => 0
def Say.npast : Say → Nat
  | .lamp _ => 0
  | .cst _ => 0
  | .un o s => o.past + s.npast
  | .bin o s t => o.past + s.npast + t.npast
@[simp] theorem atI_0 {α : Type} {x : α} {l : List α} : atI (x :: l) 0 = some x := atI_lt (k := 0) (by simp)
@[simp] theorem atI_1 {α : Type} {x y : α} {l : List α} : atI (x :: y :: l) 1 = some y := atI_lt (k := 1) (by simp)
@[simp] theorem atI_2 {α : Type} {x y z : α} {l : List α} : atI (x :: y :: z :: l) 2 = some z := atI_lt (k := 2) (by simp)
@[simp] theorem atI_3 {α : Type} {x y z u : α} {l : List α} : atI (x :: y :: z :: u :: l) 3 = some u := atI_lt (k := 3) (by simp)
@[simp] theorem atI_4 {α : Type} {x y z u v : α} {l : List α} : atI (x :: y :: z :: u :: v :: l) 4 = some v := atI_lt (k := 4) (by simp)
@[simp] theorem ixN_10 : ixN 1 0 = some 0 := rfl
theorem saying_sp (ns : List Int) (hl : ns.length ≤ 63) (nm : List Str) (hn : nm ≠ []) (hn4 : nm.length ≤ 4) : ∀ (deep m left fuel : Nat), deep < fuel → ∃ (s : Say) (m' l' : Nat), s.Over nm ∧ s.dep ≤ deep + 1 ∧ s.npast + l' ≤ left ∧
    R_l_saying fuel [(false, .scr ns), (true, .lst [.int m]), (false, nmD nm), (false, .int deep), (true, .lst [.int left])] =
      .ok (false, s.toD) [some (false, .scr ns), some (true, .lst [.int m']), some (false, nmD nm), some (false, .int deep), some (true, .lst [.int l'])] := by
  intro deep
  induction deep with
  | zero =>
    intro m left fuel hf
    obtain ⟨fuel, rfl⟩ : ∃ f, fuel = f + 1 := ⟨fuel - 1, by omega⟩
    have hp : 0 < nm.length := List.length_pos_iff.mpr hn
    have h1 := next_sp ns hl m 13 (by decide)
    have h2 := next_sp ns hl (m + 1) nm.length hp
    have l2 := mixed_lt ns (m + 1 + 1) nm.length hp
    generalize mixed ns (m + 1 + 1) nm.length = k at *
    refine ⟨.lamp nm[k], m + 1 + 1, left, List.getElem_mem _, by simp [Say.dep], by simp [Say.npast], ?_⟩
    have e : atI (nm.map D.str) (k : Int) = some (.str nm[k]) := by rw [atI_lt (by simpa using l2)]; simp
    simp at h1 h2
    simp [R_l_saying, b_l_saying, h1, h2, nmD, e, Say.toD]
  | succ deep ih =>
    intro m left fuel hf
    obtain ⟨fuel, rfl⟩ : ∃ f, fuel = f + 1 := ⟨fuel - 1, by omega⟩
    have h1 := next_sp ns hl m 13 (by decide)
    have l1 := mixed_lt ns (m + 1) 13 (by decide)
    generalize mixed ns (m + 1) 13 = way at *
    simp at h1
    by_cases w3 : way < 3
    · have hp : 0 < nm.length := List.length_pos_iff.mpr hn
      have h2 := next_sp ns hl (m + 1) nm.length hp
      have l2 := mixed_lt ns (m + 1 + 1) nm.length hp
      generalize mixed ns (m + 1 + 1) nm.length = k at *
      refine ⟨.lamp nm[k], m + 1 + 1, left, List.getElem_mem _, by simp [Say.dep], by simp [Say.npast], ?_⟩
      have e : atI (nm.map D.str) (k : Int) = some (.str nm[k]) := by rw [atI_lt (by simpa using l2)]; simp
      simp at h2
      have d1 : ¬ ((deep : Int) + 1 = 0) := by omega
      have w3' : (way : Int) < 3 := by omega
      simp [R_l_saying, b_l_saying, h1, h2, nmD, e, Say.toD, d1, w3']
    have d1 : ¬ ((deep : Int) + 1 = 0) := by omega
    have d2 : (deep : Int) + 1 - 1 = deep := by omega
    have w3' : ¬ (way : Int) < 3 := by omega
    by_cases w4 : way = 3
    · subst w4
      have h2 := next_sp ns hl (m + 1) 2 (by decide)
      have l2 := mixed_lt ns (m + 1 + 1) 2 (by decide)
      generalize mixed ns (m + 1 + 1) 2 = k at *
      simp at h2
      refine ⟨.cst (decide (k = 0)), m + 1 + 1, left, trivial, by simp [Say.dep], by simp [Say.npast], ?_⟩
      have hk : k = 0 ∨ k = 1 := by omega
      rcases hk with rfl | rfl
      · simp at h2
        simp [R_l_saying, b_l_saying, h1, h2, nmD, Say.toD, d1]
      · simp at h2
        simp [R_l_saying, b_l_saying, h1, h2, nmD, Say.toD, d1]
    have w4' : ¬ (way : Int) = 3 := by omega
    by_cases w8 : 8 < way
    · have w8' : (8 : Int) < way := by omega
      by_cases hL : 0 < left
      · have hL' : (0 : Int) < left := by omega
        obtain ⟨s1, m1, k1, o1, e1, p1, r1⟩ := ih (m + 1) (left - 1) fuel (by omega)
        have c1 : ((left - 1 : Nat) : Int) = (left : Int) - 1 := by omega
        rw [c1] at r1
        simp only [nmD] at r1
        simp at r1
        by_cases w12 : way = 12
        · subst w12
          obtain ⟨s2, m2, k2, o2, e2, p2, r2⟩ := ih m1 k1 fuel (by omega)
          simp only [nmD] at r2
          refine ⟨.bin .sn s1 s2, m2, k2, ⟨o1, o2⟩, by simp only [Say.dep]; omega, by simp only [Say.npast, U2.past]; omega, ?_⟩
          simp [R_l_saying, b_l_saying, h1, nmD, Say.toD, d1, d2, hL', hL, r1, r2, U2.str]
        · have w12' : ¬ (way : Int) = 12 := by omega
          have hw : way = 9 ∨ way = 10 ∨ way = 11 := by omega
          rcases hw with rfl | rfl | rfl
          · refine ⟨.un .bf s1, m1, k1, o1, by simp only [Say.dep]; omega, by simp only [Say.npast, U1.past]; omega, ?_⟩
            simp [R_l_saying, b_l_saying, h1, nmD, Say.toD, d1, d2, hL', hL, r1, U1.str]
          · refine ⟨.un .on s1, m1, k1, o1, by simp only [Say.dep]; omega, by simp only [Say.npast, U1.past]; omega, ?_⟩
            simp [R_l_saying, b_l_saying, h1, nmD, Say.toD, d1, d2, hL', hL, r1, U1.str]
          · refine ⟨.un .sf s1, m1, k1, o1, by simp only [Say.dep]; omega, by simp only [Say.npast, U1.past]; omega, ?_⟩
            simp [R_l_saying, b_l_saying, h1, nmD, Say.toD, d1, d2, hL', hL, r1, U1.str]
      · have hL' : ¬ (0 : Int) < left := by omega
        obtain ⟨s1, m1, k1, o1, e1, p1, r1⟩ := ih (m + 1) left fuel (by omega)
        simp only [nmD] at r1
        simp at r1
        refine ⟨.un .nt s1, m1, k1, o1, by simp only [Say.dep]; omega, by simp only [Say.npast, U1.past]; omega, ?_⟩
        have w44 : ¬ (way : Int) = 4 := by omega
        have hL2 : ¬ 0 < left := by omega
        simp [R_l_saying, b_l_saying, h1, nmD, Say.toD, d1, d2, w3', w4', w8', hL2, w3, w4, w8, r1, w44, U1.str]
    · have w8' : ¬ (8 : Int) < way := by omega
      obtain ⟨s1, m1, k1, o1, e1, p1, r1⟩ := ih (m + 1) left fuel (by omega)
      simp only [nmD] at r1
      simp at r1
      by_cases w44 : way = 4
      · subst w44
        refine ⟨.un .nt s1, m1, k1, o1, by simp only [Say.dep]; omega, by simp only [Say.npast, U1.past]; omega, ?_⟩
        simp [R_l_saying, b_l_saying, h1, nmD, Say.toD, d1, d2, r1, U1.str]
      · obtain ⟨s2, m2, k2, o2, e2, p2, r2⟩ := ih m1 k1 fuel (by omega)
        simp only [nmD] at r2
        have hw : way = 5 ∨ way = 6 ∨ way = 7 ∨ way = 8 := by omega
        rcases hw with rfl | rfl | rfl | rfl
        · refine ⟨.bin .an s1 s2, m2, k2, ⟨o1, o2⟩, by simp only [Say.dep]; omega, by simp only [Say.npast, U2.past]; omega, ?_⟩
          simp [R_l_saying, b_l_saying, h1, nmD, Say.toD, d1, d2, r1, r2, U2.str]
        · refine ⟨.bin .or s1 s2, m2, k2, ⟨o1, o2⟩, by simp only [Say.dep]; omega, by simp only [Say.npast, U2.past]; omega, ?_⟩
          simp [R_l_saying, b_l_saying, h1, nmD, Say.toD, d1, d2, r1, r2, U2.str]
        · refine ⟨.bin .th s1 s2, m2, k2, ⟨o1, o2⟩, by simp only [Say.dep]; omega, by simp only [Say.npast, U2.past]; omega, ?_⟩
          simp [R_l_saying, b_l_saying, h1, nmD, Say.toD, d1, d2, r1, r2, U2.str]
        · refine ⟨.bin .sm s1 s2, m2, k2, ⟨o1, o2⟩, by simp only [Say.dep]; omega, by simp only [Say.npast, U2.past]; omega, ?_⟩
          simp [R_l_saying, b_l_saying, h1, nmD, Say.toD, d1, d2, r1, r2, U2.str]
end Lz
namespace Lz
open PySem PySem.Spec PyProof.Rows L2
def Say.isP : Say → Bool
  | .un .bf _ => true
  | .un .on _ => true
  | .un .sf _ => true
  | .bin .sn _ _ => true
  | _ => false
def addP (s : Say) (m : List Say) : List Say := if s.isP = true ∧ s ∉ m then m ++ [s] else m
def gath : Say → List Say → List Say
  | .lamp n, m => addP (.lamp n) m
  | .cst b, m => addP (.cst b) m
  | .un o s, m => gath s (addP (.un o s) m)
  | .bin o s t, m => gath t (gath s (addP (.bin o s t) m))
def says (l : List Say) : D := .lst (l.map Say.toD)
theorem Say.inD {ns : List Str} (hn : ∀ n ∈ ns, okStr n) {s : Say} {l : List Say} (hs : s.Over ns) (hl : ∀ t ∈ l, t.Over ns) (ds : s.dep ≤ 60) (dl : ∀ t ∈ l, t.dep ≤ 60) : Lz.inD s.toD (.lst (l.map Say.toD)) = some (decide (s ∈ l)) := by
  obtain ⟨b, h1, h2⟩ := inL_ok (n := 60) (m := 60) (d := s.toD) (ys := l.map Say.toD) (okN_mono (Say.okN hn s hs) ds) (fun y hy => by
    obtain ⟨t, ht, rfl⟩ := List.mem_map.mp hy
    exact okN_mono (Say.okN hn t (hl t ht)) (dl t ht)) (by decide) (by decide)
  rw [h1]
  congr 1
  have h3 : b = true ↔ s ∈ l := by
    rw [h2]
    constructor
    · rintro ⟨y, hy, e⟩
      obtain ⟨t, ht, rfl⟩ := List.mem_map.mp hy
      rw [Say.nrm_toD, Say.nrm_toD] at e
      rw [← Say.toD_inj e]
      exact ht
    · intro hs
      exact ⟨s.toD, List.mem_map_of_mem hs, rfl⟩
  cases b with
  | true => exact (decide_eq_true (h3.mp rfl)).symm
  | false => exact (decide_eq_false fun e => by have := h3.mpr e; cases this).symm
theorem addP_mem {s : Say} {m : List Say} {t : Say} (h : t ∈ addP s m) : t ∈ m ∨ t = s := by
  unfold addP at h
  split at h
  · rcases List.mem_append.mp h with h | h
    · exact .inl h
    · exact .inr (List.mem_singleton.mp h)
  · exact .inl h
/-- all of these are over the names and not too deep -/
def SaysOk (ns : List Str) (k : Nat) (l : List Say) : Prop := ∀ t ∈ l, t.Over ns ∧ t.dep ≤ k
theorem SaysOk.addP {ns : List Str} {k : Nat} {l : List Say} {s : Say} (h : SaysOk ns k l) (hs : s.Over ns) (hd : s.dep ≤ k) : SaysOk ns k (addP s l) := fun t ht => by
  rcases addP_mem ht with ht | rfl
  · exact h t ht
  · exact ⟨hs, hd⟩
theorem SaysOk.gath {ns : List Str} {k : Nat} : ∀ {s : Say} {l : List Say}, SaysOk ns k l → s.Over ns → s.dep ≤ k → SaysOk ns k (gath s l)
  | .lamp n, l, h, hs, hd => h.addP hs hd
  | .cst n, l, h, hs, hd => h.addP hs hd
  | .un o s, l, h, hs, hd => SaysOk.gath (s := s) (h.addP hs hd) hs (by simp only [Say.dep] at hd; omega)
  | .bin o s t, l, h, hs, hd => SaysOk.gath (s := t) (SaysOk.gath (s := s) (h.addP hs hd) hs.1 (by simp only [Say.dep] at hd; omega)) hs.2 (by simp only [Say.dep] at hd; omega)
def Say.head : Say → Str
  | .lamp _ => "lamp"
  | .cst b => if b then "yes" else "no"
  | .un o _ => o.str
  | .bin o _ _ => o.str
def Say.parts : Say → List Say
  | .lamp _ => []
  | .cst _ => []
  | .un _ s => [s]
  | .bin _ s t => [s, t]
def Say.tail : Say → List D
  | .lamp n => [.str n]
  | s => s.parts.map Say.toD
theorem Say.toD_eq (s : Say) : s.toD = .tup (.str s.head :: s.tail) := by cases s <;> rfl
end Lz
namespace Lz
open PySem PySem.Spec PyProof.Rows L2
theorem compL_map {i : Nat} {f : Env → R XV} {ρ : Env} {e : D → D} (h0 : gt ρ i = none) : ∀ {ds : List D}, (∀ d ∈ ds, ∃ o, f (pt ρ i (some (false, d))) = .ok (.v o (e d)) (pt ρ i (some (false, d)))) → compL [i] (gN i) cT f ds ρ = .ok (ds.map e) ρ
  | [], _ => rfl
  | d :: ds, h => by
    obtain ⟨o, h1⟩ := h d List.mem_cons_self
    have ih := compL_map (ds := ds) h0 fun x hx => h x (List.mem_cons_of_mem _ hx)
    have e2 : pt (pt ρ i (some (false, d))) i none = ρ := by rw [pt_pt, pt_none ρ i h0]
    simp [h1, e2, ih]
@[simp] theorem isi_tup_t {xs : List D} : isiD "tuple" (.tup xs) = some (false, .bl true) := rfl
@[simp] theorem isi_tup_l {xs : List D} : isiD "tuple" (.lst xs) = some (false, .bl false) := rfl
@[simp] theorem isi_tup_s {z : Str} : isiD "tuple" (.str z) = some (false, .bl false) := rfl
@[simp] theorem isi_tup_i {i : Int} : isiD "tuple" (.int i) = some (false, .bl false) := rfl
@[simp] theorem isi_tup_b {b : Bool} : isiD "tuple" (.bl b) = some (false, .bl false) := rfl
@[simp] theorem isi_tup_n : isiD "tuple" .non = some (false, .bl false) := rfl
@[simp] theorem isi_str_t {xs : List D} : isiD "str" (.tup xs) = some (false, .bl false) := rfl
@[simp] theorem isi_str_l {xs : List D} : isiD "str" (.lst xs) = some (false, .bl false) := rfl
@[simp] theorem isi_str_s {z : Str} : isiD "str" (.str z) = some (false, .bl true) := rfl
@[simp] theorem isi_str_i {i : Int} : isiD "str" (.int i) = some (false, .bl false) := rfl
@[simp] theorem isi_str_b {b : Bool} : isiD "str" (.bl b) = some (false, .bl false) := rfl
@[simp] theorem isi_str_n : isiD "str" .non = some (false, .bl false) := rfl
theorem inD_strs {z : Str} {zs : List Str} : inD (.str z) (.tup (zs.map .str)) = some (decide (z ∈ zs)) := by
  have h1 : (zs.map D.str).all flatD = true := by rw [List.all_map]; exact List.all_eq_true.mpr fun _ _ => rfl
  show (if flatD (.str z) = true ∧ (zs.map D.str).all flatD = true then some ((zs.map D.str).any fun y => eqF y (.str z)) else none) = _
  rw [if_pos ⟨rfl, h1⟩]
  congr 1
  rw [List.any_map]
  induction zs with
  | nil => rfl
  | cons a zs ih =>
    rw [List.any_cons, ih (by rw [List.all_map]; exact List.all_eq_true.mpr fun _ _ => rfl)]
    show ((a == z) || _) = _
    by_cases e : a = z
    · subst e; simp
    · have : (a == z) = false := beq_eq_false_iff_ne.mpr e
      rw [this, Bool.false_or]
      simp [Ne.symm e, show ¬ z = a from fun q => e q.symm]
def sgl : List Str := ["not", "before", "once", "sofar"]
def dbl : List Str := ["and", "or", "then", "same", "since"]
theorem inD_sgl {z : Str} : inD (.str z) (.tup [.str "not", .str "before", .str "once", .str "sofar"]) = some (decide (z ∈ sgl)) := inD_strs (zs := sgl)
theorem inD_dbl {z : Str} : inD (.str z) (.tup [.str "and", .str "or", .str "then", .str "same", .str "since"]) = some (decide (z ∈ dbl)) := inD_strs (zs := dbl)
-- data of which it may be asked whether they are a saying
mutual
def plD : D → Bool
  | .non => true
  | .bl _ => true
  | .int _ => true
  | .str _ => true
  | .tup xs => plDs xs
  | .lst xs => plDs xs
  | _ => false
def plDs : List D → Bool
  | [] => true
  | x :: xs => plD x && plDs xs
end
theorem plDs_all : ∀ {xs : List D}, plDs xs = true → ∀ x ∈ xs, plD x = true
  | [], _, x, h => by cases h
  | y :: ys, h, x, hx => by
    rw [plDs, Bool.and_eq_true] at h
    rcases List.mem_cons.mp hx with rfl | hx
    · exact h.1
    · exact plDs_all h.2 x hx
def lampB (nm : List Str) : List D → Bool
  | [.str n] => decide (n ∈ nm)
  | _ => false
def isSay (nm : List Str) : Nat → D → Bool
  | 0, _ => false
  | m + 1, .tup (.str h :: r) => if h = "lamp" then lampB nm r else if h = "yes" ∨ h = "no" then decide (r.length = 0) else if h ∈ sgl then decide (r.length = 1) && r.all (isSay nm m) else if h ∈ dbl then decide (r.length = 2) && r.all (isSay nm m) else false
  | _ + 1, _ => false
theorem blsD_map : ∀ (l : List D) (p : D → Bool), blsD (l.map fun d => D.bl (p d)) = some (l.map p)
  | [], _ => rfl
  | d :: l, p => by
    show (blsD (l.map fun d => D.bl (p d))).map (p d :: ·) = _
    rw [blsD_map l p]
    rfl
theorem is_saying_sp (nm : List Str) (hnm : nm.length ≤ 1000) : ∀ (most fuel : Nat) (d : D), most < fuel → plD d = true →
    R_is_saying fuel [(false, nmD nm), (false, d), (false, .int most)] = .ok (false, .bl (isSay nm most d)) [some (false, nmD nm), some (false, d), some (false, .int most)] := by
  intro most
  induction most with
  | zero =>
    intro fuel d hf hd
    obtain ⟨fuel, rfl⟩ : ∃ f, fuel = f + 1 := ⟨fuel - 1, by omega⟩
    simp [R_is_saying, b_is_saying, isSay]
  | succ m ih =>
    intro fuel d hf hd
    obtain ⟨fuel, rfl⟩ : ∃ f, fuel = f + 1 := ⟨fuel - 1, by omega⟩
    have m1 : ¬ ((m : Int) + 1 = 0) := by omega
    have m2 : (m : Int) + 1 - 1 = m := by omega
    cases d with
    | scr _ => simp [plD] at hd
    | dct _ => simp [plD] at hd
    | obj _ _ => simp [plD] at hd
    | ob _ _ => simp [plD] at hd
    | dk _ => simp [plD] at hd
    | dkl _ _ => simp [plD] at hd
    | lol _ => simp [plD] at hd
    | pin _ => simp [plD] at hd
    | fn _ => simp [plD] at hd
    | xc _ => simp [plD] at hd
    | non => simp [R_is_saying, b_is_saying, isSay, m1]
    | bl b => simp [R_is_saying, b_is_saying, isSay, m1]
    | int b => simp [R_is_saying, b_is_saying, isSay, m1]
    | str b => simp [R_is_saying, b_is_saying, isSay, m1]
    | lst b => simp [R_is_saying, b_is_saying, isSay, m1]
    | tup xs =>
      cases xs with
      | nil => simp [R_is_saying, b_is_saying, isSay, m1]
      | cons x r =>
        have hp := plDs_all (by rw [plD] at hd; exact hd : plDs (x :: r) = true)
        have l1 : ¬ ((r.length : Int) + 1 = 0) := by omega
        cases x with
        | scr _ => have := hp _ List.mem_cons_self; simp [plD] at this
        | dct _ => have := hp _ List.mem_cons_self; simp [plD] at this
        | obj _ _ => have := hp _ List.mem_cons_self; simp [plD] at this
        | ob _ _ => have := hp _ List.mem_cons_self; simp [plD] at this
        | dk _ => have := hp _ List.mem_cons_self; simp [plD] at this
        | dkl _ _ => have := hp _ List.mem_cons_self; simp [plD] at this
        | lol _ => have := hp _ List.mem_cons_self; simp [plD] at this
        | pin _ => have := hp _ List.mem_cons_self; simp [plD] at this
        | fn _ => have := hp _ List.mem_cons_self; simp [plD] at this
        | xc _ => have := hp _ List.mem_cons_self; simp [plD] at this
        | non => simp [R_is_saying, b_is_saying, isSay, m1, l1]
        | bl b => simp [R_is_saying, b_is_saying, isSay, m1, l1]
        | int b => simp [R_is_saying, b_is_saying, isSay, m1, l1]
        | lst b => simp [R_is_saying, b_is_saying, isSay, m1, l1]
        | tup b => simp [R_is_saying, b_is_saying, isSay, m1, l1]
        | str h =>
          by_cases c1 : h = "lamp"
          · subst c1
            cases r with
            | nil => simp [R_is_saying, b_is_saying, isSay, m1, lampB]
            | cons y r2 =>
              have hy := hp y (by simp)
              cases r2 with
              | nil =>
                have l2 : ¬ ((1 : Int) + 1 = 0) := by omega
                cases y with
                | scr _ => simp [plD] at hy
                | dct _ => simp [plD] at hy
                | obj _ _ => simp [plD] at hy
                | ob _ _ => simp [plD] at hy
                | dk _ => simp [plD] at hy
                | dkl _ _ => simp [plD] at hy
                | lol _ => simp [plD] at hy
                | pin _ => simp [plD] at hy
                | fn _ => simp [plD] at hy
                | xc _ => simp [plD] at hy
                | str n => simp [R_is_saying, b_is_saying, isSay, m1, lampB, nmD, inD_strs]
                | _ => simp [R_is_saying, b_is_saying, isSay, m1, lampB]
              | cons z r3 =>
                have l3 : ¬ ((r3.length : Int) + 1 + 1 + 1 = 2) := by omega
                have l4 : ¬ ((r3.length : Int) + 1 + 1 + 1 = 0) := by omega
                simp [R_is_saying, b_is_saying, isSay, m1, lampB, l3, l4]
          · by_cases c2 : h = "yes" ∨ h = "no"
            · have e0 : ((r.length : Int) + 1 = 1) ↔ r.length = 0 := by omega
              rcases c2 with rfl | rfl
              · simp [R_is_saying, b_is_saying, isSay, m1, l1, c1, e0]
              · have ny : ¬ (("no" : Str) = "yes") := by decide
                simp [R_is_saying, b_is_saying, isSay, m1, l1, c1, e0, ny]
            · have c2a : ¬ h = "yes" := fun e => c2 (.inl e)
              have c2b : ¬ h = "no" := fun e => c2 (.inr e)
              have hcomp : compL [3] (gN 3) cT (sCallF (R_is_saying fuel) (sCons (sVar 0) (sCons (sVar 3) (sCons (sBin opSub (sVar 2) (sC (.int 1))) sNil)))) r [some (false, .tup (nm.map D.str)), some (false, .tup (.str h :: r)), some (false, .int ((m : Int) + 1)), none] =
                  .ok (r.map fun d => D.bl (isSay nm m d)) [some (false, .tup (nm.map D.str)), some (false, .tup (.str h :: r)), some (false, .int ((m : Int) + 1)), none] := by
                refine compL_map (e := fun d => D.bl (isSay nm m d)) rfl fun d hd' => ⟨false, ?_⟩
                have := ih fuel d (by omega) (hp d (List.mem_cons_of_mem _ hd'))
                simp only [nmD] at this
                simp [this, m2]
              have hb := blsD_map r (isSay nm m)
              by_cases c3 : h ∈ dbl
              · have c4 : h ∉ sgl := by
                  intro c4
                  simp only [sgl, dbl, List.mem_cons, List.not_mem_nil, or_false] at c3 c4
                  rcases c3 with rfl | rfl | rfl | rfl | rfl <;> exact absurd c4 (by decide)
                by_cases c5 : r.length = 2
                · have e1 : ((r.length : Int) + 1 = 2 + 1) := by omega
                  simp [R_is_saying, b_is_saying, isSay, m1, l1, c1, c2a, c2b, inD_sgl, inD_dbl, c3, c4, nmD, hcomp, hb, c5, e1]
                · have e1 : ¬ ((r.length : Int) + 1 = 2 + 1) := by omega
                  have e2 : ¬ ((r.length : Int) + 1 = 3) := by omega
                  simp [R_is_saying, b_is_saying, isSay, m1, l1, c1, c2a, c2b, inD_sgl, inD_dbl, c3, c4, nmD, c5, e1, e2]
              · by_cases c4 : h ∈ sgl
                · by_cases c5 : r.length = 1
                  · have e1 : ((r.length : Int) + 1 = 2 + 0) := by omega
                    simp [R_is_saying, b_is_saying, isSay, m1, l1, c1, c2a, c2b, inD_sgl, inD_dbl, c3, c4, nmD, hcomp, hb, c5, e1]
                  · have e1 : ¬ ((r.length : Int) + 1 = 2) := by omega
                    simp [R_is_saying, b_is_saying, isSay, m1, l1, c1, c2a, c2b, inD_sgl, inD_dbl, c3, c4, nmD, c5, e1]
                · simp [R_is_saying, b_is_saying, isSay, m1, l1, c1, c2a, c2b, inD_sgl, inD_dbl, c3, c4, nmD]
theorem Say.plD : ∀ s : Say, Lz.plD s.toD = true
  | .lamp n => by simp [Say.toD, Lz.plD, plDs]
  | .cst n => by simp [Say.toD, Lz.plD, plDs]
  | .un o s => by simp [Say.toD, Lz.plD, plDs, Say.plD s]
  | .bin o s t => by simp [Say.toD, Lz.plD, plDs, Say.plD s, Say.plD t]
theorem U1.sgl (o : U1) : o.str ∈ Lz.sgl := by cases o <;> decide
theorem U2.dbl (o : U2) : o.str ∈ Lz.dbl := by cases o <;> decide
theorem U2.nsgl (o : U2) : o.str ∉ Lz.sgl := by cases o <;> decide
/-- a saying is one if it is not too deep -/
theorem isSay_say (nm : List Str) : ∀ (s : Say) (m : Nat), s.Over nm → isSay nm m s.toD = decide (s.dep ≤ m)
  | .lamp n, 0, h => by simp [isSay, Say.dep]
  | .cst b, 0, h => by simp [isSay, Say.dep]
  | .un o s, 0, h => by simp [isSay, Say.dep]
  | .bin o s t, 0, h => by simp [isSay, Say.dep]
  | .lamp n, m + 1, h => by
    have h' : n ∈ nm := h
    simp [Say.toD, isSay, lampB, Say.dep, h']
  | .cst b, m + 1, h => by
    have n1 : ¬ ((if b = true then ("yes" : Str) else "no") = "lamp") := by cases b <;> decide
    have n2 : (if b = true then ("yes" : Str) else "no") = "yes" ∨ (if b = true then ("yes" : Str) else "no") = "no" := by cases b <;> first | exact .inl rfl | exact .inr rfl
    simp only [Say.toD, isSay, if_neg n1, if_pos n2, Say.dep]
    simp
  | .un o s, m + 1, h => by
    have ih := isSay_say nm s m h
    have n2 : ¬ (o.str = "yes" ∨ o.str = "no") := fun q => q.elim o.ne_yes o.ne_no
    simp only [Say.toD, isSay, if_neg o.ne_lamp, if_neg n2, if_pos o.sgl, Say.dep, List.all_cons, List.all_nil, ih]
    simp
  | .bin o s t, m + 1, h => by
    have ih := isSay_say nm s m h.1
    have ih2 := isSay_say nm t m h.2
    have n2 : ¬ (o.str = "yes" ∨ o.str = "no") := fun q => q.elim o.ne_yes o.ne_no
    simp only [Say.toD, isSay, if_neg o.ne_lamp, if_neg n2, if_neg o.nsgl, if_pos o.dbl, Say.dep, List.all_cons, List.all_nil, ih, ih2]
    simp [Nat.max_le]
end Lz
namespace Lz
open PySem PySem.Spec PyProof.Rows L2
theorem fdiv_nat (a b : Nat) : ((a : Int)).fdiv (b : Int) = ((a / b : Nat) : Int) := by
  rw [Int.fdiv_eq_ediv_of_nonneg _ (Int.natCast_nonneg b)]
  exact (Int.natCast_ediv a b).symm
theorem fdiv7 (a : Nat) : ((a : Int)).fdiv 7 = ((a / 7 : Nat) : Int) := fdiv_nat a 7
/-- data that may be compared, and asked for -/
def Fine (n : Nat) (d : D) : Prop := okN n d ∧ plD d = true
theorem Fine.mono {n m : Nat} {d : D} (h : Fine n d) (e : n ≤ m) : Fine m d := ⟨okN_mono h.1 e, h.2⟩
end Lz
namespace Lz
open PySem PySem.Spec PyProof.Rows L2
@[simp] theorem isi_int_i {i : Int} : isiD "int" (.int i) = some (false, .bl true) := rfl
@[simp] theorem isi_int_b {b : Bool} : isiD "int" (.bl b) = some (false, .bl true) := rfl
@[simp] theorem isi_int_n : isiD "int" .non = some (false, .bl false) := rfl
@[simp] theorem isi_int_s {z : Str} : isiD "int" (.str z) = some (false, .bl false) := rfl
@[simp] theorem isi_int_t {xs : List D} : isiD "int" (.tup xs) = some (false, .bl false) := rfl
@[simp] theorem isi_int_l {xs : List D} : isiD "int" (.lst xs) = some (false, .bl false) := rfl
@[simp] theorem isi_bl_i {i : Int} : isiD "bool" (.int i) = some (false, .bl false) := rfl
@[simp] theorem isi_bl_b {b : Bool} : isiD "bool" (.bl b) = some (false, .bl true) := rfl
@[simp] theorem isi_bl_n : isiD "bool" .non = some (false, .bl false) := rfl
@[simp] theorem isi_bl_s {z : Str} : isiD "bool" (.str z) = some (false, .bl false) := rfl
@[simp] theorem isi_bl_t {xs : List D} : isiD "bool" (.tup xs) = some (false, .bl false) := rfl
@[simp] theorem isi_bl_l {xs : List D} : isiD "bool" (.lst xs) = some (false, .bl false) := rfl
@[simp] theorem isi_lst_l {xs : List D} : isiD "list" (.lst xs) = some (false, .bl true) := rfl
@[simp] theorem isi_lst_t {xs : List D} : isiD "list" (.tup xs) = some (false, .bl false) := rfl
@[simp] theorem isi_lst_n : isiD "list" .non = some (false, .bl false) := rfl
@[simp] theorem isi_lst_s {z : Str} : isiD "list" (.str z) = some (false, .bl false) := rfl
@[simp] theorem isi_lst_i {z : Int} : isiD "list" (.int z) = some (false, .bl false) := rfl
@[simp] theorem isi_lst_b {z : Bool} : isiD "list" (.bl z) = some (false, .bl false) := rfl
def wordsL : List Str := ["yes", "no", "not", "and", "or", "then", "same", "before", "once", "sofar", "since", "foe", "friend", "promise", "must", "wish"]
def letters : Str := "abcdefghijklmnopqrstuvwxyz"
def letB (c : Nat) : Bool := decide (c ∈ letters.cps.toList)
def isNameS (z : Str) : Bool := decide (1 ≤ z.length) && (decide (z.length ≤ 8) && (!(decide (z ∈ wordsL)) && (z.cps.toList.map letB).all id))
def isNameD : D → Bool
  | .str z => isNameS z
  | _ => false
def areNm : D → Bool
  | .tup xs => decide (1 ≤ xs.length) && (decide (xs.length ≤ 2) && xs.all isNameD)
  | _ => false
theorem isSay_inv {nm : List Str} : ∀ {m : Nat} {d : D}, isSay nm m d = true → ∃ s : Say, d = s.toD ∧ s.Over nm ∧ s.dep ≤ m
  | 0, d, h => by cases h
  | m + 1, d, h => by
    cases d with
    | tup xs =>
      cases xs with
      | nil => cases h
      | cons x r =>
        cases x with
        | str z =>
          have h' : (if z = "lamp" then lampB nm r else if z = "yes" ∨ z = "no" then decide (r.length = 0) else if z ∈ sgl then decide (r.length = 1) && r.all (isSay nm m) else if z ∈ dbl then decide (r.length = 2) && r.all (isSay nm m) else false) = true := h
          by_cases c1 : z = "lamp"
          · rw [if_pos c1] at h'
            subst c1
            unfold lampB at h'
            split at h'
            · rename_i n
              exact ⟨.lamp n, rfl, (show n ∈ nm from of_decide_eq_true h'), by simp [Say.dep]⟩
            · cases h'
          rw [if_neg c1] at h'
          by_cases c2 : z = "yes" ∨ z = "no"
          · rw [if_pos c2] at h'
            have e := List.length_eq_zero_iff.mp (of_decide_eq_true h')
            subst e
            rcases c2 with rfl | rfl
            · exact ⟨.cst true, rfl, trivial, by simp [Say.dep]⟩
            · exact ⟨.cst false, rfl, trivial, by simp [Say.dep]⟩
          rw [if_neg c2] at h'
          by_cases c3 : z ∈ sgl
          · rw [if_pos c3, Bool.and_eq_true, decide_eq_true_eq] at h'
            obtain ⟨l1, h2⟩ := h'
            match r, l1, h2 with
            | [y], _, h2 =>
              obtain ⟨s, rfl, o, d⟩ := isSay_inv (m := m) (d := y) (by simpa using h2)
              have ho : ∃ o : U1, z = o.str := by
                simp only [sgl, List.mem_cons, List.not_mem_nil, or_false] at c3
                rcases c3 with rfl | rfl | rfl | rfl
                · exact ⟨.nt, rfl⟩
                · exact ⟨.bf, rfl⟩
                · exact ⟨.on, rfl⟩
                · exact ⟨.sf, rfl⟩
              obtain ⟨u, rfl⟩ := ho
              exact ⟨.un u s, rfl, o, by simp only [Say.dep]; omega⟩
          rw [if_neg c3] at h'
          by_cases c4 : z ∈ dbl
          · rw [if_pos c4, Bool.and_eq_true, decide_eq_true_eq] at h'
            obtain ⟨l1, h2⟩ := h'
            match r, l1, h2 with
            | [y, y2], _, h2 =>
              rw [List.all_cons, List.all_cons, List.all_nil, Bool.and_true, Bool.and_eq_true] at h2
              obtain ⟨s, rfl, o, d⟩ := isSay_inv (m := m) (d := y) h2.1
              obtain ⟨t, rfl, o2, d2⟩ := isSay_inv (m := m) (d := y2) h2.2
              have ho : ∃ o : U2, z = o.str := by
                simp only [dbl, List.mem_cons, List.not_mem_nil, or_false] at c4
                rcases c4 with rfl | rfl | rfl | rfl | rfl
                · exact ⟨.an, rfl⟩
                · exact ⟨.or, rfl⟩
                · exact ⟨.th, rfl⟩
                · exact ⟨.sm, rfl⟩
                · exact ⟨.sn, rfl⟩
              obtain ⟨u, rfl⟩ := ho
              exact ⟨.bin u s t, rfl, ⟨o, o2⟩, by simp only [Say.dep]; omega⟩
          rw [if_neg c4] at h'
          cases h'
        | _ => cases h
    | _ => cases h
end Lz
namespace Lz
open PySem PySem.Spec PyProof.Rows L2
def Say.free (ns : List Str) : Say → Bool
  | .lamp n => decide (n ∈ ns)
  | .cst _ => false
  | .un o s => if o = .bf then false else s.free ns
  | .bin _ s t => s.free ns || t.free ns
structure Book where
  foe : List Str
  fri : List Str
  pro : List Say
  mus : List Say
  wis : List (Nat × Say)
def wiD (w : Nat × Say) : D := .tup [.int w.1, w.2.toD]
def saysT (l : List Say) : D := .tup (l.map Say.toD)
def Book.toD (b : Book) : D := .tup [nmD b.foe, nmD b.fri, saysT b.pro, saysT b.mus, .tup (b.wis.map wiD)]
def Book.nm (b : Book) : List Str := b.foe ++ b.fri
def Book.says (b : Book) : List Say := b.pro ++ b.mus ++ b.wis.map (·.2)
def Book.pieces (b : Book) : List Say := b.says.foldl (fun m s => gath s m) []
structure Book.Form (b : Book) : Prop where
  nf : ∀ n ∈ b.foe, isNameS n = true
  nr : ∀ n ∈ b.fri, isNameS n = true
  f1 : 1 ≤ b.foe.length
  f2 : b.foe.length ≤ 2
  r1 : 1 ≤ b.fri.length
  r2 : b.fri.length ≤ 2
  nd : b.nm.Nodup
  p3 : b.pro.length ≤ 3
  pk : ∀ s ∈ b.pro, s.Over b.nm ∧ s.dep ≤ 8
  m3 : b.mus.length ≤ 3
  mq : ∀ s ∈ b.mus, s.Over b.nm ∧ s.dep ≤ 8
  w1 : 1 ≤ b.wis.length
  w5 : b.wis.length ≤ 5
  wk : ∀ w ∈ b.wis, 1 ≤ w.1 ∧ w.1 ≤ 99 ∧ w.2.Over b.nm ∧ w.2.dep ≤ 8
structure Book.Ok (b : Book) : Prop extends Book.Form b where
  fr : ∀ s ∈ b.pro, s.free b.fri = false
  pc : b.pieces.length ≤ 4
theorem isNameS_ok {n : Str} (h : isNameS n = true) : okStr n := by
  unfold isNameS at h
  simp only [Bool.and_eq_true] at h
  have h4 := h.2.2.2
  unfold okStr PyData.strOk
  rw [Array.all_eq_true']
  intro c hc
  have h5 := List.all_eq_true.mp h4 (letB c) (List.mem_map_of_mem (by simpa using hc))
  have h6 : c ∈ letters.cps.toList := of_decide_eq_true h5
  have h7 : ∀ c ∈ letters.cps.toList, c < 0x110000 := by decide +kernel
  exact decide_eq_true (h7 c h6)
theorem Book.Form.okn {b : Book} (h : b.Form) : ∀ n ∈ b.nm, okStr n := fun n hn => by
  rcases List.mem_append.mp hn with hn | hn
  · exact isNameS_ok (h.nf n hn)
  · exact isNameS_ok (h.nr n hn)
theorem Book.Form.len {b : Book} (h : b.Form) : b.says.length ≤ 11 := by
  unfold Book.says
  rw [List.length_append, List.length_append, List.length_map]
  have := h.p3; have := h.m3; have := h.w5
  omega
theorem SaysOk.mono {ns : List Str} {k k' : Nat} {l : List Say} (h : SaysOk ns k l) (e : k ≤ k') : SaysOk ns k' l := fun t ht => ⟨(h t ht).1, Nat.le_trans (h t ht).2 e⟩
end Lz
namespace Lz
open PySem PySem.Spec PyProof.Rows L2
section
variable {l1 l2 : List Str} {c u w : D}
variable (hn1 : areNm (nmD l1) = true) (hn2 : areNm (nmD l2) = true)
end
end Lz
namespace Lz
open PySem PySem.Spec PyProof.Rows L2
theorem Say.Over.mono {ns ms : List Str} (h : ∀ n ∈ ns, n ∈ ms) : ∀ {s : Say}, s.Over ns → s.Over ms
  | .lamp n, o => h n o
  | .cst _, _ => trivial
  | .un _ s, o => Say.Over.mono (s := s) h o
  | .bin _ s t, o => ⟨Say.Over.mono (s := s) h o.1, Say.Over.mono (s := t) h o.2⟩
/-- a book as a law draws it -/
structure GB (pieces musts : Nat) (b : Book) : Prop where
  gn : GNm b.foe b.fri
  w1 : 1 ≤ b.wis.length
  w3 : b.wis.length ≤ 3
  wk : ∀ w ∈ b.wis, 1 ≤ w.1 ∧ w.1 ≤ 99 ∧ w.2.Over b.nm ∧ w.2.dep ≤ 3
  ml : b.mus.length ≤ musts
  mq : ∀ s ∈ b.mus, s.Over b.nm ∧ s.dep ≤ 3
  p1 : b.pro.length ≤ 1
  pk : ∀ s ∈ b.pro, s.Over b.nm ∧ s.dep ≤ 4 ∧ s.free b.fri = false
  pp : (b.says.map Say.npast).sum ≤ pieces
theorem rngL_cons {a : Int} {n : Nat} : rngL a 1 (n + 1) = .int a :: rngL (a + 1) 1 n := rfl
section
variable {ns : List Int} (hl : ns.length ≤ 63) {foe fri : List Str} (hn : (foe ++ fri).length ≤ 4) (hne : foe ++ fri ≠ [])
include hl hn hne
end
theorem GNm.names {foe fri : List Str} (g : GNm foe fri) : (∀ n ∈ foe, isNameS n = true) ∧ ∀ n ∈ fri, isNameS n = true := GNm.all (P := fun foe fri => (∀ n ∈ foe, isNameS n = true) ∧ ∀ n ∈ fri, isNameS n = true) (by decide +kernel) g
theorem addP_np (s : Say) (m : List Say) : (addP s m).length ≤ m.length + (if s.isP = true then 1 else 0) := by
  unfold addP
  by_cases h : s.isP = true ∧ s ∉ m
  · rw [if_pos h, if_pos h.1]; simp
  · rw [if_neg h]; omega
theorem gath_np : ∀ (s : Say) (m : List Say), (gath s m).length ≤ m.length + s.npast
  | .lamp n, m => by have := addP_np (.lamp n) m; simpa [gath, Say.npast, Say.isP] using this
  | .cst n, m => by have := addP_np (.cst n) m; simpa [gath, Say.npast, Say.isP] using this
  | .un o s, m => by
    have h1 := gath_np s (addP (.un o s) m)
    have h2 := addP_np (.un o s) m
    have h3 : (if (Say.un o s).isP = true then 1 else 0) = o.past := by cases o <;> rfl
    simp only [gath, Say.npast]
    omega
  | .bin o s t, m => by
    have h1 := gath_np s (addP (.bin o s t) m)
    have h2 := addP_np (.bin o s t) m
    have h4 := gath_np t (gath s (addP (.bin o s t) m))
    have h3 : (if (Say.bin o s t).isP = true then 1 else 0) = o.past := by cases o <;> rfl
    simp only [gath, Say.npast]
    omega
theorem foldl_gath_np : ∀ (l m : List Say), (l.foldl (fun m s => gath s m) m).length ≤ m.length + (l.map Say.npast).sum
  | [], m => by simp
  | s :: l, m => by
    rw [List.foldl_cons, List.map_cons, List.sum_cons]
    have h1 := foldl_gath_np l (gath s m)
    have h2 := gath_np s m
    omega
theorem GB.ok {pieces musts : Nat} {b : Book} (g : GB pieces musts b) (hp : pieces ≤ 4) (hm : musts ≤ 3) : b.Ok := by
  have n := g.gn.names
  have l := g.gn.len
  refine ⟨⟨n.1, n.2, l.1, l.2.1, l.2.2.1, l.2.2.2, g.gn.nodup, by have := g.p1; omega, fun s hs => ⟨(g.pk s hs).1, by have := (g.pk s hs).2.1; omega⟩, Nat.le_trans g.ml hm, fun s hs => ⟨(g.mq s hs).1, by have := (g.mq s hs).2; omega⟩, g.w1, by have := g.w3; omega, fun w hw => ⟨(g.wk w hw).1, (g.wk w hw).2.1, (g.wk w hw).2.2.1, by have := (g.wk w hw).2.2.2; omega⟩⟩, fun s hs => (g.pk s hs).2.2, ?_⟩
  have h1 := foldl_gath_np b.says []
  have h2 := g.pp
  unfold Book.pieces
  simp at h1
  omega
end Lz
namespace Lz
open PySem PySem.Spec PyProof.Rows L2
@[simp] theorem sne_lamp_yes : (("lamp" : Str) = "yes") = False := eq_false (by decide)
@[simp] theorem sne_lamp_no : (("lamp" : Str) = "no") = False := eq_false (by decide)
@[simp] theorem sne_lamp_not : (("lamp" : Str) = "not") = False := eq_false (by decide)
@[simp] theorem sne_lamp_and : (("lamp" : Str) = "and") = False := eq_false (by decide)
@[simp] theorem sne_lamp_or : (("lamp" : Str) = "or") = False := eq_false (by decide)
@[simp] theorem sne_lamp_then : (("lamp" : Str) = "then") = False := eq_false (by decide)
@[simp] theorem sne_lamp_same : (("lamp" : Str) = "same") = False := eq_false (by decide)
@[simp] theorem sne_lamp_before : (("lamp" : Str) = "before") = False := eq_false (by decide)
@[simp] theorem sne_lamp_once : (("lamp" : Str) = "once") = False := eq_false (by decide)
@[simp] theorem sne_lamp_sofar : (("lamp" : Str) = "sofar") = False := eq_false (by decide)
@[simp] theorem sne_lamp_since : (("lamp" : Str) = "since") = False := eq_false (by decide)
@[simp] theorem sne_yes_lamp : (("yes" : Str) = "lamp") = False := eq_false (by decide)
@[simp] theorem sne_yes_no : (("yes" : Str) = "no") = False := eq_false (by decide)
@[simp] theorem sne_yes_not : (("yes" : Str) = "not") = False := eq_false (by decide)
@[simp] theorem sne_yes_and : (("yes" : Str) = "and") = False := eq_false (by decide)
@[simp] theorem sne_yes_or : (("yes" : Str) = "or") = False := eq_false (by decide)
@[simp] theorem sne_yes_then : (("yes" : Str) = "then") = False := eq_false (by decide)
@[simp] theorem sne_yes_same : (("yes" : Str) = "same") = False := eq_false (by decide)
@[simp] theorem sne_yes_before : (("yes" : Str) = "before") = False := eq_false (by decide)
@[simp] theorem sne_yes_once : (("yes" : Str) = "once") = False := eq_false (by decide)
@[simp] theorem sne_yes_sofar : (("yes" : Str) = "sofar") = False := eq_false (by decide)
@[simp] theorem sne_yes_since : (("yes" : Str) = "since") = False := eq_false (by decide)
@[simp] theorem sne_no_lamp : (("no" : Str) = "lamp") = False := eq_false (by decide)
@[simp] theorem sne_no_yes : (("no" : Str) = "yes") = False := eq_false (by decide)
@[simp] theorem sne_no_not : (("no" : Str) = "not") = False := eq_false (by decide)
@[simp] theorem sne_no_and : (("no" : Str) = "and") = False := eq_false (by decide)
@[simp] theorem sne_no_or : (("no" : Str) = "or") = False := eq_false (by decide)
@[simp] theorem sne_no_then : (("no" : Str) = "then") = False := eq_false (by decide)
@[simp] theorem sne_no_same : (("no" : Str) = "same") = False := eq_false (by decide)
@[simp] theorem sne_no_before : (("no" : Str) = "before") = False := eq_false (by decide)
@[simp] theorem sne_no_once : (("no" : Str) = "once") = False := eq_false (by decide)
@[simp] theorem sne_no_sofar : (("no" : Str) = "sofar") = False := eq_false (by decide)
@[simp] theorem sne_no_since : (("no" : Str) = "since") = False := eq_false (by decide)
@[simp] theorem sne_not_lamp : (("not" : Str) = "lamp") = False := eq_false (by decide)
@[simp] theorem sne_not_yes : (("not" : Str) = "yes") = False := eq_false (by decide)
@[simp] theorem sne_not_no : (("not" : Str) = "no") = False := eq_false (by decide)
@[simp] theorem sne_not_and : (("not" : Str) = "and") = False := eq_false (by decide)
@[simp] theorem sne_not_or : (("not" : Str) = "or") = False := eq_false (by decide)
@[simp] theorem sne_not_then : (("not" : Str) = "then") = False := eq_false (by decide)
@[simp] theorem sne_not_same : (("not" : Str) = "same") = False := eq_false (by decide)
@[simp] theorem sne_not_before : (("not" : Str) = "before") = False := eq_false (by decide)
@[simp] theorem sne_not_once : (("not" : Str) = "once") = False := eq_false (by decide)
@[simp] theorem sne_not_sofar : (("not" : Str) = "sofar") = False := eq_false (by decide)
@[simp] theorem sne_not_since : (("not" : Str) = "since") = False := eq_false (by decide)
@[simp] theorem sne_and_lamp : (("and" : Str) = "lamp") = False := eq_false (by decide)
@[simp] theorem sne_and_yes : (("and" : Str) = "yes") = False := eq_false (by decide)
@[simp] theorem sne_and_no : (("and" : Str) = "no") = False := eq_false (by decide)
@[simp] theorem sne_and_not : (("and" : Str) = "not") = False := eq_false (by decide)
@[simp] theorem sne_and_or : (("and" : Str) = "or") = False := eq_false (by decide)
@[simp] theorem sne_and_then : (("and" : Str) = "then") = False := eq_false (by decide)
@[simp] theorem sne_and_same : (("and" : Str) = "same") = False := eq_false (by decide)
@[simp] theorem sne_and_before : (("and" : Str) = "before") = False := eq_false (by decide)
@[simp] theorem sne_and_once : (("and" : Str) = "once") = False := eq_false (by decide)
@[simp] theorem sne_and_sofar : (("and" : Str) = "sofar") = False := eq_false (by decide)
@[simp] theorem sne_and_since : (("and" : Str) = "since") = False := eq_false (by decide)
@[simp] theorem sne_or_lamp : (("or" : Str) = "lamp") = False := eq_false (by decide)
@[simp] theorem sne_or_yes : (("or" : Str) = "yes") = False := eq_false (by decide)
@[simp] theorem sne_or_no : (("or" : Str) = "no") = False := eq_false (by decide)
@[simp] theorem sne_or_not : (("or" : Str) = "not") = False := eq_false (by decide)
@[simp] theorem sne_or_and : (("or" : Str) = "and") = False := eq_false (by decide)
@[simp] theorem sne_or_then : (("or" : Str) = "then") = False := eq_false (by decide)
@[simp] theorem sne_or_same : (("or" : Str) = "same") = False := eq_false (by decide)
@[simp] theorem sne_or_before : (("or" : Str) = "before") = False := eq_false (by decide)
@[simp] theorem sne_or_once : (("or" : Str) = "once") = False := eq_false (by decide)
@[simp] theorem sne_or_sofar : (("or" : Str) = "sofar") = False := eq_false (by decide)
@[simp] theorem sne_or_since : (("or" : Str) = "since") = False := eq_false (by decide)
@[simp] theorem sne_then_lamp : (("then" : Str) = "lamp") = False := eq_false (by decide)
@[simp] theorem sne_then_yes : (("then" : Str) = "yes") = False := eq_false (by decide)
@[simp] theorem sne_then_no : (("then" : Str) = "no") = False := eq_false (by decide)
@[simp] theorem sne_then_not : (("then" : Str) = "not") = False := eq_false (by decide)
@[simp] theorem sne_then_and : (("then" : Str) = "and") = False := eq_false (by decide)
@[simp] theorem sne_then_or : (("then" : Str) = "or") = False := eq_false (by decide)
@[simp] theorem sne_then_same : (("then" : Str) = "same") = False := eq_false (by decide)
@[simp] theorem sne_then_before : (("then" : Str) = "before") = False := eq_false (by decide)
@[simp] theorem sne_then_once : (("then" : Str) = "once") = False := eq_false (by decide)
@[simp] theorem sne_then_sofar : (("then" : Str) = "sofar") = False := eq_false (by decide)
@[simp] theorem sne_then_since : (("then" : Str) = "since") = False := eq_false (by decide)
@[simp] theorem sne_same_lamp : (("same" : Str) = "lamp") = False := eq_false (by decide)
@[simp] theorem sne_same_yes : (("same" : Str) = "yes") = False := eq_false (by decide)
@[simp] theorem sne_same_no : (("same" : Str) = "no") = False := eq_false (by decide)
@[simp] theorem sne_same_not : (("same" : Str) = "not") = False := eq_false (by decide)
@[simp] theorem sne_same_and : (("same" : Str) = "and") = False := eq_false (by decide)
@[simp] theorem sne_same_or : (("same" : Str) = "or") = False := eq_false (by decide)
@[simp] theorem sne_same_then : (("same" : Str) = "then") = False := eq_false (by decide)
@[simp] theorem sne_same_before : (("same" : Str) = "before") = False := eq_false (by decide)
@[simp] theorem sne_same_once : (("same" : Str) = "once") = False := eq_false (by decide)
@[simp] theorem sne_same_sofar : (("same" : Str) = "sofar") = False := eq_false (by decide)
@[simp] theorem sne_same_since : (("same" : Str) = "since") = False := eq_false (by decide)
@[simp] theorem sne_before_lamp : (("before" : Str) = "lamp") = False := eq_false (by decide)
@[simp] theorem sne_before_yes : (("before" : Str) = "yes") = False := eq_false (by decide)
@[simp] theorem sne_before_no : (("before" : Str) = "no") = False := eq_false (by decide)
@[simp] theorem sne_before_not : (("before" : Str) = "not") = False := eq_false (by decide)
@[simp] theorem sne_before_and : (("before" : Str) = "and") = False := eq_false (by decide)
@[simp] theorem sne_before_or : (("before" : Str) = "or") = False := eq_false (by decide)
@[simp] theorem sne_before_then : (("before" : Str) = "then") = False := eq_false (by decide)
@[simp] theorem sne_before_same : (("before" : Str) = "same") = False := eq_false (by decide)
@[simp] theorem sne_before_once : (("before" : Str) = "once") = False := eq_false (by decide)
@[simp] theorem sne_before_sofar : (("before" : Str) = "sofar") = False := eq_false (by decide)
@[simp] theorem sne_before_since : (("before" : Str) = "since") = False := eq_false (by decide)
@[simp] theorem sne_once_lamp : (("once" : Str) = "lamp") = False := eq_false (by decide)
@[simp] theorem sne_once_yes : (("once" : Str) = "yes") = False := eq_false (by decide)
@[simp] theorem sne_once_no : (("once" : Str) = "no") = False := eq_false (by decide)
@[simp] theorem sne_once_not : (("once" : Str) = "not") = False := eq_false (by decide)
@[simp] theorem sne_once_and : (("once" : Str) = "and") = False := eq_false (by decide)
@[simp] theorem sne_once_or : (("once" : Str) = "or") = False := eq_false (by decide)
@[simp] theorem sne_once_then : (("once" : Str) = "then") = False := eq_false (by decide)
@[simp] theorem sne_once_same : (("once" : Str) = "same") = False := eq_false (by decide)
@[simp] theorem sne_once_before : (("once" : Str) = "before") = False := eq_false (by decide)
@[simp] theorem sne_once_sofar : (("once" : Str) = "sofar") = False := eq_false (by decide)
@[simp] theorem sne_once_since : (("once" : Str) = "since") = False := eq_false (by decide)
@[simp] theorem sne_sofar_lamp : (("sofar" : Str) = "lamp") = False := eq_false (by decide)
@[simp] theorem sne_sofar_yes : (("sofar" : Str) = "yes") = False := eq_false (by decide)
@[simp] theorem sne_sofar_no : (("sofar" : Str) = "no") = False := eq_false (by decide)
@[simp] theorem sne_sofar_not : (("sofar" : Str) = "not") = False := eq_false (by decide)
@[simp] theorem sne_sofar_and : (("sofar" : Str) = "and") = False := eq_false (by decide)
@[simp] theorem sne_sofar_or : (("sofar" : Str) = "or") = False := eq_false (by decide)
@[simp] theorem sne_sofar_then : (("sofar" : Str) = "then") = False := eq_false (by decide)
@[simp] theorem sne_sofar_same : (("sofar" : Str) = "same") = False := eq_false (by decide)
@[simp] theorem sne_sofar_before : (("sofar" : Str) = "before") = False := eq_false (by decide)
@[simp] theorem sne_sofar_once : (("sofar" : Str) = "once") = False := eq_false (by decide)
@[simp] theorem sne_sofar_since : (("sofar" : Str) = "since") = False := eq_false (by decide)
@[simp] theorem sne_since_lamp : (("since" : Str) = "lamp") = False := eq_false (by decide)
@[simp] theorem sne_since_yes : (("since" : Str) = "yes") = False := eq_false (by decide)
@[simp] theorem sne_since_no : (("since" : Str) = "no") = False := eq_false (by decide)
@[simp] theorem sne_since_not : (("since" : Str) = "not") = False := eq_false (by decide)
@[simp] theorem sne_since_and : (("since" : Str) = "and") = False := eq_false (by decide)
@[simp] theorem sne_since_or : (("since" : Str) = "or") = False := eq_false (by decide)
@[simp] theorem sne_since_then : (("since" : Str) = "then") = False := eq_false (by decide)
@[simp] theorem sne_since_same : (("since" : Str) = "same") = False := eq_false (by decide)
@[simp] theorem sne_since_before : (("since" : Str) = "before") = False := eq_false (by decide)
@[simp] theorem sne_since_once : (("since" : Str) = "once") = False := eq_false (by decide)
@[simp] theorem sne_since_sofar : (("since" : Str) = "sofar") = False := eq_false (by decide)
def acc (f : Nat → Bool → Bool) (b : Bool) : Nat → Bool
  | 0 => b
  | k + 1 => f k (acc f b k)
def U2.op : U2 → Bool → Bool → Bool
  | .an, a, b => a && b
  | .or, a, b => a || b
  | .th, a, b => b || !a
  | .sm, a, b => decide (a = b)
  | .sn, _, _ => false
def iX (nm : List Str) (n : Str) : Nat := (fstAt n nm 0).getD 0
/-- what a saying says at turn k of a play -/
def tvS (nm : List Str) (p : List (List Bool)) : Say → Nat → Bool
  | .lamp n, k => (p.getD k []).getD (iX nm n) false
  | .cst b, _ => b
  | .un .nt s, k => !tvS nm p s k
  | .un .bf s, k => decide (0 < k) && tvS nm p s (k - 1)
  | .un .on s, k => acc (fun j a => tvS nm p s j || a) false (k + 1)
  | .un .sf s, k => acc (fun j a => tvS nm p s j && a) true (k + 1)
  | .bin .sn s t, k => acc (fun j a => tvS nm p t j || (tvS nm p s j && a)) false (k + 1)
  | .bin .an s t, k => tvS nm p s k && tvS nm p t k
  | .bin .or s t, k => tvS nm p s k || tvS nm p t k
  | .bin .th s t, k => tvS nm p t k || !tvS nm p s k
  | .bin .sm s t, k => decide (tvS nm p s k = tvS nm p t k)
theorem acc_congr {f g : Nat → Bool → Bool} {b : Bool} : ∀ {n : Nat}, (∀ k, k < n → ∀ a, f k a = g k a) → acc f b n = acc g b n
  | 0, _ => rfl
  | n + 1, h => by
    show f n (acc f b n) = g n (acc g b n)
    rw [acc_congr (n := n) fun k hk a => h k (by omega) a, h n (by omega)]
/-- only the turns up to k count -/
theorem tvS_take (nm : List Str) (p : List (List Bool)) : ∀ (s : Say) (n k : Nat), k < n → tvS nm (p.take n) s k = tvS nm p s k
  | .lamp m, n, k, h => by
    simp only [tvS, List.getD_eq_getElem?_getD, List.getElem?_take, if_pos h]
  | .cst b, n, k, h => rfl
  | .un .nt s, n, k, h => by simp only [tvS]; rw [tvS_take nm p s n k h]
  | .un .bf s, n, k, h => by simp only [tvS]; rw [tvS_take nm p s n (k - 1) (by omega)]
  | .un .on s, n, k, h => acc_congr fun j hj a => by rw [tvS_take nm p s n j (by omega)]
  | .un .sf s, n, k, h => acc_congr fun j hj a => by rw [tvS_take nm p s n j (by omega)]
  | .bin .sn s t, n, k, h => acc_congr fun j hj a => by rw [tvS_take nm p s n j (by omega), tvS_take nm p t n j (by omega)]
  | .bin .an s t, n, k, h => by simp only [tvS]; rw [tvS_take nm p s n k h, tvS_take nm p t n k h]
  | .bin .or s t, n, k, h => by simp only [tvS]; rw [tvS_take nm p s n k h, tvS_take nm p t n k h]
  | .bin .th s t, n, k, h => by simp only [tvS]; rw [tvS_take nm p s n k h, tvS_take nm p t n k h]
  | .bin .sm s t, n, k, h => by simp only [tvS]; rw [tvS_take nm p s n k h, tvS_take nm p t n k h]
end Lz
namespace Lz
open PySem PySem.Spec PyProof.Rows L2
@[simp] theorem isTy_nm {nm : List Str} : isTy "tuple" (nmD nm) = true := rfl
def PlayOk (n : Nat) (p : List (List Bool)) : Prop := (∀ s ∈ p, s.length = n) ∧ p.length ≤ 1000
end Lz
namespace Lz
open PySem PySem.Spec PyProof.Rows L2
end Lz
namespace Lz
open PySem PySem.Spec PyProof.Rows L2
end Lz
namespace Lz
open PySem PySem.Spec PyProof.Rows L2
end Lz
namespace Lz
open PySem PySem.Spec PyProof.Rows L2
end Lz
namespace Lz
open PySem PySem.Spec PyProof.Rows L2
def brk (nm : List Str) (p : List (List Bool)) (l : List Say) (k : Nat) : Bool := l.any fun s => !tvS nm p s k
theorem Book.ix (b : Book) : opIx b.toD (.int 0) = some (false, nmD b.foe) ∧ opIx b.toD (.int 1) = some (false, nmD b.fri) ∧ opIx b.toD (.int 2) = some (false, saysT b.pro) ∧ opIx b.toD (.int 3) = some (false, saysT b.mus) ∧ opIx b.toD (.int 4) = some (false, .tup (b.wis.map wiD)) := by
  unfold Book.toD
  simp
theorem Book.Form.nl {b : Book} (h : b.Form) : b.foe.length + b.fri.length ≤ 16777216 ∧ b.nm.length ≤ 1000 ∧ b.nm.length = b.foe.length + b.fri.length := by
  have := h.f2
  have := h.r2
  have e : b.nm.length = b.foe.length + b.fri.length := by unfold Book.nm; rw [List.length_append]
  exact ⟨by omega, by omega, e⟩
end Lz
namespace Lz
open PySem PySem.Spec PyProof.Rows L2
def setL : Nat → List (List Bool)
  | 0 => [[]]
  | n + 1 => (setL n).flatMap fun s => [s ++ [false], s ++ [true]]
theorem setL_mem : ∀ (n : Nat) (s : List Bool), s ∈ setL n ↔ s.length = n
  | 0, s => by simp [setL, List.length_eq_zero_iff]
  | n + 1, s => by
    simp only [setL, List.mem_flatMap, List.mem_cons, List.not_mem_nil, or_false]
    constructor
    · rintro ⟨t, ht, rfl | rfl⟩ <;> simp [(setL_mem n t).mp ht]
    · intro h
      have hne : s ≠ [] := by intro e; subst e; simp at h
      refine ⟨s.dropLast, (setL_mem n _).mpr (by rw [List.length_dropLast]; omega), ?_⟩
      have e : s.dropLast ++ [s.getLast hne] = s := List.dropLast_concat_getLast hne
      cases hb : s.getLast hne with
      | false => left; rw [hb] at e; exact e.symm
      | true => right; rw [hb] at e; exact e.symm
theorem setL_len : ∀ n, (setL n).length = 2 ^ n
  | 0 => rfl
  | n + 1 => by
    have : ((setL n).flatMap fun s => [s ++ [false], s ++ [true]]).length = 2 * (setL n).length := by
      induction setL n with
      | nil => rfl
      | cons a l ih => rw [List.flatMap_cons, List.length_append, ih]; simp; omega
    rw [setL, this, setL_len n, Nat.pow_succ]
    omega
end Lz
namespace Lz
open PySem PySem.Spec PyProof.Rows L2
abbrev Mach := List (List (List Bool × Nat))
structure MOk (f r : Nat) (m : Mach) : Prop where
  m1 : 1 ≤ m.length
  m64 : m.length ≤ 64
  sl : ∀ st ∈ m, st.length = 2 ^ f
  pl : ∀ st ∈ m, ∀ pr ∈ st, pr.1.length = r ∧ pr.2 < m.length
end Lz
namespace Lz
open PySem PySem.Spec PyProof.Rows L2
section
variable {ns : List Int} (hl : ns.length ≤ 63) {at_ f r many : Nat} (hm0 : 0 < many) (hm : many ≤ 64)
include hl hm0 hm
end
end Lz
namespace Lz
open PySem PySem.Spec PyProof.Rows L2
def tellD (b : Book) : D := .ob "Teller" [("book", false, b.toD), ("names", false, nmD b.nm), ("pieces", false, says b.pieces)]
section
variable {b : Book} {ρ : Env} {o : Bool}
@[simp] theorem tell_book : fldK "Teller" "book" ρ (some (o, tellD b)) = .ok (.v false b.toD) ρ := by cases o <;> rfl
@[simp] theorem tell_names : fldK "Teller" "names" ρ (some (o, tellD b)) = .ok (.v false (nmD b.nm)) ρ := by cases o <;> rfl
@[simp] theorem tell_pieces : fldK "Teller" "pieces" ρ (some (o, tellD b)) = .ok (.v false (says b.pieces)) ρ := by cases o <;> rfl
@[simp] theorem tell_i1 : isObK "Teller" "holds" (some (o, tellD b)) = true := rfl
@[simp] theorem tell_i2 : isObK "Teller" "past" (some (o, tellD b)) = true := rfl
@[simp] theorem tell_i3 : isObK "Teller" "behind" (some (o, tellD b)) = true := rfl
@[simp] theorem tell_i4 : isObK "Teller" "first" (some (o, tellD b)) = true := rfl
@[simp] theorem tell_i5 : isObK "Teller" "keeps" (some (o, tellD b)) = true := rfl
@[simp] theorem tell_i6 : isObK "Teller" "loss" (some (o, tellD b)) = true := rfl
@[simp] theorem tell_j1 : isOb "Teller" "holds" (.v o (tellD b)) ρ = true := rfl
@[simp] theorem tell_j2 : isOb "Teller" "past" (.v o (tellD b)) ρ = true := rfl
@[simp] theorem tell_j3 : isOb "Teller" "behind" (.v o (tellD b)) ρ = true := rfl
@[simp] theorem tell_j4 : isOb "Teller" "first" (.v o (tellD b)) ρ = true := rfl
@[simp] theorem tell_j5 : isOb "Teller" "keeps" (.v o (tellD b)) ρ = true := rfl
@[simp] theorem tell_j6 : isOb "Teller" "loss" (.v o (tellD b)) ρ = true := rfl
end
def Say.isSf : Say → Bool
  | .un .sf _ => true
  | _ => false
def mem0 (b : Book) : List Bool := b.pieces.map Say.isSf
/-- what holds behind a memory -/
def hM (nm : List Str) (pc : List Say) (mem st : List Bool) : Say → Bool
  | .lamp n => st.getD (iX nm n) false
  | .cst b => b
  | .un .nt s => !hM nm pc mem st s
  | .un .bf s => mem.getD (ixOf (.un .bf s) pc) false
  | .un .on s => hM nm pc mem st s || mem.getD (ixOf (.un .on s) pc) false
  | .un .sf s => hM nm pc mem st s && mem.getD (ixOf (.un .sf s) pc) false
  | .bin .sn s t => hM nm pc mem st t || (hM nm pc mem st s && mem.getD (ixOf (.bin .sn s t) pc) false)
  | .bin .an s t => hM nm pc mem st s && hM nm pc mem st t
  | .bin .or s t => hM nm pc mem st s || hM nm pc mem st t
  | .bin .th s t => hM nm pc mem st t || !hM nm pc mem st s
  | .bin .sm s t => decide (hM nm pc mem st s = hM nm pc mem st t)
/-- all past pieces in a saying are among these -/
def PcIn (pc : List Say) : Say → Prop
  | .lamp _ => True
  | .cst _ => True
  | .un o s => ((Say.un o s).isP = true → Say.un o s ∈ pc) ∧ PcIn pc s
  | .bin o s t => ((Say.bin o s t).isP = true → Say.bin o s t ∈ pc) ∧ PcIn pc s ∧ PcIn pc t
structure MS (b : Book) (mem st : List Bool) : Prop where
  ml : mem.length = b.pieces.length
  sl : st.length = b.nm.length
end Lz
namespace Lz
open PySem PySem.Spec PyProof.Rows L2
section
variable (b : Book) (hb : b.Ok) (mem st : List Bool) (ms : MS b mem st) (o : Bool)
include hb ms
end
end Lz
namespace Lz
open PySem PySem.Spec PyProof.Rows L2
theorem PcIn.mono {pc pc' : List Say} (h : ∀ s ∈ pc, s ∈ pc') : ∀ {s : Say}, PcIn pc s → PcIn pc' s
  | .lamp _, _ => trivial
  | .cst _, _ => trivial
  | .un _ s, q => ⟨fun p => h _ (q.1 p), PcIn.mono h q.2⟩
  | .bin _ s t, q => ⟨fun p => h _ (q.1 p), PcIn.mono h q.2.1, PcIn.mono h q.2.2⟩
theorem addP_sub {s t : Say} {m : List Say} (h : t ∈ m) : t ∈ addP s m := by
  unfold addP
  split
  · exact List.mem_append_left _ h
  · exact h
theorem addP_self {s : Say} {m : List Say} (h : s.isP = true) : s ∈ addP s m := by
  unfold addP
  by_cases hm : s ∈ m
  · rw [if_neg (by simp [hm])]; exact hm
  · rw [if_pos ⟨h, hm⟩]; simp
theorem gath_sub : ∀ {s t : Say} {m : List Say}, t ∈ m → t ∈ gath s m
  | .lamp _, _, _, h => addP_sub h
  | .cst _, _, _, h => addP_sub h
  | .un _ s, _, _, h => gath_sub (s := s) (addP_sub h)
  | .bin _ s t, _, _, h => gath_sub (s := t) (gath_sub (s := s) (addP_sub h))
theorem gath_pc : ∀ (s : Say) (m : List Say), PcIn (gath s m) s
  | .lamp _, _ => trivial
  | .cst _, _ => trivial
  | .un o s, m => ⟨fun p => gath_sub (s := s) (addP_self p), gath_pc s _⟩
  | .bin o s t, m => ⟨fun p => gath_sub (s := t) (gath_sub (s := s) (addP_self p)), (gath_pc s _).mono fun x hx => gath_sub (s := t) hx, gath_pc t _⟩
theorem gath_from {pc : List Say} {p : Say} : ∀ (t : Say) (m : List Say), PcIn pc t → p ∈ gath t m → p ∈ m ∨ PcIn pc p
  | .lamp n, m, ht, h => by
    rcases addP_mem h with h | h
    · exact .inl h
    · rw [h]; exact .inr ht
  | .cst c, m, ht, h => by
    rcases addP_mem h with h | h
    · exact .inl h
    · rw [h]; exact .inr ht
  | .un o t, m, ht, h => by
    rcases gath_from t _ ht.2 h with h | h
    · rcases addP_mem h with h | h
      · exact .inl h
      · rw [h]; exact .inr ht
    · exact .inr h
  | .bin o t u, m, ht, h => by
    rcases gath_from u _ ht.2.2 h with h | h
    · rcases gath_from t _ ht.2.1 h with h | h
      · rcases addP_mem h with h | h
        · exact .inl h
        · rw [h]; exact .inr ht
      · exact .inr h
    · exact .inr h
theorem gath_all (s : Say) (m pc : List Say) (hpc : ∀ x ∈ gath s m, x ∈ pc) (p : Say) (hp : p ∈ gath s m) : p ∈ m ∨ PcIn pc p :=
  gath_from s m ((gath_pc s m).mono hpc) hp
theorem foldl_pc (pc : List Say) : ∀ (l m : List Say), (∀ x ∈ l.foldl (fun m s => gath s m) m, x ∈ pc) → (∀ p ∈ m, PcIn m p) → (∀ s ∈ l, PcIn pc s) ∧ ∀ p ∈ l.foldl (fun m s => gath s m) m, p ∈ m ∨ PcIn pc p
  | [], m, _, _ => ⟨fun _ h => (by cases h), fun p h => .inl h⟩
  | s :: l, m, hpc, hm => by
    rw [List.foldl_cons] at hpc ⊢
    have grow : ∀ (l : List Say) (m : List Say) (x : Say), x ∈ m → x ∈ l.foldl (fun m s => gath s m) m := by
      intro l
      induction l with
      | nil => exact fun m x h => h
      | cons s l ih => exact fun m x h => ih _ x (gath_sub h)
    have hsub : ∀ x ∈ gath s m, x ∈ pc := fun x hx => hpc x (grow l _ x hx)
    have hg : ∀ p ∈ gath s m, PcIn (gath s m) p := fun p hp => by
      rcases gath_all s m (gath s m) (fun x h => h) p hp with h | h
      · exact (hm p h).mono fun x hx => gath_sub hx
      · exact h
    obtain ⟨h1, h2⟩ := foldl_pc pc l (gath s m) hpc hg
    refine ⟨fun t ht => ?_, fun p hp => ?_⟩
    · rcases List.mem_cons.mp ht with rfl | ht
      · exact (gath_pc t m).mono hsub
      · exact h1 t ht
    · rcases h2 p hp with h | h
      · exact gath_all s m pc hsub p h
      · exact .inr h
theorem Book.pcs (b : Book) : (∀ s ∈ b.says, PcIn b.pieces s) ∧ ∀ p ∈ b.pieces, PcIn b.pieces p := by
  obtain ⟨h1, h2⟩ := foldl_pc b.pieces b.says [] (fun x h => h) (fun p h => (by cases h))
  exact ⟨h1, fun p hp => (h2 p hp).elim (fun h => (by cases h)) id⟩
def now : Say → Say
  | .un .bf s => s
  | s => s
def nextM (b : Book) (mem st : List Bool) : List Bool := b.pieces.map fun p => hM b.nm b.pieces mem st (now p)
theorem nextM_len (b : Book) (mem st : List Bool) : (nextM b mem st).length = b.pieces.length := by simp [nextM]
def memP (nm : List Str) (p : List (List Bool)) (k : Nat) (s : Say) : Bool := if k = 0 then s.isSf else tvS nm p (now s) (k - 1)
def memAt (b : Book) (p : List (List Bool)) (k : Nat) : List Bool := b.pieces.map (memP b.nm p k)
theorem memAt_get {b : Book} {p : List (List Bool)} {k : Nat} {s : Say} (h : s ∈ b.pieces) : (memAt b p k).getD (ixOf s b.pieces) false = memP b.nm p k s := by
  unfold memAt
  rw [List.getD_eq_getElem?_getD, List.getElem?_map, ixOf_get h]
  rfl
theorem hM_tv (b : Book) (p : List (List Bool)) (k : Nat) : ∀ (s : Say), PcIn b.pieces s → hM b.nm b.pieces (memAt b p k) (p.getD k []) s = tvS b.nm p s k
  | .lamp n, _ => rfl
  | .cst c, _ => rfl
  | .un .nt s, h => by simp only [hM, tvS]; rw [hM_tv b p k s h.2]
  | .un .bf s, h => by
    simp only [hM, tvS]
    rw [memAt_get (h.1 rfl)]
    unfold memP
    by_cases h0 : k = 0
    · subst h0; simp [Say.isSf]
    · rw [if_neg h0]
      have : 0 < k := by omega
      simp [now, this]
  | .un .on s, h => by
    simp only [hM, tvS]
    rw [memAt_get (h.1 rfl), hM_tv b p k s h.2]
    show _ = (tvS b.nm p s k || acc (fun j a => tvS b.nm p s j || a) false k)
    unfold memP
    by_cases h0 : k = 0
    · subst h0; simp [Say.isSf, acc]
    · obtain ⟨j, rfl⟩ : ∃ j, k = j + 1 := ⟨k - 1, by omega⟩
      rw [if_neg h0, Nat.add_sub_cancel]
      rfl
  | .un .sf s, h => by
    simp only [hM, tvS]
    rw [memAt_get (h.1 rfl), hM_tv b p k s h.2]
    show _ = (tvS b.nm p s k && acc (fun j a => tvS b.nm p s j && a) true k)
    unfold memP
    by_cases h0 : k = 0
    · subst h0; simp [Say.isSf, acc]
    · obtain ⟨j, rfl⟩ : ∃ j, k = j + 1 := ⟨k - 1, by omega⟩
      rw [if_neg h0, Nat.add_sub_cancel]
      rfl
  | .bin .sn s t, h => by
    simp only [hM, tvS]
    rw [memAt_get (h.1 rfl), hM_tv b p k s h.2.1, hM_tv b p k t h.2.2]
    show _ = (tvS b.nm p t k || (tvS b.nm p s k && acc (fun j a => tvS b.nm p t j || (tvS b.nm p s j && a)) false k))
    unfold memP
    by_cases h0 : k = 0
    · subst h0; simp [Say.isSf, acc]
    · obtain ⟨j, rfl⟩ : ∃ j, k = j + 1 := ⟨k - 1, by omega⟩
      rw [if_neg h0, Nat.add_sub_cancel]
      rfl
  | .bin .an s t, h => by simp only [hM, tvS]; rw [hM_tv b p k s h.2.1, hM_tv b p k t h.2.2]
  | .bin .or s t, h => by simp only [hM, tvS]; rw [hM_tv b p k s h.2.1, hM_tv b p k t h.2.2]
  | .bin .th s t, h => by simp only [hM, tvS]; rw [hM_tv b p k s h.2.1, hM_tv b p k t h.2.2]
  | .bin .sm s t, h => by simp only [hM, tvS]; rw [hM_tv b p k s h.2.1, hM_tv b p k t h.2.2]
theorem PcIn.now {pc : List Say} : ∀ {s : Say}, PcIn pc s → PcIn pc (Lz.now s)
  | .lamp _, h => h
  | .cst _, h => h
  | .un .nt _, h => h
  | .un .on _, h => h
  | .un .sf _, h => h
  | .un .bf _, h => h.2
  | .bin _ _ _, h => h
theorem nextM_at (b : Book) (p : List (List Bool)) (k : Nat) : nextM b (memAt b p k) (p.getD k []) = memAt b p (k + 1) := by
  unfold nextM memAt
  refine List.map_congr_left fun s hs => ?_
  have h := hM_tv b p k (now s) (b.pcs.2 s hs).now
  unfold memAt at h
  rw [h]
  rfl
end Lz
namespace Lz
open PySem PySem.Spec PyProof.Rows L2
end Lz
namespace Lz
open PySem PySem.Spec PyProof.Rows L2
def keepsS (b : Book) (l : List Say) (mem st : List Bool) : Bool := l.all fun s => hM b.nm b.pieces mem st s
def lossS (b : Book) (mem st : List Bool) : Int := ((b.wis.filter fun w => !hM b.nm b.pieces mem st w.2).map fun w => (w.1 : Int)).sum
abbrev AnsM := List Bool × Int × List Bool
def mkA (b : Book) (mem foe fr : List Bool) : AnsM := (fr, lossS b mem (foe ++ fr), nextM b mem (foe ++ fr))
def goodF (b : Book) (mem foe : List Bool) : List (List Bool) := (setL b.fri.length).filter fun fr => keepsS b b.mus mem (foe ++ fr)
theorem mus_says {b : Book} : ∀ s ∈ b.mus, s ∈ b.says := fun s h => by unfold Book.says; simp [h]
theorem pro_says {b : Book} : ∀ s ∈ b.pro, s ∈ b.says := fun s h => by unfold Book.says; simp [h]
def ansS (b : Book) (mem foe : List Bool) : List AnsM := (goodF b mem foe).map (mkA b mem foe)
theorem tv_app (nm : List Str) (p : List (List Bool)) (st : List Bool) (s : Say) (k : Nat) (hk : k < p.length) : tvS nm (p ++ [st]) s k = tvS nm p s k := by
  have h := tvS_take nm (p ++ [st]) s p.length k hk
  rw [List.take_left] at h
  exact h.symm
theorem memAt_app (b : Book) (p : List (List Bool)) (st : List Bool) : memAt b (p ++ [st]) p.length = memAt b p p.length := by
  unfold memAt
  refine List.map_congr_left fun s _ => ?_
  unfold memP
  by_cases h : p.length = 0
  · rw [if_pos h, if_pos h]
  · rw [if_neg h, if_neg h, tv_app _ _ _ _ _ (by omega)]
theorem getD_last (p : List (List Bool)) (st : List Bool) : (p ++ [st]).getD p.length [] = st := by simp
theorem hM_play (b : Book) (p : List (List Bool)) (st : List Bool) (s : Say) (h : PcIn b.pieces s) : tvS b.nm (p ++ [st]) s p.length = hM b.nm b.pieces (memAt b p p.length) st s := by
  have := hM_tv b (p ++ [st]) p.length s h
  rw [memAt_app, getD_last] at this
  exact this.symm
theorem keeps_play (b : Book) (p : List (List Bool)) (st : List Bool) (l : List Say) (hl : ∀ s ∈ l, s ∈ b.says) : (!brk b.nm (p ++ [st]) l p.length) = keepsS b l (memAt b p p.length) st := by
  unfold brk keepsS
  rw [List.all_eq_not_any_not]
  congr 1
  rw [Bool.eq_iff_iff, List.any_eq_true, List.any_eq_true]
  refine ⟨fun ⟨s, h1, h2⟩ => ⟨s, h1, ?_⟩, fun ⟨s, h1, h2⟩ => ⟨s, h1, ?_⟩⟩
  · rw [hM_play b p st s (b.pcs.1 s (hl s h1))] at h2; exact h2
  · rw [hM_play b p st s (b.pcs.1 s (hl s h1))]; exact h2
theorem next_play (b : Book) (p : List (List Bool)) (st : List Bool) : memAt b (p ++ [st]) (p ++ [st]).length = nextM b (memAt b p p.length) st := by
  have h := nextM_at b (p ++ [st]) p.length
  rw [memAt_app, getD_last] at h
  rw [h]
  simp
theorem PlayOk.snoc {n : Nat} {p : List (List Bool)} {st : List Bool} (h : PlayOk n p) (hs : st.length = n) (hl : p.length < 1000) : PlayOk n (p ++ [st]) := ⟨fun x hx => by
  rcases List.mem_append.mp hx with hx | hx
  · exact h.1 x hx
  · rw [List.mem_singleton.mp hx]; exact hs, by simp; omega⟩
end Lz
namespace Lz
open PySem PySem.Spec PyProof.Rows L2
abbrev AnsN := List Bool × Int × Nat
abbrev MvN := List Bool × List AnsN
abbrev NdN := List Bool × List MvN
def addM (m : List Bool) (ms : List (List Bool)) : List (List Bool) := if m ∈ ms then ms else ms ++ [m]
def goA : List AnsM → List (List Bool) → List AnsN → List (List Bool) × List AnsN
  | [], ms, as => (ms, as)
  | x :: r, ms, as => goA r (addM x.2.2 ms) (as ++ [(x.1, x.2.1, ixOf x.2.2 (addM x.2.2 ms))])
def offF (b : Book) : List Bool := List.replicate b.fri.length false
def goM (b : Book) (mem : List Bool) : List (List Bool) → List (List Bool) → List MvN → List (List Bool) × List MvN
  | [], ms, mv => (ms, mv)
  | foe :: r, ms, mv => if keepsS b b.pro mem (foe ++ offF b) = true then goM b mem r (goA (ansS b mem foe) ms []).1 (mv ++ [(foe, (goA (ansS b mem foe) ms []).2)]) else goM b mem r ms mv
def goW (b : Book) : Nat → List (List Bool) → List NdN → List (List Bool) × List NdN
  | 0, ms, nds => (ms, nds)
  | n + 1, ms, nds => if nds.length < ms.length then goW b n (goM b (ms.getD nds.length []) (setL b.foe.length) ms []).1 (nds ++ [(ms.getD nds.length [], (goM b (ms.getD nds.length []) (setL b.foe.length) ms []).2)]) else (ms, nds)
def gameW (b : Book) : List (List Bool) × List NdN := goW b 16 [mem0 b] []
def gameS (b : Book) : List NdN := (gameW b).2
structure MsOk (b : Book) (ms : List (List Bool)) : Prop where
  nd : ms.Nodup
  ln : ∀ m ∈ ms, m.length = b.pieces.length
theorem nodup_sub {α : Type} [DecidableEq α] : ∀ {l r : List α}, l.Nodup → (∀ x ∈ l, x ∈ r) → l.length ≤ r.length
  | [], _, _, _ => Nat.zero_le _
  | x :: l, r, h, hs => by
    obtain ⟨h1, h2⟩ := List.nodup_cons.mp h
    have hx := hs x List.mem_cons_self
    have ih := nodup_sub (r := r.erase x) h2 fun y hy => (List.mem_erase_of_ne (fun e => h1 (by rw [← e]; exact hy))).mpr (hs y (List.mem_cons_of_mem _ hy))
    rw [List.length_erase_of_mem hx] at ih
    have := List.length_pos_of_mem hx
    rw [List.length_cons]; omega
theorem MsOk.l16 {b : Book} (hb : b.Ok) {ms : List (List Bool)} (h : MsOk b ms) : ms.length ≤ 16 := by
  have h1 := nodup_sub h.nd fun m hm => (setL_mem _ _).mpr (h.ln m hm)
  rw [setL_len] at h1
  have h2 : 2 ^ b.pieces.length ≤ 2 ^ 4 := Nat.pow_le_pow_right (by decide) hb.pc
  omega
theorem MsOk.add {b : Book} {ms : List (List Bool)} {m : List Bool} (h : MsOk b ms) (hm : m.length = b.pieces.length) : MsOk b (addM m ms) := by
  unfold addM
  by_cases hi : m ∈ ms
  · rw [if_pos hi]; exact h
  · rw [if_neg hi]
    refine ⟨List.nodup_append.mpr ⟨h.nd, by simp, fun x hx y hy e => ?_⟩, fun x hx => ?_⟩
    · rw [List.mem_singleton.mp hy] at e; exact hi (e ▸ hx)
    · rcases List.mem_append.mp hx with hx | hx
      · exact h.ln x hx
      · rw [List.mem_singleton.mp hx]; exact hm
theorem mem_addM (m : List Bool) (ms : List (List Bool)) : m ∈ addM m ms := by
  unfold addM
  by_cases hi : m ∈ ms
  · rw [if_pos hi]; exact hi
  · rw [if_neg hi]; simp
theorem addM_le (m : List Bool) (ms : List (List Bool)) : ms.length ≤ (addM m ms).length := by
  unfold addM
  split
  · omega
  · simp
theorem goA_ok {b : Book} : ∀ (l : List AnsM) (ms : List (List Bool)) (as : List AnsN), MsOk b ms → (∀ x ∈ l, x.2.2.length = b.pieces.length) → MsOk b (goA l ms as).1 ∧ ms.length ≤ (goA l ms as).1.length
  | [], ms, as, h, _ => ⟨h, Nat.le_refl _⟩
  | x :: l, ms, as, h, hl => by
    have := goA_ok l (addM x.2.2 ms) (as ++ [(x.1, x.2.1, ixOf x.2.2 (addM x.2.2 ms))]) (h.add (hl x List.mem_cons_self)) fun y hy => hl y (List.mem_cons_of_mem _ hy)
    exact ⟨this.1, Nat.le_trans (addM_le _ _) this.2⟩
theorem ansS_len {b : Book} {mem foe : List Bool} : ∀ x ∈ ansS b mem foe, x.2.2.length = b.pieces.length := fun x hx => by
  obtain ⟨fr, _, rfl⟩ := List.mem_map.mp hx
  exact nextM_len b _ _
theorem goM_ok {b : Book} {mem : List Bool} : ∀ (l ms : List (List Bool)) (mv : List MvN), MsOk b ms → MsOk b (goM b mem l ms mv).1 ∧ ms.length ≤ (goM b mem l ms mv).1.length
  | [], ms, mv, h => ⟨h, Nat.le_refl _⟩
  | foe :: l, ms, mv, h => by
    unfold goM
    split
    · have h1 := goA_ok (ansS b mem foe) ms [] h ansS_len
      have h2 := goM_ok (b := b) (mem := mem) l _ (mv ++ [(foe, (goA (ansS b mem foe) ms []).2)]) h1.1
      exact ⟨h2.1, Nat.le_trans h1.2 h2.2⟩
    · exact goM_ok l ms mv h
theorem mem0_ok (b : Book) : MsOk b [mem0 b] := ⟨by simp, fun m hm => by rw [List.mem_singleton.mp hm]; simp [mem0]⟩
end Lz
namespace Lz
open PySem PySem.Spec PyProof.Rows L2
abbrev Play := List (List Bool)
def mAt (b : Book) (p : Play) : List Bool := memAt b p p.length
structure PsOk (b : Book) (ps : List Play) : Prop where
  ms : MsOk b (ps.map (mAt b))
  pl : ∀ p ∈ ps, PlayOk b.nm.length p ∧ p.length < ps.length
theorem mAt_len (b : Book) (p : Play) : (mAt b p).length = b.pieces.length := by simp [mAt, memAt]
theorem PsOk.add {b : Book} {ps : List Play} {p : Play} (h : PsOk b ps) (hp : PlayOk b.nm.length p) (hl : p.length ≤ ps.length) (hn : mAt b p ∉ ps.map (mAt b)) : PsOk b (ps ++ [p]) := by
  refine ⟨?_, fun q hq => ?_⟩
  · have := h.ms.add (m := mAt b p) (mAt_len b p)
    unfold addM at this
    rw [if_neg hn] at this
    rw [List.map_append]
    exact this
  · rw [List.length_append, List.length_singleton]
    rcases List.mem_append.mp hq with hq | hq
    · exact ⟨(h.pl q hq).1, by have := (h.pl q hq).2; omega⟩
    · rw [List.mem_singleton.mp hq]; exact ⟨hp, by omega⟩
theorem PsOk.l16 {b : Book} (hb : b.Ok) {ps : List Play} (h : PsOk b ps) : ps.length ≤ 16 := by
  have := h.ms.l16 hb
  rw [List.length_map] at this
  exact this
end Lz
namespace Lz
open PySem PySem.Spec PyProof.Rows L2
def numA (M : List (List Bool)) (x : AnsM) : AnsN := (x.1, x.2.1, ixOf x.2.2 M)
theorem addM_pre (m : List Bool) (ms : List (List Bool)) : ms <+: addM m ms := by
  unfold addM
  split
  · exact List.prefix_refl _
  · exact List.prefix_append _ _
theorem goA_spec : ∀ (l : List AnsM) (ms : List (List Bool)) (as : List AnsN), ms <+: (goA l ms as).1 ∧ ∀ M, (goA l ms as).1 <+: M → (goA l ms as).2 = as ++ l.map (numA M) ∧ ∀ x ∈ l, x.2.2 ∈ M
  | [], ms, as => ⟨List.prefix_refl _, fun M _ => ⟨by simp [goA], fun x hx => by cases hx⟩⟩
  | x :: l, ms, as => by
    obtain ⟨h1, h2⟩ := goA_spec l (addM x.2.2 ms) (as ++ [(x.1, x.2.1, ixOf x.2.2 (addM x.2.2 ms))])
    refine ⟨(addM_pre _ _).trans h1, fun M hM => ?_⟩
    obtain ⟨h3, h4⟩ := h2 M hM
    have hp : addM x.2.2 ms <+: M := h1.trans hM
    obtain ⟨t, ht⟩ := hp
    have hx : ixOf x.2.2 M = ixOf x.2.2 (addM x.2.2 ms) := by rw [← ht]; exact ixOf_app (mem_addM _ _)
    refine ⟨?_, fun y hy => ?_⟩
    · show (goA l (addM x.2.2 ms) (as ++ [(x.1, x.2.1, ixOf x.2.2 (addM x.2.2 ms))])).2 = _
      rw [h3, List.map_cons, List.append_assoc]
      unfold numA
      rw [hx]
      rfl
    · rcases List.mem_cons.mp hy with rfl | hy
      · rw [← ht]; exact List.mem_append_left _ (mem_addM _ _)
      · exact h4 y hy
def mvOf (b : Book) (M : List (List Bool)) (mem foe : List Bool) : MvN := (foe, (ansS b mem foe).map (numA M))
def foesF (b : Book) (mem : List Bool) (l : List (List Bool)) : List (List Bool) := l.filter fun foe => keepsS b b.pro mem (foe ++ offF b)
theorem goM_spec (b : Book) (mem : List Bool) : ∀ (l ms : List (List Bool)) (mv : List MvN), ms <+: (goM b mem l ms mv).1 ∧ ∀ M, (goM b mem l ms mv).1 <+: M → (goM b mem l ms mv).2 = mv ++ (foesF b mem l).map (mvOf b M mem) ∧ ∀ foe ∈ foesF b mem l, ∀ x ∈ ansS b mem foe, x.2.2 ∈ M
  | [], ms, mv => ⟨List.prefix_refl _, fun M _ => ⟨by simp [goM, foesF], fun x hx => by cases hx⟩⟩
  | foe :: l, ms, mv => by
    cases hk : keepsS b b.pro mem (foe ++ offF b) with
    | false =>
      have e : goM b mem (foe :: l) ms mv = goM b mem l ms mv := by rw [goM, if_neg (by rw [hk]; decide)]
      have e2 : foesF b mem (foe :: l) = foesF b mem l := by unfold foesF; rw [List.filter_cons_of_neg (by simp [hk])]
      rw [e, e2]
      exact goM_spec b mem l ms mv
    | true =>
      have e : goM b mem (foe :: l) ms mv = goM b mem l (goA (ansS b mem foe) ms []).1 (mv ++ [(foe, (goA (ansS b mem foe) ms []).2)]) := by rw [goM, if_pos hk]
      have e2 : foesF b mem (foe :: l) = foe :: foesF b mem l := by unfold foesF; rw [List.filter_cons_of_pos (by simp [hk])]
      obtain ⟨a1, a2⟩ := goA_spec (ansS b mem foe) ms []
      obtain ⟨h1, h2⟩ := goM_spec b mem l (goA (ansS b mem foe) ms []).1 (mv ++ [(foe, (goA (ansS b mem foe) ms []).2)])
      rw [e, e2]
      refine ⟨a1.trans h1, fun M hM => ?_⟩
      obtain ⟨h3, h4⟩ := h2 M hM
      obtain ⟨a3, a4⟩ := a2 M (h1.trans hM)
      refine ⟨?_, fun y hy => ?_⟩
      · rw [h3, a3, List.map_cons, List.append_assoc]
        rfl
      · rcases List.mem_cons.mp hy with rfl | hy
        · exact a4
        · exact h4 y hy
def nodeOf (b : Book) (M : List (List Bool)) (mem : List Bool) : NdN := (mem, (foesF b mem (setL b.foe.length)).map (mvOf b M mem))
def Closed (b : Book) (M : List (List Bool)) (mem : List Bool) : Prop := ∀ foe ∈ foesF b mem (setL b.foe.length), ∀ x ∈ ansS b mem foe, x.2.2 ∈ M
theorem goW_spec (b : Book) : ∀ (n : Nat) (ms : List (List Bool)) (nds : List NdN), MsOk b ms → nds.length ≤ ms.length →
    MsOk b (goW b n ms nds).1 ∧ ms <+: (goW b n ms nds).1 ∧ (goW b n ms nds).2.length ≤ (goW b n ms nds).1.length ∧ (∃ t, (goW b n ms nds).2 = nds ++ t) ∧ ((goW b n ms nds).2.length = (goW b n ms nds).1.length ∨ (goW b n ms nds).2.length = nds.length + n) ∧
      ∀ i, nds.length ≤ i → i < (goW b n ms nds).2.length → (goW b n ms nds).2[i]? = some (nodeOf b (goW b n ms nds).1 ((goW b n ms nds).1.getD i [])) ∧ Closed b (goW b n ms nds).1 ((goW b n ms nds).1.getD i [])
  | 0, ms, nds, hm, hl => ⟨hm, List.prefix_refl _, hl, ⟨[], by simp [goW]⟩, .inr rfl, fun i h1 h2 => by simp only [goW] at h2; omega⟩
  | n + 1, ms, nds, hm, hl => by
    by_cases hlt : nds.length < ms.length
    · have e : goW b (n + 1) ms nds = goW b n (goM b (ms.getD nds.length []) (setL b.foe.length) ms []).1 (nds ++ [(ms.getD nds.length [], (goM b (ms.getD nds.length []) (setL b.foe.length) ms []).2)]) := by rw [goW, if_pos hlt]
      rw [e]
      have ok := goM_ok (b := b) (mem := ms.getD nds.length []) (setL b.foe.length) ms [] hm
      obtain ⟨m1, m2⟩ := goM_spec b (ms.getD nds.length []) (setL b.foe.length) ms []
      generalize hq : goM b (ms.getD nds.length []) (setL b.foe.length) ms [] = q at *
      obtain ⟨a1, a2, a3, ⟨t, a4⟩, a5, a6⟩ := goW_spec b n q.1 (nds ++ [(ms.getD nds.length [], q.2)]) ok.1 (by simp; omega)
      generalize hW : goW b n q.1 (nds ++ [(ms.getD nds.length [], q.2)]) = W at *
      obtain ⟨m3, m4⟩ := m2 W.1 a2
      refine ⟨a1, m1.trans a2, a3, ⟨(ms.getD nds.length [], q.2) :: t, by rw [a4, List.append_assoc]; rfl⟩, ?_, fun i h1 h2 => ?_⟩
      · rcases a5 with h | h
        · exact .inl h
        · right; rw [h, List.length_append, List.length_singleton]; omega
      · by_cases hi : i = nds.length
        · subst hi
          have hg : W.1.getD nds.length [] = ms.getD nds.length [] := by
            obtain ⟨u, hu⟩ := m1.trans a2
            rw [← hu, List.getD_eq_getElem?_getD, List.getElem?_append_left hlt, ← List.getD_eq_getElem?_getD]
          rw [hg]
          refine ⟨?_, m4⟩
          rw [a4, List.append_assoc, List.getElem?_append_right (Nat.le_refl _), Nat.sub_self, m3]
          rfl
        · exact a6 i (by rw [List.length_append, List.length_singleton]; omega) h2
    · have e : goW b (n + 1) ms nds = (ms, nds) := by rw [goW, if_neg hlt]
      rw [e]
      exact ⟨hm, List.prefix_refl _, hl, ⟨[], by simp⟩, .inl (by dsimp only; omega), fun i h1 h2 => by dsimp only at h2; omega⟩
def memsS (b : Book) : List (List Bool) := (gameW b).1
structure GameOk (b : Book) (M : List (List Bool)) : Prop extends MsOk b M where
  l16 : M.length ≤ 16
  zero : M[0]? = some (mem0 b)
  cl : ∀ mem ∈ M, Closed b M mem
theorem game_ok (b : Book) (hb : b.Ok) : GameOk b (memsS b) ∧ gameS b = (memsS b).map (nodeOf b (memsS b)) := by
  obtain ⟨a1, ⟨u, a2⟩, a3, _, a5, a6⟩ := goW_spec b 16 [mem0 b] [] (mem0_ok b) (by simp)
  have hl : (gameW b).2.length = (gameW b).1.length := by
    rcases a5 with h | h
    · exact h
    · have := a1.l16 hb
      simp only [List.length_nil] at h
      unfold gameW
      omega
  have l16 := a1.l16 hb
  refine ⟨⟨a1, l16, ?_, fun mem hm => ?_⟩, ?_⟩
  · show (goW b 16 [mem0 b] []).1[0]? = _
    rw [← a2]
    rfl
  · obtain ⟨i, hi, rfl⟩ := List.getElem_of_mem hm
    have h := (a6 i (by simp) (by show i < (gameW b).2.length; rw [hl]; exact hi)).2
    have e : (goW b 16 [mem0 b] []).1.getD i [] = (memsS b)[i] := by
      show (memsS b).getD i [] = _
      rw [List.getD_eq_getElem?_getD, List.getElem?_eq_getElem hi]
      rfl
    rw [e] at h
    exact h
  · refine List.ext_getElem? fun i => ?_
    by_cases hi : i < (memsS b).length
    · have h := (a6 i (by simp) (by show i < (gameW b).2.length; rw [hl]; exact hi)).1
      show (goW b 16 [mem0 b] []).2[i]? = _
      rw [h, List.getElem?_map, List.getElem?_eq_getElem hi]
      show some (nodeOf b (memsS b) ((memsS b).getD i [])) = _
      rw [List.getD_eq_getElem?_getD, List.getElem?_eq_getElem hi]
      rfl
    · rw [List.getElem?_eq_none (by show (gameW b).2.length ≤ i; rw [hl]; exact Nat.le_of_not_lt hi), List.getElem?_eq_none (by rw [List.length_map]; omega)]
end Lz
namespace Lz
open PySem PySem.Spec PyProof.Rows L2
end Lz
namespace Lz
open PySem PySem.Spec PyProof.Rows L2
structure NdsOk (nds : List NdN) : Prop where
  l16 : nds.length ≤ 16
  mv4 : ∀ nd ∈ nds, nd.2.length ≤ 4
  an4 : ∀ nd ∈ nds, ∀ mv ∈ nd.2, mv.2.length ≤ 4
  ix : ∀ nd ∈ nds, ∀ mv ∈ nd.2, ∀ a ∈ mv.2, a.2.2 < nds.length
end Lz
namespace Lz
open PySem PySem.Spec PyProof.Rows L2
end Lz
namespace Lz
open PySem PySem.Spec PyProof.Rows L2
end Lz
namespace Lz
open PySem PySem.Spec PyProof.Rows L2
end Lz
namespace Lz
open PySem PySem.Spec PyProof.Rows L2
end Lz
namespace Lz
open PySem PySem.Spec PyProof.Rows L2
end Lz
namespace Lz
open PySem PySem.Spec PyProof.Rows L2
end Lz
namespace Lz
open PySem PySem.Spec PyProof.Rows L2
theorem brk_take {nm : List Str} {p : List (List Bool)} {l : List Say} {k n : Nat} (h : k < n) : brk nm (p.take n) l k = brk nm p l k := by
  unfold brk
  congr 1
  funext s
  rw [tvS_take nm p s n k h]
theorem eqD_same {d : D} {n : Nat} (h : okN n d) (hn : n ≤ 64) : eqD d d = some true := eqD_t h h hn hn rfl
section
variable {b : Book} (hb : b.Ok) {p : List (List Bool)} (hp : PlayOk b.nm.length p)
include hb hp
end
end Lz
namespace Lz
open PySem PySem.Spec PyProof.Rows L2
theorem fstAt_app {n : Str} : ∀ {l r : List Str} {k : Nat}, n ∈ l → ∃ i, fstAt n (l ++ r) k = some (k + i) ∧ i < l.length
  | x :: l, r, k, h => by
    rw [List.cons_append]
    unfold fstAt
    by_cases e : x = n
    · exact ⟨0, by simp [e], by simp⟩
    · have hn : n ∈ l := by
        rcases List.mem_cons.mp h with h | h
        · exact absurd h.symm e
        · exact h
      obtain ⟨i, h1, h2⟩ := fstAt_app (r := r) (k := k + 1) hn
      refine ⟨i + 1, ?_, by simp; omega⟩
      simp [e]
      rw [h1]
      congr 1
      omega
theorem hM_free (b : Book) (mem foe x y : List Bool) (hf : foe.length = b.foe.length) : ∀ s : Say, s.Over b.nm → s.free b.fri = false → hM b.nm b.pieces mem (foe ++ x) s = hM b.nm b.pieces mem (foe ++ y) s
  | .lamp n, ho, h => by
    have hn : n ∈ b.nm := ho
    have h2 : n ∉ b.fri := by simpa [Say.free] using h
    have h3 : n ∈ b.foe := by
      unfold Book.nm at hn
      exact (List.mem_append.mp hn).resolve_right h2
    obtain ⟨i, h4, h5⟩ := fstAt_app (r := b.fri) (k := 0) h3
    have e : iX b.nm n = i := by
      unfold iX Book.nm
      rw [h4]
      simp
    simp only [hM, e]
    rw [List.getD_eq_getElem?_getD, List.getD_eq_getElem?_getD, List.getElem?_append_left (by omega), List.getElem?_append_left (by omega)]
  | .cst c, _, _ => rfl
  | .un .nt s, ho, h => by simp only [hM]; rw [hM_free b mem foe x y hf s ho (by simpa [Say.free] using h)]
  | .un .bf s, _, _ => rfl
  | .un .on s, ho, h => by simp only [hM]; rw [hM_free b mem foe x y hf s ho (by simpa [Say.free] using h)]
  | .un .sf s, ho, h => by simp only [hM]; rw [hM_free b mem foe x y hf s ho (by simpa [Say.free] using h)]
  | .bin o s t, ho, h => by
    have h' : s.free b.fri = false ∧ t.free b.fri = false := by simpa [Say.free] using h
    have h1 := hM_free b mem foe x y hf s ho.1 h'.1
    have h2 := hM_free b mem foe x y hf t ho.2 h'.2
    cases o <;> (simp only [hM]; rw [h1, h2])
theorem keeps_free (b : Book) (hb : b.Ok) (mem foe x y : List Bool) (hf : foe.length = b.foe.length) : keepsS b b.pro mem (foe ++ x) = keepsS b b.pro mem (foe ++ y) := by
  unfold keepsS
  have : ∀ l : List Say, (∀ s ∈ l, s ∈ b.pro) → (l.all fun s => hM b.nm b.pieces mem (foe ++ x) s) = (l.all fun s => hM b.nm b.pieces mem (foe ++ y) s) := by
    intro l
    induction l with
    | nil => exact fun _ => rfl
    | cons s l ih =>
      intro h
      have hs := h s List.mem_cons_self
      rw [List.all_cons, List.all_cons, ih fun t ht => h t (List.mem_cons_of_mem _ ht), hM_free b mem foe x y hf s (hb.toForm.pk s hs).1 (hb.fr s hs)]
  exact this b.pro fun _ h => h
structure Walk (b : Book) (k : Nat) (p : Play) : Prop where
  pl : PlayOk b.nm.length p
  at_ : (memsS b)[k]? = some (mAt b p)
  kp : ∀ j, j < p.length → brk b.nm p b.pro j = false
  km : ∀ j, j < p.length → brk b.nm p b.mus j = false
theorem brk_app {nm : List Str} {p : Play} {st : List Bool} {l : List Say} {j : Nat} (h : j < p.length) : brk nm (p ++ [st]) l j = brk nm p l j := by
  have := brk_take (nm := nm) (p := p ++ [st]) (l := l) (k := j) (n := p.length) h
  rw [List.take_left] at this
  exact this.symm
theorem mem_foesF {b : Book} {mem foe : List Bool} (h : foe ∈ foesF b mem (setL b.foe.length)) : foe.length = b.foe.length ∧ keepsS b b.pro mem (foe ++ offF b) = true :=
  ⟨(setL_mem _ _).mp (List.mem_filter.mp h).1, (List.mem_filter.mp h).2⟩
theorem mem_goodF {b : Book} {mem foe fr : List Bool} (h : fr ∈ goodF b mem foe) : fr.length = b.fri.length ∧ keepsS b b.mus mem (foe ++ fr) = true :=
  ⟨(setL_mem _ _).mp (List.mem_filter.mp h).1, (List.mem_filter.mp h).2⟩
theorem Walk.step {b : Book} (hb : b.Ok) {k : Nat} {p : Play} (w : Walk b k p) (hl : p.length < 900) {foe fr : List Bool} (hf : foe ∈ foesF b (mAt b p) (setL b.foe.length)) (hr : fr ∈ goodF b (mAt b p) foe) :
    Walk b (ixOf (nextM b (mAt b p) (foe ++ fr)) (memsS b)) (p ++ [foe ++ fr]) := by
  obtain ⟨g, _⟩ := game_ok b hb
  obtain ⟨f1, f2⟩ := mem_foesF hf
  obtain ⟨r1, r2⟩ := mem_goodF hr
  have nl := hb.toForm.nl
  have hmem : mAt b p ∈ memsS b := List.mem_of_getElem? w.at_
  have hcl := g.cl _ hmem foe hf (mkA b (mAt b p) foe fr) (List.mem_map_of_mem hr)
  have enx : mAt b (p ++ [foe ++ fr]) = nextM b (mAt b p) (foe ++ fr) := next_play b p (foe ++ fr)
  refine ⟨w.pl.snoc (by rw [List.length_append]; omega) (by omega), ?_, fun j hj => ?_, fun j hj => ?_⟩
  · rw [enx]; exact ixOf_get hcl
  · rw [List.length_append, List.length_singleton] at hj
    by_cases h : j < p.length
    · rw [brk_app h]; exact w.kp j h
    · have e : j = p.length := by omega
      subst e
      have h1 := keeps_play b p (foe ++ fr) b.pro pro_says
      rw [show memAt b p p.length = mAt b p from rfl, keeps_free b hb (mAt b p) foe fr (offF b) f1, f2] at h1
      simpa using h1
  · rw [List.length_append, List.length_singleton] at hj
    by_cases h : j < p.length
    · rw [brk_app h]; exact w.km j h
    · have e : j = p.length := by omega
      subst e
      have h1 := keeps_play b p (foe ++ fr) b.mus mus_says
      rw [show memAt b p p.length = mAt b p from rfl, r2] at h1
      simpa using h1
/-- a place in a row, by a number -/
theorem place (x : Int) (n : Nat) (h : 0 < n) : ∃ j : Nat, j < n ∧ x.fmod (n : Int) = j := by
  have h1 : x.fmod (n : Int) = x % (n : Int) := fmod_pos x n
  have h2 := Int.emod_nonneg x (show (n : Int) ≠ 0 by omega)
  have h3 := Int.emod_lt_of_pos x (show (0 : Int) < n by omega)
  exact ⟨(x % (n : Int)).toNat, by omega, by rw [h1]; omega⟩
end Lz
namespace Lz
open PySem PySem.Spec PyProof.Rows L2
def mk (l : List Nat) : Str := ⟨l.toArray⟩
theorem mk_inj {a b : List Nat} (h : mk a = mk b) : a = b := by
  have := congrArg (fun z : Str => z.cps.toList) h
  simpa [mk] using this
theorem mk_eq {a b : List Nat} : mk a = mk b ↔ a = b := ⟨mk_inj, fun h => h ▸ rfl⟩
theorem mk_len (l : List Nat) : (mk l).length = l.length := by simp [mk, Str.length]
theorem mk_tl (z : Str) : mk z.cps.toList = z := by simp [mk]
theorem mk_app (a b : List Nat) : mk a ++ mk b = mk (a ++ b) := by
  show Str.mk _ = _
  simp [mk]
theorem add_mk {a b : List Nat} (h : a.length + b.length ≤ 16777216) : opAdd (.str (mk a)) (.str (mk b)) = some (false, .str (mk (a ++ b))) := by
  show (if (mk a).length + (mk b).length ≤ lim then some (false, D.str (mk a ++ mk b)) else none) = _
  rw [mk_len, mk_len, if_pos h, mk_app]
theorem ix_mk {l : List Nat} (h : l.length ≤ 16777216) {k : Nat} (hk : k < l.length) : opIx (.str (mk l)) (.int k) = some (false, .str (mk [l[k]])) := by
  show (if (mk l).length ≤ lim then (atI (mk l).cps.toList (k : Int)).map fun c => (false, D.str ⟨#[c]⟩) else none) = _
  rw [mk_len, if_pos h]
  have e : (mk l).cps.toList = l := rfl
  rw [e, atI_lt hk]
  rfl
theorem sl_mk {l : List Nat} (h : l.length ≤ 16777216) (lo hi : Option Int) : opSl (.str (mk l)) lo hi = some (false, .str (mk (cut l lo hi))) := by
  show (if (mk l).length ≤ lim then some (false, D.str (cutS (mk l) lo hi)) else none) = _
  rw [mk_len, if_pos h]
  unfold cutS cut
  rw [mk_len]
  rfl
theorem len_mk {l : List Nat} (h : l.length ≤ 16777216) : cfLen [.str (mk l)] = some (false, .int l.length) := by
  show (if (mk l).length ≤ lim then pI (mk l).length else none) = _
  rw [mk_len, if_pos h]
theorem str_eq (a b : Str) : eqD (.str a) (.str b) = some (decide (a = b)) := by
  show some (decide (a = b)) = _
  rfl
theorem mk_eqD (a b : List Nat) : eqD (.str (mk a)) (.str (mk b)) = some (decide (a = b)) := by
  rw [str_eq]
  congr 1
  exact decide_eq_decide.mpr mk_eq
/-- cut at a sign -/
def sps (c : Nat) : List Nat → List (List Nat)
  | [] => [[]]
  | d :: r => if d = c then [] :: sps c r else (match sps c r with
    | w :: ws => (d :: w) :: ws
    | [] => [[d]])
theorem sps_ne (c : Nat) : ∀ l, sps c l ≠ []
  | [] => by simp [sps]
  | d :: r => by
    unfold sps
    split
    · simp
    · cases h : sps c r with
      | nil => simp
      | cons w ws => simp
theorem spl_sps (c : Nat) : ∀ (l acc : List Nat), TL.spl [c] 0 acc l = (match sps c l with | w :: ws => (acc ++ w) :: ws | [] => [acc])
  | [], acc => by simp [TL.spl, sps]
  | d :: r, acc => by
    unfold sps
    by_cases h : d = c
    · subst h
      have hp : TL.pre [d] (d :: r) = true := by simp [TL.pre]
      rw [TL.spl_hit hp]
      have := spl_sps d r []
      simp only [List.length_singleton, Nat.sub_self]
      rw [this, if_pos trivial]
      cases e : sps d r with
      | nil => exact absurd e (sps_ne d r)
      | cons w ws => simp
    · have hp : TL.pre [c] (d :: r) = false := by simp [TL.pre]; exact h
      rw [TL.spl_miss hp, spl_sps c r (acc ++ [d]), if_neg h]
      cases e : sps c r with
      | nil => exact absurd e (sps_ne c r)
      | cons w ws => simp
theorem split_mk {l : List Nat} {c : Nat} (hc : c < 256) (h : l.length + 2 ≤ 16777216) : mfSplit (.str (mk l)) [.str (mk [c])] = some (true, .lst ((sps c l).map fun w => .str (mk w))) := by
  show (if (mk [c]).length ≠ 0 ∧ (mk l).length + 2 ≤ lim then some (true, D.lst ((Txt.split (mk l) (mk [c])).map D.str)) else none) = _
  rw [mk_len, mk_len, if_pos ⟨by simp, h⟩]
  have e := TL.split_spl (mk l) (mk [c]) (by simp [TL.tl_mk, mk]) (TL.kind_ok (by simp [mk]; omega))
  have e1 : TL.tl (mk [c]) = [c] := rfl
  have e2 : TL.tl (mk l) = l := rfl
  rw [e1, e2, spl_sps] at e
  have e3 : (match sps c l with | w :: ws => ([] ++ w) :: ws | [] => [[]]) = sps c l := by
    cases e : sps c l with
    | nil => exact absurd e (sps_ne c l)
    | cons w ws => simp
  rw [e3] at e
  rw [← e, List.map_map]
  have : (fun w => D.str (mk w)) ∘ TL.tl = D.str := by
    funext z
    show D.str (mk (TL.tl z)) = _
    rw [show mk (TL.tl z) = z from mk_tl z]
  rw [this]
theorem lit_sp : (" " : Str) = mk [32] := by decide +kernel
end Lz
namespace Lz
open PySem PySem.Spec PyProof.Rows L2
def let? (c : Nat) : Bool := decide (97 ≤ c) && decide (c ≤ 122)
def _root_.PySem.Str.L (z : Str) : List Nat := z.cps.toList
theorem mkL (z : Str) : mk z.L = z := mk_tl z
def yesL : List Nat := [121, 101, 115]
def noL : List Nat := [110, 111]
theorem lit_yes : ("yes" : Str) = mk yesL := by decide +kernel
theorem lit_no : ("no" : Str) = mk noL := by decide +kernel
def U1.L (o : U1) : List Nat := o.str.L
def U2.L (o : U2) : List Nat := o.str.L
def sglL : List (List Nat) := sgl.map PySem.Str.L
def dblL : List (List Nat) := dbl.map PySem.Str.L
theorem sglL_ok : ∀ w ∈ sglL, w ≠ [] ∧ w.all let? = true ∧ w ≠ yesL ∧ w ≠ noL ∧ w ∉ dblL := by decide +kernel
theorem dblL_ok : ∀ w ∈ dblL, w ≠ [] ∧ w.all let? = true := by decide +kernel
theorem U1.inL (o : U1) : o.L ∈ sglL := by cases o <;> decide +kernel
theorem U2.inL (o : U2) : o.L ∈ dblL := by cases o <;> decide +kernel
def u1 (w : List Nat) : U1 := if w = U1.nt.L then .nt else if w = U1.bf.L then .bf else if w = U1.on.L then .on else .sf
def u2 (w : List Nat) : U2 := if w = U2.an.L then .an else if w = U2.or.L then .or else if w = U2.th.L then .th else if w = U2.sm.L then .sm else .sn
theorem u1_L (o : U1) : u1 o.L = o := by cases o <;> decide +kernel
theorem u2_L (o : U2) : u2 o.L = o := by cases o <;> decide +kernel
theorem L_u1 : ∀ w ∈ sglL, (u1 w).L = w := by decide +kernel
theorem L_u2 : ∀ w ∈ dblL, (u2 w).L = w := by decide +kernel
def Say.txt : Say → List Nat
  | .lamp n => n.L
  | .cst b => if b = true then yesL else noL
  | .un o s => o.L ++ 32 :: s.txt
  | .bin o s t => 40 :: (s.txt ++ 32 :: (o.L ++ 32 :: (t.txt ++ [41])))
/-- a name: letters, no word -/
def okn (n : Str) : Prop := n.L ≠ [] ∧ n.L.all let? = true ∧ n ∉ wordsL
def oknS (nm : List Str) : Prop := ∀ n ∈ nm, okn n
theorem sgl_word : ∀ w ∈ sglL, mk w ∈ wordsL := by decide +kernel
theorem dbl_word : ∀ w ∈ dblL, mk w ∈ wordsL := by decide +kernel
theorem okn_ne {n : Str} (h : okn n) : n.L ≠ yesL ∧ n.L ≠ noL ∧ n.L ∉ sglL ∧ n.L ∉ dblL := by
  have e := mkL n
  refine ⟨fun q => h.2.2 ?_, fun q => h.2.2 ?_, fun q => h.2.2 ?_, fun q => h.2.2 ?_⟩
  · rw [← e, q]; decide +kernel
  · rw [← e, q]; decide +kernel
  · rw [← e]; exact sgl_word _ q
  · rw [← e]; exact dbl_word _ q
def ftok (l : List Nat) : List Nat := l.takeWhile fun c => !(c == 32)
theorem let_ne {c : Nat} (h : let? c = true) : c ≠ 32 ∧ c ≠ 40 ∧ c ≠ 41 ∧ c ≠ 10 := by
  unfold let? at h
  simp at h
  omega
theorem ftok_let {w r : List Nat} (h : w.all let? = true) : ftok (w ++ r) = w ++ ftok r := by
  unfold ftok
  induction w with
  | nil => rfl
  | cons c w ih =>
    simp only [List.all_cons, Bool.and_eq_true] at h
    have := (let_ne h.1).1
    rw [List.cons_append, List.takeWhile_cons, ih h.2]
    simp [this]
theorem ftok_sp {r : List Nat} : ftok (32 :: r) = [] := by simp [ftok]
theorem ftok_cons {c : Nat} {r : List Nat} (h : c ≠ 32) : ftok (c :: r) = c :: ftok r := by simp [ftok, h]
theorem not_let {w : List Nat} {c : Nat} (hc : c ∈ w) (h : let? c = false) : w.all let? = false := by
  rw [Bool.eq_false_iff]
  intro q
  rw [List.all_eq_true] at q
  rw [q c hc] at h
  cases h
/-- what may stand behind a saying -/
def Aft (r : List Nat) : Prop := (∃ x, r = 32 :: x) ∨ ∃ x, r = 41 :: x
theorem ftok_say {nm : List Str} (hn : oknS nm) {r : List Nat} (hr : Aft r) : ∀ s : Say, s.Over nm → ftok (s.txt ++ r) ∉ dblL := by
  have key : ∀ w : List Nat, w.all let? = true → w ∉ dblL → ftok (w ++ r) ∉ dblL := fun w h1 h2 => by
    rw [ftok_let h1]
    rcases hr with ⟨x, rfl⟩ | ⟨x, rfl⟩
    · rw [ftok_sp, List.append_nil]; exact h2
    · rw [ftok_cons (by decide)]
      intro q
      have := (dblL_ok _ q).2
      rw [not_let (c := 41) (by simp) (by decide)] at this
      cases this
  intro s hs
  cases s with
  | lamp n => exact key _ (hn n hs).2.1 (okn_ne (hn n hs)).2.2.2
  | cst b => cases b <;> exact key _ (by decide) (by decide +kernel)
  | un o s =>
    show ftok ((o.L ++ 32 :: s.txt) ++ r) ∉ dblL
    rw [List.append_assoc, ftok_let (sglL_ok _ o.inL).2.1, List.cons_append, ftok_sp, List.append_nil]
    exact (sglL_ok _ o.inL).2.2.2.2
  | bin o s t =>
    intro q
    have := (dblL_ok _ q).2
    have e : ftok ((Say.bin o s t).txt ++ r) = 40 :: ftok (s.txt ++ 32 :: (o.L ++ 32 :: (t.txt ++ [41])) ++ r) := by
      show ftok (40 :: (s.txt ++ 32 :: (o.L ++ 32 :: (t.txt ++ [41])) ++ r)) = _
      exact ftok_cons (by decide)
    rw [e, not_let (c := 40) (by simp) (by decide)] at this
    cases this
def opn (o : Int) (c : Nat) : Int := o + (if c = 40 then 1 else 0) - (if c = 41 then 1 else 0)
def midC (o : Int) (c : Nat) (r : List Nat) : Bool := decide (opn o c = 1) && (decide (c = 32) && (decide (32 ∈ r) && decide (ftok r ∈ dblL)))
def midP : Int → Nat → List Nat → Option Nat
  | _, _, [] => none
  | o, k, c :: r => if midC o c r = true then some k else midP (opn o c) (k + 1) r
theorem mid_let {r : List Nat} : ∀ (w : List Nat) (o : Int) (k : Nat), w.all let? = true → midP o k (w ++ r) = midP o (k + w.length) r
  | [], o, k, _ => rfl
  | c :: w, o, k, h => by
    simp only [List.all_cons, Bool.and_eq_true] at h
    obtain ⟨h1, h2, h3, _⟩ := let_ne h.1
    have e1 : midC o c (w ++ r) = false := by unfold midC; simp [h1]
    have e2 : opn o c = o := by unfold opn; rw [if_neg h2, if_neg h3]; omega
    rw [List.cons_append, midP, e1, if_neg Bool.false_ne_true, e2, mid_let w o (k + 1) h.2, List.length_cons]
    congr 1
    omega
theorem mid_skip {nm : List Str} (hn : oknS nm) : ∀ (s : Say) (o : Int) (k : Nat) (r : List Nat), s.Over nm → 1 ≤ o → Aft r → midP o k (s.txt ++ r) = midP o (k + s.txt.length) r := by
  intro s
  induction s with
  | lamp n => exact fun o k r hs _ _ => mid_let _ o k (hn n hs).2.1
  | cst b => intro o k r _ _ _; cases b <;> exact mid_let _ o k (by decide)
  | un p s ih =>
    intro o k r hs ho hr
    show midP o k ((p.L ++ 32 :: s.txt) ++ r) = _
    have e1 : midC o 32 (s.txt ++ r) = false := by
      unfold midC
      rw [decide_eq_false (ftok_say hn hr s hs)]
      simp
    have e2 : opn o 32 = o := by unfold opn; simp
    rw [List.append_assoc, mid_let _ o k (sglL_ok _ p.inL).2.1, List.cons_append, midP, e1, if_neg Bool.false_ne_true, e2, ih o _ r hs ho hr]
    congr 1
    show _ = k + (p.L ++ 32 :: s.txt).length
    rw [List.length_append, List.length_cons]
    omega
  | bin p s t ih1 ih2 =>
    intro o k r hs ho hr
    have e : (Say.bin p s t).txt ++ r = 40 :: (s.txt ++ 32 :: (p.L ++ 32 :: (t.txt ++ 41 :: r))) := by
      show 40 :: (s.txt ++ 32 :: (p.L ++ 32 :: (t.txt ++ [41]))) ++ r = _
      simp
    have f1 : ∀ x : List Nat, midC o 40 x = false := fun x => by unfold midC; simp
    have f2 : opn o 40 = o + 1 := by unfold opn; simp
    have f3 : ∀ x : List Nat, midC (o + 1) 32 x = false := fun x => by
      unfold midC opn
      have : ¬ (o + 1 = 1) := by omega
      simp [this]
    have f4 : opn (o + 1) 32 = o + 1 := by unfold opn; simp
    have f5 : ∀ x : List Nat, midC (o + 1) 41 x = false := fun x => by unfold midC; simp
    have f6 : opn (o + 1) 41 = o := by unfold opn; simp
    rw [e, midP, f1, if_neg Bool.false_ne_true, f2, ih1 (o + 1) _ _ hs.1 (by omega) (.inl ⟨_, rfl⟩), midP, f3, if_neg Bool.false_ne_true, f4, mid_let _ _ _ (dblL_ok _ p.inL).2,
      midP, f3, if_neg Bool.false_ne_true, f4, ih2 (o + 1) _ _ hs.2 (by omega) (.inr ⟨_, rfl⟩), midP, f5, if_neg Bool.false_ne_true, f6]
    congr 1
    show _ = k + (40 :: (s.txt ++ 32 :: (p.L ++ 32 :: (t.txt ++ [41])))).length
    simp only [List.length_cons, List.length_append, List.length_nil]
    omega
theorem mid_bin {nm : List Str} (hn : oknS nm) {s t : Say} {p : U2} (hs : s.Over nm) : midP 0 0 (Say.bin p s t).txt = some (1 + s.txt.length) := by
  show midP 0 0 (40 :: (s.txt ++ 32 :: (p.L ++ 32 :: (t.txt ++ [41])))) = _
  have f1 : ∀ x : List Nat, midC 0 40 x = false := fun x => by unfold midC; simp
  have f2 : opn 0 40 = 1 := by decide
  have f3 : midC 1 32 (p.L ++ 32 :: (t.txt ++ [41])) = true := by
    unfold midC
    rw [ftok_let (dblL_ok _ p.inL).2, ftok_sp, List.append_nil, decide_eq_true p.inL]
    simp [opn]
  rw [midP, f1, if_neg Bool.false_ne_true, f2, mid_skip hn s 1 _ _ hs (by omega) (.inl ⟨_, rfl⟩), midP, f3, if_pos rfl]
def parseP : Nat → List Nat → Option Say
  | 0, _ => none
  | m + 1, l => if l = yesL then some (.cst true) else if l = noL then some (.cst false) else
    if l.take 1 = [40] ∧ l.drop (l.length - 1) = [41] then (midP 0 0 l).bind fun k =>
      (parseP m ((l.drop 1).take (k - 1))).bind fun s => (parseP m ((l.drop (k + 2 + (ftok (l.drop (k + 1))).length)).take (l.length - 1 - (k + 2 + (ftok (l.drop (k + 1))).length)))).map fun t => .bin (u2 (ftok (l.drop (k + 1)))) s t
    else if ftok l ∈ sglL ∧ (ftok l).length < l.length then (parseP m (l.drop ((ftok l).length + 1))).map fun s => .un (u1 (ftok l)) s
    else some (.lamp (mk l))
theorem parse_txt {nm : List Str} (hn : oknS nm) : ∀ (s : Say) (m : Nat), s.Over nm → s.dep ≤ m → parseP m s.txt = some s := by
  intro s
  induction s with
  | lamp n =>
    intro m hs hm
    obtain ⟨m, rfl⟩ : ∃ k, m = k + 1 := ⟨m - 1, by simp [Say.dep] at hm; omega⟩
    obtain ⟨h1, h2, _⟩ := hn n hs
    obtain ⟨n1, n2, n3, _⟩ := okn_ne (hn n hs)
    have hf : ftok n.L = n.L := by have := ftok_let (r := []) h2; simpa [ftok] using this
    have ht : n.L.take 1 ≠ [40] := by
      cases e : n.L with
      | nil => simp
      | cons c w =>
        rw [e] at h2
        simp only [List.all_cons, Bool.and_eq_true] at h2
        have := (let_ne h2.1).2.1
        simpa using this
    show parseP (m + 1) n.L = _
    rw [parseP, if_neg n1, if_neg n2, if_neg (fun q => ht q.1), if_neg (by rw [hf]; exact fun q => n3 q.1), mkL]
  | cst b =>
    intro m _ hm
    obtain ⟨m, rfl⟩ : ∃ k, m = k + 1 := ⟨m - 1, by simp [Say.dep] at hm; omega⟩
    cases b
    · show parseP (m + 1) noL = _
      rw [parseP, if_neg (by decide), if_pos rfl]
    · show parseP (m + 1) yesL = _
      rw [parseP, if_pos rfl]
  | un o s ih =>
    intro m hs hm
    obtain ⟨m, rfl⟩ : ∃ k, m = k + 1 := ⟨m - 1, by simp [Say.dep] at hm; omega⟩
    have hm' : s.dep ≤ m := by simp [Say.dep] at hm; omega
    obtain ⟨h1, h2, _⟩ := sglL_ok _ o.inL
    have e0 : (Say.un o s).txt = o.L ++ 32 :: s.txt := rfl
    have hf : ftok (o.L ++ 32 :: s.txt) = o.L := by rw [ftok_let h2, ftok_sp, List.append_nil]
    have h32 : (32 : Nat) ∈ o.L ++ 32 :: s.txt := by simp
    have n1 : o.L ++ 32 :: s.txt ≠ yesL := fun q => by rw [q] at h32; revert h32; decide
    have n2 : o.L ++ 32 :: s.txt ≠ noL := fun q => by rw [q] at h32; revert h32; decide
    have ht : (o.L ++ 32 :: s.txt).take 1 ≠ [40] := by
      cases e : o.L with
      | nil => exact absurd e h1
      | cons c w =>
        rw [e] at h2
        simp only [List.all_cons, Bool.and_eq_true] at h2
        have := (let_ne h2.1).2.1
        simpa using this
    have ed : (o.L ++ 32 :: s.txt).drop (o.L.length + 1) = s.txt := by
      have : o.L ++ 32 :: s.txt = (o.L ++ [32]) ++ s.txt := by simp
      rw [this, List.drop_left' (by simp)]
    rw [e0, parseP, if_neg n1, if_neg n2, if_neg (fun q => ht q.1), hf, if_pos ⟨o.inL, by simp⟩, ed, ih m hs hm', u1_L]
    rfl
  | bin o s t ih1 ih2 =>
    intro m hs hm
    obtain ⟨m, rfl⟩ : ∃ k, m = k + 1 := ⟨m - 1, by simp [Say.dep] at hm; omega⟩
    have hm1 : s.dep ≤ m := by simp [Say.dep] at hm; omega
    have hm2 : t.dep ≤ m := by simp [Say.dep] at hm; omega
    have hmid := mid_bin hn (t := t) (p := o) hs.1
    have e0 : (Say.bin o s t).txt = 40 :: (s.txt ++ 32 :: (o.L ++ 32 :: (t.txt ++ [41]))) := rfl
    have hlen : (Say.bin o s t).txt.length = s.txt.length + o.L.length + t.txt.length + 4 := by rw [e0]; simp only [List.length_cons, List.length_append, List.length_nil]; omega
    have h32 : (32 : Nat) ∈ (Say.bin o s t).txt := by rw [e0]; simp
    have n1 : (Say.bin o s t).txt ≠ yesL := fun q => by rw [q] at h32; revert h32; decide
    have n2 : (Say.bin o s t).txt ≠ noL := fun q => by rw [q] at h32; revert h32; decide
    have hb : (Say.bin o s t).txt = (40 :: (s.txt ++ 32 :: (o.L ++ 32 :: t.txt))) ++ [41] := by rw [e0]; simp
    have hlast : (Say.bin o s t).txt.drop ((Say.bin o s t).txt.length - 1) = [41] := by
      have : (Say.bin o s t).txt.length - 1 = (40 :: (s.txt ++ 32 :: (o.L ++ 32 :: t.txt))).length := by rw [hb]; simp; omega
      rw [this, hb, List.drop_left]
    have htk : (Say.bin o s t).txt.take 1 = [40] := by rw [e0]; simp
    have d1 : (Say.bin o s t).txt.drop (1 + s.txt.length + 1) = o.L ++ 32 :: (t.txt ++ [41]) := by
      have : (Say.bin o s t).txt = (40 :: (s.txt ++ [32])) ++ (o.L ++ 32 :: (t.txt ++ [41])) := by rw [e0]; simp
      rw [this, List.drop_left' (by simp; omega)]
    have hf : ftok ((Say.bin o s t).txt.drop (1 + s.txt.length + 1)) = o.L := by rw [d1, ftok_let (dblL_ok _ o.inL).2, ftok_sp, List.append_nil]
    have d2 : ((Say.bin o s t).txt.drop 1).take (1 + s.txt.length - 1) = s.txt := by
      rw [e0, List.drop_succ_cons, List.drop_zero, List.take_left' (by omega)]
    have d3 : ((Say.bin o s t).txt.drop (1 + s.txt.length + 2 + o.L.length)).take ((Say.bin o s t).txt.length - 1 - (1 + s.txt.length + 2 + o.L.length)) = t.txt := by
      have : (Say.bin o s t).txt = (40 :: (s.txt ++ 32 :: (o.L ++ [32]))) ++ (t.txt ++ [41]) := by rw [e0]; simp
      have e1 : (Say.bin o s t).txt.drop (1 + s.txt.length + 2 + o.L.length) = t.txt ++ [41] := by
        rw [this, List.drop_left' (by simp; omega)]
      rw [e1, hlen, List.take_left' (by omega)]
    rw [parseP, if_neg n1, if_neg n2, if_pos ⟨htk, hlast⟩, hmid]
    simp only [Option.bind_some]
    rw [hf, d2, ih1 m hs.1 hm1]
    simp only [Option.bind_some]
    rw [d3, ih2 m hs.2 hm2, u2_L]
    rfl
end Lz
namespace Lz
open PySem PySem.Spec PyProof.Rows L2
def lw (l : List Nat) : List Nat := l.takeWhile let?
theorem lw_let {w r : List Nat} (h : w.all let? = true) : lw (w ++ r) = w ++ lw r := by
  unfold lw
  induction w with
  | nil => rfl
  | cons c w ih =>
    simp only [List.all_cons, Bool.and_eq_true] at h
    rw [List.cons_append, List.takeWhile_cons, ih h.2, h.1]
    rfl
/-- no letter follows -/
def Stp (r : List Nat) : Prop := ∀ c x, r = c :: x → let? c = false
theorem lw_stp {r : List Nat} (h : Stp r) : lw r = [] := by
  cases r with
  | nil => rfl
  | cons c x => unfold lw; rw [List.takeWhile_cons, h c x rfl]; rfl
theorem Stp.nil : Stp [] := fun _ _ h => by cases h
theorem Stp.sp {x : List Nat} : Stp (32 :: x) := fun c y h => by cases h; decide
theorem Stp.cl {x : List Nat} : Stp (41 :: x) := fun c y h => by cases h; decide
def parseL (nm : List Str) : Nat → List Nat → Option (Say × List Nat)
  | 0, _ => none
  | n + 1, x => if x.take 1 = [40] then (parseL nm n (x.drop 1)).bind fun p =>
      if p.2.take 1 ≠ [32] then none else
      if lw (p.2.drop 1) ∉ dblL ∨ ((p.2.drop 1).drop (lw (p.2.drop 1)).length).take 1 ≠ [32] then none else
      (parseL nm n (((p.2.drop 1).drop (lw (p.2.drop 1)).length).drop 1)).bind fun q =>
        if q.2.take 1 ≠ [41] then none else some (.bin (u2 (lw (p.2.drop 1))) p.1 q.1, q.2.drop 1)
    else if lw x ∈ sglL ∧ (x.drop (lw x).length).take 1 = [32] then (parseL nm n ((x.drop (lw x).length).drop 1)).map fun p => (.un (u1 (lw x)) p.1, p.2)
    else if lw x = yesL then some (.cst true, x.drop (lw x).length)
    else if lw x = noL then some (.cst false, x.drop (lw x).length)
    else if mk (lw x) ∉ nm then none
    else some (.lamp (mk (lw x)), x.drop (lw x).length)
theorem take1 {c : Nat} {r : List Nat} (h : r.take 1 = [c]) : r = c :: r.drop 1 := by
  cases r with
  | nil => simp at h
  | cons d x => simp at h; subst h; rfl
theorem lw_drop (x : List Nat) : x = lw x ++ x.drop (lw x).length := by
  induction x with
  | nil => rfl
  | cons c x ih =>
    unfold lw at ih ⊢
    rw [List.takeWhile_cons]
    by_cases h : let? c = true
    · rw [if_pos h, List.cons_append, List.length_cons, List.drop_succ_cons, ← ih]
    · rw [if_neg h]; rfl
theorem parseL_sound {nm : List Str} : ∀ (n : Nat) (x : List Nat) (s : Say) (r : List Nat), parseL nm n x = some (s, r) → s.Over nm ∧ x = s.txt ++ r ∧ s.dep ≤ n := by
  intro n
  induction n with
  | zero => intro x s r h; cases h
  | succ n ih =>
    intro x s r h
    rw [parseL] at h
    split at h
    · rename_i h40
      obtain ⟨⟨s1, r1⟩, h1, h⟩ := Option.bind_eq_some_iff.mp h
      dsimp only at h
      split at h
      · cases h
      rename_i hsp
      split at h
      · cases h
      rename_i hw
      obtain ⟨⟨t1, r3⟩, h2, h⟩ := Option.bind_eq_some_iff.mp h
      dsimp only at h
      split at h
      · cases h
      rename_i hcl
      cases h
      obtain ⟨a1, a2, a3⟩ := ih _ _ _ h1
      obtain ⟨b1, b2, b3⟩ := ih _ _ _ h2
      have hsp' : r1.take 1 = [32] := by simpa using hsp
      have hcl' : r3.take 1 = [41] := by simpa using hcl
      have hw1 : lw (r1.drop 1) ∈ dblL := by
        by_cases q : lw (r1.drop 1) ∈ dblL
        · exact q
        · exact absurd (.inl q) hw
      have hw2 : ((r1.drop 1).drop (lw (r1.drop 1)).length).take 1 = [32] := by
        by_cases q : ((r1.drop 1).drop (lw (r1.drop 1)).length).take 1 = [32]
        · exact q
        · exact absurd (.inr q) hw
      refine ⟨⟨a1, b1⟩, ?_, by simp only [Say.dep]; omega⟩
      have e1 := take1 h40
      have e2 := take1 hsp'
      have e3 := take1 hcl'
      have e4 := take1 hw2
      have e5 := lw_drop (r1.drop 1)
      rw [e1, a2]
      show 40 :: (s1.txt ++ r1) = (40 :: (s1.txt ++ 32 :: ((u2 (lw (r1.drop 1))).L ++ 32 :: (t1.txt ++ [41])))) ++ r3.drop 1
      rw [L_u2 _ hw1]
      conv => lhs; rw [e2, e5, e4, b2, e3]
      simp
    · rename_i h40
      split at h
      · rename_i hw
        obtain ⟨⟨s1, r1⟩, h1, h⟩ := Option.map_eq_some_iff.mp h
        cases h
        obtain ⟨a1, a2, a3⟩ := ih _ _ _ h1
        refine ⟨a1, ?_, by simp only [Say.dep]; omega⟩
        have e4 := take1 hw.2
        have e5 := lw_drop x
        show x = ((u1 (lw x)).L ++ 32 :: s1.txt) ++ r1
        rw [L_u1 _ hw.1]
        conv => lhs; rw [e5, e4, a2]
        simp
      · split at h
        · rename_i hy
          cases h
          refine ⟨trivial, ?_, by simp [Say.dep]⟩
          conv => lhs; rw [lw_drop x]
          rw [hy]; rfl
        · split at h
          · rename_i hy
            cases h
            refine ⟨trivial, ?_, by simp [Say.dep]⟩
            conv => lhs; rw [lw_drop x]
            rw [hy]; rfl
          · split at h
            · cases h
            · rename_i hm
              cases h
              have hm' : mk (lw x) ∈ nm := by simpa using hm
              refine ⟨hm', ?_, by simp [Say.dep]⟩
              conv => lhs; rw [lw_drop x]
              rfl
def cntP (l : List Nat) : Nat := l.countP fun c => c == 40 || c == 32
theorem cnt_app (a b : List Nat) : cntP (a ++ b) = cntP a + cntP b := by unfold cntP; rw [List.countP_append]
theorem cnt_cons40 (l : List Nat) : cntP (40 :: l) = cntP l + 1 := by unfold cntP; simp
theorem cnt_cons32 (l : List Nat) : cntP (32 :: l) = cntP l + 1 := by unfold cntP; simp
theorem parseL_txt {nm : List Str} (hn : oknS nm) : ∀ (s : Say) (n : Nat) (r : List Nat), s.Over nm → Stp r → cntP s.txt < n → parseL nm n (s.txt ++ r) = some (s, r) := by
  intro s
  induction s with
  | lamp w =>
    intro n r hs hr hc
    obtain ⟨n, rfl⟩ : ∃ k, n = k + 1 := ⟨n - 1, by omega⟩
    obtain ⟨h1, h2, _⟩ := hn w hs
    obtain ⟨n1, n2, n3, _⟩ := okn_ne (hn w hs)
    show parseL nm (n + 1) (w.L ++ r) = _
    have el : lw (w.L ++ r) = w.L := by rw [lw_let h2, lw_stp hr, List.append_nil]
    have ht : (w.L ++ r).take 1 ≠ [40] := by
      cases e : w.L with
      | nil => exact absurd e h1
      | cons c x =>
        rw [e] at h2
        simp only [List.all_cons, Bool.and_eq_true] at h2
        have := (let_ne h2.1).2.1
        simpa using this
    rw [parseL, if_neg ht, el, if_neg (fun q => n3 q.1), if_neg n1, if_neg n2, mkL, if_neg (fun q => q hs), List.drop_left]
  | cst b =>
    intro n r _ hr hc
    obtain ⟨n, rfl⟩ : ∃ k, n = k + 1 := ⟨n - 1, by omega⟩
    cases b
    · show parseL nm (n + 1) (noL ++ r) = _
      have el : lw (noL ++ r) = noL := by rw [lw_let (by decide), lw_stp hr, List.append_nil]
      rw [parseL, if_neg (by simp [noL]), el, if_neg (fun q => absurd q.1 (by decide +kernel)), if_neg (by decide), if_pos rfl, List.drop_left]
    · show parseL nm (n + 1) (yesL ++ r) = _
      have el : lw (yesL ++ r) = yesL := by rw [lw_let (by decide), lw_stp hr, List.append_nil]
      rw [parseL, if_neg (by simp [yesL]), el, if_neg (fun q => absurd q.1 (by decide +kernel)), if_pos rfl, List.drop_left]
  | un o s ih =>
    intro n r hs hr hc
    obtain ⟨n, rfl⟩ : ∃ k, n = k + 1 := ⟨n - 1, by omega⟩
    obtain ⟨h1, h2, _⟩ := sglL_ok _ o.inL
    have e0 : (Say.un o s).txt ++ r = o.L ++ 32 :: (s.txt ++ r) := by show (o.L ++ 32 :: s.txt) ++ r = _; simp
    have hc' : cntP s.txt < n := by
      have : cntP (o.L ++ 32 :: s.txt) < n + 1 := hc
      rw [cnt_app, cnt_cons32] at this
      omega
    have el : lw (o.L ++ 32 :: (s.txt ++ r)) = o.L := by rw [lw_let h2, lw_stp Stp.sp, List.append_nil]
    have ht : (o.L ++ 32 :: (s.txt ++ r)).take 1 ≠ [40] := by
      cases e : o.L with
      | nil => exact absurd e h1
      | cons c x =>
        rw [e] at h2
        simp only [List.all_cons, Bool.and_eq_true] at h2
        have := (let_ne h2.1).2.1
        simpa using this
    rw [e0, parseL, if_neg ht, el, List.drop_left, if_pos ⟨o.inL, rfl⟩]
    rw [List.drop_succ_cons, List.drop_zero, ih n r hs hr hc', u1_L]
    rfl
  | bin o s t ih1 ih2 =>
    intro n r hs hr hc
    obtain ⟨n, rfl⟩ : ∃ k, n = k + 1 := ⟨n - 1, by omega⟩
    have hc1 : cntP (40 :: (s.txt ++ 32 :: (o.L ++ 32 :: (t.txt ++ [41])))) < n + 1 := hc
    rw [cnt_cons40, cnt_app, cnt_cons32, cnt_app, cnt_cons32, cnt_app] at hc1
    have e0 : (Say.bin o s t).txt ++ r = 40 :: (s.txt ++ 32 :: (o.L ++ 32 :: (t.txt ++ 41 :: r))) := by
      show (40 :: (s.txt ++ 32 :: (o.L ++ 32 :: (t.txt ++ [41])))) ++ r = _; simp
    have el : lw (o.L ++ 32 :: (t.txt ++ 41 :: r)) = o.L := by rw [lw_let (dblL_ok _ o.inL).2, lw_stp Stp.sp, List.append_nil]
    rw [e0, parseL, if_pos (by simp)]
    rw [List.drop_succ_cons, List.drop_zero, ih1 n _ hs.1 Stp.sp (by omega)]
    simp only [Option.bind_some]
    rw [if_neg (by simp), List.drop_succ_cons, List.drop_zero, el, List.drop_left, if_neg (by simp [o.inL]), List.drop_succ_cons, List.drop_zero, ih2 n _ hs.2 Stp.cl (by omega)]
    simp only [Option.bind_some]
    rw [if_neg (by simp), List.drop_succ_cons, List.drop_zero, u2_L]
def rdP (nm : List Str) (l : List Nat) : Option Say := (parseP 8 l).bind fun s => if isSay nm 8 s.toD = true ∧ s.txt = l then some s else none
def rdL (nm : List Str) (l : List Nat) : Option Say := (parseL nm 150 l).bind fun p => if p.2 ≠ [] ∨ 8 < p.1.dep then none else some p.1
theorem isSay_iff {nm : List Str} {s : Say} {m : Nat} : isSay nm m s.toD = true ↔ s.Over nm ∧ s.dep ≤ m := by
  constructor
  · intro h
    obtain ⟨t, e, h1, h2⟩ := isSay_inv h
    have := Say.toD_inj e
    subst this
    exact ⟨h1, h2⟩
  · intro h
    rw [isSay_say nm s m h.1]
    exact decide_eq_true h.2
theorem rdP_iff {nm : List Str} (hn : oknS nm) {l : List Nat} {s : Say} : rdP nm l = some s ↔ s.Over nm ∧ s.dep ≤ 8 ∧ s.txt = l := by
  unfold rdP
  constructor
  · intro h
    obtain ⟨t, h1, h2⟩ := Option.bind_eq_some_iff.mp h
    split at h2
    · rename_i hc
      cases h2
      have := isSay_iff.mp hc.1
      exact ⟨this.1, this.2, hc.2⟩
    · cases h2
  · intro ⟨h1, h2, h3⟩
    subst h3
    rw [parse_txt hn s 8 h1 h2]
    simp [isSay_iff, h1, h2]
theorem rdL_iff {nm : List Str} (hn : oknS nm) {l : List Nat} {s : Say} (hc : cntP l < 150) : rdL nm l = some s ↔ s.Over nm ∧ s.dep ≤ 8 ∧ s.txt = l := by
  unfold rdL
  constructor
  · intro h
    obtain ⟨⟨t, r⟩, h1, h2⟩ := Option.bind_eq_some_iff.mp h
    dsimp only at h2
    split at h2
    · cases h2
    · rename_i hq
      cases h2
      obtain ⟨a, b, _⟩ := parseL_sound _ _ _ _ h1
      have hr : r = [] := by
        by_cases e : r = []
        · exact e
        · exact absurd (.inl e) hq
      have hd : s.dep ≤ 8 := by
        by_cases e : 8 < s.dep
        · exact absurd (.inr e) hq
        · omega
      subst hr
      exact ⟨a, hd, by rw [b]; simp⟩
  · intro ⟨h1, h2, h3⟩
    subst h3
    have := parseL_txt hn s 150 [] h1 Stp.nil hc
    rw [List.append_nil] at this
    rw [this]
    simp
    omega
theorem rd_eq {nm : List Str} (hn : oknS nm) {l : List Nat} (hc : cntP l < 150) : rdP nm l = rdL nm l := by
  apply Option.ext
  intro s
  rw [rdP_iff hn, rdL_iff hn hc]
theorem rdP_txt {nm : List Str} (hn : oknS nm) {s : Say} (h1 : s.Over nm) (h2 : s.dep ≤ 8) : rdP nm s.txt = some s := (rdP_iff hn).mpr ⟨h1, h2, rfl⟩
end Lz
namespace Lz
open PySem PySem.Spec PyProof.Rows L2
theorem lit_op : ("(" : Str) = mk [40] := by decide +kernel
theorem lit_cl : (")" : Str) = mk [41] := by decide +kernel
/-- sizes -/
def shS (nm : List Str) : Prop := ∀ n ∈ nm, n.L.length ≤ 8
theorem txt_len {nm : List Str} (hn : shS nm) : ∀ s : Say, s.Over nm → s.txt.length + 9 ≤ 9 * 2 ^ s.dep
  | .lamp n, h => by
    have := hn n h
    show n.L.length + 9 ≤ 9 * 2 ^ 1
    omega
  | .cst b, _ => by cases b <;> decide
  | .un o s, h => by
    have ih := txt_len hn s h
    have h1 : o.L.length ≤ 6 := by cases o <;> decide +kernel
    have h2 := Nat.one_le_two_pow (n := s.dep)
    show (o.L ++ 32 :: s.txt).length + 9 ≤ 9 * 2 ^ (s.dep + 1)
    rw [List.length_append, List.length_cons, Nat.pow_succ]
    omega
  | .bin o s t, h => by
    have ih1 := txt_len hn s h.1
    have ih2 := txt_len hn t h.2
    have h1 : o.L.length ≤ 5 := by cases o <;> decide +kernel
    have p1 : 2 ^ s.dep ≤ 2 ^ max s.dep t.dep := Nat.pow_le_pow_right (by decide) (Nat.le_max_left _ _)
    have p2 : 2 ^ t.dep ≤ 2 ^ max s.dep t.dep := Nat.pow_le_pow_right (by decide) (Nat.le_max_right _ _)
    show (40 :: (s.txt ++ 32 :: (o.L ++ 32 :: (t.txt ++ [41])))).length + 9 ≤ 9 * 2 ^ (max s.dep t.dep + 1)
    simp only [List.length_cons, List.length_append, List.length_nil]
    rw [Nat.pow_succ]
    omega
theorem let_cnt {w : List Nat} (h : w.all let? = true) : cntP w = 0 := by
  unfold cntP
  rw [List.countP_eq_zero]
  intro c hc
  have := let_ne (List.all_eq_true.mp h c hc)
  simp [this.1, this.2.1]
theorem txt_cnt {nm : List Str} (hn : oknS nm) : ∀ s : Say, s.Over nm → 2 * (cntP s.txt + 3) ≤ 3 * 2 ^ s.dep
  | .lamp n, h => by
    have := let_cnt (hn n h).2.1
    show 2 * (cntP n.L + 3) ≤ 3 * 2 ^ 1
    omega
  | .cst b, _ => by cases b <;> decide
  | .un o s, h => by
    have ih := txt_cnt hn s h
    have h1 := let_cnt (sglL_ok _ o.inL).2.1
    have h2 := Nat.one_le_two_pow (n := s.dep)
    show 2 * (cntP (o.L ++ 32 :: s.txt) + 3) ≤ 3 * 2 ^ (s.dep + 1)
    rw [cnt_app, cnt_cons32, h1, Nat.pow_succ]
    omega
  | .bin o s t, h => by
    have ih1 := txt_cnt hn s h.1
    have ih2 := txt_cnt hn t h.2
    have h1 := let_cnt (dblL_ok _ o.inL).2
    have p1 : 2 ^ s.dep ≤ 2 ^ max s.dep t.dep := Nat.pow_le_pow_right (by decide) (Nat.le_max_left _ _)
    have p2 : 2 ^ t.dep ≤ 2 ^ max s.dep t.dep := Nat.pow_le_pow_right (by decide) (Nat.le_max_right _ _)
    have h3 : cntP [41] = 0 := by decide
    show 2 * (cntP (40 :: (s.txt ++ 32 :: (o.L ++ 32 :: (t.txt ++ [41])))) + 3) ≤ 3 * 2 ^ (max s.dep t.dep + 1)
    rw [cnt_cons40, cnt_app, cnt_cons32, cnt_app, cnt_cons32, cnt_app, h1, h3, Nat.pow_succ]
    omega
theorem pow_mono8 {d : Nat} (h : d ≤ 8) : 2 ^ d ≤ 256 := Nat.pow_le_pow_right (by decide) h
theorem txt_small {nm : List Str} (hn : shS nm) {s : Say} (h : s.Over nm) (hd : s.dep ≤ 8) : s.txt.length ≤ 2300 := by
  have := txt_len hn s h
  have := pow_mono8 hd
  omega
section
variable {nm : List Str}
theorem saying_text_sp (hn : shS nm) : ∀ (s : Say) (fuel : Nat), s.Over nm → s.dep ≤ 8 → s.dep ≤ fuel → R_saying_text fuel [(false, s.toD)] = .ok (false, .str (mk s.txt)) [some (false, s.toD)] := by
  intro s
  induction s with
  | lamp n =>
    intro fuel _ _ hf
    obtain ⟨fuel, rfl⟩ : ∃ k, fuel = k + 1 := ⟨fuel - 1, by simp [Say.dep] at hf; omega⟩
    have e : mk n.L = n := mkL n
    show _ = FR.ok (false, D.str (mk n.L)) _
    rw [e]
    simp [R_saying_text, b_saying_text, Say.toD]
  | cst b =>
    intro fuel _ _ hf
    obtain ⟨fuel, rfl⟩ : ∃ k, fuel = k + 1 := ⟨fuel - 1, by simp [Say.dep] at hf; omega⟩
    have n1 : ¬ ("yes" : Str) = "lamp" := by decide
    have n2 : ¬ ("no" : Str) = "lamp" := by decide
    have n3 : ¬ ("no" : Str) = "yes" := by decide
    cases b
    · show _ = FR.ok (false, D.str (mk noL)) _
      rw [← lit_no]
      simp [R_saying_text, b_saying_text, Say.toD, n2, n3]
    · show _ = FR.ok (false, D.str (mk yesL)) _
      rw [← lit_yes]
      simp [R_saying_text, b_saying_text, Say.toD, n1]
  | un o s ih =>
    intro fuel ho hd hf
    obtain ⟨fuel, rfl⟩ : ∃ k, fuel = k + 1 := ⟨fuel - 1, by simp [Say.dep] at hf; omega⟩
    have h1 := ih fuel ho (by simp [Say.dep] at hd; omega) (by simp [Say.dep] at hf; omega)
    have h2 := txt_small hn (s := s) ho (by simp [Say.dep] at hd; omega)
    have h3 : o.L.length ≤ 6 := by cases o <;> decide +kernel
    have e1 : o.str = mk o.L := (mkL o.str).symm
    have a1 : opAdd (.str o.str) (.str " ") = some (false, .str (mk (o.L ++ [32]))) := by
      rw [e1, lit_sp]; exact add_mk (by simp; omega)
    have a2 : opAdd (.str (mk (o.L ++ [32]))) (.str (mk s.txt)) = some (false, .str (mk (o.L ++ 32 :: s.txt))) := by
      rw [add_mk (by simp; omega)]; simp
    have hs := inD_sgl (z := o.str)
    rw [decide_eq_true o.sgl] at hs
    have x1 : opIx (D.tup [.str o.str, s.toD]) (.int 0) = some (false, .str o.str) := by simp
    have x2 : opIx (D.tup [.str o.str, s.toD]) (.int 1) = some (false, s.toD) := by simp
    show R_saying_text (fuel + 1) [(false, D.tup [.str o.str, s.toD])] = FR.ok (false, D.str (mk (o.L ++ 32 :: s.txt))) [some (false, D.tup [.str o.str, s.toD])]
    generalize D.tup [.str o.str, s.toD] = TT at *
    simp [R_saying_text, b_saying_text, x1, x2, o.ne_lamp, o.ne_yes, o.ne_no, hs, h1, a1, a2]
  | bin o s t ih1 ih2 =>
    intro fuel ho hd hf
    obtain ⟨fuel, rfl⟩ : ∃ k, fuel = k + 1 := ⟨fuel - 1, by simp [Say.dep] at hf; omega⟩
    have h1 := ih1 fuel ho.1 (by simp [Say.dep] at hd; omega) (by simp [Say.dep] at hf; omega)
    have h1' := ih2 fuel ho.2 (by simp [Say.dep] at hd; omega) (by simp [Say.dep] at hf; omega)
    have h2 := txt_small hn (s := s) ho.1 (by simp [Say.dep] at hd; omega)
    have h2' := txt_small hn (s := t) ho.2 (by simp [Say.dep] at hd; omega)
    have h3 : o.L.length ≤ 5 := by cases o <;> decide +kernel
    have e1 : o.str = mk o.L := (mkL o.str).symm
    have a1 : opAdd (.str "(") (.str (mk s.txt)) = some (false, .str (mk (40 :: s.txt))) := by
      rw [lit_op, add_mk (by simp; omega)]; rfl
    have a2 : opAdd (.str (mk (40 :: s.txt))) (.str " ") = some (false, .str (mk (40 :: (s.txt ++ [32])))) := by
      rw [lit_sp, add_mk (by simp; omega)]; rfl
    have a3 : opAdd (.str (mk (40 :: (s.txt ++ [32])))) (.str o.str) = some (false, .str (mk (40 :: (s.txt ++ 32 :: o.L)))) := by
      rw [e1, add_mk (by simp; omega)]; simp
    have a4 : opAdd (.str (mk (40 :: (s.txt ++ 32 :: o.L)))) (.str " ") = some (false, .str (mk (40 :: (s.txt ++ 32 :: (o.L ++ [32]))))) := by
      rw [lit_sp, add_mk (by simp; omega)]; simp
    have a5 : opAdd (.str (mk (40 :: (s.txt ++ 32 :: (o.L ++ [32]))))) (.str (mk t.txt)) = some (false, .str (mk (40 :: (s.txt ++ 32 :: (o.L ++ 32 :: t.txt))))) := by
      rw [add_mk (by simp; omega)]; simp
    have a6 : opAdd (.str (mk (40 :: (s.txt ++ 32 :: (o.L ++ 32 :: t.txt))))) (.str ")") = some (false, .str (mk (40 :: (s.txt ++ 32 :: (o.L ++ 32 :: (t.txt ++ [41])))))) := by
      rw [lit_cl, add_mk (by simp; omega)]; simp
    have hs := inD_sgl (z := o.str)
    rw [decide_eq_false o.nsgl] at hs
    have x1 : opIx (D.tup [.str o.str, s.toD, t.toD]) (.int 0) = some (false, .str o.str) := by simp
    have x2 : opIx (D.tup [.str o.str, s.toD, t.toD]) (.int 1) = some (false, s.toD) := by simp
    have x3 : opIx (D.tup [.str o.str, s.toD, t.toD]) (.int 2) = some (false, t.toD) := by simp
    show R_saying_text (fuel + 1) [(false, D.tup [.str o.str, s.toD, t.toD])] = FR.ok (false, D.str (mk (40 :: (s.txt ++ 32 :: (o.L ++ 32 :: (t.txt ++ [41])))))) [some (false, D.tup [.str o.str, s.toD, t.toD])]
    generalize D.tup [.str o.str, s.toD, t.toD] = TT at *
    simp [R_saying_text, b_saying_text, x1, x2, x3, o.ne_lamp, o.ne_yes, o.ne_no, hs, h1, h1', a1, a2, a3, a4, a5, a6]
theorem l_text_sp (hn : shS nm) : ∀ (s : Say) (fuel : Nat), s.Over nm → s.dep ≤ 8 → s.dep ≤ fuel → R_l_text fuel [(false, s.toD)] = .ok (false, .str (mk s.txt)) [some (false, s.toD)] := by
  intro s
  induction s with
  | lamp n =>
    intro fuel _ _ hf
    obtain ⟨fuel, rfl⟩ : ∃ k, fuel = k + 1 := ⟨fuel - 1, by simp [Say.dep] at hf; omega⟩
    have e : mk n.L = n := mkL n
    show _ = FR.ok (false, D.str (mk n.L)) _
    rw [e]
    simp [R_l_text, b_l_text, Say.toD]
  | cst b =>
    intro fuel _ _ hf
    obtain ⟨fuel, rfl⟩ : ∃ k, fuel = k + 1 := ⟨fuel - 1, by simp [Say.dep] at hf; omega⟩
    have n1 : ¬ ("yes" : Str) = "lamp" := by decide
    have n2 : ¬ ("no" : Str) = "lamp" := by decide
    cases b
    · show _ = FR.ok (false, D.str (mk noL)) _
      rw [← lit_no]
      simp [R_l_text, b_l_text, Say.toD, n2]
    · show _ = FR.ok (false, D.str (mk yesL)) _
      rw [← lit_yes]
      simp [R_l_text, b_l_text, Say.toD, n1]
  | un o s ih =>
    intro fuel ho hd hf
    obtain ⟨fuel, rfl⟩ : ∃ k, fuel = k + 1 := ⟨fuel - 1, by simp [Say.dep] at hf; omega⟩
    have h1 := ih fuel ho (by simp [Say.dep] at hd; omega) (by simp [Say.dep] at hf; omega)
    have h2 := txt_small hn (s := s) ho (by simp [Say.dep] at hd; omega)
    have h3 : o.L.length ≤ 6 := by cases o <;> decide +kernel
    have e1 : o.str = mk o.L := (mkL o.str).symm
    have a1 : opAdd (.str o.str) (.str " ") = some (false, .str (mk (o.L ++ [32]))) := by
      rw [e1, lit_sp]; exact add_mk (by simp; omega)
    have a2 : opAdd (.str (mk (o.L ++ [32]))) (.str (mk s.txt)) = some (false, .str (mk (o.L ++ 32 :: s.txt))) := by
      rw [add_mk (by simp; omega)]; simp
    have x1 : opIx (D.tup [.str o.str, s.toD]) (.int 0) = some (false, .str o.str) := by simp
    have x2 : opIx (D.tup [.str o.str, s.toD]) (.int 1) = some (false, s.toD) := by simp
    have x0 : cfLen [D.tup [.str o.str, s.toD]] = some (false, .int 2) := rfl
    show R_l_text (fuel + 1) [(false, D.tup [.str o.str, s.toD])] = FR.ok (false, D.str (mk (o.L ++ 32 :: s.txt))) [some (false, D.tup [.str o.str, s.toD])]
    generalize D.tup [.str o.str, s.toD] = TT at *
    simp [R_l_text, b_l_text, x0, x1, x2, o.ne_lamp, h1, a1, a2]
  | bin o s t ih1 ih2 =>
    intro fuel ho hd hf
    obtain ⟨fuel, rfl⟩ : ∃ k, fuel = k + 1 := ⟨fuel - 1, by simp [Say.dep] at hf; omega⟩
    have h1 := ih1 fuel ho.1 (by simp [Say.dep] at hd; omega) (by simp [Say.dep] at hf; omega)
    have h1' := ih2 fuel ho.2 (by simp [Say.dep] at hd; omega) (by simp [Say.dep] at hf; omega)
    have h2 := txt_small hn (s := s) ho.1 (by simp [Say.dep] at hd; omega)
    have h2' := txt_small hn (s := t) ho.2 (by simp [Say.dep] at hd; omega)
    have h3 : o.L.length ≤ 5 := by cases o <;> decide +kernel
    have e1 : o.str = mk o.L := (mkL o.str).symm
    have a1 : opAdd (.str "(") (.str (mk s.txt)) = some (false, .str (mk (40 :: s.txt))) := by
      rw [lit_op, add_mk (by simp; omega)]; rfl
    have a2 : opAdd (.str (mk (40 :: s.txt))) (.str " ") = some (false, .str (mk (40 :: (s.txt ++ [32])))) := by
      rw [lit_sp, add_mk (by simp; omega)]; rfl
    have a3 : opAdd (.str (mk (40 :: (s.txt ++ [32])))) (.str o.str) = some (false, .str (mk (40 :: (s.txt ++ 32 :: o.L)))) := by
      rw [e1, add_mk (by simp; omega)]; simp
    have a4 : opAdd (.str (mk (40 :: (s.txt ++ 32 :: o.L)))) (.str " ") = some (false, .str (mk (40 :: (s.txt ++ 32 :: (o.L ++ [32]))))) := by
      rw [lit_sp, add_mk (by simp; omega)]; simp
    have a5 : opAdd (.str (mk (40 :: (s.txt ++ 32 :: (o.L ++ [32]))))) (.str (mk t.txt)) = some (false, .str (mk (40 :: (s.txt ++ 32 :: (o.L ++ 32 :: t.txt))))) := by
      rw [add_mk (by simp; omega)]; simp
    have a6 : opAdd (.str (mk (40 :: (s.txt ++ 32 :: (o.L ++ 32 :: t.txt))))) (.str ")") = some (false, .str (mk (40 :: (s.txt ++ 32 :: (o.L ++ 32 :: (t.txt ++ [41])))))) := by
      rw [lit_cl, add_mk (by simp; omega)]; simp
    have x1 : opIx (D.tup [.str o.str, s.toD, t.toD]) (.int 0) = some (false, .str o.str) := by simp
    have x2 : opIx (D.tup [.str o.str, s.toD, t.toD]) (.int 1) = some (false, s.toD) := by simp
    have x3 : opIx (D.tup [.str o.str, s.toD, t.toD]) (.int 2) = some (false, t.toD) := by simp
    have x0 : cfLen [D.tup [.str o.str, s.toD, t.toD]] = some (false, .int 3) := rfl
    show R_l_text (fuel + 1) [(false, D.tup [.str o.str, s.toD, t.toD])] = FR.ok (false, D.str (mk (40 :: (s.txt ++ 32 :: (o.L ++ 32 :: (t.txt ++ [41])))))) [some (false, D.tup [.str o.str, s.toD, t.toD])]
    generalize D.tup [.str o.str, s.toD, t.toD] = TT at *
    simp [R_l_text, b_l_text, x0, x1, x2, x3, o.ne_lamp, h1, h1', a1, a2, a3, a4, a5, a6]
end
end Lz
namespace Lz
open PySem PySem.Spec PyProof.Rows L2
theorem mk1 {c d : Nat} : mk [c] = mk [d] ↔ c = d := by rw [mk_eq]; simp
theorem sps_head (l : List Nat) : ∃ ws, sps 32 l = ftok l :: ws := by
  induction l with
  | nil => exact ⟨[], rfl⟩
  | cons c r ih =>
    obtain ⟨ws, e⟩ := ih
    unfold sps
    by_cases h : c = 32
    · subst h
      rw [if_pos rfl, ftok_sp]
      exact ⟨_, rfl⟩
    · rw [if_neg h, ftok_cons h, e]
      exact ⟨_, rfl⟩
theorem sps_len (l : List Nat) : 2 ≤ (sps 32 l).length ↔ 32 ∈ l := by
  induction l with
  | nil => simp [sps]
  | cons c r ih =>
    unfold sps
    by_cases h : c = 32
    · subst h
      have := List.length_pos_iff.mpr (sps_ne 32 r)
      simp
      omega
    · rw [if_neg h]
      obtain ⟨ws, e⟩ := sps_head r
      rw [e] at ih ⊢
      simp only [List.length_cons, List.mem_cons] at ih ⊢
      constructor
      · intro q; exact .inr (ih.mp q)
      · rintro (q | q)
        · exact absurd q.symm h
        · exact ih.mpr q
theorem inD_dblL {w : List Nat} : inD (.str (mk w)) (.tup [.str "and", .str "or", .str "then", .str "same", .str "since"]) = some (decide (w ∈ dblL)) := by
  rw [inD_dbl]
  congr 1
  refine decide_eq_decide.mpr ⟨fun h => ?_, fun h => ?_⟩
  · have : (mk w).L ∈ dblL := List.mem_map.mpr ⟨_, h, rfl⟩
    exact this
  · obtain ⟨z, hz, e⟩ := List.mem_map.mp h
    rw [← e, mkL]; exact hz
theorem inD_sglL {w : List Nat} : inD (.str (mk w)) (.tup [.str "not", .str "before", .str "once", .str "sofar"]) = some (decide (w ∈ sglL)) := by
  rw [inD_sgl]
  congr 1
  refine decide_eq_decide.mpr ⟨fun h => ?_, fun h => ?_⟩
  · have : (mk w).L ∈ sglL := List.mem_map.mpr ⟨_, h, rfl⟩
    exact this
  · obtain ⟨z, hz, e⟩ := List.mem_map.mp h
    rw [← e, mkL]; exact hz
theorem mid_loop (l : List Nat) (hl : l.length ≤ 100000) : ∀ (m a : Nat) (op : Int) (x2 x3 : Option T), a + m = l.length →
    ∃ y1 y2 y3, forL (gN 2) b_middle_L1 (rngL a 1 m) [some (false, .str (mk l)), some (false, .int op), x2, x3] =
      (match midP op a (l.drop a) with
        | some k => R.ok (.rt (false, .int k)) [some (false, .str (mk l)), y1, y2, y3]
        | none => R.ok .nx [some (false, .str (mk l)), y1, y2, y3]) := by
  intro m
  induction m with
  | zero =>
    intro a op x2 x3 ha
    refine ⟨some (false, .int op), x2, x3, ?_⟩
    have : l.drop a = [] := List.drop_of_length_le (by omega)
    rw [this]
    rfl
  | succ m ih =>
    intro a op x2 x3 ha
    have hk : a < l.length := by omega
    have ed : l.drop a = l[a] :: l.drop (a + 1) := List.drop_eq_getElem_cons hk
    have h1 := ix_mk (l := l) (by omega) hk
    have h2 : opSl (.str (mk l)) (some (a : Int)) none = some (false, .str (mk (l.drop a))) := by rw [sl_mk (by omega), cut_from]
    have h3 : mfSplit (.str (mk (l.drop a))) [.str " "] = some (true, .lst ((sps 32 (l.drop a)).map fun w => .str (mk w))) := by
      rw [lit_sp]; exact split_mk (by decide) (by rw [List.length_drop]; omega)
    obtain ⟨y1, y2, y3, q⟩ := ih (a + 1) (opn op l[a]) (some (false, .int a)) (some (true, .lst ((sps 32 (l.drop a)).map fun w => .str (mk w)))) (by omega)
    generalize l[a] = c at *
    have b1 : decide (mk [c] = ("(" : Str)) = decide (c = 40) := by rw [lit_op]; exact decide_eq_decide.mpr mk1
    have b2 : decide (mk [c] = (")" : Str)) = decide (c = 41) := by rw [lit_cl]; exact decide_eq_decide.mpr mk1
    have b3 : decide (mk [c] = (" " : Str)) = decide (c = 32) := by rw [lit_sp]; exact decide_eq_decide.mpr mk1
    have eo : op + (if decide (c = 40) = true then 1 else 0) - (if decide (c = 41) = true then 1 else 0) = opn op c := by unfold opn; simp
    rw [rngL_cons, ed]
    rw [Int.natCast_add, Int.natCast_one] at q
    have b1' : mk [c] = ("(" : Str) ↔ c = 40 := by rw [lit_op]; exact mk1
    have b2' : mk [c] = (")" : Str) ↔ c = 41 := by rw [lit_cl]; exact mk1
    have b3' : mk [c] = (" " : Str) ↔ c = 32 := by rw [lit_sp]; exact mk1
    have eo2 : op + (if c = 40 then 1 else 0) - (if c = 41 then 1 else 0) = opn op c := rfl
    -- the test
    by_cases hc1 : opn op c = 1
    · by_cases hc2 : c = 32
      · subst hc2
        obtain ⟨ws, ew⟩ := sps_head (l.drop (a + 1))
        have es : sps 32 (l.drop a) = [] :: ftok (l.drop (a + 1)) :: ws := by rw [ed]; unfold sps; rw [if_pos rfl, ew]
        have hlen := sps_len (l.drop (a + 1))
        rw [ew, List.length_cons] at hlen
        rw [es] at h3 q
        simp only [List.map_cons] at h3 q
        have hd := inD_dblL (w := ftok (l.drop (a + 1)))
        have hop : op = 1 := by unfold opn at hc1; simpa using hc1
        subst hop
        have eo3 : opn 1 32 = 1 := by decide
        rw [eo3] at q eo2 eo
        by_cases hc3 : 32 ∈ l.drop (a + 1)
        · have hw : 1 ≤ ws.length := by have := hlen.mpr hc3; omega
          have w2 : (2 : Int) < (ws.length : Int) + 1 + 1 := by omega
          by_cases hc4 : ftok (l.drop (a + 1)) ∈ dblL
          · have em : midC 1 32 (l.drop (a + 1)) = true := by unfold midC; simp [hc1, hc3, hc4]
            rw [decide_eq_true hc4] at hd
            refine ⟨some (false, .int 1), some (false, .int a), some (true, .lst (.str (mk []) :: .str (mk (ftok (l.drop (a + 1)))) :: ws.map fun w => .str (mk w))), ?_⟩
            rw [midP, em, if_pos rfl]
            simp [b_middle_L1, h1, h2, h3, b1', b2', b3', hd, w2]
          · have em : midC 1 32 (l.drop (a + 1)) = false := by unfold midC; simp [hc4]
            rw [decide_eq_false hc4] at hd
            refine ⟨y1, y2, y3, ?_⟩
            rw [midP, em, if_neg Bool.false_ne_true, eo3, ← q]
            simp [b_middle_L1, h1, h2, h3, b1', b2', b3', hd, w2]
        · have hw : ws = [] := by
            have : ¬ (2 ≤ ws.length + 1) := fun z => hc3 (hlen.mp z)
            exact List.length_eq_zero_iff.mp (by omega)
          subst hw
          have em : midC 1 32 (l.drop (a + 1)) = false := by unfold midC; simp [hc3]
          refine ⟨y1, y2, y3, ?_⟩
          rw [midP, em, if_neg Bool.false_ne_true, eo3, ← q]
          simp [b_middle_L1, h1, h2, h3, b1', b2', b3']
      · have em : midC op c (l.drop (a + 1)) = false := by unfold midC; simp [hc2]
        refine ⟨y1, y2, y3, ?_⟩
        rw [midP, em, if_neg Bool.false_ne_true, ← q]
        simp [b_middle_L1, h1, h2, h3, b1', b2', b3', eo2, hc1, hc2]
    · have em : midC op c (l.drop (a + 1)) = false := by unfold midC; simp [hc1]
      refine ⟨y1, y2, y3, ?_⟩
      rw [midP, em, if_neg Bool.false_ne_true, ← q]
      simp [b_middle_L1, h1, h2, h3, b1', b2', b3', eo2, hc1]
theorem middle_sp (l : List Nat) (hl : l.length ≤ 100000) : F_middle [(false, .str (mk l))] = match midP 0 0 l with
    | some k => .ok (false, .int k) [some (false, .str (mk l))]
    | none => .exc "NoText" := by
  obtain ⟨y1, y2, y3, q⟩ := mid_loop l hl l.length 0 0 none none (by omega)
  rw [List.drop_zero] at q
  have hlen := len_mk (l := l) (by omega)
  have r1 : (l.length : Int) ≤ 16777216 := by omega
  have z0 : ((0 : Nat) : Int) = 0 := rfl
  rw [z0] at q
  cases e : midP 0 0 l with
  | none =>
    rw [e] at q
    simp [F_middle, b_middle, hlen, r1, q]
  | some k =>
    rw [e] at q
    simp [F_middle, b_middle, hlen, r1, q]
theorem cut_take1 {l : List Nat} : cut l none (some 1) = l.take 1 := cut_to (j := 1)
theorem cut_last {l : List Nat} : cut l (some (-1)) none = l.drop (l.length - 1) := by
  unfold cut
  have e : HT.sIx l.length 0 (some (-1)) = l.length - 1 := by
    show (if (-1 : Int) < 0 then ((-1 : Int) + (l.length : Int)).toNat else min (-1 : Int).toNat l.length) = _
    rw [if_pos (by decide)]; omega
  rw [e]
  show (l.drop (l.length - 1)).take (l.length - (l.length - 1)) = _
  exact List.take_of_length_le (by rw [List.length_drop]; omega)
theorem cut_1k {l : List Nat} {k : Nat} : cut l (some 1) (some (k : Int)) = (l.drop 1).take (k - 1) := cut_mid (i := 1)
theorem cut_neg {l : List Nat} {i : Nat} : cut l (some (i : Int)) (some (-1)) = (l.drop i).take (l.length - 1 - i) := by
  unfold cut
  have e : HT.sIx l.length l.length (some (-1)) = l.length - 1 := by
    show (if (-1 : Int) < 0 then ((-1 : Int) + (l.length : Int)).toNat else min (-1 : Int).toNat l.length) = _
    rw [if_pos (by decide)]; omega
  rw [e, HT.sIx_nat]
  by_cases h : i ≤ l.length
  · rw [Nat.min_eq_left h]
  · rw [Nat.min_eq_right (by omega), List.drop_of_length_le (Nat.le_refl _), List.drop_of_length_le (by omega), List.take_nil, List.take_nil]
theorem ftok_len (l : List Nat) : (ftok l).length ≤ l.length := by unfold ftok; exact (List.takeWhile_prefix _).length_le
theorem split_at0 {l : List Nat} (hl : l.length ≤ 100000) : ∃ ws : List D, mfSplit (.str (mk l)) [.str " "] = some (true, .lst (.str (mk (ftok l)) :: ws)) := by
  obtain ⟨ws, e⟩ := sps_head l
  refine ⟨ws.map fun w => .str (mk w), ?_⟩
  rw [lit_sp, split_mk (by decide) (by omega), e]
  rfl
theorem mid_lt : ∀ (l : List Nat) (o : Int) (k j : Nat), midP o k l = some j → k ≤ j ∧ j < k + l.length
  | [], _, _, _, h => by cases h
  | c :: r, o, k, j, h => by
    rw [midP] at h
    split at h
    · cases h; simp
    · have := mid_lt r _ _ _ h
      simp only [List.length_cons]
      omega
theorem mid_tok : ∀ (l : List Nat) (o : Int) (k j : Nat), midP o k l = some j → ∃ i, j = k + i ∧ ftok (l.drop (i + 1)) ∈ dblL
  | [], _, _, _, h => by cases h
  | c :: r, o, k, j, h => by
    rw [midP] at h
    split at h
    · rename_i hc
      cases h
      unfold midC at hc
      simp at hc
      exact ⟨0, rfl, by simpa using hc.2.2.2⟩
    · obtain ⟨i, h1, h2⟩ := mid_tok r _ _ _ h
      exact ⟨i + 1, by omega, by simpa using h2⟩
theorem parsed_sp : ∀ (most fuel : Nat) (l : List Nat), most < fuel → l.length ≤ 100000 → R_parsed fuel [(false, .str (mk l)), (false, .int most)] = match parseP most l with
    | some s => .ok (false, s.toD) [some (false, .str (mk l)), some (false, .int most)]
    | none => .exc "NoText" := by
  intro most
  induction most with
  | zero =>
    intro fuel l hf hl
    obtain ⟨fuel, rfl⟩ : ∃ k, fuel = k + 1 := ⟨fuel - 1, by omega⟩
    simp [R_parsed, b_parsed, parseP]
  | succ m ih =>
    intro fuel l hf hl
    obtain ⟨fuel, rfl⟩ : ∃ k, fuel = k + 1 := ⟨fuel - 1, by omega⟩
    have m1 : ¬ ((m : Int) + 1 = 0) := by omega
    have m2 : (m : Int) + 1 - 1 = m := by omega
    have by1 : mk l = ("yes" : Str) ↔ l = yesL := by rw [lit_yes]; exact mk_eq
    have bn1 : mk l = ("no" : Str) ↔ l = noL := by rw [lit_no]; exact mk_eq
    rw [parseP]
    by_cases hy : l = yesL
    · rw [if_pos hy]
      have hy' := by1.mpr hy
      rw [hy']
      simp [R_parsed, b_parsed, m1, Say.toD]
    rw [if_neg hy]
    by_cases hn : l = noL
    · rw [if_pos hn]
      have hn' := bn1.mpr hn
      rw [hn']
      have n3 : ¬ ("no" : Str) = "yes" := by decide
      simp [R_parsed, b_parsed, m1, Say.toD, n3]
    rw [if_neg hn]
    have hy' : ¬ mk l = ("yes" : Str) := fun q => hy (by1.mp q)
    have hn' : ¬ mk l = ("no" : Str) := fun q => hn (bn1.mp q)
    have s1 : opSl (.str (mk l)) none (some 1) = some (false, .str (mk (l.take 1))) := by rw [sl_mk (by omega), cut_take1]
    have s2 : opSl (.str (mk l)) (some (-1)) none = some (false, .str (mk (l.drop (l.length - 1)))) := by rw [sl_mk (by omega), cut_last]
    have b1 : mk (l.take 1) = ("(" : Str) ↔ l.take 1 = [40] := by rw [lit_op]; exact mk_eq
    have b2 : mk (l.drop (l.length - 1)) = (")" : Str) ↔ l.drop (l.length - 1) = [41] := by rw [lit_cl]; exact mk_eq
    have c1 : mk [40] = ("(" : Str) := lit_op.symm
    have c2 : mk [41] = (")" : Str) := lit_cl.symm
    by_cases hb : l.take 1 = [40] ∧ l.drop (l.length - 1) = [41]
    · rw [if_pos hb]
      have h3 := middle_sp l hl
      cases e : midP 0 0 l with
      | none =>
        rw [e] at h3
        simp [R_parsed, b_parsed, m1, hy', hn', s1, s2, b1, b2, hb, c1, c2, h3]
      | some k =>
        rw [e] at h3
        simp only [Option.bind_some]
        have hk := mid_lt _ _ _ _ e
        have s3 : opSl (.str (mk l)) (some ((k : Int) + 1)) none = some (false, .str (mk (l.drop (k + 1)))) := by
          rw [sl_mk (by omega), show (k : Int) + 1 = ((k + 1 : Nat) : Int) by omega, cut_from]
        obtain ⟨ws, h4⟩ := split_at0 (l := l.drop (k + 1)) (by rw [List.length_drop]; omega)
        have hfl := ftok_len (l.drop (k + 1))
        rw [List.length_drop] at hfl
        have h5 := len_mk (l := ftok (l.drop (k + 1))) (by omega)
        have s4 : opSl (.str (mk l)) (some 1) (some (k : Int)) = some (false, .str (mk ((l.drop 1).take (k - 1)))) := by rw [sl_mk (by omega), cut_1k]
        have s5 : opSl (.str (mk l)) (some ((k : Int) + 2 + ((ftok (l.drop (k + 1))).length : Int))) (some (-1)) = some (false, .str (mk ((l.drop (k + 2 + (ftok (l.drop (k + 1))).length)).take (l.length - 1 - (k + 2 + (ftok (l.drop (k + 1))).length))))) := by
          rw [sl_mk (by omega), show (k : Int) + 2 + ((ftok (l.drop (k + 1))).length : Int) = ((k + 2 + (ftok (l.drop (k + 1))).length : Nat) : Int) by omega, cut_neg]
        have i1 := ih fuel ((l.drop 1).take (k - 1)) (by omega) (by rw [List.length_take, List.length_drop]; omega)
        have i2 := ih fuel ((l.drop (k + 2 + (ftok (l.drop (k + 1))).length)).take (l.length - 1 - (k + 2 + (ftok (l.drop (k + 1))).length))) (by omega) (by rw [List.length_take, List.length_drop]; omega)
        have hin : ftok (l.drop (k + 1)) ∈ dblL := by
          obtain ⟨i, h1, h2⟩ := mid_tok _ _ _ _ e
          rw [Nat.zero_add] at h1
          rw [h1]; exact h2
        have hw : mk (ftok (l.drop (k + 1))) = (u2 (ftok (l.drop (k + 1)))).str := by
          conv => lhs; rw [← L_u2 _ hin]
          exact mkL _
        rw [hw] at h4
        rw [hw] at h5
        generalize (l.drop (k + 2 + (ftok (l.drop (k + 1))).length)).take (l.length - 1 - (k + 2 + (ftok (l.drop (k + 1))).length)) = B at *
        generalize (l.drop 1).take (k - 1) = A at *
        generalize ftok (l.drop (k + 1)) = FT at *
        cases p1 : parseP m A with
        | none =>
          rw [p1] at i1
          simp [R_parsed, b_parsed, m1, m2, hy', hn', s1, s2, b1, b2, hb, c1, c2, h3, s3, h4, h5, s4, i1]
        | some sa =>
          rw [p1] at i1
          cases p2 : parseP m B with
          | none =>
            rw [p2] at i2
            simp [R_parsed, b_parsed, m1, m2, hy', hn', s1, s2, b1, b2, hb, c1, c2, h3, s3, h4, h5, s4, i1, s5, i2]
          | some sb =>
            rw [p2] at i2
            simp [R_parsed, b_parsed, m1, m2, hy', hn', s1, s2, b1, b2, hb, c1, c2, h3, s3, h4, h5, s4, i1, s5, i2, Say.toD]
    · rw [if_neg hb]
      have hfl := ftok_len l
      obtain ⟨ws, h4⟩ := split_at0 (l := l) hl
      have h5 := len_mk (l := ftok l) (by omega)
      have h6 := len_mk (l := l) (by omega)
      have h7 := inD_sglL (w := ftok l)
      have hb1 : l.take 1 = [40] → ¬ l.drop (l.length - 1) = [41] := fun q z => hb ⟨q, z⟩
      by_cases hs : ftok l ∈ sglL
      · rw [decide_eq_true hs] at h7
        by_cases hlt : (ftok l).length < l.length
        · rw [if_pos ⟨hs, hlt⟩]
          have i1 := ih fuel (l.drop ((ftok l).length + 1)) (by omega) (by rw [List.length_drop]; omega)
          have s3 : opSl (.str (mk l)) (some (((ftok l).length : Int) + 1)) none = some (false, .str (mk (l.drop ((ftok l).length + 1)))) := by
            rw [sl_mk (by omega), show ((ftok l).length : Int) + 1 = (((ftok l).length + 1 : Nat) : Int) by omega, cut_from]
          have hw : mk (ftok l) = (u1 (ftok l)).str := by
            conv => lhs; rw [← L_u1 _ hs]
            exact mkL _
          rw [hw] at h4 h5 h7
          have hlt' : ((ftok l).length : Int) < l.length := by omega
          generalize l.drop ((ftok l).length + 1) = A at *
          generalize ftok l = FT at *
          by_cases q1 : l.take 1 = [40]
          · have q2 := hb1 q1
            cases p1 : parseP m A with
            | none => rw [p1] at i1; simp [R_parsed, b_parsed, m1, m2, hy', hn', s1, s2, b1, b2, q1, q2, c1, c2, h4, h5, h6, h7, hlt', s3, i1]
            | some sa => rw [p1] at i1; simp [R_parsed, b_parsed, m1, m2, hy', hn', s1, s2, b1, b2, q1, q2, c1, c2, h4, h5, h6, h7, hlt', s3, i1, Say.toD]
          · cases p1 : parseP m A with
            | none => rw [p1] at i1; simp [R_parsed, b_parsed, m1, m2, hy', hn', s1, s2, b1, b2, q1, c1, c2, h4, h5, h6, h7, hlt', s3, i1]
            | some sa => rw [p1] at i1; simp [R_parsed, b_parsed, m1, m2, hy', hn', s1, s2, b1, b2, q1, c1, c2, h4, h5, h6, h7, hlt', s3, i1, Say.toD]
        · rw [if_neg (fun q => hlt q.2)]
          have hlt' : ¬ ((ftok l).length : Int) < l.length := by omega
          generalize mk (ftok l) = FT at *
          generalize (ftok l).length = FL at *
          by_cases q1 : l.take 1 = [40]
          · have q2 := hb1 q1
            simp [R_parsed, b_parsed, m1, m2, hy', hn', s1, s2, b1, b2, q1, q2, c1, c2, h4, h5, h6, h7, hlt', Say.toD]
          · simp [R_parsed, b_parsed, m1, m2, hy', hn', s1, s2, b1, b2, q1, c1, c2, h4, h5, h6, h7, hlt', Say.toD]
      · rw [decide_eq_false hs] at h7
        rw [if_neg (fun q => hs q.1)]
        generalize mk (ftok l) = FT at *
        by_cases q1 : l.take 1 = [40]
        · have q2 := hb1 q1
          simp [R_parsed, b_parsed, m1, m2, hy', hn', s1, s2, b1, b2, q1, q2, c1, c2, h4, h5, h6, h7, Say.toD]
        · simp [R_parsed, b_parsed, m1, m2, hy', hn', s1, s2, b1, b2, q1, c1, c2, h4, h5, h6, h7, Say.toD]
end Lz
namespace Lz
open PySem PySem.Spec PyProof.Rows L2
section
variable {nm : List Str}
theorem saying_of_sp (hn : oknS nm) (hs : shS nm) (hl : nm.length ≤ 1000) {l : List Nat} (h : l.length ≤ 100000) : F_saying_of [(false, nmD nm), (false, .str (mk l))] = match rdP nm l with
    | some s => .ok (false, s.toD) [some (false, nmD nm), some (false, .str (mk l))]
    | none => .exc "NoText" := by
  have h1 := parsed_sp 8 24 l (by decide) h
  have h1' : F_parsed [(false, .str (mk l)), (false, .int 8)] = _ := h1
  unfold rdP
  cases e : parseP 8 l with
  | none =>
    rw [e] at h1'
    simp [F_saying_of, b_saying_of, h1']
  | some s =>
    rw [e] at h1'
    dsimp only at h1'
    have h2 : F_is_saying [(false, nmD nm), (false, s.toD), (false, .int 8)] = _ := is_saying_sp nm hl 8 24 s.toD (by decide) s.plD
    simp only [Option.bind_some]
    cases q : isSay nm 8 s.toD with
    | false =>
      rw [q] at h2
      rw [if_neg (by simp)]
      simp [F_saying_of, b_saying_of, h1', h2]
    | true =>
      rw [q] at h2
      obtain ⟨o1, o2⟩ := isSay_iff.mp q
      have h3 : F_saying_text [(false, s.toD)] = _ := saying_text_sp hs s 24 o1 o2 (by omega)
      have h4 := mk_eqD s.txt l
      by_cases z : s.txt = l
      · rw [decide_eq_true z] at h4
        rw [if_pos ⟨rfl, z⟩]
        show F_saying_of [(false, nmD nm), (false, .str (mk l))] = FR.ok (false, s.toD) [some (false, nmD nm), some (false, .str (mk l))]
        generalize s.toD = SD at *
        simp [F_saying_of, b_saying_of, h1', h2, h3, h4, -eqD_str]
      · rw [decide_eq_false z] at h4
        rw [if_neg (fun q => z q.2)]
        show F_saying_of [(false, nmD nm), (false, .str (mk l))] = FR.exc "NoText"
        generalize s.toD = SD at *
        simp [F_saying_of, b_saying_of, h1', h2, h3, h4, -eqD_str]
theorem read_saying_sp (hn : oknS nm) (hs : shS nm) (hl : nm.length ≤ 1000) {l : List Nat} (h : l.length ≤ 100000) : F_read_saying [(false, nmD nm), (false, .str (mk l))] = match rdP nm l with
    | some s => .ok (false, s.toD) [some (false, nmD nm), some (false, .str (mk l))]
    | none => .exc "NoText" := by
  have h1 := saying_of_sp hn hs hl h
  have t1 : isiD "str" (.str (mk l)) = some (false, .bl true) := rfl
  cases e : rdP nm l with
  | none => rw [e] at h1; simp [F_read_saying, b_read_saying, t1, h1]
  | some s => rw [e] at h1; generalize s.toD = SD at *; simp [F_read_saying, b_read_saying, t1, h1]
theorem read_saying_no {d : D} (hd : isiD "str" d = some (false, .bl false)) : F_read_saying [(false, nmD nm), (false, d)] = .exc "NoText" := by
  simp [F_read_saying, b_read_saying, hd]
end
theorem letters_eq : letters.L = (List.range 26).map (97 + ·) := by decide +kernel
theorem let_in (c : Nat) : decide (c ∈ letters.cps.toList) = let? c := by
  have e : letters.cps.toList = (List.range 26).map (97 + ·) := letters_eq
  rw [e]
  unfold let?
  rw [← Bool.decide_and]
  refine decide_eq_decide.mpr ?_
  rw [List.mem_map]
  constructor
  · rintro ⟨k, hk, rfl⟩
    have := List.mem_range.mp hk
    omega
  · intro h
    exact ⟨c - 97, List.mem_range.mpr (by omega), by omega⟩
theorem inD_let (c : Nat) : inD (.str (mk [c])) (.str "abcdefghijklmnopqrstuvwxyz") = some (let? c) := by
  rw [← let_in c]
  show (if (mk [c]).length = 1 then some (decide ((mk [c]).cps.getD 0 0 ∈ letters.cps.toList)) else none) = _
  rw [mk_len, if_pos (by simp)]
  rfl
theorem lw_cons {c : Nat} {r : List Nat} : lw (c :: r) = if let? c = true then c :: lw r else [] := by unfold lw; rw [List.takeWhile_cons]
theorem lw_len (l : List Nat) : (lw l).length ≤ l.length := by unfold lw; exact (List.takeWhile_prefix _).length_le
theorem word_loop {l : List Nat} (hl : l.length ≤ 100000) {at_ : D} : ∀ (m e : Nat), e + m = l.length →
    xWU (bAnd (sB (sBin opLt (sVar 2) (sCl cfLen (sCons (sVar 0) sNil)))) (sB (sBin opIn (sBin opIx (sVar 0) (sVar 2)) (sC (.str "abcdefghijklmnopqrstuvwxyz"))))) (xSeq (xSt 2 (sBin opAdd (sVar 2) (sC (.int 1)))) xNx)
      [some (false, .str (mk l)), some (false, at_), some (false, .int e)] = .ok .nx [some (false, .str (mk l)), some (false, at_), some (false, .int ((e + (lw (l.drop e)).length : Nat) : Int))] := by
  intro m
  have hlen := len_mk (l := l) (by omega)
  induction m with
  | zero =>
    intro e he
    have : l.drop e = [] := List.drop_of_length_le (by omega)
    rw [this]
    have z : ¬ ((e : Int) < l.length) := by omega
    exact xWU_stop (by simp [hlen, z, lw])
  | succ m ih =>
    intro e he
    have hk : e < l.length := by omega
    have ed : l.drop e = l[e] :: l.drop (e + 1) := List.drop_eq_getElem_cons hk
    have h1 := ix_mk (l := l) (by omega) hk
    have h2 := inD_let l[e]
    have z : (e : Int) < l.length := by omega
    rw [ed, lw_cons]
    generalize l[e] = c at *
    by_cases hc : let? c = true
    · rw [if_pos hc]
      rw [hc] at h2
      have q := ih (e + 1) (by omega)
      rw [xWU_nx (ρ1 := [some (false, .str (mk l)), some (false, at_), some (false, .int e)]) (ρ2 := [some (false, .str (mk l)), some (false, at_), some (false, .int ((e + 1 : Nat) : Int))]) (by simp [hlen, z, h1, h2]) (by simp), q]
      congr 5
      rw [List.length_cons]
      congr 3
      omega
    · rw [if_neg hc]
      have hc' : let? c = false := by simpa using hc
      rw [hc'] at h2
      exact xWU_stop (by simp [hlen, z, h1, h2])
theorem l_word_sp {l : List Nat} (hl : l.length ≤ 100000) {e : Nat} (he : e ≤ l.length) : F_l_word [(false, .str (mk l)), (false, .int e)] = .ok (false, .str (mk (lw (l.drop e)))) [some (false, .str (mk l)), some (false, .int e)] := by
  have h1 := word_loop (at_ := .int e) hl (l.length - e) e (by omega)
  have hw := lw_len (l.drop e)
  rw [List.length_drop] at hw
  have h2 : opSl (.str (mk l)) (some (e : Int)) (some ((e + (lw (l.drop e)).length : Nat) : Int)) = some (false, .str (mk (lw (l.drop e)))) := by
    rw [sl_mk (by omega), cut_mid]
    have : (l.drop e).take (e + (lw (l.drop e)).length - e) = lw (l.drop e) := by
      rw [Nat.add_sub_cancel_left]
      generalize l.drop e = x
      have := congrArg (List.take (lw x).length) (lw_drop x)
      rw [this, List.take_left]
    rw [this]
  generalize ((e + (lw (l.drop e)).length : Nat) : Int) = E at *
  simp [F_l_word, b_l_word, h1, h2]
def encL (n : Nat) : Option (Say × List Nat) → T
  | none => (false, .non)
  | some p => (false, .tup [p.1.toD, .int ((n - p.2.length : Nat) : Int)])
theorem cnt_drop {l : List Nat} {i j : Nat} (h : i ≤ j) : cntP (l.drop j) ≤ cntP (l.drop i) := by
  unfold cntP
  have e : l.drop j = (l.drop i).drop (j - i) := by rw [List.drop_drop]; congr 1; omega
  rw [e]
  exact (List.drop_sublist _ _).countP_le
theorem suf_at {l w r : List Nat} {i : Nat} (h : l.drop i = w ++ r) (hi : i ≤ l.length) : r = l.drop (l.length - r.length) ∧ i + w.length = l.length - r.length := by
  have e : l.length - i = w.length + r.length := by rw [← List.length_drop, h, List.length_append]
  have e2 : l.length - r.length = i + w.length := by omega
  refine ⟨?_, e2.symm⟩
  rw [e2, ← List.drop_drop, h, List.drop_left]
theorem inD_lit {ws : List Str} {w : List Nat} {z : List (List Nat)} (hz : z = ws.map PySem.Str.L) : inD (.str (mk w)) (.tup (ws.map .str)) = some (decide (w ∈ z)) := by
  rw [inD_strs]
  congr 1
  subst hz
  refine decide_eq_decide.mpr ⟨fun h => ?_, fun h => ?_⟩
  · have : (mk w).L ∈ ws.map PySem.Str.L := List.mem_map.mpr ⟨_, h, rfl⟩
    exact this
  · obtain ⟨z, hz, e⟩ := List.mem_map.mp h
    rw [← e, mkL]; exact hz
theorem parseL_suf {nm : List Str} {n : Nat} {l r : List Nat} {s : Say} {i : Nat} (h : parseL nm n (l.drop i) = some (s, r)) (hi : i ≤ l.length) : r = l.drop (l.length - r.length) ∧ i ≤ l.length - r.length ∧ r.length ≤ l.length := by
  obtain ⟨_, h2, _⟩ := parseL_sound _ _ _ _ h
  obtain ⟨a, b⟩ := suf_at h2 hi
  have := congrArg List.length h2
  rw [List.length_drop, List.length_append] at this
  exact ⟨a, by omega, by omega⟩
theorem cut_one {l : List Nat} {i : Nat} : cut l (some (i : Int)) (some ((i : Int) + 1)) = (l.drop i).take 1 := by
  have := cut_mid (xs := l) (i := i) (j := i + 1)
  rw [Nat.add_sub_cancel_left] at this
  exact_mod_cast this
theorem sgl_lit : sglL = ([("not" : Str), "before", "once", "sofar"] : List Str).map PySem.Str.L := rfl
theorem dbl_lit : dblL = ([("and" : Str), "or", "then", "same", "since"] : List Str).map PySem.Str.L := rfl
section
variable {nm : List Str}
theorem inD_nmD {w : List Nat} : inD (.str (mk w)) (nmD nm) = some (decide (mk w ∈ nm)) := inD_strs (zs := nm)
theorem l_parsed_sp {l : List Nat} (hl : l.length ≤ 100000) : ∀ (n i : Nat), i ≤ l.length → cntP (l.drop i) < n →
    R_l_parsed n [(false, .str (mk l)), (false, .int i), (false, nmD nm)] = .ok (encL l.length (parseL nm n (l.drop i))) [some (false, .str (mk l)), some (false, .int i), some (false, nmD nm)] := by
  intro n
  induction n with
  | zero => intro i _ h; omega
  | succ n ih =>
    intro i hi hc
    have s1 : opSl (.str (mk l)) (some (i : Int)) (some ((i : Int) + 1)) = some (false, .str (mk ((l.drop i).take 1))) := by rw [sl_mk (by omega), cut_one]
    have b1 : mk ((l.drop i).take 1) = ("(" : Str) ↔ (l.drop i).take 1 = [40] := by rw [lit_op]; exact mk_eq
    have c1 : mk [40] = ("(" : Str) := lit_op.symm
    have c2 : mk [41] = (")" : Str) := lit_cl.symm
    have c3 : mk [32] = (" " : Str) := lit_sp.symm
    rw [parseL]
    by_cases h40 : (l.drop i).take 1 = [40]
    · rw [if_pos h40]
      have ei := take1 h40
      have hi1 : i + 1 ≤ l.length := by
        have := congrArg List.length h40
        rw [List.length_take, List.length_drop] at this
        simp at this
        omega
      have e1 : (l.drop i).drop 1 = l.drop (i + 1) := by rw [List.drop_drop]
      have hc1 : cntP (l.drop (i + 1)) < n := by
        rw [ei, cnt_cons40, e1] at hc
        omega
      have i1 := ih (i + 1) hi1 hc1
      rw [e1]
      rw [Int.natCast_add, Int.natCast_one] at i1
      cases p1 : parseL nm n (l.drop (i + 1)) with
      | none =>
        rw [p1] at i1
        have w : encL l.length none = (false, .non) := rfl
        rw [w] at i1
        have w2 : isNon D.non = true := rfl
        simp [R_l_parsed, b_l_parsed, s1, b1, h40, c1, i1, w2, encL]
      | some q =>
        obtain ⟨sa, r1⟩ := q
        rw [p1] at i1
        obtain ⟨f1, f2, f3⟩ := parseL_suf p1 hi1
        simp only [Option.bind_some]
        have w : encL l.length (some (sa, r1)) = (false, .tup [sa.toD, .int ((l.length - r1.length : Nat) : Int)]) := rfl
        rw [w] at i1
        obtain ⟨j, hj⟩ : ∃ j, l.length - r1.length = j := ⟨_, rfl⟩
        rw [hj] at f1 f2 i1
        have w2 : isNon (.tup [sa.toD, .int (j : Int)]) = false := rfl
        have w3 : opIx (.tup [sa.toD, .int (j : Int)]) (.int 0) = some (false, sa.toD) := by simp
        have w4 : opIx (.tup [sa.toD, .int (j : Int)]) (.int 1) = some (false, .int j) := by simp
        have s2 : opSl (.str (mk l)) (some (j : Int)) (some ((j : Int) + 1)) = some (false, .str (mk (r1.take 1))) := by rw [sl_mk (by omega), cut_one, f1]
        have b2 : mk (r1.take 1) = (" " : Str) ↔ r1.take 1 = [32] := by rw [lit_sp]; exact mk_eq
        by_cases h32 : r1.take 1 = [32]
        · rw [if_neg (by simpa using h32)]
          have hj1 : j + 1 ≤ l.length := by
            have := congrArg List.length h32
            rw [List.length_take] at this
            simp at this
            omega
          have e2 : r1.drop 1 = l.drop (j + 1) := by rw [f1, List.drop_drop]
          have h5 := l_word_sp hl hj1
          rw [Int.natCast_add, Int.natCast_one] at h5
          rw [e2]
          have hlw := lw_len (l.drop (j + 1))
          rw [List.length_drop] at hlw
          have h6 := len_mk (l := lw (l.drop (j + 1))) (by omega)
          have h7 := inD_lit (w := lw (l.drop (j + 1))) dbl_lit
          simp only [List.map_cons, List.map_nil] at h7
          obtain ⟨k, hk⟩ : ∃ k, j + 1 + (lw (l.drop (j + 1))).length = k := ⟨_, rfl⟩
          have e3 : (l.drop (j + 1)).drop (lw (l.drop (j + 1))).length = l.drop k := by rw [List.drop_drop, hk]
          have s3 : opSl (.str (mk l)) (some (k : Int)) (some ((k : Int) + 1)) = some (false, .str (mk ((l.drop k).take 1))) := by rw [sl_mk (by omega), cut_one]
          have b3 : mk ((l.drop k).take 1) = (" " : Str) ↔ (l.drop k).take 1 = [32] := by rw [lit_sp]; exact mk_eq
          have k0 : (j : Int) + 1 + ((lw (l.drop (j + 1))).length : Int) = k := by omega
          rw [e3]
          by_cases hd : lw (l.drop (j + 1)) ∈ dblL
          · rw [decide_eq_true hd] at h7
            have hw : mk (lw (l.drop (j + 1))) = (u2 (lw (l.drop (j + 1)))).str := by
              conv => lhs; rw [← L_u2 _ hd]
              exact mkL _
            by_cases h33 : (l.drop k).take 1 = [32]
            · rw [if_neg (by simp [hd, h33])]
              have hk1 : k + 1 ≤ l.length := by
                have := congrArg List.length h33
                rw [List.length_take, List.length_drop] at this
                simp at this
                omega
              have e4 : (l.drop k).drop 1 = l.drop (k + 1) := by rw [List.drop_drop]
              have hc2 : cntP (l.drop (k + 1)) < n := Nat.lt_of_le_of_lt (cnt_drop (by omega)) hc1
              have i2 := ih (k + 1) hk1 hc2
              rw [Int.natCast_add, Int.natCast_one] at i2
              rw [e4]
              rw [hw] at h5 h6 h7
              cases p2 : parseL nm n (l.drop (k + 1)) with
              | none =>
                rw [p2] at i2
                have w' : encL l.length none = (false, .non) := rfl
                rw [w'] at i2
                have w2' : isNon D.non = true := rfl
                simp only [Option.bind_none]
                rw [w']
                generalize (D.tup [sa.toD, .int (j : Int)]) = P1 at *
                generalize lw (l.drop (j + 1)) = LW at *
                simp [R_l_parsed, b_l_parsed, s1, b1, h40, c1, i1, w2, w4, s2, b2, h32, c3, h5, h6, h7, k0, s3, b3, h33, i2, w2']
              | some q =>
                obtain ⟨sb, r3⟩ := q
                rw [p2] at i2
                obtain ⟨g1, g2, g3⟩ := parseL_suf p2 hk1
                simp only [Option.bind_some]
                have w' : encL l.length (some (sb, r3)) = (false, .tup [sb.toD, .int ((l.length - r3.length : Nat) : Int)]) := rfl
                rw [w'] at i2
                obtain ⟨t, ht⟩ : ∃ t, l.length - r3.length = t := ⟨_, rfl⟩
                rw [ht] at g1 g2 i2
                have v2 : isNon (.tup [sb.toD, .int (t : Int)]) = false := rfl
                have v3 : opIx (.tup [sb.toD, .int (t : Int)]) (.int 0) = some (false, sb.toD) := by simp
                have v4 : opIx (.tup [sb.toD, .int (t : Int)]) (.int 1) = some (false, .int t) := by simp
                have s4 : opSl (.str (mk l)) (some (t : Int)) (some ((t : Int) + 1)) = some (false, .str (mk (r3.take 1))) := by rw [sl_mk (by omega), cut_one, g1]
                have b4 : mk (r3.take 1) = (")" : Str) ↔ r3.take 1 = [41] := by rw [lit_cl]; exact mk_eq
                by_cases h41 : r3.take 1 = [41]
                · rw [if_neg (by simpa using h41)]
                  have ht1 : t + 1 ≤ l.length := by
                    have := congrArg List.length h41
                    rw [List.length_take] at this
                    simp at this
                    omega
                  have w5 : encL l.length (some (Say.bin (u2 (lw (l.drop (j + 1)))) sa sb, r3.drop 1)) = (false, .tup [.tup [.str (u2 (lw (l.drop (j + 1)))).str, sa.toD, sb.toD], .int ((t : Int) + 1)]) := by
                    have : l.length - (r3.drop 1).length = t + 1 := by
                      have := congrArg List.length h41
                      rw [List.length_take] at this
                      simp at this
                      rw [List.length_drop]; omega
                    unfold encL
                    dsimp only
                    rw [this]
                    rfl
                  rw [w5]
                  generalize (D.tup [sa.toD, .int (j : Int)]) = P1 at *
                  generalize (D.tup [sb.toD, .int (t : Int)]) = P2 at *
                  generalize lw (l.drop (j + 1)) = LW at *
                  simp [R_l_parsed, b_l_parsed, s1, b1, h40, c1, i1, w2, w3, w4, s2, b2, h32, c3, h5, h6, h7, k0, s3, b3, h33, i2, v2, v3, v4, s4, b4, h41, c2]
                · rw [if_pos (by simpa using h41)]
                  have w5 : encL l.length none = (false, .non) := rfl
                  rw [w5]
                  generalize (D.tup [sa.toD, .int (j : Int)]) = P1 at *
                  generalize (D.tup [sb.toD, .int (t : Int)]) = P2 at *
                  generalize lw (l.drop (j + 1)) = LW at *
                  simp [R_l_parsed, b_l_parsed, s1, b1, h40, c1, i1, w2, w3, w4, s2, b2, h32, c3, h5, h6, h7, k0, s3, b3, h33, i2, v2, v3, v4, s4, b4, h41, c2]
            · rw [if_pos (.inr h33)]
              have w5 : encL l.length none = (false, .non) := rfl
              rw [w5]
              generalize (D.tup [sa.toD, .int (j : Int)]) = P1 at *
              generalize mk (lw (l.drop (j + 1))) = LW at *
              generalize ((lw (l.drop (j + 1))).length : Int) = LL at *
              simp [R_l_parsed, b_l_parsed, s1, b1, h40, c1, i1, w2, w4, s2, b2, h32, c3, h5, h6, h7, k0, s3, b3, h33]
          · rw [decide_eq_false hd] at h7
            rw [if_pos (.inl hd)]
            have w5 : encL l.length none = (false, .non) := rfl
            rw [w5]
            generalize (D.tup [sa.toD, .int (j : Int)]) = P1 at *
            generalize mk (lw (l.drop (j + 1))) = LW at *
            generalize ((lw (l.drop (j + 1))).length : Int) = LL at *
            simp [R_l_parsed, b_l_parsed, s1, b1, h40, c1, i1, w2, w4, s2, b2, h32, c3, h5, h6, h7, k0]
        · rw [if_pos (by simpa using h32)]
          have w5 : encL l.length none = (false, .non) := rfl
          rw [w5]
          generalize (D.tup [sa.toD, .int (j : Int)]) = P1 at *
          simp [R_l_parsed, b_l_parsed, s1, b1, h40, c1, i1, w2, w4, s2, b2, h32, c3]
    · rw [if_neg h40]
      have h5 := l_word_sp hl hi
      have hlw := lw_len (l.drop i)
      rw [List.length_drop] at hlw
      have h6 := len_mk (l := lw (l.drop i)) (by omega)
      have h7 := inD_lit (w := lw (l.drop i)) sgl_lit
      simp only [List.map_cons, List.map_nil] at h7
      obtain ⟨k, hk⟩ : ∃ k, i + (lw (l.drop i)).length = k := ⟨_, rfl⟩
      have e3 : (l.drop i).drop (lw (l.drop i)).length = l.drop k := by rw [List.drop_drop, hk]
      have s3 : opSl (.str (mk l)) (some (k : Int)) (some ((k : Int) + 1)) = some (false, .str (mk ((l.drop k).take 1))) := by rw [sl_mk (by omega), cut_one]
      have b3 : mk ((l.drop k).take 1) = (" " : Str) ↔ (l.drop k).take 1 = [32] := by rw [lit_sp]; exact mk_eq
      have k0 : (i : Int) + ((lw (l.drop i)).length : Int) = k := by omega
      have by1 : mk (lw (l.drop i)) = ("yes" : Str) ↔ lw (l.drop i) = yesL := by rw [lit_yes]; exact mk_eq
      have bn1 : mk (lw (l.drop i)) = ("no" : Str) ↔ lw (l.drop i) = noL := by rw [lit_no]; exact mk_eq
      rw [e3]
      have ek : l.length - (l.drop k).length = k := by rw [List.length_drop]; omega
      by_cases hs : lw (l.drop i) ∈ sglL
      · rw [decide_eq_true hs] at h7
        have hw : mk (lw (l.drop i)) = (u1 (lw (l.drop i))).str := by
          conv => lhs; rw [← L_u1 _ hs]
          exact mkL _
        have hny : ¬ lw (l.drop i) = yesL := (sglL_ok _ hs).2.2.1
        have hnn : ¬ lw (l.drop i) = noL := (sglL_ok _ hs).2.2.2.1
        by_cases h33 : (l.drop k).take 1 = [32]
        · rw [if_pos ⟨hs, h33⟩]
          have hk1 : k + 1 ≤ l.length := by
            have := congrArg List.length h33
            rw [List.length_take, List.length_drop] at this
            simp at this
            omega
          have e4 : (l.drop k).drop 1 = l.drop (k + 1) := by rw [List.drop_drop]
          have hc2 : cntP (l.drop (k + 1)) < n := by
            have h1 := cnt_drop (l := l) (i := i) (j := k) (by omega)
            rw [take1 h33, cnt_cons32, e4] at h1
            omega
          have i2 := ih (k + 1) hk1 hc2
          rw [Int.natCast_add, Int.natCast_one] at i2
          rw [e4]
          rw [hw] at h5 h6 h7
          cases p2 : parseL nm n (l.drop (k + 1)) with
          | none =>
            rw [p2] at i2
            have w' : encL l.length none = (false, .non) := rfl
            rw [w'] at i2
            have w2' : isNon D.non = true := rfl
            simp only [Option.map_none]
            rw [w']
            generalize lw (l.drop i) = LW at *
            simp [R_l_parsed, b_l_parsed, s1, b1, h40, h5, h6, h7, k0, s3, b3, h33, c3, i2, w2']
          | some q =>
            obtain ⟨sb, r3⟩ := q
            rw [p2] at i2
            simp only [Option.map_some]
            have w' : encL l.length (some (sb, r3)) = (false, .tup [sb.toD, .int ((l.length - r3.length : Nat) : Int)]) := rfl
            have w5 : encL l.length (some (Say.un (u1 (lw (l.drop i))) sb, r3)) = (false, .tup [.tup [.str (u1 (lw (l.drop i))).str, sb.toD], .int ((l.length - r3.length : Nat) : Int)]) := rfl
            rw [w'] at i2
            rw [w5]
            generalize ((l.length - r3.length : Nat) : Int) = t at *
            have v2 : isNon (.tup [sb.toD, .int t]) = false := rfl
            have v3 : opIx (.tup [sb.toD, .int t]) (.int 0) = some (false, sb.toD) := by simp
            have v4 : opIx (.tup [sb.toD, .int t]) (.int 1) = some (false, .int t) := by simp
            generalize (D.tup [sb.toD, .int t]) = P2 at *
            generalize lw (l.drop i) = LW at *
            simp [R_l_parsed, b_l_parsed, s1, b1, h40, h5, h6, h7, k0, s3, b3, h33, c3, i2, v2, v3, v4]
        · rw [if_neg (fun q => h33 q.2), if_neg hny, if_neg hnn]
          have hny' : ¬ mk (lw (l.drop i)) = ("yes" : Str) := fun q => hny (by1.mp q)
          have hnn' : ¬ mk (lw (l.drop i)) = ("no" : Str) := fun q => hnn (bn1.mp q)
          have h8 := inD_nmD (nm := nm) (w := lw (l.drop i))
          by_cases hm : mk (lw (l.drop i)) ∈ nm
          · rw [decide_eq_true hm] at h8
            rw [if_neg (fun q => q hm)]
            have w5 : encL l.length (some (Say.lamp (mk (lw (l.drop i))), l.drop k)) = (false, .tup [.tup [.str "lamp", .str (mk (lw (l.drop i)))], .int k]) := by
              unfold encL; dsimp only; rw [ek]; rfl
            rw [w5]
            generalize mk (lw (l.drop i)) = LW at *
            generalize ((lw (l.drop i)).length : Int) = LL at *
            simp [R_l_parsed, b_l_parsed, s1, b1, h40, h5, h6, h7, k0, s3, b3, h33, hny', hnn', h8]
          · rw [decide_eq_false hm] at h8
            rw [if_pos hm]
            have w5 : encL l.length none = (false, .non) := rfl
            rw [w5]
            generalize mk (lw (l.drop i)) = LW at *
            generalize ((lw (l.drop i)).length : Int) = LL at *
            simp [R_l_parsed, b_l_parsed, s1, b1, h40, h5, h6, h7, k0, s3, b3, h33, hny', hnn', h8]
      · rw [decide_eq_false hs] at h7
        rw [if_neg (fun q => hs q.1)]
        by_cases hy : lw (l.drop i) = yesL
        · rw [if_pos hy]
          have hy' := by1.mpr hy
          have w5 : encL l.length (some (Say.cst true, l.drop k)) = (false, .tup [.tup [.str "yes"], .int k]) := by
            unfold encL; dsimp only; rw [ek]; rfl
          rw [w5]
          rw [hy'] at h5 h6 h7
          generalize ((lw (l.drop i)).length : Int) = LL at *
          simp [R_l_parsed, b_l_parsed, s1, b1, h40, h5, h6, h7, k0]
        · rw [if_neg hy]
          have hny' : ¬ mk (lw (l.drop i)) = ("yes" : Str) := fun q => hy (by1.mp q)
          by_cases hn : lw (l.drop i) = noL
          · rw [if_pos hn]
            have hn' := bn1.mpr hn
            have w5 : encL l.length (some (Say.cst false, l.drop k)) = (false, .tup [.tup [.str "no"], .int k]) := by
              unfold encL; dsimp only; rw [ek]; rfl
            rw [w5]
            rw [hn'] at h5 h6 h7
            have n3 : ¬ ("no" : Str) = "yes" := by decide
            generalize ((lw (l.drop i)).length : Int) = LL at *
            simp [R_l_parsed, b_l_parsed, s1, b1, h40, h5, h6, h7, k0, n3]
          · rw [if_neg hn]
            have hnn' : ¬ mk (lw (l.drop i)) = ("no" : Str) := fun q => hn (bn1.mp q)
            have h8 := inD_nmD (nm := nm) (w := lw (l.drop i))
            by_cases hm : mk (lw (l.drop i)) ∈ nm
            · rw [decide_eq_true hm] at h8
              rw [if_neg (fun q => q hm)]
              have w5 : encL l.length (some (Say.lamp (mk (lw (l.drop i))), l.drop k)) = (false, .tup [.tup [.str "lamp", .str (mk (lw (l.drop i)))], .int k]) := by
                unfold encL; dsimp only; rw [ek]; rfl
              rw [w5]
              generalize mk (lw (l.drop i)) = LW at *
              generalize ((lw (l.drop i)).length : Int) = LL at *
              simp [R_l_parsed, b_l_parsed, s1, b1, h40, h5, h6, h7, k0, hny', hnn', h8]
            · rw [decide_eq_false hm] at h8
              rw [if_pos hm]
              have w5 : encL l.length none = (false, .non) := rfl
              rw [w5]
              generalize mk (lw (l.drop i)) = LW at *
              generalize ((lw (l.drop i)).length : Int) = LL at *
              simp [R_l_parsed, b_l_parsed, s1, b1, h40, h5, h6, h7, k0, hny', hnn', h8]
theorem l_deep31_sp : ∀ (s : Say) (fuel : Nat), s.dep ≤ fuel → R_l_deep_k31 fuel [(false, s.toD)] = .ok (false, .int s.dep) [some (false, s.toD)] := by
  have key : ∀ s : Say, Lz.inD (.str s.head) (.tup [.str "lamp", .str "yes", .str "no"]) = some (match s with | .lamp _ => true | .cst _ => true | _ => false) := by
    intro s
    cases s with
    | lamp n => rfl
    | cst b => cases b <;> rfl
    | un o s => cases o <;> rfl
    | bin o s t => cases o <;> rfl
  have hix : ∀ s : Say, opIx s.toD (.int 0) = some (false, .str s.head) := fun s => by rw [Say.toD_eq]; simp
  have hsl : ∀ s : Say, opSl s.toD (some 1) none = some (false, .tup s.tail) := fun s => by rw [Say.toD_eq]; simp
  intro s
  induction s with
  | lamp n =>
    intro fuel hf
    obtain ⟨fuel, rfl⟩ : ∃ f, fuel = f + 1 := ⟨fuel - 1, by simp only [Say.dep] at hf; omega⟩
    simp [R_l_deep_k31, b_l_deep_k31, hix, key, Say.dep]
  | cst n =>
    intro fuel hf
    obtain ⟨fuel, rfl⟩ : ∃ f, fuel = f + 1 := ⟨fuel - 1, by simp only [Say.dep] at hf; omega⟩
    simp [R_l_deep_k31, b_l_deep_k31, hix, key, Say.dep]
  | un o s ih =>
    intro fuel hf
    obtain ⟨fuel, rfl⟩ : ∃ f, fuel = f + 1 := ⟨fuel - 1, by simp only [Say.dep] at hf; omega⟩
    simp only [Say.dep] at hf
    have h1 := ih fuel (by omega)
    have h2 := s.dep_pos
    simp [R_l_deep_k31, b_l_deep_k31, hix, key, hsl, Say.tail, Say.parts, Say.dep, intsD, maxL, h1]
    omega
  | bin o s t ih1 ih2 =>
    intro fuel hf
    obtain ⟨fuel, rfl⟩ : ∃ f, fuel = f + 1 := ⟨fuel - 1, by simp only [Say.dep] at hf; omega⟩
    simp only [Say.dep] at hf
    have h1 := ih1 fuel (by omega)
    have h2 := ih2 fuel (by omega)
    have p1 := s.dep_pos
    simp [R_l_deep_k31, b_l_deep_k31, hix, key, hsl, Say.tail, Say.parts, Say.dep, intsD, maxL, h1, h2]
    omega
def optS : Option Say → D
  | some s => s.toD
  | none => .non
theorem l_saying_of_sp {l : List Nat} (hl : l.length ≤ 100000) (hc : cntP l < 150) : F_l_saying_of [(false, .str (mk l)), (false, nmD nm)] = .ok (false, optS (rdL nm l)) [some (false, .str (mk l)), some (false, nmD nm)] := by
  have h1 := l_parsed_sp (nm := nm) hl 150 0 (by omega) (by rw [List.drop_zero]; exact hc)
  have h1' : F_l_parsed [(false, .str (mk l)), (false, .int ((0 : Nat) : Int)), (false, nmD nm)] = _ := h1
  rw [List.drop_zero, show ((0 : Nat) : Int) = 0 from rfl] at h1'
  have h2 := len_mk (l := l) (by omega)
  unfold rdL
  cases e : parseL nm 150 l with
  | none =>
    rw [e] at h1'
    have w : encL l.length none = (false, .non) := rfl
    rw [w] at h1'
    have w2 : isNon D.non = true := rfl
    simp [F_l_saying_of, b_l_saying_of, h1', w2, optS]
  | some p =>
    obtain ⟨s, r⟩ := p
    rw [e] at h1'
    obtain ⟨a1, a2, a3⟩ := parseL_sound _ _ _ _ e
    have w : encL l.length (some (s, r)) = (false, .tup [s.toD, .int ((l.length - r.length : Nat) : Int)]) := rfl
    rw [w] at h1'
    have hrl : r.length ≤ l.length := by rw [a2]; simp
    have h3 : F_l_deep_k31 [(false, s.toD)] = _ := l_deep31_sp s 150 a3
    have h4 := PT.nat.eqD (by decide) (l.length - r.length) l.length
    simp only [Option.bind_some]
    have hr : r = [] ↔ l.length - r.length = l.length := by
      constructor
      · intro q; rw [q]; rfl
      · intro q
        exact List.length_eq_zero_iff.mp (by omega)
    obtain ⟨t, ht⟩ : ∃ t, l.length - r.length = t := ⟨_, rfl⟩
    rw [ht] at h1' h4 hr
    have v2 : isNon (.tup [s.toD, .int (t : Int)]) = false := rfl
    have v3 : opIx (.tup [s.toD, .int (t : Int)]) (.int 0) = some (false, s.toD) := by simp
    have v4 : opIx (.tup [s.toD, .int (t : Int)]) (.int 1) = some (false, .int t) := by simp
    by_cases q1 : r = []
    · have q2 := hr.mp q1
      rw [q2, decide_eq_true rfl] at h4
      rw [q2] at h1' v2 v3 v4
      by_cases q3 : 8 < s.dep
      · have q4 : (8 : Int) < s.dep := by omega
        rw [if_pos (.inr q3)]
        show F_l_saying_of [(false, .str (mk l)), (false, nmD nm)] = FR.ok (false, .non) _
        generalize (D.tup [s.toD, .int (l.length : Int)]) = P2 at *
        generalize s.toD = SD at *
        simp [F_l_saying_of, b_l_saying_of, h1', v2, v3, v4, h2, h3, q4]
      · have q4 : ¬ (8 : Int) < s.dep := by omega
        rw [if_neg (by simp [q1, q3])]
        show F_l_saying_of [(false, .str (mk l)), (false, nmD nm)] = FR.ok (false, s.toD) _
        generalize (D.tup [s.toD, .int (l.length : Int)]) = P2 at *
        generalize s.toD = SD at *
        simp [F_l_saying_of, b_l_saying_of, h1', v2, v3, v4, h2, h3, q4]
    · have q2 : ¬ t = l.length := fun z => q1 (hr.mpr z)
      have q2' : ¬ (t : Int) = l.length := by omega
      rw [if_pos (.inl q1)]
      show F_l_saying_of [(false, .str (mk l)), (false, nmD nm)] = FR.ok (false, .non) _
      generalize (D.tup [s.toD, .int (t : Int)]) = P2 at *
      generalize s.toD = SD at *
      simp [F_l_saying_of, b_l_saying_of, h1', v2, v3, v4, h2, q2']
end
end Lz
namespace Lz
open PySem PySem.Spec PyProof.Rows L2
/-- what may come of a text -/
inductive SpR (l : List Nat) (mores : List D) : D → Prop
  | txt (x : List Nat) : x.length ≤ 2 * l.length + 2 → cntP x ≤ 2 * cntP l + 1 → SpR l mores (.str (mk x))
  | more (d : D) : d ∈ mores → SpR l mores d
  | non : SpR l mores .non
  | five : SpR l mores (.int 5)
  | lst : SpR l mores (.lst [.str (mk l)])
  | emp : SpR l mores (.str (mk []))
def signL : List Nat := [32, 40, 41, 10, 97, 98, 120, 121, 122, 110, 111, 116, 114, 100, 108, 97, 109, 112, 48, 49, 50, 51, 52, 53, 54, 55, 56, 57, 45, 43, 60, 62, 46, 84, 70]
theorem lit_sign : (" ()\nabxyznotrdlamp0123456789-+<>.TF" : Str) = mk signL := by decide +kernel
theorem cnt_one (c : Nat) : cntP [c] ≤ 1 := by unfold cntP; exact List.countP_le_length
theorem cnt_td (l : List Nat) (i : Nat) : cntP (l.take i) + cntP (l.drop i) = cntP l := by
  rw [← cnt_app, List.take_append_drop]
theorem fdivL (a : Nat) : ((a : Int)).fdiv 1000 = ((a / 1000 : Nat) : Int) := fdiv_nat a 1000
theorem fdivM (a : Nat) : ((a : Int)).fdiv 40000 = ((a / 40000 : Nat) : Int) := fdiv_nat a 40000
theorem fmod4 (a : Nat) : ((a : Int)).fmod 4 = ((a % 4 : Nat) : Int) := fmod_nat a 4
theorem spoiltT_sp {l : List Nat} (hl : l.length ≤ 20000) (c : Nat) {mores : List D} (hm : mores.length ≤ 100) :
    ∃ d, SpR l mores d ∧ F_l_spoilt_k31 [(false, .str (mk l)), (false, .int c), (true, .lst mores)] = .ok (false, d) [some (false, .str (mk l)), some (false, .int c), some (true, .lst mores)] := by
  have hlen := len_mk (l := l) (by omega)
  have hat : (c : Int).fmod ((l.length : Int) + 1) = ((c % (l.length + 1) : Nat) : Int) := by
    have := fmod_nat c (l.length + 1)
    rw [Int.natCast_add, Int.natCast_one] at this
    exact this
  have hk : c % (l.length + 1) ≤ l.length := by have := Nat.mod_lt c (show 0 < l.length + 1 by omega); omega
  generalize c % (l.length + 1) = k at *
  have hz : ¬ ((l.length : Int) + 1 = 0) := by omega
  obtain ⟨sg, hsg⟩ : ∃ sg, opIx (.str " ()\nabxyznotrdlamp0123456789-+<>.TF") (.int ((c / 1000 % 35 : Nat) : Int)) = some (false, .str (mk [sg])) := by
    have h35 : c / 1000 % 35 < signL.length := Nat.mod_lt _ (by decide)
    exact ⟨signL[c / 1000 % 35], by rw [lit_sign]; exact ix_mk (by decide) h35⟩
  have q1 : ((c : Int).fdiv 1000).fmod 35 = ((c / 1000 % 35 : Nat) : Int) := by rw [fdivL]; exact fmod_nat _ 35
  have q2 : ((c : Int).fdiv 40000).fmod 6 = ((c / 40000 % 6 : Nat) : Int) := by rw [fdivM]; exact fmod_nat _ 6
  have q3 : ((c : Int).fdiv 7).fmod 9 = ((c / 7 % 9 : Nat) : Int) := by rw [fdiv7]; exact fmod_nat _ 9
  rw [← q1] at hsg
  have h6 : c / 40000 % 6 < 6 := Nat.mod_lt _ (by decide)
  obtain ⟨w, hw⟩ : ∃ w, c / 40000 % 6 = w := ⟨_, rfl⟩
  rw [hw] at h6 q2
  have t1 : opSl (.str (mk l)) none (some (k : Int)) = some (false, .str (mk (l.take k))) := by rw [sl_mk (by omega), cut_to]
  have t2 : opSl (.str (mk l)) (some (k : Int)) none = some (false, .str (mk (l.drop k))) := by rw [sl_mk (by omega), cut_from]
  have t3 : opSl (.str (mk l)) (some ((k : Int) + 1)) none = some (false, .str (mk (l.drop (k + 1)))) := by
    rw [sl_mk (by omega), show (k : Int) + 1 = ((k + 1 : Nat) : Int) by omega, cut_from]
  have td := cnt_td l k
  have c1 := cnt_one sg
  have cd := cnt_drop (l := l) (i := k) (j := k + 1) (by omega)
  have lt : (l.take k).length ≤ l.length := by rw [List.length_take]; omega
  have ld : (l.drop k).length ≤ l.length := by rw [List.length_drop]; omega
  have ld1 : (l.drop (k + 1)).length ≤ l.length := by rw [List.length_drop]; omega
  have ltd : (l.take k).length + (l.drop k).length = l.length := by rw [List.length_take, List.length_drop]; omega
  have a1 : opAdd (.str (mk (l.take k))) (.str (mk [sg])) = some (false, .str (mk (l.take k ++ [sg]))) := add_mk (by simp only [List.length_singleton]; omega)
  have la : (l.take k ++ [sg]).length ≤ l.length + 1 := by rw [List.length_append, List.length_singleton]; omega
  have hcases : w = 0 ∨ w = 1 ∨ w = 2 ∨ w = 3 ∨ w = 4 ∨ w = 5 := by omega
  rcases hcases with rfl | rfl | rfl | rfl | rfl | rfl
  · have a2 : opAdd (.str (mk (l.take k ++ [sg]))) (.str (mk (l.drop k))) = some (false, .str (mk ((l.take k ++ [sg]) ++ l.drop k))) := add_mk (by omega)
    refine ⟨_, .txt ((l.take k ++ [sg]) ++ l.drop k) (by rw [List.length_append]; omega) (by rw [cnt_app, cnt_app]; omega), ?_⟩
    simp [F_l_spoilt_k31, b_l_spoilt_k31, hlen, hz, hat, hsg, q2, t1, t2, a1, a2, -List.append_assoc]
  · have a2 : opAdd (.str (mk (l.take k))) (.str (mk (l.drop (k + 1)))) = some (false, .str (mk (l.take k ++ l.drop (k + 1)))) := add_mk (by omega)
    refine ⟨_, .txt (l.take k ++ l.drop (k + 1)) (by rw [List.length_append]; omega) (by rw [cnt_app]; omega), ?_⟩
    simp [F_l_spoilt_k31, b_l_spoilt_k31, hlen, hz, hat, hsg, q2, t1, t3, a2]
  · have a2 : opAdd (.str (mk (l.take k ++ [sg]))) (.str (mk (l.drop (k + 1)))) = some (false, .str (mk ((l.take k ++ [sg]) ++ l.drop (k + 1)))) := add_mk (by omega)
    refine ⟨_, .txt ((l.take k ++ [sg]) ++ l.drop (k + 1)) (by rw [List.length_append]; omega) (by rw [cnt_app, cnt_app]; omega), ?_⟩
    simp [F_l_spoilt_k31, b_l_spoilt_k31, hlen, hz, hat, hsg, q2, t1, t3, a1, a2, -List.append_assoc]
  · obtain ⟨e, he⟩ : ∃ e, k + c / 7 % 9 = e := ⟨_, rfl⟩
    have he' : (k : Int) + (c : Int) / 7 % 9 = e := by omega
    have t4 : opSl (.str (mk l)) (some (e : Int)) none = some (false, .str (mk (l.drop e))) := by rw [sl_mk (by omega), cut_from]
    have le : (l.drop e).length ≤ l.length := by rw [List.length_drop]; omega
    have ce := cnt_drop (l := l) (i := k) (j := e) (by omega)
    have a2 : opAdd (.str (mk (l.take k))) (.str (mk (l.drop e))) = some (false, .str (mk (l.take k ++ l.drop e))) := add_mk (by omega)
    refine ⟨_, .txt (l.take k ++ l.drop e) (by rw [List.length_append]; omega) (by rw [cnt_app]; omega), ?_⟩
    simp [F_l_spoilt_k31, b_l_spoilt_k31, hlen, hz, hat, hsg, q2, t1, q3, he', t4, a2]
  · have a2 : opAdd (.str (mk l)) (.str (mk l)) = some (false, .str (mk (l ++ l))) := add_mk (by omega)
    have a3 : opAdd (.str (mk (l.drop k))) (.str (mk (l.take k))) = some (false, .str (mk (l.drop k ++ l.take k))) := add_mk (by omega)
    have a4 : opAdd (.str " ") (.str (mk l)) = some (false, .str (mk (32 :: l))) := by rw [lit_sp, add_mk (by simp; omega)]; rfl
    have a5 : opAdd (.str (mk l)) (.str " ") = some (false, .str (mk (l ++ [32]))) := by rw [lit_sp, add_mk (by simp; omega)]
    have h4 : c % 4 < 4 := Nat.mod_lt _ (by decide)
    obtain ⟨v, hv⟩ : ∃ v, c % 4 = v := ⟨_, rfl⟩
    rw [hv] at h4
    have hc4 : v = 0 ∨ v = 1 ∨ v = 2 ∨ v = 3 := by omega
    rcases hc4 with rfl | rfl | rfl | rfl
    · exact ⟨_, .txt (l ++ l) (by rw [List.length_append]; omega) (by rw [cnt_app]; omega), by
        simp [F_l_spoilt_k31, b_l_spoilt_k31, hlen, hz, hat, hsg, q2, t1, t2, a2, a3, a4, a5, fmod4, hv]⟩
    · exact ⟨_, .txt (l.drop k ++ l.take k) (by rw [List.length_append]; omega) (by rw [cnt_app]; omega), by
        simp [F_l_spoilt_k31, b_l_spoilt_k31, hlen, hz, hat, hsg, q2, t1, t2, a2, a3, a4, a5, fmod4, hv]⟩
    · exact ⟨_, .txt (32 :: l) (by rw [List.length_cons]; omega) (by rw [cnt_cons32]; omega), by
        simp [F_l_spoilt_k31, b_l_spoilt_k31, hlen, hz, hat, hsg, q2, t1, t2, a2, a3, a4, a5, fmod4, hv]⟩
    · exact ⟨_, .txt (l ++ [32]) (by simp; omega) (by rw [cnt_app]; have := cnt_one 32; omega), by
        simp [F_l_spoilt_k31, b_l_spoilt_k31, hlen, hz, hat, hsg, q2, t1, t2, a2, a3, a4, a5, fmod4, hv]⟩
  · have hmod : (c : Int).fmod ((mores.length : Int) + 4) = ((c % (mores.length + 4) : Nat) : Int) := by
      have := fmod_nat c (mores.length + 4)
      rw [Int.natCast_add] at this
      exact this
    have hj : c % (mores.length + 4) < mores.length + 4 := Nat.mod_lt _ (by omega)
    generalize c % (mores.length + 4) = j at *
    have hz4 : ¬ ((mores.length : Int) + 4 = 0) := by omega
    have a2 : opAdd (.lst mores) (.lst [.non, .int 5, .lst [.str (mk l)], .str ""]) = some (true, .lst (mores ++ [.non, .int 5, .lst [.str (mk l)], .str ""])) := by
      rw [opAdd_lst, if_pos (by simp; omega)]
    obtain ⟨d, hd, hr⟩ : ∃ d, atI (mores ++ [.non, .int 5, .lst [.str (mk l)], .str ""]) (j : Int) = some d ∧ SpR l mores d := by
      have hlt : j < (mores ++ [D.non, .int 5, .lst [.str (mk l)], .str ""]).length := by simp; omega
      refine ⟨(mores ++ [D.non, .int 5, .lst [.str (mk l)], .str ""])[j], atI_lt hlt, ?_⟩
      have hmem := List.getElem_mem hlt
      generalize (mores ++ [D.non, .int 5, .lst [.str (mk l)], .str ""])[j] = d at *
      rcases List.mem_append.mp hmem with h | h
      · exact .more d h
      · simp only [List.mem_cons, List.not_mem_nil, or_false] at h
        rcases h with rfl | rfl | rfl | rfl
        · exact .non
        · exact .five
        · exact .lst
        · have : ("" : Str) = mk [] := by decide +kernel
          rw [this]; exact .emp
    refine ⟨d, hr, ?_⟩
    have i1 : opIx (.lst (mores ++ [.non, .int 5, .lst [.str (mk l)], .str ""])) (.int j) = some (false, d) := by rw [opIx_lst, hd]; rfl
    simp [F_l_spoilt_k31, b_l_spoilt_k31, hlen, hz, hat, hsg, q2, hmod, hz4, a2, i1, -opAdd_lst]
end Lz
namespace Lz
open PySem PySem.Spec PyProof.Rows L2
def oknB (n : Str) : Bool := !n.L.isEmpty && (n.L.all let? && !(wordsL.contains n))
theorem GNm.okn {foe fri : List Str} (g : GNm foe fri) : oknS (foe ++ fri) := by
  have h := GNm.all (P := fun foe fri => (foe ++ fri).all oknB = true) (by decide +kernel) g
  intro n hn
  have := List.all_eq_true.mp h n hn
  unfold oknB at this
  simp only [Bool.and_eq_true, Bool.not_eq_true'] at this
  refine ⟨fun q => ?_, this.2.1, fun q => ?_⟩
  · rw [q] at this; simp at this
  · have z := this.2.2
    rw [List.contains_iff_mem.mpr q] at z
    cases z
theorem GNm.sh {foe fri : List Str} (g : GNm foe fri) : shS (foe ++ fri) := GNm.all (P := fun foe fri => shS (foe ++ fri)) (by unfold shS; decide +kernel) g
def not4 : List Nat := [110, 111, 116, 32]
def nots (k : Nat) : List Nat := (List.replicate k not4).flatten
def moreL (n : List Nat) : List (List Nat) := [nots 8 ++ n, nots 7 ++ n, [40, 121, 101, 115, 32, 97, 110, 100, 32, 110, 111], [40, 121, 101, 115, 32, 97, 110, 100, 32, 32, 110, 111, 41], [122, 122, 122], [110, 111, 116], [40, 121, 101, 115, 32, 110, 111, 114, 32, 110, 111, 41], [121, 101, 115, 32, 110, 111]]
theorem mul8 : opMulS (.str "not ") (.int 8) = some (false, .str (mk (nots 8))) := by
  have e : Txt.mul ("not " : Str) 8 = mk (nots 8) := by decide +kernel
  show (if 0 ≤ (8 : Int) ∧ (8 : Int) ≤ 1000 ∧ ("not " : Str).length ≤ 10000 then some (false, D.str (Txt.mul ("not " : Str) 8)) else none) = _
  rw [if_pos (by decide +kernel), e]
theorem mul7 : opMulS (.str "not ") (.int 7) = some (false, .str (mk (nots 7))) := by
  have e : Txt.mul ("not " : Str) 7 = mk (nots 7) := by decide +kernel
  show (if 0 ≤ (7 : Int) ∧ (7 : Int) ≤ 1000 ∧ ("not " : Str).length ≤ 10000 then some (false, D.str (Txt.mul ("not " : Str) 7)) else none) = _
  rw [if_pos (by decide +kernel), e]
theorem more_ok {n : List Nat} (h1 : n.length ≤ 8) (h2 : cntP n = 0) : ∀ x ∈ moreL n, x.length ≤ 100 ∧ cntP x ≤ 60 := by
  intro x hx
  have a8 : (nots 8).length = 32 := by decide
  have a7 : (nots 7).length = 28 := by decide
  have b8 : cntP (nots 8) = 8 := by decide
  have b7 : cntP (nots 7) = 7 := by decide
  simp only [moreL, List.mem_cons, List.not_mem_nil, or_false] at hx
  rcases hx with rfl | rfl | rfl | rfl | rfl | rfl | rfl | rfl
  · rw [List.length_append, cnt_app]; omega
  · rw [List.length_append, cnt_app]; omega
  all_goals decide
/-- asked of a text, both ways -/
theorem k31_end {nm : List Str} (hn : oknS nm) (hs : shS nm) (hl : nm.length ≤ 1000) (hok : ∀ n ∈ nm, okStr n) {d : D} (hd : (∃ x, d = .str (mk x) ∧ x.length ≤ 100000 ∧ cntP x < 150) ∨ isiD "str" d = some (false, .bl false)) :
    ∃ r : Option Say, (∀ s, r = some s → s.Over nm ∧ s.dep ≤ 8) ∧ (F_read_saying [(false, nmD nm), (false, d)] = match r with | some s => .ok (false, s.toD) [some (false, nmD nm), some (false, d)] | none => .exc "NoText") ∧
      ((isiD "str" d = some (false, .bl true) ∧ F_l_saying_of [(false, d), (false, nmD nm)] = .ok (false, optS r) [some (false, d), some (false, nmD nm)]) ∨ (isiD "str" d = some (false, .bl false) ∧ r = none)) := by
  rcases hd with ⟨x, rfl, h1, h2⟩ | h
  · refine ⟨rdP nm x, fun s hs => ?_, read_saying_sp hn hs hl h1, .inl ⟨rfl, ?_⟩⟩
    · have := (rdP_iff hn).mp hs
      exact ⟨this.1, this.2.1⟩
    · rw [rd_eq hn h2]
      exact l_saying_of_sp h1 h2
  · exact ⟨none, (fun _ q => by cases q), read_saying_no h, .inr ⟨h, rfl⟩⟩
theorem k31_try {y0 y1 y2 y3 y4 y5 y6 y7 y8 y9 y10 : Option T} : tryE (fun x => asX 10 fun a => xSeq (xIf (bOr (bNot (sB (sUn (isX a x "LossError") (sVar 10)))) (bOr (bNot (sB (sUn (isX a x "ValueError") (sVar 10)))) (sB (sUn (isX a x "NoSaying") (sVar 10))))) (xSeq (xRet 1 (sC (.bl false))) xNx) xNx) xNx) "NoText"
    [y0, y1, y2, y3, y4, y5, y6, y7, y8, y9, y10] = .ok .nx [y0, y1, y2, y3, y4, y5, y6, y7, y8, y9, none] := by
  have x2 : excSub "NoText" "LossError" = true := by decide
  have x3 : excSub "NoText" "ValueError" = true := by decide
  have x4 : excSub "NoText" "NoSaying" = false := by decide
  refine tryE_ok ?_
  exact asX_of (by simp) fun a => by simp [x2, x3, x4]
theorem law_k31 (ns : List Int) (hl : ns.length ≤ 63) : ∃ outs, F_law_k31 [(false, .scr ns)] = .ok (false, .bl true) outs := by
  obtain ⟨foe, fri, g, h1⟩ := names_sp ns hl 2
  have gl := g.len
  have hok := g.ok
  have hn := g.okn
  have hsh := g.sh
  have hne : foe ++ fri ≠ [] := fun e => by have := congrArg List.length e; rw [List.length_append] at this; simp only [List.length_nil] at this; omega
  obtain ⟨s, m1, l1, o1, d1, p1, h2⟩ := saying_sp ns hl (foe ++ fri) hne (by simp; omega) 4 5 4 24 (by decide)
  have h2' : F_l_saying _ = _ := h2
  have len4 : (foe ++ fri).length ≤ 1000 := by rw [List.length_append]; omega
  have t1 : F_saying_text [(false, s.toD)] = _ := saying_text_sp hsh s 24 o1 (by omega) (by omega)
  have t2 : F_l_text [(false, s.toD)] = _ := l_text_sp hsh s 24 o1 (by omega) (by omega)
  have tl := txt_len hsh s o1
  have tc := txt_cnt hn s o1
  have p5 : 2 ^ s.dep ≤ 32 := Nat.pow_le_pow_right (by decide) (show s.dep ≤ 5 by omega)
  have h3 := read_saying_sp hn hsh len4 (l := s.txt) (by omega)
  rw [rdP_txt hn o1 (by omega)] at h3
  dsimp only at h3
  have q1 := eqD_same (Say.okN hok s o1) (by omega)
  have q2 : eqD (.str (mk s.txt)) (.str (mk s.txt)) = some true := by rw [mk_eqD, decide_eq_true rfl]
  obtain ⟨n0, nr, en⟩ : ∃ n0 nr, foe ++ fri = n0 :: nr := by
    cases e : foe ++ fri with
    | nil => exact absurd e hne
    | cons a b => exact ⟨a, b, rfl⟩
  have hn0 : n0 ∈ foe ++ fri := by rw [en]; exact List.mem_cons_self
  have i0 : opIx (nmD (foe ++ fri)) (.int 0) = some (false, .str n0) := by rw [en]; simp [nmD]
  have l0 := hsh n0 hn0
  have c0 := let_cnt (hn n0 hn0).2.1
  have e0 : n0 = mk n0.L := (mkL n0).symm
  have a1 : opAdd (.str (mk (nots 8))) (.str n0) = some (false, .str (mk (nots 8 ++ n0.L))) := by
    conv => lhs; rw [e0]
    exact add_mk (by have : (nots 8).length = 32 := by decide
                     omega)
  have a2 : opAdd (.str (mk (nots 7))) (.str n0) = some (false, .str (mk (nots 7 ++ n0.L))) := by
    conv => lhs; rw [e0]
    exact add_mk (by have : (nots 7).length = 28 := by decide
                     omega)
  have lits : ("(yes and no" : Str) = mk [40, 121, 101, 115, 32, 97, 110, 100, 32, 110, 111] ∧ ("(yes and  no)" : Str) = mk [40, 121, 101, 115, 32, 97, 110, 100, 32, 32, 110, 111, 41] ∧ ("zzz" : Str) = mk [122, 122, 122] ∧ ("not" : Str) = mk [110, 111, 116] ∧
      ("(yes nor no)" : Str) = mk [40, 121, 101, 115, 32, 110, 111, 114, 32, 110, 111, 41] ∧ ("yes no" : Str) = mk [121, 101, 115, 32, 110, 111] := by decide +kernel
  have hm := mixed_sp ns hl 0 (10 ^ 7) (by decide)
  generalize mixed ns 0 (10 ^ 7) = cell at hm
  have mo := more_ok l0 c0
  obtain ⟨d, hd, h4⟩ := spoiltT_sp (l := s.txt) (by omega) cell (mores := (moreL n0.L).map fun x => D.str (mk x)) (by simp [moreL])
  have hd2 : (∃ x, d = .str (mk x) ∧ x.length ≤ 100000 ∧ cntP x < 150) ∨ isiD "str" d = some (false, .bl false) := by
    cases hd with
    | txt x a b => exact .inl ⟨x, rfl, by omega, by omega⟩
    | more d h =>
      obtain ⟨x, hx, rfl⟩ := List.mem_map.mp h
      have := mo x hx
      exact .inl ⟨x, rfl, by omega, by omega⟩
    | non => exact .inr rfl
    | five => exact .inr rfl
    | lst => exact .inr rfl
    | emp => exact .inl ⟨[], rfl, by simp, by decide⟩
  obtain ⟨r, r1, r2, r3⟩ := k31_end hn hsh len4 hok hd2
  have ql : eqD (optS r) (optS r) = some true := by
    cases e : r with
    | none => rfl
    | some s2 => exact eqD_same (Say.okN hok s2 (r1 s2 e).1) (by have := (r1 s2 e).2; omega)
  refine ⟨[some (false, .scr ns)], ?_⟩
  have lenA : (foe.map D.str).length + (fri.map D.str).length ≤ 16777216 := by simp; omega
  have aN : opAdd (nmD foe) (nmD fri) = some (false, nmD (foe ++ fri)) := by
    show opAdd (.tup (foe.map .str)) (.tup (fri.map .str)) = _
    rw [opAdd_tup, if_pos lenA]
    unfold nmD
    rw [List.map_append]
  have aE : moreL n0.L = [nots 8 ++ n0.L, nots 7 ++ n0.L, [40, 121, 101, 115, 32, 97, 110, 100, 32, 110, 111], [40, 121, 101, 115, 32, 97, 110, 100, 32, 32, 110, 111, 41], [122, 122, 122], [110, 111, 116], [40, 121, 101, 115, 32, 110, 111, 114, 32, 110, 111, 41], [121, 101, 115, 32, 110, 111]] := rfl
  have is1 : isiD "str" (.str (mk s.txt)) = some (false, .bl true) := rfl
  obtain ⟨L1, L2, L3, L4, L5, L6⟩ := lits
  rw [aE] at h4
  simp only [List.map_cons, List.map_nil] at h4
  simp only [← L1, ← L2, ← L3, ← L4, ← L5, ← L6] at h4
  simp at h1 h2' hm
  have x1 : excSub "NoText" "NoText" = true := by decide
  have x2 : excSub "NoText" "LossError" = true := by decide
  have x3 : excSub "NoText" "ValueError" = true := by decide
  have x4 : excSub "NoText" "NoSaying" = false := by decide
  have x5 : ("NoText" : Str) = "NoSaying" ∨ ("NoText" : Str) = "NoText" := .inr rfl
  have m8 := mul8
  have m7 := mul7
  generalize s.toD = SD at *
  generalize mk s.txt = ST at *
  generalize nmD (foe ++ fri) = NM at *
  generalize nmD foe = NF at *
  generalize nmD fri = NR at *
  generalize mk (nots 8 ++ n0.L) = N8 at *
  generalize mk (nots 7 ++ n0.L) = N7 at *
  generalize mk (nots 8) = M8 at *
  generalize mk (nots 7) = M7 at *
  have tr := fun (y0 y1 y2 y3 y4 y5 y6 y7 y8 y9 y10 : Option T) => k31_try (y0 := y0) (y1 := y1) (y2 := y2) (y3 := y3) (y4 := y4) (y5 := y5) (y6 := y6) (y7 := y7) (y8 := y8) (y9 := y9) (y10 := y10)
  rcases r3 with ⟨z1, z2⟩ | ⟨z1, z2⟩
  · cases e : r with
    | none =>
      rw [e] at r2 z2 ql
      dsimp only at r2
      have w : optS none = .non := rfl
      rw [w] at z2 ql
      simp [F_law_k31, b_law_k31, h1, aN, h2', t1, is1, q2, t2, h3, q1, m8, m7, i0, a1, a2, hm, h4, z1, z2, r2, x1, x5, tr, ql, -opAdd_str]
    | some s2 =>
      rw [e] at r2 z2 ql
      dsimp only at r2
      have w : optS (some s2) = s2.toD := rfl
      rw [w] at z2 ql
      generalize s2.toD = SD2 at *
      simp [F_law_k31, b_law_k31, h1, aN, h2', t1, is1, q2, t2, h3, q1, m8, m7, i0, a1, a2, hm, h4, z1, z2, r2, x1, x5, tr, ql, -opAdd_str]
  · rw [z2] at r2 ql
    dsimp only at r2
    have w : optS none = .non := rfl
    rw [w] at ql
    simp [F_law_k31, b_law_k31, h1, aN, h2', t1, is1, q2, t2, h3, q1, m8, m7, i0, a1, a2, hm, h4, z1, r2, x1, x5, tr, ql, -opAdd_str]
end Lz
namespace Lz
open PySem PySem.Spec PyProof.Rows L2
structure Tx (K : PySem.W.Frag) (mg : Str → Option Value) : Prop where
  n_ValueError : mg "ValueError" = none
  n_all : mg "all" = none
  n_int : mg "int" = none
  n_isinstance : mg "isinstance" = none
  n_len : mg "len" = none
  n_max : mg "max" = none
  n_range : mg "range" = none
  n_str : mg "str" = none
  n_tuple : mg "tuple" = none
  g_is_saying : mg "is_saying" = some (.ref (He.fAd K ("is_saying", none)))
  g_saying_text : mg "saying_text" = some (.ref (He.fAd K ("saying_text", none)))
  g_middle : mg "middle" = some (.ref (He.fAd K ("middle", none)))
  g_parsed : mg "parsed" = some (.ref (He.fAd K ("parsed", none)))
  g_saying_of : mg "saying_of" = some (.ref (He.fAd K ("saying_of", none)))
  g_read_saying : mg "read_saying" = some (.ref (He.fAd K ("read_saying", none)))
  g_l_cell_at : mg "_law_cell_at" = some (.ref (He.fAd K ("_law_cell_at", none)))
  g_l_mixed : mg "_law_mixed" = some (.ref (He.fAd K ("_law_mixed", none)))
  g_l_next : mg "_law_next" = some (.ref (He.fAd K ("_law_next", none)))
  g_l_saying : mg "_law_saying" = some (.ref (He.fAd K ("_law_saying", none)))
  g_l_names : mg "_law_names" = some (.ref (He.fAd K ("_law_names", none)))
  g_l_word : mg "_law_word" = some (.ref (He.fAd K ("_law_word", none)))
  g_l_parsed : mg "_law_parsed" = some (.ref (He.fAd K ("_law_parsed", none)))
  g_l_deep : mg "_law_deep" = some (.ref (He.fAd K ("_law_deep", none)))
  g_l_saying_of : mg "_law_saying_of" = some (.ref (He.fAd K ("_law_saying_of", none)))
  g_l_text : mg "_law_text" = some (.ref (He.fAd K ("_law_text", none)))
  g_l_spoilt : mg "_law_spoilt" = some (.ref (He.fAd K ("_law_spoilt", none)))
  g_law : mg "law" = some (.ref (He.fAd K ("law", none)))
  d_is_saying : ∃ fd, FunD K "is_saying" "is_saying" (defArgs s_is_saying) (defBody s_is_saying) (defScope s_is_saying) [] [] (He.fAd K ("is_saying", none)) fd
  d_saying_text : ∃ fd, FunD K "saying_text" "saying_text" (defArgs s_saying_text) (defBody s_saying_text) (defScope s_saying_text) [] [] (He.fAd K ("saying_text", none)) fd
  d_middle : ∃ fd, FunD K "middle" "middle" (defArgs s_middle) (defBody s_middle) (defScope s_middle) [] [] (He.fAd K ("middle", none)) fd
  d_parsed : ∃ fd, FunD K "parsed" "parsed" (defArgs s_parsed) (defBody s_parsed) (defScope s_parsed) [] [] (He.fAd K ("parsed", none)) fd
  d_saying_of : ∃ fd, FunD K "saying_of" "saying_of" (defArgs s_saying_of) (defBody s_saying_of) (defScope s_saying_of) [] [] (He.fAd K ("saying_of", none)) fd
  d_read_saying : ∃ fd, FunD K "read_saying" "read_saying" (defArgs s_read_saying) (defBody s_read_saying) (defScope s_read_saying) [] [] (He.fAd K ("read_saying", none)) fd
  d_l_cell_at : ∃ fd, FunD K "_law_cell_at" "_law_cell_at" (defArgs s_l_cell_at) (defBody s_l_cell_at) (defScope s_l_cell_at) [] [] (He.fAd K ("_law_cell_at", none)) fd
  d_l_mixed : ∃ fd, FunD K "_law_mixed" "_law_mixed" (defArgs s_l_mixed) (defBody s_l_mixed) (defScope s_l_mixed) [] [] (He.fAd K ("_law_mixed", none)) fd
  d_l_next : ∃ fd, FunD K "_law_next" "_law_next" (defArgs s_l_next) (defBody s_l_next) (defScope s_l_next) [] [] (He.fAd K ("_law_next", none)) fd
  d_l_saying : ∃ fd, FunD K "_law_saying" "_law_saying" (defArgs s_l_saying) (defBody s_l_saying) (defScope s_l_saying) [] [] (He.fAd K ("_law_saying", none)) fd
  d_l_names : ∃ fd, FunD K "_law_names" "_law_names" (defArgs s_l_names) (defBody s_l_names) (defScope s_l_names) [] [] (He.fAd K ("_law_names", none)) fd
  d_l_word : ∃ fd, FunD K "_law_word" "_law_word" (defArgs s_l_word) (defBody s_l_word) (defScope s_l_word) [] [] (He.fAd K ("_law_word", none)) fd
  d_l_parsed : ∃ fd, FunD K "_law_parsed" "_law_parsed" (defArgs s_l_parsed) (defBody s_l_parsed) (defScope s_l_parsed) [] [] (He.fAd K ("_law_parsed", none)) fd
  d_l_deep : ∃ fd, FunD K "_law_deep" "_law_deep" (defArgs s_l_deep) (defBody s_l_deep) (defScope s_l_deep) [] [] (He.fAd K ("_law_deep", none)) fd
  d_l_saying_of : ∃ fd, FunD K "_law_saying_of" "_law_saying_of" (defArgs s_l_saying_of) (defBody s_l_saying_of) (defScope s_l_saying_of) [] [] (He.fAd K ("_law_saying_of", none)) fd
  d_l_text : ∃ fd, FunD K "_law_text" "_law_text" (defArgs s_l_text) (defBody s_l_text) (defScope s_l_text) [] [] (He.fAd K ("_law_text", none)) fd
  d_l_spoilt : ∃ fd, FunD K "_law_spoilt" "_law_spoilt" (defArgs s_l_spoilt) (defBody s_l_spoilt) (defScope s_l_spoilt) [] [] (He.fAd K ("_law_spoilt", none)) fd
  d_law : ∃ fd, FunD K "law" "law" (defArgs s_law) (defBody s_law) (defScope s_law) [] [] (He.fAd K ("law", none)) fd
  c_DEPTH : ∃ t, mg "DEPTH" = some (.int 8 t)
  c_DOUBLE : ∃ a, mg "DOUBLE" = some (.ref a) ∧ KTup K a ((["and", "or", "then", "same", "since"] : List Str).map V.str)
  c_SINGLE : ∃ a, mg "SINGLE" = some (.ref a) ∧ KTup K a ((["not", "before", "once", "sofar"] : List Str).map V.str)
  e_LossError : mg "LossError" = some (.ref (He.ga K "LossError"))
  e_NoSaying : mg "NoSaying" = some (.ref (He.ga K "NoSaying"))
  e_NoText : mg "NoText" = some (.ref (He.ga K "NoText"))
  q_NoText : (He.Fa.exc "NoText").ok K = true
  exf : ExF K ["NoSaying", "NoText"] ["LossError", "NoSaying", "NoText", "ValueError"]
section
variable {P : Program} {w : World} {K : PySem.W.Frag} {mg : Str → Option Value} {base : Heap}
theorem sc_is_saying : FnScope ["names", "thing", "most", "part"] ["names", "thing", "most"] (defScope s_is_saying) := ⟨rfl, rfl, rfl, by decide +kernel, rfl, by decide +kernel, by decide +kernel⟩
theorem okR_is_saying (t : Tx K mg) : ∀ n, OkF P w K mg base "is_saying" (0 + n) (R_is_saying n)
  | 0 => by
    obtain ⟨fd, F⟩ := t.d_is_saying
    exact ⟨_, fd, ["names", "thing", "most"], fn_bad (N := ["names", "thing", "most"]), t.g_is_saying, F.kp, F.bindsN fun _ _ _ _ _ _ us hl => match us, hl with | [_, _, _], _ => rfl⟩
  | n + 1 => by
    have ih := okR_is_saying t n
    exact by
      obtain ⟨fd, F⟩ := t.d_is_saying
      refine ⟨_, fd, ["names", "thing", "most"], fn_ok F sc_is_saying (by decide) (by decide) (fun cdv A outer s H E hr => ?_), t.g_is_saying, F.kp, F.bindsN fun _ _ _ _ _ _ us hl => match us, hl with | [_, _, _], _ => rfl⟩
      have hr : Room (0 + n) _ := hr
      have hu := room_u hr
      exact (ss_cons (ss_if (sw_or (cmB (or_eq (hu64 hu)) (va 2) se_int) (sw_or (sb_not (tv (isi t.n_isinstance t.n_tuple (va 1)))) (sw_or (cmB (or_eq (hu64 hu)) (cb (cr_len) t.n_len (ac (va 1) an)) se_int) (sw_or1 (sb_not (tv (isi t.n_isinstance t.n_str (ix (va 1) se_int)))))))).sb (ss_cons (ss_ret se_bl) ss_nil) ss_nil) (ss_cons (ss_if (cmB (or_eq (hu64 hu)) (ix (va 1) se_int) se_str) (ss_cons (ss_ret (se_and (cm (or_eq (hu64 hu)) (cb (cr_len) t.n_len (ac (va 1) an)) se_int) (se_and (isi t.n_isinstance t.n_str (ix (va 1) se_int)) (se_one (cm (or_in hu) (ix (va 1) se_int) (va 0)))))) ss_nil) ss_nil) (ss_cons (ss_if (sw_or (cmB (or_eq (hu64 hu)) (ix (va 1) se_int) se_str) (sw_or1 (cmB (or_eq (hu64 hu)) (ix (va 1) se_int) se_str))).sb (ss_cons (ss_ret (cm (or_eq (hu64 hu)) (cb (cr_len) t.n_len (ac (va 1) an)) se_int)) ss_nil) ss_nil) (ss_cons (ss_if (sw_and (cmB (or_notIn hu) (ix (va 1) se_int) (gTup (zs := ["not", "before", "once", "sofar"]) t.c_SINGLE)) (sw_and1 (cmB (or_notIn hu) (ix (va 1) se_int) (gTup (zs := ["and", "or", "then", "same", "since"]) t.c_DOUBLE)))).sb (ss_cons (ss_ret se_bl) ss_nil) ss_nil) (ss_cons (ss_if (cmB (or_ne (hu64 hu)) (cb (cr_len) t.n_len (ac (va 1) an)) (se_bin or_add se_int (ct (cr_int) t.n_int (ac (cm (or_in hu) (ix (va 1) se_int) (gTup (zs := ["and", "or", "then", "same", "since"]) t.c_DOUBLE)) an)))) (ss_cons (ss_ret se_bl) ss_nil) ss_nil) (ss_cons (ss_ret (cb (cr_allD rfl) t.n_all (ac (se_comp (own := [("part", 3)]) rfl sc_is_saying.nd (si_seq (sl (va 1) (so_some se_int) so_none)) (blkOk_by (N := ["names", "thing", "most", "part"]) (sc := defScope s_is_saying) (by decide +kernel)) (fun _ _ _ _ _ => (gn (pin := notOwn 4 [3]) 3 sc_is_saying.nd (by decide))) (fun _ _ _ _ _ => sc_nil) (fun _ _ _ _ _ => (cf ih (hr.mono (by first | omega | decide)) takes0 (ac (va 0) (ac (va 3) (ac (se_bin or_sub (va 2) se_int) an))))) (by intro _; rfl)) an))) ss_nil))))))
theorem ok_is_saying (t : Tx K mg) : OkF P w K mg base "is_saying" 24 F_is_saying := (okR_is_saying t 24)
theorem sc_saying_text : FnScope ["saying"] ["saying"] (defScope s_saying_text) := ⟨rfl, rfl, rfl, by decide +kernel, rfl, by decide +kernel, by decide +kernel⟩
theorem okR_saying_text (t : Tx K mg) : ∀ n, OkF P w K mg base "saying_text" (0 + n) (R_saying_text n)
  | 0 => by
    obtain ⟨fd, F⟩ := t.d_saying_text
    exact ⟨_, fd, ["saying"], fn_bad (N := ["saying"]), t.g_saying_text, F.kp, F.bindsN fun _ _ _ _ _ _ us hl => match us, hl with | [_], _ => rfl⟩
  | n + 1 => by
    have ih := okR_saying_text t n
    exact by
      obtain ⟨fd, F⟩ := t.d_saying_text
      refine ⟨_, fd, ["saying"], fn_ok F sc_saying_text (by decide) (by decide) (fun cdv A outer s H E hr => ?_), t.g_saying_text, F.kp, F.bindsN fun _ _ _ _ _ _ us hl => match us, hl with | [_], _ => rfl⟩
      have hr : Room (0 + n) _ := hr
      have hu := room_u hr
      exact (ss_cons (ss_if (cmB (or_eq (hu64 hu)) (ix (va 0) se_int) se_str) (ss_cons (ss_ret (ix (va 0) se_int)) ss_nil) ss_nil) (ss_cons (ss_if (sw_or (cmB (or_eq (hu64 hu)) (ix (va 0) se_int) se_str) (sw_or1 (cmB (or_eq (hu64 hu)) (ix (va 0) se_int) se_str))).sb (ss_cons (ss_ret (ix (va 0) se_int)) ss_nil) ss_nil) (ss_cons (ss_if (cmB (or_in hu) (ix (va 0) se_int) (gTup (zs := ["not", "before", "once", "sofar"]) t.c_SINGLE)) (ss_cons (ss_ret (se_bin or_add (se_bin or_add (ix (va 0) se_int) se_str) (cf ih (hr.mono (by first | omega | decide)) (takes_of rfl rfl rfl rfl) (ac (ix (va 0) se_int) an)))) ss_nil) ss_nil) (ss_cons (ss_ret (se_bin or_add (se_bin or_add (se_bin or_add (se_bin or_add (se_bin or_add (se_bin or_add se_str (cf ih (hr.mono (by first | omega | decide)) (takes_of rfl rfl rfl rfl) (ac (ix (va 0) se_int) an))) se_str) (ix (va 0) se_int)) se_str) (cf ih (hr.mono (by first | omega | decide)) (takes_of rfl rfl rfl rfl) (ac (ix (va 0) se_int) an))) se_str)) ss_nil))))
theorem ok_saying_text (t : Tx K mg) : OkF P w K mg base "saying_text" 24 F_saying_text := (okR_saying_text t 24)
theorem sc_middle : FnScope ["text", "open_ones", "at", "words"] ["text"] (defScope s_middle) := ⟨rfl, rfl, rfl, by decide +kernel, rfl, by decide +kernel, by decide +kernel⟩
theorem ok_middle (t : Tx K mg) : OkF P w K mg base "middle" 1 F_middle := by
  obtain ⟨fd, F⟩ := t.d_middle
  refine ⟨_, fd, ["text"], fn_ok F sc_middle (by decide) (by decide) (fun cdv A outer s H E hr => ?_), t.g_middle, F.kp, F.bindsN fun _ _ _ _ _ _ us hl => match us, hl with | [_], _ => rfl⟩
  have hu := room_u hr
  exact (ss_cons (st sc_middle.nd (by decide) se_int) (ss_cons (fr (pin' := [0]) (passes_of rfl) (by decide) (by decide) (rg1 t.n_range (ac (cb (cr_len) t.n_len (ac (va 0) an)) an)) (gn 2 sc_middle.nd (by decide)) (ss_cons (st sc_middle.nd (by decide) (se_bin or_sub (se_bin or_add (va 1) (ct (cr_int) t.n_int (ac (cm (or_eq (hu64 hu)) (ix (va 0) (va 2)) se_str) an))) (ct (cr_int) t.n_int (ac (cm (or_eq (hu64 hu)) (ix (va 0) (va 2)) se_str) an)))) (ss_cons (st sc_middle.nd (by decide) (tSplit (sl (va 0) (so_some (va 2)) so_none) (ac se_str an))) (ss_cons (ss_if (sw_and (cmB (or_eq (hu64 hu)) (va 1) se_int) (sw_and (cmB (or_eq (hu64 hu)) (ix (va 0) (va 2)) se_str) (sw_and (cmB (or_gt) (cb (cr_len) t.n_len (ac (va 3) an)) se_int) (sw_and1 (cmB (or_in hu) (ix (va 3) se_int) (gTup (zs := ["and", "or", "then", "same", "since"]) t.c_DOUBLE)))))).sb (ss_cons (ss_ret (va 2)) ss_nil) ss_nil) ss_nil)))) (ss_cons (ss_raise rfl (takes_of rfl rfl rfl rfl) t.q_NoText t.e_NoText rfl (by decide)) ss_nil)))
theorem sc_parsed : FnScope ["text", "most", "at", "word"] ["text", "most"] (defScope s_parsed) := ⟨rfl, rfl, rfl, by decide +kernel, rfl, by decide +kernel, by decide +kernel⟩
theorem okR_parsed (t : Tx K mg) : ∀ n, OkF P w K mg base "parsed" (1 + n) (R_parsed n)
  | 0 => by
    obtain ⟨fd, F⟩ := t.d_parsed
    exact ⟨_, fd, ["text", "most"], fn_bad (N := ["text", "most"]), t.g_parsed, F.kp, F.bindsN fun _ _ _ _ _ _ us hl => match us, hl with | [_, _], _ => rfl⟩
  | n + 1 => by
    have ih := okR_parsed t n
    exact by
      obtain ⟨fd, F⟩ := t.d_parsed
      refine ⟨_, fd, ["text", "most"], fn_ok F sc_parsed (by decide) (by decide) (fun cdv A outer s H E hr => ?_), t.g_parsed, F.kp, F.bindsN fun _ _ _ _ _ _ us hl => match us, hl with | [_, _], _ => rfl⟩
      have hr : Room (1 + n) _ := hr
      have hu := room_u hr
      exact (ss_cons (ss_if (cmB (or_eq (hu64 hu)) (va 1) se_int) (ss_cons (ss_raise rfl (takes_of rfl rfl rfl rfl) t.q_NoText t.e_NoText rfl (by decide)) ss_nil) ss_nil) (ss_cons (ss_if (sw_or (cmB (or_eq (hu64 hu)) (va 0) se_str) (sw_or1 (cmB (or_eq (hu64 hu)) (va 0) se_str))).sb (ss_cons (ss_ret (se_tup (ac (va 0) an))) ss_nil) ss_nil) (ss_cons (ss_if (sw_and (cmB (or_eq (hu64 hu)) (sl (va 0) so_none (so_some se_int)) se_str) (sw_and1 (cmB (or_eq (hu64 hu)) (sl (va 0) (so_some (se_un (f := opNeg) un_negD se_int)) so_none) se_str))).sb (ss_cons (st sc_parsed.nd (by decide) (cf (ok_middle t) (hr.mono (by first | omega | decide)) (takes_of rfl rfl rfl rfl) (ac (va 0) an))) (ss_cons (st sc_parsed.nd (by decide) (ix (tSplit (sl (va 0) (so_some (se_bin or_add (va 2) se_int)) so_none) (ac se_str an)) se_int)) (ss_cons (ss_ret (se_tup (ac (va 3) (ac (cf ih (hr.mono (by first | omega | decide)) (takes_of rfl rfl rfl rfl) (ac (sl (va 0) (so_some se_int) (so_some (va 2))) (ac (se_bin or_sub (va 1) se_int) an))) (ac (cf ih (hr.mono (by first | omega | decide)) (takes_of rfl rfl rfl rfl) (ac (sl (va 0) (so_some (se_bin or_add (se_bin or_add (va 2) se_int) (cb (cr_len) t.n_len (ac (va 3) an)))) (so_some (se_un (f := opNeg) un_negD se_int))) (ac (se_bin or_sub (va 1) se_int) an))) an))))) ss_nil))) ss_nil) (ss_cons (st sc_parsed.nd (by decide) (ix (tSplit (va 0) (ac se_str an)) se_int)) (ss_cons (ss_if (sw_and (cmB (or_in hu) (va 3) (gTup (zs := ["not", "before", "once", "sofar"]) t.c_SINGLE)) (sw_and1 (cmB (or_lt) (cb (cr_len) t.n_len (ac (va 3) an)) (cb (cr_len) t.n_len (ac (va 0) an))))).sb (ss_cons (ss_ret (se_tup (ac (va 3) (ac (cf ih (hr.mono (by first | omega | decide)) (takes_of rfl rfl rfl rfl) (ac (sl (va 0) (so_some (se_bin or_add (cb (cr_len) t.n_len (ac (va 3) an)) se_int)) so_none) (ac (se_bin or_sub (va 1) se_int) an))) an)))) ss_nil) ss_nil) (ss_cons (ss_ret (se_tup (ac se_str (ac (va 0) an)))) ss_nil))))))
theorem ok_parsed (t : Tx K mg) : OkF P w K mg base "parsed" 25 F_parsed := (okR_parsed t 24)
theorem sc_saying_of : FnScope ["names", "text", "found"] ["names", "text"] (defScope s_saying_of) := ⟨rfl, rfl, rfl, by decide +kernel, rfl, by decide +kernel, by decide +kernel⟩
theorem ok_saying_of (t : Tx K mg) : OkF P w K mg base "saying_of" 26 F_saying_of := by
  obtain ⟨fd, F⟩ := t.d_saying_of
  refine ⟨_, fd, ["names", "text"], fn_ok F sc_saying_of (by decide) (by decide) (fun cdv A outer s H E hr => ?_), t.g_saying_of, F.kp, F.bindsN fun _ _ _ _ _ _ us hl => match us, hl with | [_, _], _ => rfl⟩
  have hu := room_u hr
  exact (ss_cons (st sc_saying_of.nd (by decide) (cf (ok_parsed t) (hr.mono (by first | omega | decide)) (takes_of rfl rfl rfl rfl) (ac (va 1) (ac (gInt t.c_DEPTH) an)))) (ss_cons (ss_if (sw_or (sb_not (tv (cf (ok_is_saying t) (hr.mono (by first | omega | decide)) (takes_of rfl rfl rfl rfl) (ac (va 0) (ac (va 2) (ac (gInt t.c_DEPTH) an)))))) (sw_or1 (cmB (or_ne (hu64 hu)) (cf (ok_saying_text t) (hr.mono (by first | omega | decide)) (takes_of rfl rfl rfl rfl) (ac (va 2) an)) (va 1)))).sb (ss_cons (ss_raise rfl (takes_of rfl rfl rfl rfl) t.q_NoText t.e_NoText rfl (by decide)) ss_nil) ss_nil) (ss_cons (ss_ret (va 2)) ss_nil)))
theorem sc_read_saying : FnScope ["names", "text"] ["names", "text"] (defScope s_read_saying) := ⟨rfl, rfl, rfl, by decide +kernel, rfl, by decide +kernel, by decide +kernel⟩
theorem ok_read_saying (t : Tx K mg) : OkF P w K mg base "read_saying" 27 F_read_saying := by
  obtain ⟨fd, F⟩ := t.d_read_saying
  refine ⟨_, fd, ["names", "text"], fn_ok F sc_read_saying (by decide) (by decide) (fun cdv A outer s H E hr => ?_), t.g_read_saying, F.kp, F.bindsN fun _ _ _ _ _ _ us hl => match us, hl with | [_, _], _ => rfl⟩
  have hu := room_u hr
  exact (ss_cons (ss_if (sb_not (tv (isi t.n_isinstance t.n_str (va 1)))) (ss_cons (ss_raise rfl (takes_of rfl rfl rfl rfl) t.q_NoText t.e_NoText rfl (by decide)) ss_nil) ss_nil) (ss_cons (ss_ret (cf (ok_saying_of t) (hr.mono (by first | omega | decide)) (takes_of rfl rfl rfl rfl) (ac (va 0) (ac (va 1) an)))) ss_nil))
theorem sc_l_cell_at : FnScope ["_law_script", "_law_k"] ["_law_script", "_law_k"] (defScope s_l_cell_at) := ⟨rfl, rfl, rfl, by decide +kernel, rfl, by decide +kernel, by decide +kernel⟩
theorem ok_l_cell_at (t : Tx K mg) : OkF P w K mg base "_law_cell_at" 1 F_l_cell_at := by
  obtain ⟨fd, F⟩ := t.d_l_cell_at
  refine ⟨_, fd, ["_law_script", "_law_k"], fn_ok F sc_l_cell_at (by decide) (by decide) (fun cdv A outer s H E hr => ?_), t.g_l_cell_at, F.kp, F.bindsN fun _ _ _ _ _ _ us hl => match us, hl with | [_, _], _ => rfl⟩
  have hu := room_u hr
  exact (ss_cons (ss_if (cmB (or_lt) (va 1) (cb (cr_len) t.n_len (ac (va 0) an))) (ss_cons (ss_ret (ix (va 0) (va 1))) ss_nil) ss_nil) (ss_cons (ss_if (cmB (or_eq (hu64 hu)) (va 0) (se_lst an)) (ss_cons (ss_ret se_int) ss_nil) ss_nil) (ss_cons (ss_ret (se_bin or_add (se_bin or_mul (ix (va 0) (se_bin or_mod (va 1) (cb (cr_len) t.n_len (ac (va 0) an)))) se_int) (va 1))) ss_nil)))
theorem sc_l_mixed : FnScope ["_law_script", "_law_k", "_law_many", "_law_drawn"] ["_law_script", "_law_k", "_law_many"] (defScope s_l_mixed) := ⟨rfl, rfl, rfl, by decide +kernel, rfl, by decide +kernel, by decide +kernel⟩
theorem ok_l_mixed (t : Tx K mg) : OkF P w K mg base "_law_mixed" 2 F_l_mixed := by
  obtain ⟨fd, F⟩ := t.d_l_mixed
  refine ⟨_, fd, ["_law_script", "_law_k", "_law_many"], fn_ok F sc_l_mixed (by decide) (by decide) (fun cdv A outer s H E hr => ?_), t.g_l_mixed, F.kp, F.bindsN fun _ _ _ _ _ _ us hl => match us, hl with | [_, _, _], _ => rfl⟩
  have hu := room_u hr
  exact (ss_cons (st sc_l_mixed.nd (by decide) (se_bin or_mod (se_bin or_mul (se_bin or_add (se_bin or_add (cf (ok_l_cell_at t) (hr.mono (by first | omega | decide)) (takes_of rfl rfl rfl rfl) (ac (va 0) (ac (va 1) an))) (se_bin or_mul se_int (va 1))) se_int) se_int) se_int)) (ss_cons (ss_ret (se_bin or_mod (se_bin or_mod (se_bin or_add (se_bin or_add (se_bin or_mul (va 3) (va 3)) (se_bin or_mul se_int (va 3))) (va 1)) se_int) (va 2))) ss_nil))
theorem sc_l_next : FnScope ["_law_script", "_law_m", "_law_many"] ["_law_script", "_law_m", "_law_many"] (defScope s_l_next) := ⟨rfl, rfl, rfl, by decide +kernel, rfl, by decide +kernel, by decide +kernel⟩
theorem ok_l_next (t : Tx K mg) : OkF P w K mg base "_law_next" 3 F_l_next := by
  obtain ⟨fd, F⟩ := t.d_l_next
  refine ⟨_, fd, ["_law_script", "_law_m", "_law_many"], fn_ok F sc_l_next (by decide) (by decide) (fun cdv A outer s H E hr => ?_), t.g_l_next, F.kp, F.bindsN fun _ _ _ _ _ _ us hl => match us, hl with | [_, _, _], _ => rfl⟩
  have hu := room_u hr
  exact (ss_cons (si' (se_bin or_add (ix (va 1) se_int) se_int) (va 1) se_int) (ss_cons (ss_ret (cf (ok_l_mixed t) (hr.mono (by first | omega | decide)) (takes_of rfl rfl rfl rfl) (ac (va 0) (ac (ix (va 1) se_int) (ac (va 2) an))))) ss_nil))
theorem sc_l_saying : FnScope ["_law_script", "_law_m", "_law_names_here", "_law_deep_here", "_law_left", "_law_way", "_law_one"] ["_law_script", "_law_m", "_law_names_here", "_law_deep_here", "_law_left"] (defScope s_l_saying) := ⟨rfl, rfl, rfl, by decide +kernel, rfl, by decide +kernel, by decide +kernel⟩
theorem okR_l_saying (t : Tx K mg) : ∀ n, OkF P w K mg base "_law_saying" (3 + n) (R_l_saying n)
  | 0 => by
    obtain ⟨fd, F⟩ := t.d_l_saying
    exact ⟨_, fd, ["_law_script", "_law_m", "_law_names_here", "_law_deep_here", "_law_left"], fn_bad (N := ["_law_script", "_law_m", "_law_names_here", "_law_deep_here", "_law_left"]), t.g_l_saying, F.kp, F.bindsN fun _ _ _ _ _ _ us hl => match us, hl with | [_, _, _, _, _], _ => rfl⟩
  | n + 1 => by
    have ih := okR_l_saying t n
    exact by
      obtain ⟨fd, F⟩ := t.d_l_saying
      refine ⟨_, fd, ["_law_script", "_law_m", "_law_names_here", "_law_deep_here", "_law_left"], fn_ok F sc_l_saying (by decide) (by decide) (fun cdv A outer s H E hr => ?_), t.g_l_saying, F.kp, F.bindsN fun _ _ _ _ _ _ us hl => match us, hl with | [_, _, _, _, _], _ => rfl⟩
      have hr : Room (3 + n) _ := hr
      have hu := room_u hr
      exact (ss_cons (st sc_l_saying.nd (by decide) (cf (ok_l_next t) (hr.mono (by first | omega | decide)) (takes_of rfl rfl rfl rfl) (ac (va 0) (ac (va 1) (ac se_int an))))) (ss_cons (ss_if (sw_or (cmB (or_eq (hu64 hu)) (va 3) se_int) (sw_or1 (cmB (or_lt) (va 5) se_int))).sb (ss_cons (ss_ret (se_tup (ac se_str (ac (ix (va 2) (cf (ok_l_next t) (hr.mono (by first | omega | decide)) (takes_of rfl rfl rfl rfl) (ac (va 0) (ac (va 1) (ac (cb (cr_len) t.n_len (ac (va 2) an)) an))))) an)))) ss_nil) ss_nil) (ss_cons (ss_if (cmB (or_eq (hu64 hu)) (va 5) se_int) (ss_cons (ss_ret (se_tup (ac (ix (se_lst (ac se_str (ac se_str an))) (cf (ok_l_next t) (hr.mono (by first | omega | decide)) (takes_of rfl rfl rfl rfl) (ac (va 0) (ac (va 1) (ac se_int an))))) an))) ss_nil) ss_nil) (ss_cons (ss_if (sw_and (cmB (or_gt) (va 5) se_int) (sw_and1 (cmB (or_gt) (ix (va 4) se_int) se_int))).sb (ss_cons (si' (se_bin or_sub (ix (va 4) se_int) se_int) (va 4) se_int) (ss_cons (st sc_l_saying.nd (by decide) (cf ih (hr.mono (by first | omega | decide)) (takes_of rfl rfl rfl rfl) (ac (va 0) (ac (va 1) (ac (va 2) (ac (se_bin or_sub (va 3) se_int) (ac (va 4) an))))))) (ss_cons (ss_if (cmB (or_eq (hu64 hu)) (va 5) se_int) (ss_cons (ss_ret (se_tup (ac se_str (ac (va 6) (ac (cf ih (hr.mono (by first | omega | decide)) (takes_of rfl rfl rfl rfl) (ac (va 0) (ac (va 1) (ac (va 2) (ac (se_bin or_sub (va 3) se_int) (ac (va 4) an)))))) an))))) ss_nil) ss_nil) (ss_cons (ss_ret (se_tup (ac (ix (se_lst (ac se_str (ac se_str (ac se_str an)))) (se_bin or_sub (va 5) se_int)) (ac (va 6) an)))) ss_nil)))) ss_nil) (ss_cons (st sc_l_saying.nd (by decide) (cf ih (hr.mono (by first | omega | decide)) (takes_of rfl rfl rfl rfl) (ac (va 0) (ac (va 1) (ac (va 2) (ac (se_bin or_sub (va 3) se_int) (ac (va 4) an))))))) (ss_cons (ss_if (sw_or (cmB (or_eq (hu64 hu)) (va 5) se_int) (sw_or1 (cmB (or_gt) (va 5) se_int))).sb (ss_cons (ss_ret (se_tup (ac se_str (ac (va 6) an)))) ss_nil) ss_nil) (ss_cons (ss_ret (se_tup (ac (ix (se_lst (ac se_str (ac se_str (ac se_str (ac se_str an))))) (se_bin or_sub (va 5) se_int)) (ac (va 6) (ac (cf ih (hr.mono (by first | omega | decide)) (takes_of rfl rfl rfl rfl) (ac (va 0) (ac (va 1) (ac (va 2) (ac (se_bin or_sub (va 3) se_int) (ac (va 4) an)))))) an))))) ss_nil)))))))
theorem ok_l_saying (t : Tx K mg) : OkF P w K mg base "_law_saying" 27 F_l_saying := (okR_l_saying t 24)
theorem sc_l_names : FnScope ["_law_script", "_law_m", "_law_some", "_law_turn", "_law_row", "_law_foe", "_law_friend"] ["_law_script", "_law_m"] (defScope s_l_names) := ⟨rfl, rfl, rfl, by decide +kernel, rfl, by decide +kernel, by decide +kernel⟩
theorem ok_l_names (t : Tx K mg) : OkF P w K mg base "_law_names" 4 F_l_names := by
  obtain ⟨fd, F⟩ := t.d_l_names
  refine ⟨_, fd, ["_law_script", "_law_m"], fn_ok F sc_l_names (by decide) (by decide) (fun cdv A outer s H E hr => ?_), t.g_l_names, F.kp, F.bindsN fun _ _ _ _ _ _ us hl => match us, hl with | [_, _], _ => rfl⟩
  have hu := room_u hr
  exact (ss_cons (st sc_l_names.nd (by decide) (se_lst (ac se_str (ac se_str (ac se_str (ac se_str (ac se_str (ac se_str (ac se_str (ac se_str an)))))))))) (ss_cons (st sc_l_names.nd (by decide) (cf (ok_l_next t) (hr.mono (by first | omega | decide)) (takes_of rfl rfl rfl rfl) (ac (va 0) (ac (va 1) (ac se_int an))))) (ss_cons (st sc_l_names.nd (by decide) (se_bin or_add (sl (va 2) (so_some (va 3)) so_none) (sl (va 2) so_none (so_some (va 3))))) (ss_cons (st sc_l_names.nd (by decide) (se_bin or_add se_int (cf (ok_l_next t) (hr.mono (by first | omega | decide)) (takes_of rfl rfl rfl rfl) (ac (va 0) (ac (va 1) (ac se_int an)))))) (ss_cons (st sc_l_names.nd (by decide) (se_bin or_add se_int (cf (ok_l_next t) (hr.mono (by first | omega | decide)) (takes_of rfl rfl rfl rfl) (ac (va 0) (ac (va 1) (ac se_int an)))))) (ss_cons (ss_ret (se_tup (ac (ct (cr_tuple) t.n_tuple (ac (sl (va 4) so_none (so_some (va 5))) an)) (ac (ct (cr_tuple) t.n_tuple (ac (sl (va 4) (so_some (va 5)) (so_some (se_bin or_add (va 5) (va 6)))) an)) an)))) ss_nil))))))
theorem sc_l_word : FnScope ["_law_text_here", "_law_at", "_law_end"] ["_law_text_here", "_law_at"] (defScope s_l_word) := ⟨rfl, rfl, rfl, by decide +kernel, rfl, by decide +kernel, by decide +kernel⟩
theorem ok_l_word (t : Tx K mg) : OkF P w K mg base "_law_word" 1 F_l_word := by
  obtain ⟨fd, F⟩ := t.d_l_word
  refine ⟨_, fd, ["_law_text_here", "_law_at"], fn_ok F sc_l_word (by decide) (by decide) (fun cdv A outer s H E hr => ?_), t.g_l_word, F.kp, F.bindsN fun _ _ _ _ _ _ us hl => match us, hl with | [_, _], _ => rfl⟩
  have hu := room_u hr
  exact (ss_cons (st sc_l_word.nd (by decide) (va 1)) (ss_cons (whU (passes_of rfl) (sw_and (cmB (or_lt) (va 2) (cb (cr_len) t.n_len (ac (va 0) an))) (sw_and1 (cmB (or_in hu) (ix (va 0) (va 2)) se_str))).sb (ss_cons (st sc_l_word.nd (by decide) (se_bin or_add (va 2) se_int)) ss_nil)) (ss_cons (ss_ret (sl (va 0) (so_some (va 1)) (so_some (va 2)))) ss_nil)))
theorem sc_l_parsed : FnScope ["_law_text_here", "_law_at", "_law_names_here", "_law_one", "_law_word_here", "_law_end", "_law_other"] ["_law_text_here", "_law_at", "_law_names_here"] (defScope s_l_parsed) := ⟨rfl, rfl, rfl, by decide +kernel, rfl, by decide +kernel, by decide +kernel⟩
theorem okR_l_parsed (t : Tx K mg) : ∀ n, OkF P w K mg base "_law_parsed" (1 + n) (R_l_parsed n)
  | 0 => by
    obtain ⟨fd, F⟩ := t.d_l_parsed
    exact ⟨_, fd, ["_law_text_here", "_law_at", "_law_names_here"], fn_bad (N := ["_law_text_here", "_law_at", "_law_names_here"]), t.g_l_parsed, F.kp, F.bindsN fun _ _ _ _ _ _ us hl => match us, hl with | [_, _, _], _ => rfl⟩
  | n + 1 => by
    have ih := okR_l_parsed t n
    exact by
      obtain ⟨fd, F⟩ := t.d_l_parsed
      refine ⟨_, fd, ["_law_text_here", "_law_at", "_law_names_here"], fn_ok F sc_l_parsed (by decide) (by decide) (fun cdv A outer s H E hr => ?_), t.g_l_parsed, F.kp, F.bindsN fun _ _ _ _ _ _ us hl => match us, hl with | [_, _, _], _ => rfl⟩
      have hr : Room (1 + n) _ := hr
      have hu := room_u hr
      exact (ss_cons (ss_if (cmB (or_eq (hu64 hu)) (sl (va 0) (so_some (va 1)) (so_some (se_bin or_add (va 1) se_int))) se_str) (ss_cons (st sc_l_parsed.nd (by decide) (cf ih (hr.mono (by first | omega | decide)) (takes_of rfl rfl rfl rfl) (ac (va 0) (ac (se_bin or_add (va 1) se_int) (ac (va 2) an))))) (ss_cons (ss_if (sw_or (cmB (or_isN) (va 3) se_non) (sw_or1 (cmB (or_ne (hu64 hu)) (sl (va 0) (so_some (ix (va 3) se_int)) (so_some (se_bin or_add (ix (va 3) se_int) se_int))) se_str))).sb (ss_cons (ss_ret se_non) ss_nil) ss_nil) (ss_cons (st sc_l_parsed.nd (by decide) (cf (ok_l_word t) (hr.mono (by first | omega | decide)) (takes_of rfl rfl rfl rfl) (ac (va 0) (ac (se_bin or_add (ix (va 3) se_int) se_int) an)))) (ss_cons (st sc_l_parsed.nd (by decide) (se_bin or_add (se_bin or_add (ix (va 3) se_int) se_int) (cb (cr_len) t.n_len (ac (va 4) an)))) (ss_cons (ss_if (sw_or (cmB (or_notIn hu) (va 4) (se_tup (ac se_str (ac se_str (ac se_str (ac se_str (ac se_str an))))))) (sw_or1 (cmB (or_ne (hu64 hu)) (sl (va 0) (so_some (va 5)) (so_some (se_bin or_add (va 5) se_int))) se_str))).sb (ss_cons (ss_ret se_non) ss_nil) ss_nil) (ss_cons (st sc_l_parsed.nd (by decide) (cf ih (hr.mono (by first | omega | decide)) (takes_of rfl rfl rfl rfl) (ac (va 0) (ac (se_bin or_add (va 5) se_int) (ac (va 2) an))))) (ss_cons (ss_if (sw_or (cmB (or_isN) (va 6) se_non) (sw_or1 (cmB (or_ne (hu64 hu)) (sl (va 0) (so_some (ix (va 6) se_int)) (so_some (se_bin or_add (ix (va 6) se_int) se_int))) se_str))).sb (ss_cons (ss_ret se_non) ss_nil) ss_nil) (ss_cons (ss_ret (se_tup (ac (se_tup (ac (va 4) (ac (ix (va 3) se_int) (ac (ix (va 6) se_int) an)))) (ac (se_bin or_add (ix (va 6) se_int) se_int) an)))) ss_nil)))))))) ss_nil) (ss_cons (st sc_l_parsed.nd (by decide) (cf (ok_l_word t) (hr.mono (by first | omega | decide)) (takes_of rfl rfl rfl rfl) (ac (va 0) (ac (va 1) an)))) (ss_cons (ss_if (sw_and (cmB (or_in hu) (va 4) (se_tup (ac se_str (ac se_str (ac se_str (ac se_str an)))))) (sw_and1 (cmB (or_eq (hu64 hu)) (sl (va 0) (so_some (se_bin or_add (va 1) (cb (cr_len) t.n_len (ac (va 4) an)))) (so_some (se_bin or_add (se_bin or_add (va 1) (cb (cr_len) t.n_len (ac (va 4) an))) se_int))) se_str))).sb (ss_cons (st sc_l_parsed.nd (by decide) (cf ih (hr.mono (by first | omega | decide)) (takes_of rfl rfl rfl rfl) (ac (va 0) (ac (se_bin or_add (se_bin or_add (va 1) (cb (cr_len) t.n_len (ac (va 4) an))) se_int) (ac (va 2) an))))) (ss_cons (ss_if (cmB (or_isN) (va 3) se_non) (ss_cons (ss_ret se_non) ss_nil) ss_nil) (ss_cons (ss_ret (se_tup (ac (se_tup (ac (va 4) (ac (ix (va 3) se_int) an))) (ac (ix (va 3) se_int) an)))) ss_nil))) ss_nil) (ss_cons (ss_if (sw_or (cmB (or_eq (hu64 hu)) (va 4) se_str) (sw_or1 (cmB (or_eq (hu64 hu)) (va 4) se_str))).sb (ss_cons (ss_ret (se_tup (ac (se_tup (ac (va 4) an)) (ac (se_bin or_add (va 1) (cb (cr_len) t.n_len (ac (va 4) an))) an)))) ss_nil) ss_nil) (ss_cons (ss_if (cmB (or_notIn hu) (va 4) (va 2)) (ss_cons (ss_ret se_non) ss_nil) ss_nil) (ss_cons (ss_ret (se_tup (ac (se_tup (ac se_str (ac (va 4) an))) (ac (se_bin or_add (va 1) (cb (cr_len) t.n_len (ac (va 4) an))) an)))) ss_nil))))))
theorem ok_l_parsed (t : Tx K mg) : OkF P w K mg base "_law_parsed" 151 F_l_parsed := (okR_l_parsed t 150)
theorem sc_l_deep : FnScope ["_law_saying_here", "_law_part"] ["_law_saying_here"] (defScope s_l_deep) := ⟨rfl, rfl, rfl, by decide +kernel, rfl, by decide +kernel, by decide +kernel⟩
theorem okR_l_deep (t : Tx K mg) : ∀ n, OkF P w K mg base "_law_deep" (0 + n) (R_l_deep_k31 n)
  | 0 => by
    obtain ⟨fd, F⟩ := t.d_l_deep
    exact ⟨_, fd, ["_law_saying_here"], fn_bad (N := ["_law_saying_here"]), t.g_l_deep, F.kp, F.bindsN fun _ _ _ _ _ _ us hl => match us, hl with | [_], _ => rfl⟩
  | n + 1 => by
    have ih := okR_l_deep t n
    exact by
      obtain ⟨fd, F⟩ := t.d_l_deep
      refine ⟨_, fd, ["_law_saying_here"], fn_ok F sc_l_deep (by decide) (by decide) (fun cdv A outer s H E hr => ?_), t.g_l_deep, F.kp, F.bindsN fun _ _ _ _ _ _ us hl => match us, hl with | [_], _ => rfl⟩
      have hr : Room (0 + n) _ := hr
      have hu := room_u hr
      exact (ss_cons (ss_if (cmB (or_in hu) (ix (va 0) se_int) (se_tup (ac se_str (ac se_str (ac se_str an))))) (ss_cons (ss_ret se_int) ss_nil) ss_nil) (ss_cons (ss_ret (se_bin or_add se_int (cb (cr_maxD rfl) t.n_max (ac (se_comp (own := [("_law_part", 1)]) rfl sc_l_deep.nd (si_seq (sl (va 0) (so_some se_int) so_none)) (blkOk_by (N := ["_law_saying_here", "_law_part"]) (sc := defScope s_l_deep) (by decide +kernel)) (fun _ _ _ _ _ => (gn (pin := notOwn 2 [1]) 1 sc_l_deep.nd (by decide))) (fun _ _ _ _ _ => sc_nil) (fun _ _ _ _ _ => (cf ih (hr.mono (by first | omega | decide)) takes0 (ac (va 1) an))) (by intro _; rfl)) an)))) ss_nil))
theorem ok_l_deep (t : Tx K mg) : OkF P w K mg base "_law_deep" 150 F_l_deep_k31 := (okR_l_deep t 150)
theorem sc_l_saying_of : FnScope ["_law_text_here", "_law_names_here", "_law_found"] ["_law_text_here", "_law_names_here"] (defScope s_l_saying_of) := ⟨rfl, rfl, rfl, by decide +kernel, rfl, by decide +kernel, by decide +kernel⟩
theorem ok_l_saying_of (t : Tx K mg) : OkF P w K mg base "_law_saying_of" 152 F_l_saying_of := by
  obtain ⟨fd, F⟩ := t.d_l_saying_of
  refine ⟨_, fd, ["_law_text_here", "_law_names_here"], fn_ok F sc_l_saying_of (by decide) (by decide) (fun cdv A outer s H E hr => ?_), t.g_l_saying_of, F.kp, F.bindsN fun _ _ _ _ _ _ us hl => match us, hl with | [_, _], _ => rfl⟩
  have hu := room_u hr
  exact (ss_cons (st sc_l_saying_of.nd (by decide) (cf (ok_l_parsed t) (hr.mono (by first | omega | decide)) (takes_of rfl rfl rfl rfl) (ac (va 0) (ac se_int (ac (va 1) an))))) (ss_cons (ss_if (sw_or (cmB (or_isN) (va 2) se_non) (sw_or (cmB (or_ne (hu64 hu)) (ix (va 2) se_int) (cb (cr_len) t.n_len (ac (va 0) an))) (sw_or1 (cmB (or_gt) (cf (ok_l_deep t) (hr.mono (by first | omega | decide)) (takes_of rfl rfl rfl rfl) (ac (ix (va 2) se_int) an)) se_int)))).sb (ss_cons (ss_ret se_non) ss_nil) ss_nil) (ss_cons (ss_ret (ix (va 2) se_int)) ss_nil)))
theorem sc_l_text : FnScope ["_law_saying_here"] ["_law_saying_here"] (defScope s_l_text) := ⟨rfl, rfl, rfl, by decide +kernel, rfl, by decide +kernel, by decide +kernel⟩
theorem okR_l_text (t : Tx K mg) : ∀ n, OkF P w K mg base "_law_text" (0 + n) (R_l_text n)
  | 0 => by
    obtain ⟨fd, F⟩ := t.d_l_text
    exact ⟨_, fd, ["_law_saying_here"], fn_bad (N := ["_law_saying_here"]), t.g_l_text, F.kp, F.bindsN fun _ _ _ _ _ _ us hl => match us, hl with | [_], _ => rfl⟩
  | n + 1 => by
    have ih := okR_l_text t n
    exact by
      obtain ⟨fd, F⟩ := t.d_l_text
      refine ⟨_, fd, ["_law_saying_here"], fn_ok F sc_l_text (by decide) (by decide) (fun cdv A outer s H E hr => ?_), t.g_l_text, F.kp, F.bindsN fun _ _ _ _ _ _ us hl => match us, hl with | [_], _ => rfl⟩
      have hr : Room (0 + n) _ := hr
      have hu := room_u hr
      exact (ss_cons (ss_if (cmB (or_eq (hu64 hu)) (ix (va 0) se_int) se_str) (ss_cons (ss_ret (ix (va 0) se_int)) ss_nil) ss_nil) (ss_cons (ss_if (cmB (or_eq (hu64 hu)) (cb (cr_len) t.n_len (ac (va 0) an)) se_int) (ss_cons (ss_ret (ix (va 0) se_int)) ss_nil) ss_nil) (ss_cons (ss_if (cmB (or_eq (hu64 hu)) (cb (cr_len) t.n_len (ac (va 0) an)) se_int) (ss_cons (ss_ret (se_bin or_add (se_bin or_add (ix (va 0) se_int) se_str) (cf ih (hr.mono (by first | omega | decide)) (takes_of rfl rfl rfl rfl) (ac (ix (va 0) se_int) an)))) ss_nil) ss_nil) (ss_cons (ss_ret (se_bin or_add (se_bin or_add (se_bin or_add (se_bin or_add (se_bin or_add (se_bin or_add se_str (cf ih (hr.mono (by first | omega | decide)) (takes_of rfl rfl rfl rfl) (ac (ix (va 0) se_int) an))) se_str) (ix (va 0) se_int)) se_str) (cf ih (hr.mono (by first | omega | decide)) (takes_of rfl rfl rfl rfl) (ac (ix (va 0) se_int) an))) se_str)) ss_nil))))
theorem ok_l_text (t : Tx K mg) : OkF P w K mg base "_law_text" 24 F_l_text := (okR_l_text t 24)
theorem sc_l_spoilt : FnScope ["_law_text_here", "_law_cell", "_law_more", "_law_at", "_law_sign", "_law_way", "_law_end"] ["_law_text_here", "_law_cell", "_law_more"] (defScope s_l_spoilt) := ⟨rfl, rfl, rfl, by decide +kernel, rfl, by decide +kernel, by decide +kernel⟩
theorem ok_l_spoilt (t : Tx K mg) : OkF P w K mg base "_law_spoilt" 1 F_l_spoilt_k31 := by
  obtain ⟨fd, F⟩ := t.d_l_spoilt
  refine ⟨_, fd, ["_law_text_here", "_law_cell", "_law_more"], fn_ok F sc_l_spoilt (by decide) (by decide) (fun cdv A outer s H E hr => ?_), t.g_l_spoilt, F.kp, F.bindsN fun _ _ _ _ _ _ us hl => match us, hl with | [_, _, _], _ => rfl⟩
  have hu := room_u hr
  exact (ss_cons (st sc_l_spoilt.nd (by decide) (se_bin or_mod (va 1) (se_bin or_add (cb (cr_len) t.n_len (ac (va 0) an)) se_int))) (ss_cons (st sc_l_spoilt.nd (by decide) (ix se_str (se_bin or_mod (se_bin or_fdv (va 1) se_int) se_int))) (ss_cons (st sc_l_spoilt.nd (by decide) (se_bin or_mod (se_bin or_fdv (va 1) se_int) se_int)) (ss_cons (ss_if (cmB (or_eq (hu64 hu)) (va 5) se_int) (ss_cons (ss_ret (se_bin or_add (se_bin or_add (sl (va 0) so_none (so_some (va 3))) (va 4)) (sl (va 0) (so_some (va 3)) so_none))) ss_nil) ss_nil) (ss_cons (ss_if (cmB (or_eq (hu64 hu)) (va 5) se_int) (ss_cons (ss_ret (se_bin or_add (sl (va 0) so_none (so_some (va 3))) (sl (va 0) (so_some (se_bin or_add (va 3) se_int)) so_none))) ss_nil) ss_nil) (ss_cons (ss_if (cmB (or_eq (hu64 hu)) (va 5) se_int) (ss_cons (ss_ret (se_bin or_add (se_bin or_add (sl (va 0) so_none (so_some (va 3))) (va 4)) (sl (va 0) (so_some (se_bin or_add (va 3) se_int)) so_none))) ss_nil) ss_nil) (ss_cons (ss_if (cmB (or_eq (hu64 hu)) (va 5) se_int) (ss_cons (st sc_l_spoilt.nd (by decide) (se_bin or_add (va 3) (se_bin or_mod (se_bin or_fdv (va 1) se_int) se_int))) (ss_cons (ss_ret (se_bin or_add (sl (va 0) so_none (so_some (va 3))) (sl (va 0) (so_some (va 6)) so_none))) ss_nil)) ss_nil) (ss_cons (ss_if (cmB (or_eq (hu64 hu)) (va 5) se_int) (ss_cons (ss_ret (ix (se_lst (ac (se_bin or_add (va 0) (va 0)) (ac (se_bin or_add (sl (va 0) (so_some (va 3)) so_none) (sl (va 0) so_none (so_some (va 3)))) (ac (se_bin or_add se_str (va 0)) (ac (se_bin or_add (va 0) se_str) an))))) (se_bin or_mod (va 1) se_int))) ss_nil) ss_nil) (ss_cons (ss_ret (ix (se_bin or_add (va 2) (se_lst (ac se_non (ac se_int (ac (se_lst (ac (va 0) an)) (ac se_str an)))))) (se_bin or_mod (va 1) (se_bin or_add (cb (cr_len) t.n_len (ac (va 2) an)) se_int)))) ss_nil)))))))))
theorem sc_law : FnScope ["_law_script", "_law_m", "_law_foe", "_law_friend", "_law_names_here", "_law_saying_here", "_law_text_here", "_law_more", "_law_due", "_law_answer", "e"] ["_law_script"] (defScope s_law) := ⟨rfl, rfl, rfl, by decide +kernel, rfl, by decide +kernel, by decide +kernel⟩
theorem fn_law (t : Tx K mg) {fd : FuncData} (F : FunD K "law" "law" (defArgs s_law) (defBody s_law) (defScope s_law) [] [] (He.fAd K ("law", none)) fd) : FnOk P w K mg base CX0 153 (He.fAd K ("law", none)) fd ["_law_script"] (spF K fun ts => noE (F_law_k31 ts)) := by
  refine fn_ok0 F sc_law (by decide) (by decide) (fun cdv A outer s H E hr => ?_)
  have hu := room_u hr
  exact (ss_cons (st sc_law.nd (by decide) (se_lst (ac se_int an))) (ss_cons (sg (cf (ok_l_names t) (hr.mono (by first | omega | decide)) takes0 (ac (va 0) (ac (va 1) an))) (gT (gc (gn 2 sc_law.nd (by decide)) (gc (gn 3 sc_law.nd (by decide)) sg_nil)))) (ss_cons (st sc_law.nd (by decide) (se_bin or_add (va 2) (va 3))) (ss_cons (st sc_law.nd (by decide) (cf (ok_l_saying t) (hr.mono (by first | omega | decide)) takes0 (ac (va 0) (ac (va 1) (ac (va 4) (ac se_int (ac (se_lst (ac se_int an)) an))))))) (ss_cons (st sc_law.nd (by decide) (cf (ok_saying_text t) (hr.mono (by first | omega | decide)) takes0 (ac (va 5) an))) (ss_cons (ss_if (sw_or (sb_not (tv (isi t.n_isinstance t.n_str (va 6)))) (sw_or (cmB (or_ne (hu64 hu)) (va 6) (cf (ok_l_text t) (hr.mono (by first | omega | decide)) takes0 (ac (va 5) an))) (sw_or1 (cmB (or_ne (hu64 hu)) (cf (ok_read_saying t) (hr.mono (by first | omega | decide)) takes0 (ac (va 4) (ac (va 6) an))) (va 5))))).sb (ss_cons (ss_ret se_bl) ss_nil) ss_nil) (ss_cons (st sc_law.nd (by decide) (se_lst (ac (se_bin or_add (se_bin or_mulS se_str se_int) (ix (va 4) se_int)) (ac (se_bin or_add (se_bin or_mulS se_str se_int) (ix (va 4) se_int)) (ac se_str (ac se_str (ac se_str (ac se_str an)))))))) (ss_cons (ex (mExt (va 7) (ac (se_lst (ac se_str (ac se_str an))) an))) (ss_cons (st sc_law.nd (by decide) (cf (ok_l_spoilt t) (hr.mono (by first | omega | decide)) takes0 (ac (va 6) (ac (cf (ok_l_mixed t) (hr.mono (by first | omega | decide)) takes0 (ac (va 0) (ac se_int (ac (se_bin or_pow se_int se_int) an)))) (ac (va 7) an))))) (ss_cons (st sc_law.nd (by decide) se_non) (ss_cons (ss_if (tv (isi t.n_isinstance t.n_str (va 6))) (ss_cons (st sc_law.nd (by decide) (cf (ok_l_saying_of t) (hr.mono (by first | omega | decide)) takes0 (ac (va 6) (ac (va 4) an)))) ss_nil) ss_nil) (ss_cons (st sc_law.nd (by decide) se_non) (ss_cons (ss_tryX (h := fun a x => (xSeq (xIf (bOr (bNot (sB (sUn (isX a x "LossError") (sVar 10)))) (bOr (bNot (sB (sUn (isX a x "ValueError") (sVar 10)))) (sB (sUn (isX a x "NoSaying") (sVar 10))))) (xSeq (xRet 1 (sC (.bl false))) xNx) xNx) xNx)) rfl rfl sc_law.nd rfl rfl (by decide) ⟨rfl, by decide, .inl t.e_NoText⟩ takes0 t.exf (by decide) (by decide) (fun W pn xe tk hpo => (ss_cons (st sc_law.nd (by decide) (cf (ok_read_saying t) (hr.mono (by first | omega | decide)) tk (ac (va 4) (ac (va 6) an)))) ss_nil)) (fun a oe cls d pn x hz hf hx hcl hd => (ss_cons (ss_if (sw_or (sb_not (tv (se_isX (i := 10) t.exf hz hf hx hcl hd (by decide) t.n_isinstance (.inr ⟨by decide, t.e_LossError⟩) rfl (.inl rfl) (by decide) (by decide) rfl rfl (by decide) rfl))) (sw_or (sb_not (tv (se_isX (i := 10) t.exf hz hf hx hcl hd (by decide) t.n_isinstance (.inl ⟨rfl, t.n_ValueError⟩) rfl (.inl rfl) (by decide) (by decide) rfl rfl (by decide) rfl))) (sw_or1 (tv (se_isX (i := 10) t.exf hz hf hx hcl hd (by decide) t.n_isinstance (.inr ⟨by decide, t.e_NoSaying⟩) rfl (.inl rfl) (by decide) (by decide) rfl rfl (by decide) rfl))))).sb (ss_cons (ss_ret se_bl) ss_nil) ss_nil) ss_nil))) (ss_cons (ss_ret (cm (or_eq (hu64 hu)) (va 9) (va 8))) ss_nil))))))))))))))
end
theorem tx_of {w : World} {K : PySem.W.Frag} {h : Heap} {mg : Str → Option Value} (X : K.In h) (G : h.Ns mainGlobals mg) (c : He.SaysX faL fnL [] [] exaL w h K) : Tx K mg where
  n_ValueError := He.free_ok X G (c.t.d.fact 0 (f := .free "ValueError") rfl)
  n_all := He.free_ok X G (c.t.d.fact 1 (f := .free "all") rfl)
  n_int := He.free_ok X G (c.t.d.fact 2 (f := .free "int") rfl)
  n_isinstance := He.free_ok X G (c.t.d.fact 3 (f := .free "isinstance") rfl)
  n_len := He.free_ok X G (c.t.d.fact 4 (f := .free "len") rfl)
  n_max := He.free_ok X G (c.t.d.fact 5 (f := .free "max") rfl)
  n_range := He.free_ok X G (c.t.d.fact 6 (f := .free "range") rfl)
  n_str := He.free_ok X G (c.t.d.fact 7 (f := .free "str") rfl)
  n_tuple := He.free_ok X G (c.t.d.fact 8 (f := .free "tuple") rfl)
  g_is_saying := He.glo_ok X G (c.t.d.fact 9 (f := .glo "is_saying") rfl)
  g_saying_text := He.glo_ok X G (c.t.d.fact 10 (f := .glo "saying_text") rfl)
  g_middle := He.glo_ok X G (c.t.d.fact 11 (f := .glo "middle") rfl)
  g_parsed := He.glo_ok X G (c.t.d.fact 12 (f := .glo "parsed") rfl)
  g_saying_of := He.glo_ok X G (c.t.d.fact 13 (f := .glo "saying_of") rfl)
  g_read_saying := He.glo_ok X G (c.t.d.fact 14 (f := .glo "read_saying") rfl)
  g_l_cell_at := He.glo_ok X G (c.t.d.fact 15 (f := .glo "_law_cell_at") rfl)
  g_l_mixed := He.glo_ok X G (c.t.d.fact 16 (f := .glo "_law_mixed") rfl)
  g_l_next := He.glo_ok X G (c.t.d.fact 17 (f := .glo "_law_next") rfl)
  g_l_saying := He.glo_ok X G (c.t.d.fact 18 (f := .glo "_law_saying") rfl)
  g_l_names := He.glo_ok X G (c.t.d.fact 19 (f := .glo "_law_names") rfl)
  g_l_word := He.glo_ok X G (c.t.d.fact 20 (f := .glo "_law_word") rfl)
  g_l_parsed := He.glo_ok X G (c.t.d.fact 21 (f := .glo "_law_parsed") rfl)
  g_l_deep := He.glo_ok X G (c.t.d.fact 22 (f := .glo "_law_deep") rfl)
  g_l_saying_of := He.glo_ok X G (c.t.d.fact 23 (f := .glo "_law_saying_of") rfl)
  g_l_text := He.glo_ok X G (c.t.d.fact 24 (f := .glo "_law_text") rfl)
  g_l_spoilt := He.glo_ok X G (c.t.d.fact 25 (f := .glo "_law_spoilt") rfl)
  g_law := He.glo_ok X G (c.t.d.fact 26 (f := .glo "law") rfl)
  d_is_saying := c.t.d.def_ 0 (d := dd_is_saying) rfl
  d_saying_text := c.t.d.def_ 1 (d := dd_saying_text) rfl
  d_middle := c.t.d.def_ 2 (d := dd_middle) rfl
  d_parsed := c.t.d.def_ 3 (d := dd_parsed) rfl
  d_saying_of := c.t.d.def_ 4 (d := dd_saying_of) rfl
  d_read_saying := c.t.d.def_ 5 (d := dd_read_saying) rfl
  d_l_cell_at := c.t.d.def_ 6 (d := dd_l_cell_at) rfl
  d_l_mixed := c.t.d.def_ 7 (d := dd_l_mixed) rfl
  d_l_next := c.t.d.def_ 8 (d := dd_l_next) rfl
  d_l_saying := c.t.d.def_ 9 (d := dd_l_saying) rfl
  d_l_names := c.t.d.def_ 10 (d := dd_l_names) rfl
  d_l_word := c.t.d.def_ 11 (d := dd_l_word) rfl
  d_l_parsed := c.t.d.def_ 12 (d := dd_l_parsed) rfl
  d_l_deep := c.t.d.def_ 13 (d := dd_l_deep) rfl
  d_l_saying_of := c.t.d.def_ 14 (d := dd_l_saying_of) rfl
  d_l_text := c.t.d.def_ 15 (d := dd_l_text) rfl
  d_l_spoilt := c.t.d.def_ 16 (d := dd_l_spoilt) rfl
  d_law := c.t.d.def_ 17 (d := dd_law) rfl
  c_DEPTH := He.int_ok X G (c.t.d.fact 27 (f := .int "DEPTH" 8) rfl)
  c_DOUBLE := ⟨_, He.glo_ok X G (c.t.d.fact 28 (f := .glo "DOUBLE") rfl), ktupB_ok (ex_at (He.ba c.more).1 (i := 0) rfl)⟩
  c_SINGLE := ⟨_, He.glo_ok X G (c.t.d.fact 29 (f := .glo "SINGLE") rfl), ktupB_ok (ex_at (He.ba c.more).1 (i := 1) rfl)⟩
  e_LossError := He.glo_ok X G (c.t.d.fact 30 (f := .glo "LossError") rfl)
  e_NoSaying := He.glo_ok X G (c.t.d.fact 31 (f := .glo "NoSaying") rfl)
  e_NoText := He.glo_ok X G (c.t.d.fact 32 (f := .glo "NoText") rfl)
  q_NoText := c.t.d.fact 33 (f := .exc "NoText") rfl
  exf := exF_of (He.ba c.more).2
theorem factsL {P : Program} {w : World} {K : PySem.W.Frag} {h : Heap} {mg : Str → Option Value} {f : Addr} (X : K.In h) (G : h.Ns mainGlobals mg) (hfa : mg ("law" : Str) = some (.ref f)) (c : He.SaysX faL fnL [] [] exaL w h K) :
    ∃ fd : FuncData, (∀ (s : Shared) (v : Value), BindsTo s fd ⟨[v], []⟩ [("_law_script", v)]) ∧ ∀ base : Heap, K.In base → base.Ns mainGlobals mg → FnOk P w K mg base CX0 153 f fd ["_law_script"] (spF K fun ts => noE (F_law_k31 ts)) := by
  have t := tx_of X G c
  obtain ⟨fd, F⟩ := t.d_law
  have e := hfa.symm.trans t.g_law
  cases e
  have b := FunD.bindsA (ps := ["_law_script"]) F fun _ _ _ _ _ _ us hl => match us, hl with | [_], _ => rfl
  refine ⟨fd, fun s v => b s [v] rfl, fun base _ _ => ?_⟩
  exact fn_law t F
end Lz
open PySem PySem.W PySem.Calls PyProof.Rows
theorem PySem.Challenge.cw_leastloss_k31_saying_texts_holds : PySem.Challenge.rw_leastloss_k31_saying_texts.Holds := by
  w_on; o_law
  refine HandSHeadRun.head_any (r := OpenLaw.row PySem.Challenge.rw_leastloss_k31_saying_texts) (q := view (OpenLaw.row PySem.Challenge.rw_leastloss_k31_saying_texts).prog [27]) (H := Lz.hkL) (ob := Lz.obL) (M := 12000) (loose := Lz.looseL) (d := HandSHeadRun.topDef (OpenLaw.row PySem.Challenge.rw_leastloss_k31_saying_texts).prog 27) (kwd := []) Lz.obL_eq
    (by kernel_rfl) (fun s => by kernel_rfl) Lz.runL (by kernel_rfl) (by kernel_rfl) (by kernel_rfl) (by rfl) (by first | assumption | decide +kernel) (by decide +kernel) ⟨rfl, rfl, rfl, rfl, rfl, by decide +kernel⟩ ?hw ?hc
  case hw => w_witness2
  case hc =>
    refine L2.walk_ofE (l := PySem.Challenge.rw_leastloss_k31_saying_texts) (n := 63) (k := 153) (x := "_law_script") (CX := L2.CX0) rfl (by decide) (by kernel_rfl) ⟨rfl, by decide, by decide⟩ ?F (fun _ _ _ _ z => z)
    intro w mg fa h Y G hmg0
    obtain ⟨K, KX, c⟩ := Y
    have hmg : mg ("law" : PySem.Str) = some (.ref fa) := by
      have e : (HandSHeadRun.topDef (OpenLaw.row PySem.Challenge.rw_leastloss_k31_saying_texts).prog 27).name = ("law" : PySem.Str) := by kernel_rfl
      rw [← e]
      exact hmg0
    obtain ⟨fd, hb, hF⟩ := Lz.factsL (P := (PySem.Challenge.rw_leastloss_k31_saying_texts).prog) (w := w) KX G hmg c
    exact ⟨K, fd, Lz.spF K fun ts => Lz.noE (Lz.F_law_k31 ts), KX, hb, fun H a ns hl hO hS => Lz.law_end0 hO hS (Nat.le_trans hl (by decide)) (Lz.law_k31 ns hl), hF⟩
#print axioms PySem.Challenge.cw_leastloss_k31_saying_texts_holds
