import PyProof.Rows.All
import HandS.ForMost
import HandS.Walk
import HandS.IsInst
import HandS.Flow
import HandS.TupAny
import HandS.Conv
import HandS.TryOnly
import HandS.Style
import HandS.ForExc
import HandS.ExcInit
import HandS.HotCalls
import KE.KExcIs
import KE.GoesMore
import HandS.Zip0
import HandS.Dict
import HandS.Zip
import HandS.WideBits
import PySem.Challenge.RW_fewbeside_k13_rows_of_two_places
import Wide.All
import OpenK.AllK
import Wide.FinOn
set_option Elab.async false
set_option linter.all false
set_option maxRecDepth 100000
set_option maxHeartbeats 4000000
set_option autoImplicit false
/-! DL1: values without addresses (D), how they lie in the abstract heap (Rep), slots and environments (Cfg). -/
namespace DL
open PySem L2
inductive D where
  | non
  | bl (b : Bool)
  | int (i : Int)
  | str (x : Str)
  | lst (xs : List D)
  | tup (xs : List D)
  | dK (kvs : List (Key × D))
  | dT (kvs : List (List Key × D))
  | ins (c : Nat) (fs : List (Str × D))
  | frl (xs : List D)
  | ty (n : String)
  | cls (c : Nat)
  | err (c : Nat) (fs : List (Str × D))
  deriving Inhabited
structure Wd where
  K : PySem.W.Frag
  cl : Nat → Addr
def KL (K : PySem.W.Frag) (a : Addr) (xs : List V) : Prop :=
  ∃ (o : Obj) (its : Array Value) (n : Nat), K.lookup a = some o ∧ o.cls = .type "list" ∧ o.dict = none ∧ o.data = .seq its n ∧ its.size ≤ sizeLine ∧ Vals xs its.toList
def KT (K : PySem.W.Frag) (a : Addr) (xs : List V) : Prop :=
  ∃ (o : Obj) (its : Array Value) (n : Nat), K.lookup a = some o ∧ o.cls = .type "tuple" ∧ o.data = .seq its n ∧ its.size ≤ sizeLine ∧ Vals xs its.toList
abbrev AS := Addr → Prop
/-- a caught exception: its class, its dict -/
def exh (a C dx : Addr) : HO := .ext fun h => ∃ (oe : Obj) (vs : Array Value), h.get? a = some oe ∧ oe.cls = .ref C ∧ oe.dict = some dx ∧ oe.data = .fields vs
def LsR (K : PySem.W.Frag) (H : Hp) (S : AS) (a : Addr) (xs : List V) : Prop := (¬ S a ∧ Rd H a (.lst xs)) ∨ KL K a xs
def TpR (K : PySem.W.Frag) (H : Hp) (S : AS) (a : Addr) (xs : List V) : Prop := (¬ S a ∧ Rd H a (.tup xs)) ∨ KT K a xs
theorem LsR.sq {K : PySem.W.Frag} {H : Hp} {S : AS} {a : Addr} {xs : List V} (h : LsR K H S a xs) : SqL K H a xs := by
  rcases h with ⟨_, h⟩ | h
  · exact Or.inl h
  · exact Or.inr h
theorem TpR.sq {K : PySem.W.Frag} {H : Hp} {S : AS} {a : Addr} {xs : List V} (h : TpR K H S a xs) : SqT K H a xs := by
  rcases h with ⟨_, h⟩ | h
  · exact Or.inl h
  · exact Or.inr h
mutual
inductive Rep (W : Wd) (H : Hp) (S : AS) : V → D → Prop
  | non : Rep W H S .non .non
  | bl (b : Bool) : Rep W H S (.bl b) (.bl b)
  | int (i : Int) : Rep W H S (.int i) (.int i)
  | str (x : Str) : Rep W H S (.str x) (.str x)
  | lst {a : Addr} {xs : List V} {ds : List D} : ¬ S a → H a = some (.lst xs) → RepL W H S xs ds → Rep W H S (.ref a) (.lst ds)
  | ty (n : String) : Rep W H S (.ty n) (.ty n)
  | cls (c : Nat) : Rep W H S (.ref (W.cl c)) (.cls c)
  | frl {a : Addr} {xs : List V} {ds : List D} : LsR W.K H S a xs → RepL W H S xs ds → Rep W H S (.ref a) (.frl ds)
  | tup {a : Addr} {xs : List V} {ds : List D} : ¬ S a → H a = some (.tup xs) → RepL W H S xs ds → Rep W H S (.ref a) (.tup ds)
  | dK {a : Addr} {kvs : List (Key × V)} {ds : List (Key × D)} : ¬ S a → H a = some (.dK kvs) → kvs.map Prod.fst = ds.map Prod.fst → RepL W H S (kvs.map Prod.snd) (ds.map Prod.snd) → Rep W H S (.ref a) (.dK ds)
  | dT {a : Addr} {kvs : List (List Key × V)} {ds : List (List Key × D)} : ¬ S a → H a = some (.dT kvs) → kvs.map Prod.fst = ds.map Prod.fst → RepL W H S (kvs.map Prod.snd) (ds.map Prod.snd) → Rep W H S (.ref a) (.dT ds)
  | err {a dx : Addr} {c : Nat} {fv : List (Str × V)} {ds : List (Str × D)} : ¬ S a → ¬ S dx → H a = some (exh a (W.cl c) dx) → H dx = some (.xd fv) → fv.map Prod.fst = ds.map Prod.fst → RepL W H S (fv.map Prod.snd) (ds.map Prod.snd) → Rep W H S (.ref a) (.err c ds)
  | ins {a dx : Addr} {c : Nat} {fs : List (Str × V)} {ds : List (Str × D)} : ¬ S a → H a = some (.ins (W.cl c) dx fs) → fs.map Prod.fst = ds.map Prod.fst → RepL W H S (fs.map Prod.snd) (ds.map Prod.snd) → Rep W H S (.ref a) (.ins c ds)
inductive RepL (W : Wd) (H : Hp) (S : AS) : List V → List D → Prop
  | nil : RepL W H S [] []
  | cons {v : V} {d : D} {vs : List V} {ds : List D} : Rep W H S v d → RepL W H S vs ds → RepL W H S (v :: vs) (d :: ds)
end
/-- the frame: what was not excluded stands as it stood; what is excluded now was so, or is new -/
structure Mv (S : AS) (H : Hp) (S' : AS) (H' : Hp) : Prop where
  ext : ∀ a o, H a = some o → ¬ S a → H' a = some o
  sub : ∀ a, S' a → S a ∨ H a = none
structure Fr (S : AS) (H : Hp) (S' : AS) (H' : Hp) : Prop extends Mv S H S' H' where
  grow : ∀ a, H a ≠ none → H' a ≠ none
theorem Fr.refl {S : AS} {H : Hp} : Fr S H S H := ⟨⟨fun _ _ h _ => h, fun _ h => .inl h⟩, fun _ h => h⟩
theorem Mv.not {S S' : AS} {H H' : Hp} (f : Mv S H S' H') {a : Addr} {o : HO} (h : H a = some o) (n : ¬ S a) : ¬ S' a := fun q => by
  rcases f.sub a q with q | q
  · exact n q
  · rw [q] at h; cases h
theorem Fr.trans {S S1 S2 : AS} {H H1 H2 : Hp} (f : Fr S H S1 H1) (g : Fr S1 H1 S2 H2) : Fr S H S2 H2 where
  ext a o h n := g.ext a o (f.ext a o h n) (f.toMv.not h n)
  sub a q := by
    rcases g.sub a q with q | q
    · exact f.sub a q
    · cases e : H a with
      | none => exact .inr rfl
      | some o =>
        refine .inl (Classical.byContradiction fun n => ?_)
        rw [f.ext a o e n] at q; cases q
  grow a h := g.grow a (f.grow a h)
theorem Fr.weak {S S' : AS} {H : Hp} (h : ∀ a, S' a → S a) : Fr S H S' H := ⟨⟨fun _ _ e _ => e, fun a q => .inl (h a q)⟩, fun _ q => q⟩
theorem Fr.ext0 {S : AS} {H H' : Hp} (h : ∀ a o, H a = some o → H' a = some o) : Fr S H S H' := ⟨⟨fun a o e _ => h a o e, fun _ q => .inl q⟩, fun a q e => q (by
  cases z : H a with
  | none => rfl
  | some o => rw [h a o z] at e; cases e)⟩
theorem Mv.rd {S S' : AS} {H H' : Hp} (f : Mv S H S' H') {a : Addr} {u : HO} (n : ¬ S a) (h : Rd H a u) : ¬ S' a ∧ Rd H' a u := by
  rcases h with h | ⟨o, h⟩
  · exact ⟨f.not h n, .inl (f.ext _ _ h n)⟩
  · exact ⟨f.not h n, .inr ⟨o, f.ext _ _ h n⟩⟩
theorem LsR.mv {K : PySem.W.Frag} {S S' : AS} {H H' : Hp} (f : Mv S H S' H') {a : Addr} {xs : List V} (h : LsR K H S a xs) : LsR K H' S' a xs := by
  rcases h with ⟨n, h⟩ | h
  · exact .inl (f.rd n h)
  · exact .inr h
theorem TpR.mv {K : PySem.W.Frag} {S S' : AS} {H H' : Hp} (f : Mv S H S' H') {a : Addr} {xs : List V} (h : TpR K H S a xs) : TpR K H' S' a xs := by
  rcases h with ⟨n, h⟩ | h
  · exact .inl (f.rd n h)
  · exact .inr h
mutual
theorem Rep.mv {W : Wd} {S S' : AS} {H H' : Hp} (f : Mv S H S' H') : ∀ {v : V} {d : D}, Rep W H S v d → Rep W H' S' v d
  | _, _, .non => .non
  | _, _, .bl b => .bl b
  | _, _, .int i => .int i
  | _, _, .str x => .str x
  | _, _, .lst n h r => .lst (f.not h n) (f.ext _ _ h n) (RepL.mv f r)
  | _, _, .ty n => .ty n
  | _, _, .cls c => .cls c
  | _, _, .frl h r => .frl (h.mv f) (RepL.mv f r)
  | _, _, .tup n h r => .tup (f.not h n) (f.ext _ _ h n) (RepL.mv f r)
  | _, _, .dK n h k r => .dK (f.not h n) (f.ext _ _ h n) k (RepL.mv f r)
  | _, _, .dT n h k r => .dT (f.not h n) (f.ext _ _ h n) k (RepL.mv f r)
  | _, _, .ins n h k r => .ins (f.not h n) (f.ext _ _ h n) k (RepL.mv f r)
  | _, _, .err n m h g k r => .err (f.not h n) (f.not g m) (f.ext _ _ h n) (f.ext _ _ g m) k (RepL.mv f r)
theorem RepL.mv {W : Wd} {S S' : AS} {H H' : Hp} (f : Mv S H S' H') : ∀ {vs : List V} {ds : List D}, RepL W H S vs ds → RepL W H' S' vs ds
  | _, _, .nil => .nil
  | _, _, .cons r t => .cons (Rep.mv f r) (RepL.mv f t)
end
theorem Rep.move {W : Wd} {S S' : AS} {H H' : Hp} (f : Fr S H S' H') {v : V} {d : D} (r : Rep W H S v d) : Rep W H' S' v d := r.mv f.toMv
theorem RepL.move {W : Wd} {S S' : AS} {H H' : Hp} (f : Fr S H S' H') {v : List V} {d : List D} (r : RepL W H S v d) : RepL W H' S' v d := r.mv f.toMv
theorem LsR.move {K : PySem.W.Frag} {S S' : AS} {H H' : Hp} (f : Fr S H S' H') {a : Addr} {xs : List V} (h : LsR K H S a xs) : LsR K H' S' a xs := h.mv f.toMv
theorem RepL.len {W : Wd} {H : Hp} {S : AS} : ∀ {vs : List V} {ds : List D}, RepL W H S vs ds → vs.length = ds.length
  | _, _, .nil => rfl
  | _, _, .cons _ t => congrArg (· + 1) t.len
theorem RepL.get {W : Wd} {H : Hp} {S : AS} : ∀ {vs : List V} {ds : List D}, RepL W H S vs ds → ∀ {i : Nat} {d : D}, ds[i]? = some d → ∃ v, vs[i]? = some v ∧ Rep W H S v d
  | _, _, .nil, i, d, h => by simp at h
  | _, _, .cons r t, 0, d, h => by simp at h; subst h; exact ⟨_, rfl, r⟩
  | _, _, .cons r t, i + 1, d, h => by
    obtain ⟨v, h1, h2⟩ := RepL.get t (i := i) (by simpa using h)
    exact ⟨v, by simpa using h1, h2⟩
theorem RepL.getV {W : Wd} {H : Hp} {S : AS} : ∀ {vs : List V} {ds : List D}, RepL W H S vs ds → ∀ {i : Nat} {v : V}, vs[i]? = some v → ∃ d, ds[i]? = some d ∧ Rep W H S v d
  | _, _, .nil, i, d, h => by simp at h
  | _, _, .cons r t, 0, d, h => by simp at h; subst h; exact ⟨_, rfl, r⟩
  | _, _, .cons r t, i + 1, d, h => by
    obtain ⟨v, h1, h2⟩ := RepL.getV t (i := i) (by simpa using h)
    exact ⟨v, by simpa using h1, h2⟩
theorem RepL.append {W : Wd} {H : Hp} {S : AS} : ∀ {vs us : List V} {ds es : List D}, RepL W H S vs ds → RepL W H S us es → RepL W H S (vs ++ us) (ds ++ es)
  | _, _, _, _, .nil, s => s
  | _, _, _, _, .cons r t, s => .cons r (RepL.append t s)
theorem RepL.snoc {W : Wd} {H : Hp} {S : AS} {vs : List V} {ds : List D} {v : V} {d : D} (h : RepL W H S vs ds) (r : Rep W H S v d) : RepL W H S (vs ++ [v]) (ds ++ [d]) := h.append (.cons r .nil)
theorem RepL.set {W : Wd} {H : Hp} {S : AS} {v : V} {d : D} (r : Rep W H S v d) : ∀ {vs : List V} {ds : List D} (i : Nat), RepL W H S vs ds → RepL W H S (vs.set i v) (ds.set i d)
  | _, _, _, .nil => .nil
  | _, _, 0, .cons _ t => .cons r t
  | _, _, i + 1, .cons q t => .cons q (RepL.set r i t)
theorem RepL.take {W : Wd} {H : Hp} {S : AS} : ∀ {vs : List V} {ds : List D} (n : Nat), RepL W H S vs ds → RepL W H S (vs.take n) (ds.take n)
  | _, _, 0, _ => .nil
  | _, _, _ + 1, .nil => .nil
  | _, _, n + 1, .cons r t => .cons r (RepL.take n t)
theorem RepL.drop {W : Wd} {H : Hp} {S : AS} : ∀ {vs : List V} {ds : List D} (n : Nat), RepL W H S vs ds → RepL W H S (vs.drop n) (ds.drop n)
  | _, _, 0, r => r
  | _, _, _ + 1, .nil => .nil
  | _, _, n + 1, .cons _ t => RepL.drop n t
theorem RepL.rep {W : Wd} {H : Hp} {S : AS} {vs : List V} {ds : List D} (h : RepL W H S vs ds) : ∀ n : Nat, RepL W H S (List.replicate n vs).flatten (List.replicate n ds).flatten
  | 0 => .nil
  | n + 1 => by
    rw [List.replicate_succ, List.replicate_succ, List.flatten_cons, List.flatten_cons]
    exact h.append (RepL.rep h n)
/-- the thing is taken out of the heap again: what stood beside it stands -/
def delH (H : Hp) (p : Addr) : Hp := fun a => if a = p then none else H a
theorem delH_ne {H : Hp} {p a : Addr} (h : a ≠ p) : delH H p a = H a := if_neg h
theorem delH_same {H : Hp} {p : Addr} : delH H p p = none := if_pos rfl
theorem delH_le {H : Hp} {p : Addr} : ∀ a o, delH H p a = some o → H a = some o := fun a o h => by
  unfold delH at h
  split at h
  · cases h
  · exact h
/-! ### slots -/
inductive Sl where
  | no | sh (d : D) | ow (d : D) | bo (d : D)
  deriving Inhabited
abbrev Env := List Sl
def OwnAt (W : Wd) (H : Hp) (S : AS) (p : Addr) : D → Prop
  | .lst ds => ∃ xs, H p = some (.lst xs) ∧ RepL W H S xs ds
  | .dK ds => ∃ kvs, H p = some (.dK kvs) ∧ kvs.map Prod.fst = ds.map Prod.fst ∧ RepL W H S (kvs.map Prod.snd) (ds.map Prod.snd)
  | .dT ds => ∃ kvs, H p = some (.dT kvs) ∧ kvs.map Prod.fst = ds.map Prod.fst ∧ RepL W H S (kvs.map Prod.snd) (ds.map Prod.snd)
  | .ins c ds => ∃ dx fs, H p = some (.ins (W.cl c) dx fs) ∧ fs.map Prod.fst = ds.map Prod.fst ∧ RepL W H S (fs.map Prod.snd) (ds.map Prod.snd)
  | _ => False
theorem OwnAt.dom {W : Wd} {H : Hp} {S : AS} {p : Addr} : ∀ {d : D}, OwnAt W H S p d → ∃ o, H p = some o
  | .lst _, ⟨_, h, _⟩ => ⟨_, h⟩
  | .dK _, ⟨_, h, _⟩ => ⟨_, h⟩
  | .dT _, ⟨_, h, _⟩ => ⟨_, h⟩
  | .ins _ _, ⟨_, _, h, _⟩ => ⟨_, h⟩
  | .non, h => h.elim
  | .bl _, h => h.elim
  | .int _, h => h.elim
  | .str _, h => h.elim
  | .tup _, h => h.elim
  | .frl _, h => h.elim
  | .ty _, h => h.elim
  | .cls _, h => h.elim
/-- the content moves; the object itself stands -/
theorem OwnAt.mv {W : Wd} {S S' : AS} {H H' : Hp} (f : Mv S H S' H') {p : Addr} (hp : ∀ o, H p = some o → H' p = some o) : ∀ {d : D}, OwnAt W H S p d → OwnAt W H' S' p d
  | .lst _, ⟨_, h, r⟩ => ⟨_, hp _ h, r.mv f⟩
  | .dK _, ⟨_, h, k, r⟩ => ⟨_, hp _ h, k, r.mv f⟩
  | .dT _, ⟨_, h, k, r⟩ => ⟨_, hp _ h, k, r.mv f⟩
  | .ins _ _, ⟨_, _, h, k, r⟩ => ⟨_, _, hp _ h, k, r.mv f⟩
  | .non, h => h.elim
  | .bl _, h => h.elim
  | .int _, h => h.elim
  | .str _, h => h.elim
  | .tup _, h => h.elim
  | .frl _, h => h.elim
  | .ty _, h => h.elim
  | .cls _, h => h.elim
theorem OwnAt.move {W : Wd} {S S' : AS} {H H' : Hp} (f : Fr S H S' H') {p : Addr} (hp : ∀ o, H p = some o → H' p = some o) {d : D} (h : OwnAt W H S p d) : OwnAt W H' S' p d := h.mv f.toMv hp
/-- an own thing, not excluded, is a value -/
theorem OwnAt.rep {W : Wd} {H : Hp} {S S' : AS} {p : Addr} (hs : ∀ a, S' a → S a) (hp : ¬ S' p) : ∀ {d : D}, OwnAt W H S p d → Rep W H S' (.ref p) d
  | .lst _, ⟨_, h, r⟩ => .lst hp h (r.move (.weak hs))
  | .dK _, ⟨_, h, k, r⟩ => .dK hp h k (r.move (.weak hs))
  | .dT _, ⟨_, h, k, r⟩ => .dT hp h k (r.move (.weak hs))
  | .ins _ _, ⟨_, _, h, k, r⟩ => .ins hp h k (r.move (.weak hs))
  | .non, h => h.elim
  | .bl _, h => h.elim
  | .int _, h => h.elim
  | .str _, h => h.elim
  | .tup _, h => h.elim
  | .frl _, h => h.elim
  | .ty _, h => h.elim
  | .cls _, h => h.elim
def Sl.own? : Sl → Option D
  | .ow d => some d
  | .bo d => some d
  | _ => none
def Owns (σ : L2.St) (Γ : Env) (i : Nat) (p : Addr) : Prop := σ[i]? = some (some (.ref p)) ∧ ∃ d, (Γ[i]?.bind Sl.own?) = some d
def Sx (S : AS) (σ : L2.St) (Γ : Env) : AS := fun a => S a ∨ ∃ i, Owns σ Γ i a
/-- an activation: what is fixed while a def runs -/
structure Act where
  W : Wd
  S : AS
  H : Hp
  B : Nat → Addr
  Bs : AS
structure Cfg (T : Act) (σ : L2.St) (H : Hp) (Γ : Env) : Prop where
  len : σ.length = Γ.length
  sh : ∀ (i : Nat) (d : D), Γ[i]? = some (.sh d) → ∃ v, σ[i]? = some (some v) ∧ Rep T.W H (Sx T.S σ Γ) v d
  ow : ∀ (i : Nat) (d : D), Γ[i]? = some (.ow d) → ∃ p : Addr, σ[i]? = some (some (.ref p)) ∧ T.H p = none ∧ ¬ T.S p ∧ OwnAt T.W H (Sx T.S σ Γ) p d
  bo : ∀ (i : Nat) (d : D), Γ[i]? = some (.bo d) → σ[i]? = some (some (.ref (T.B i))) ∧ T.Bs (T.B i) ∧ OwnAt T.W H (Sx T.S σ Γ) (T.B i) d
  inj : ∀ i j p, Owns σ Γ i p → Owns σ Γ j p → i = j
  keep : ∀ a o, T.H a = some o → ¬ T.Bs a → H a = some o
  dom : ∀ a, T.S a → H a ≠ none
  bs : ∀ a, T.Bs a → H a ≠ none
  bh : ∀ a, T.Bs a → T.H a ≠ none
/-- from one state to a later one -/
structure Nx (T : Act) (σ : L2.St) (H : Hp) (Γ : Env) (σ' : L2.St) (H' : Hp) (Γ' : Env) : Prop where
  cfg : Cfg T σ' H' Γ'
  fr : Fr (Sx T.S σ Γ) H (Sx T.S σ' Γ') H'
theorem Nx.refl {T : Act} {σ : L2.St} {H : Hp} {Γ : Env} (c : Cfg T σ H Γ) : Nx T σ H Γ σ H Γ := ⟨c, .refl⟩
theorem Nx.trans {T : Act} {σ σ1 σ2 : L2.St} {H H1 H2 : Hp} {Γ Γ1 Γ2 : Env} (a : Nx T σ H Γ σ1 H1 Γ1) (b : Nx T σ1 H1 Γ1 σ2 H2 Γ2) : Nx T σ H Γ σ2 H2 Γ2 := ⟨b.cfg, a.fr.trans b.fr⟩
section
variable {T : Act} {σ : L2.St} {H : Hp} {Γ : Env}
theorem Cfg.owns (c : Cfg T σ H Γ) {i : Nat} {p : Addr} (h : Owns σ Γ i p) : ∃ d, (Γ[i]? = some (.ow d) ∨ Γ[i]? = some (.bo d)) ∧ OwnAt T.W H (Sx T.S σ Γ) p d := by
  obtain ⟨h1, d, h2⟩ := h
  cases e : Γ[i]? with
  | none => rw [e] at h2; cases h2
  | some s =>
    rw [e] at h2
    cases s with
    | no => cases h2
    | sh d => cases h2
    | ow d' =>
      obtain ⟨q, h3, _, _, h4⟩ := c.ow i d' e
      rw [h1] at h3; cases h3
      exact ⟨d', .inl rfl, h4⟩
    | bo d' =>
      obtain ⟨h3, _, h4⟩ := c.bo i d' e
      rw [h1] at h3; cases h3
      exact ⟨d', .inr rfl, h4⟩
theorem Cfg.sdom (c : Cfg T σ H Γ) {a : Addr} (h : Sx T.S σ Γ a) : ∃ o, H a = some o := by
  rcases h with h | ⟨i, h⟩
  · cases e : H a with
    | none => exact absurd e (c.dom a h)
    | some o => exact ⟨o, rfl⟩
  · obtain ⟨d, _, h⟩ := c.owns h
    exact h.dom
/-- a new address is not excluded -/
theorem Cfg.fresh (c : Cfg T σ H Γ) {p : Addr} (h : H p = none) : ¬ Sx T.S σ Γ p := fun q => by
  obtain ⟨o, e⟩ := c.sdom q
  rw [h] at e; cases e
theorem Cfg.entry (c : Cfg T σ H Γ) {p : Addr} (h : H p = none) : T.H p = none := by
  cases e : T.H p with
  | none => rfl
  | some o =>
    by_cases b : T.Bs p
    · exact absurd h (c.bs p b)
    · rw [c.keep p o e b] at h; cases h
theorem Owns.fun {i : Nat} {p q : Addr} (h : Owns σ Γ i p) (g : Owns σ Γ i q) : p = q := by
  have e := h.1.symm.trans g.1
  cases e; rfl
theorem own_sx {i : Nat} {p : Addr} (h : Owns σ Γ i p) : Sx T.S σ Γ p := .inr ⟨i, h⟩
/-- the heap only grows -/
theorem Cfg.more (c : Cfg T σ H Γ) {H' : Hp} (h : ∀ a o, H a = some o → H' a = some o) : Nx T σ H Γ σ H' Γ := by
  have f : Fr (Sx T.S σ Γ) H (Sx T.S σ Γ) H' := .ext0 h
  refine ⟨⟨c.len, fun i d e => ?_, fun i d e => ?_, fun i d e => ?_, c.inj, fun a o e b => h a o (c.keep a o e b), fun a q => f.grow a (c.dom a q), fun a q => f.grow a (c.bs a q), c.bh⟩, f⟩
  · obtain ⟨v, h1, h2⟩ := c.sh i d e
    exact ⟨v, h1, h2.move f⟩
  · obtain ⟨p, h1, h2, h3, h4⟩ := c.ow i d e
    exact ⟨p, h1, h2, h3, h4.move f fun o => h p o⟩
  · obtain ⟨h1, h2, h3⟩ := c.bo i d e
    exact ⟨h1, h2, h3.move f fun o => h _ o⟩
/-- a slot's Γ behind a set -/
theorem owns_set_sh {i j : Nat} {p : Addr} {d : D} {v : Option V} (h : Owns (σ.set i v) (Γ.set i (.sh d)) j p) : j ≠ i ∧ Owns σ Γ j p := by
  obtain ⟨h1, e, h2⟩ := h
  by_cases z : i = j
  · subst z
    by_cases hl : i < Γ.length
    · rw [List.getElem?_set_self hl] at h2; cases h2
    · rw [List.getElem?_eq_none (by simpa using hl)] at h2; cases h2
  · rw [List.getElem?_set_ne z] at h1 h2
    exact ⟨Ne.symm z, h1, e, h2⟩
theorem owns_set_no {i j : Nat} {p : Addr} {v : Option V} (h : Owns (σ.set i v) (Γ.set i .no) j p) : j ≠ i ∧ Owns σ Γ j p := by
  obtain ⟨h1, e, h2⟩ := h
  by_cases z : i = j
  · subst z
    by_cases hl : i < Γ.length
    · rw [List.getElem?_set_self hl] at h2; cases h2
    · rw [List.getElem?_eq_none (by simpa using hl)] at h2; cases h2
  · rw [List.getElem?_set_ne z] at h1 h2
    exact ⟨Ne.symm z, h1, e, h2⟩
theorem set_get {α : Type} {l : List α} {i j : Nat} {x y : α} (h : (l.set i x)[j]? = some y) : (j = i ∧ y = x ∧ i < l.length) ∨ (j ≠ i ∧ l[j]? = some y) := by
  by_cases z : i = j
  · subst z
    by_cases hl : i < l.length
    · rw [List.getElem?_set_self hl] at h; cases h; exact .inl ⟨rfl, rfl, hl⟩
    · rw [List.getElem?_eq_none (by simpa using hl)] at h; cases h
  · rw [List.getElem?_set_ne z] at h
    exact .inr ⟨Ne.symm z, h⟩
/-- a value goes into a slot that bears no borrowed thing -/
theorem Cfg.put (c : Cfg T σ H Γ) {i : Nat} {v : V} {d : D} (hi : i < Γ.length) (r : Rep T.W H (Sx T.S σ Γ) v d) : Nx T σ H Γ (σ.set i (some v)) H (Γ.set i (.sh d)) := by
  have hw : ∀ a, Sx T.S (σ.set i (some v)) (Γ.set i (.sh d)) a → Sx T.S σ Γ a := fun a q => by
    rcases q with q | ⟨j, q⟩
    · exact .inl q
    · exact .inr ⟨j, (owns_set_sh q).2⟩
  have f : Fr (Sx T.S σ Γ) H (Sx T.S (σ.set i (some v)) (Γ.set i (.sh d))) H := .weak hw
  refine ⟨⟨by simp [c.len], fun j e h => ?_, fun j e h => ?_, fun j e h => ?_, fun j k p h1 h2 => c.inj j k p (owns_set_sh h1).2 (owns_set_sh h2).2, c.keep, c.dom, c.bs, c.bh⟩, f⟩
  · rcases set_get h with ⟨rfl, e1, _⟩ | ⟨ne, h⟩
    · cases e1
      exact ⟨v, List.getElem?_set_self (by rw [c.len]; exact hi), r.move f⟩
    · obtain ⟨v', h1, h2⟩ := c.sh j e h
      exact ⟨v', by rw [List.getElem?_set_ne (Ne.symm ne)]; exact h1, h2.move f⟩
  · rcases set_get h with ⟨_, e1, _⟩ | ⟨ne, h⟩
    · cases e1
    · obtain ⟨p, h1, h2, h3, h4⟩ := c.ow j e h
      exact ⟨p, by rw [List.getElem?_set_ne (Ne.symm ne)]; exact h1, h2, h3, h4.move f fun _ z => z⟩
  · rcases set_get h with ⟨_, e1, _⟩ | ⟨ne, h⟩
    · cases e1
    · obtain ⟨h1, h2, h3⟩ := c.bo j e h
      exact ⟨by rw [List.getElem?_set_ne (Ne.symm ne)]; exact h1, h2, h3.move f fun _ z => z⟩
/-- a slot is forgotten -/
theorem Cfg.drop (c : Cfg T σ H Γ) {i : Nat} {v : Option V} : Nx T σ H Γ (σ.set i v) H (Γ.set i .no) := by
  have hw : ∀ a, Sx T.S (σ.set i v) (Γ.set i .no) a → Sx T.S σ Γ a := fun a q => by
    rcases q with q | ⟨j, q⟩
    · exact .inl q
    · exact .inr ⟨j, (owns_set_no q).2⟩
  have f : Fr (Sx T.S σ Γ) H (Sx T.S (σ.set i v) (Γ.set i .no)) H := .weak hw
  refine ⟨⟨by simp [c.len], fun j e h => ?_, fun j e h => ?_, fun j e h => ?_, fun j k p h1 h2 => c.inj j k p (owns_set_no h1).2 (owns_set_no h2).2, c.keep, c.dom, c.bs, c.bh⟩, f⟩
  · rcases set_get h with ⟨_, e1, _⟩ | ⟨ne, h⟩
    · cases e1
    · obtain ⟨v', h1, h2⟩ := c.sh j e h
      exact ⟨v', by rw [List.getElem?_set_ne (Ne.symm ne)]; exact h1, h2.move f⟩
  · rcases set_get h with ⟨_, e1, _⟩ | ⟨ne, h⟩
    · cases e1
    · obtain ⟨p, h1, h2, h3, h4⟩ := c.ow j e h
      exact ⟨p, by rw [List.getElem?_set_ne (Ne.symm ne)]; exact h1, h2, h3, h4.move f fun _ z => z⟩
  · rcases set_get h with ⟨_, e1, _⟩ | ⟨ne, h⟩
    · cases e1
    · obtain ⟨h1, h2, h3⟩ := c.bo j e h
      exact ⟨by rw [List.getElem?_set_ne (Ne.symm ne)]; exact h1, h2, h3.move f fun _ z => z⟩
/-- an own thing becomes a value like others -/
theorem Cfg.freeze (c : Cfg T σ H Γ) {i : Nat} {d : D} (e : Γ[i]? = some (.ow d)) : ∃ p, σ[i]? = some (some (.ref p)) ∧ Nx T σ H Γ σ H (Γ.set i (.sh d)) ∧ Rep T.W H (Sx T.S σ (Γ.set i (.sh d))) (.ref p) d := by
  obtain ⟨p, h1, h2, h3, h4⟩ := c.ow i d e
  have hi : i < Γ.length := (List.getElem?_eq_some_iff.mp e).1
  have es : σ.set i (some (.ref p)) = σ := by
    apply List.ext_getElem?
    intro j
    by_cases z : i = j
    · subst z; rw [List.getElem?_set_self (by rw [c.len]; exact hi), h1]
    · rw [List.getElem?_set_ne z]
  have hw : ∀ a, Sx T.S σ (Γ.set i (.sh d)) a → Sx T.S σ Γ a := fun a q => by
    rcases q with q | ⟨j, q⟩
    · exact .inl q
    · rw [← es] at q; exact .inr ⟨j, (owns_set_sh q).2⟩
  have np : ¬ Sx T.S σ (Γ.set i (.sh d)) p := fun q => by
    rcases q with q | ⟨j, q⟩
    · exact h3 q
    · rw [← es] at q
      obtain ⟨ne, q⟩ := owns_set_sh q
      exact ne (c.inj j i p q ⟨h1, d, by rw [e]; rfl⟩)
  have r : Rep T.W H (Sx T.S σ (Γ.set i (.sh d))) (.ref p) d := h4.rep hw np
  have f : Fr (Sx T.S σ Γ) H (Sx T.S σ (Γ.set i (.sh d))) H := .weak hw
  refine ⟨p, h1, ⟨⟨by simp [c.len], fun j u h => ?_, fun j u h => ?_, fun j u h => ?_, fun j k q g1 g2 => ?_, c.keep, c.dom, c.bs, c.bh⟩, f⟩, r⟩
  · rcases set_get h with ⟨rfl, e1, _⟩ | ⟨ne, h⟩
    · cases e1; exact ⟨_, h1, r⟩
    · obtain ⟨v', g1, g2⟩ := c.sh j u h
      exact ⟨v', g1, g2.move f⟩
  · rcases set_get h with ⟨_, e1, _⟩ | ⟨ne, h⟩
    · cases e1
    · obtain ⟨p', g1, g2, g3, g4⟩ := c.ow j u h
      exact ⟨p', g1, g2, g3, g4.move f fun _ z => z⟩
  · rcases set_get h with ⟨_, e1, _⟩ | ⟨ne, h⟩
    · cases e1
    · obtain ⟨g1, g2, g3⟩ := c.bo j u h
      exact ⟨g1, g2, g3.move f fun _ z => z⟩
  · rw [← es] at g1 g2
    exact c.inj j k q (owns_set_sh g1).2 (owns_set_sh g2).2
/-- an own thing is changed: its object at p from o to o' -/
def Sl.with : Sl → D → Sl
  | .bo _, d => .bo d
  | _, d => .ow d
theorem owns_with {i j : Nat} {p : Addr} {s : Sl} {d d0 : D} (e : Γ[i]? = some s) (hs : s.own? = some d0) : Owns σ (Γ.set i (s.with d)) j p ↔ Owns σ Γ j p := by
  have hi : i < Γ.length := (List.getElem?_eq_some_iff.mp e).1
  unfold Owns
  by_cases z : i = j
  · subst z
    rw [List.getElem?_set_self hi, e]
    cases s <;> simp [Sl.own?, Sl.with] at hs ⊢
  · rw [List.getElem?_set_ne z]
theorem Cfg.mut (c : Cfg T σ H Γ) {i : Nat} {s : Sl} {p : Addr} {d d0 : D} {H' : Hp} (e : Γ[i]? = some s) (hs : s.own? = some d0) (hp : σ[i]? = some (some (.ref p)))
    (hh : ∀ a o, a ≠ p → H a = some o → H' a = some o) (hg : H' p ≠ none) (hd : ∀ S : AS, (∀ a, a = p → S a) → (∀ a, S a ↔ Sx T.S σ Γ a) → OwnAt T.W H' S p d) : Nx T σ H Γ σ H' (Γ.set i (s.with d)) := by
  have hi : i < Γ.length := (List.getElem?_eq_some_iff.mp e).1
  have op : Owns σ Γ i p := ⟨hp, d0, by rw [e]; exact hs⟩
  have eS : ∀ a, Sx T.S σ (Γ.set i (s.with d)) a ↔ Sx T.S σ Γ a := fun a => by
    unfold Sx
    constructor
    · rintro (q | ⟨j, q⟩)
      · exact .inl q
      · exact .inr ⟨j, (owns_with e hs).mp q⟩
    · rintro (q | ⟨j, q⟩)
      · exact .inl q
      · exact .inr ⟨j, (owns_with e hs).mpr q⟩
  have f : Fr (Sx T.S σ Γ) H (Sx T.S σ (Γ.set i (s.with d))) H' := by
    refine ⟨⟨fun a o h n => hh a o (fun z => n (z ▸ own_sx op)) h, fun a q => .inl ((eS a).mp q)⟩, fun a h => ?_⟩
    by_cases z : a = p
    · rw [z]; exact hg
    · cases q : H a with
      | none => exact absurd q h
      | some o => rw [hh a o z q]; intro x; cases x
  have other : ∀ j u, j ≠ i → (Γ[j]?.bind Sl.own?) = some u → ∀ q, σ[j]? = some (some (.ref q)) → q ≠ p := fun j u ne h q hq z => ne (c.inj j i p ⟨by rw [← z]; exact hq, u, h⟩ op)
  have D' := hd _ (fun a z => by rw [z]; exact (eS p).mpr (own_sx op)) eS
  refine ⟨⟨by simp [c.len], fun j u h => ?_, fun j u h => ?_, fun j u h => ?_, fun j k q g1 g2 => c.inj j k q ((owns_with e hs).mp g1) ((owns_with e hs).mp g2), fun a o h b => ?_, fun a q => f.grow a (c.dom a q), fun a q => f.grow a (c.bs a q), c.bh⟩, f⟩
  · rcases set_get h with ⟨rfl, e1, _⟩ | ⟨ne, h⟩
    · cases s <;> simp [Sl.with, Sl.own?] at e1 hs
    · obtain ⟨v', g1, g2⟩ := c.sh j u h
      exact ⟨v', g1, g2.move f⟩
  · rcases set_get h with ⟨rfl, e1, _⟩ | ⟨ne, h⟩
    · cases s with
      | ow d1 =>
        have e2 : u = d := by simpa [Sl.with] using e1
        subst e2
        obtain ⟨q, g1, g2, g3, _⟩ := c.ow _ _ e
        rw [hp] at g1; cases g1
        exact ⟨p, hp, g2, g3, D'⟩
      | bo d1 => simp [Sl.with] at e1
      | no => simp [Sl.own?] at hs
      | sh d1 => simp [Sl.own?] at hs
    · obtain ⟨q, g1, g2, g3, g4⟩ := c.ow j u h
      exact ⟨q, g1, g2, g3, g4.move f fun o => hh q o (other j u ne (by rw [h]; rfl) q g1)⟩
  · rcases set_get h with ⟨rfl, e1, _⟩ | ⟨ne, h⟩
    · cases s with
      | bo d1 =>
        have e2 : u = d := by simpa [Sl.with] using e1
        subst e2
        obtain ⟨g1, g2, _⟩ := c.bo _ _ e
        rw [hp] at g1
        have e3 : p = T.B j := by
          have := Option.some.inj (Option.some.inj g1)
          cases this; rfl
        subst e3
        exact ⟨hp, g2, D'⟩
      | ow d1 => simp [Sl.with] at e1
      | no => simp [Sl.own?] at hs
      | sh d1 => simp [Sl.own?] at hs
    · obtain ⟨g1, g2, g3⟩ := c.bo j u h
      exact ⟨g1, g2, g3.move f fun o => hh _ o (other j u ne (by rw [h]; rfl) _ g1)⟩
  · by_cases z : a = p
    · subst z
      exfalso
      obtain ⟨u, hu, _⟩ := c.owns op
      rcases hu with hu | hu
      · obtain ⟨q, g1, g2, _⟩ := c.ow i u hu
        rw [hp] at g1; cases g1
        rw [g2] at h; cases h
      · obtain ⟨g1, g2, _⟩ := c.bo i u hu
        rw [hp] at g1
        have e3 : a = T.B i := by
          have := Option.some.inj (Option.some.inj g1)
          cases this; rfl
        rw [← e3] at g2
        exact b g2
    · exact hh a o z (c.keep a o h b)
/-- a new thing goes into a slot as its own -/
theorem Cfg.put_own (c : Cfg T σ H Γ) {i : Nat} {p : Addr} {d : D} {H' : Hp} (hi : i < Γ.length) (hp : H p = none) (hh : ∀ a o, H a = some o → H' a = some o) (ho : OwnAt T.W H' (fun a => Sx T.S σ Γ a ∨ a = p) p d) :
    Nx T σ H Γ (σ.set i (some (.ref p))) H' (Γ.set i (.ow d)) := by
  have np : ¬ Sx T.S σ Γ p := c.fresh hp
  have hw : ∀ j q, Owns (σ.set i (some (.ref p))) (Γ.set i (.ow d)) j q → (j = i ∧ q = p) ∨ (j ≠ i ∧ Owns σ Γ j q) := fun j q h => by
    obtain ⟨h1, u, h2⟩ := h
    by_cases z : i = j
    · subst z
      rw [List.getElem?_set_self (by rw [c.len]; exact hi)] at h1
      cases h1
      exact .inl ⟨rfl, rfl⟩
    · rw [List.getElem?_set_ne z] at h1 h2
      exact .inr ⟨Ne.symm z, h1, u, h2⟩
  have f : Fr (Sx T.S σ Γ) H (Sx T.S (σ.set i (some (.ref p))) (Γ.set i (.ow d))) H' := by
    refine ⟨⟨fun a o h _ => hh a o h, fun a q => ?_⟩, fun a h => ?_⟩
    · rcases q with q | ⟨j, q⟩
      · exact .inl (.inl q)
      · rcases hw j a q with ⟨_, z⟩ | ⟨_, q⟩
        · rw [z]; exact .inr hp
        · exact .inl (.inr ⟨j, q⟩)
    · cases q : H a with
      | none => exact absurd q h
      | some o => rw [hh a o q]; intro x; cases x
  refine ⟨⟨by simp [c.len], fun j u h => ?_, fun j u h => ?_, fun j u h => ?_, fun j k q g1 g2 => ?_, fun a o h b => hh a o (c.keep a o h b), fun a q => f.grow a (c.dom a q), fun a q => f.grow a (c.bs a q), c.bh⟩, f⟩
  · rcases set_get h with ⟨_, e1, _⟩ | ⟨ne, h⟩
    · cases e1
    · obtain ⟨v', g1, g2⟩ := c.sh j u h
      exact ⟨v', by rw [List.getElem?_set_ne (Ne.symm ne)]; exact g1, g2.move f⟩
  · rcases set_get h with ⟨rfl, e1, _⟩ | ⟨ne, h⟩
    · cases e1
      refine ⟨p, List.getElem?_set_self (by rw [c.len]; exact hi), c.entry hp, fun z => np (.inl z), ho.move (.weak fun a q => ?_) fun _ z => z⟩
      rcases q with q | ⟨k, q⟩
      · exact .inl (.inl q)
      · rcases hw k a q with ⟨_, z⟩ | ⟨_, q⟩
        · exact .inr z
        · exact .inl (.inr ⟨k, q⟩)
    · obtain ⟨q, g1, g2, g3, g4⟩ := c.ow j u h
      exact ⟨q, by rw [List.getElem?_set_ne (Ne.symm ne)]; exact g1, g2, g3, g4.move f fun o => hh q o⟩
  · rcases set_get h with ⟨_, e1, _⟩ | ⟨ne, h⟩
    · cases e1
    · obtain ⟨g1, g2, g3⟩ := c.bo j u h
      exact ⟨by rw [List.getElem?_set_ne (Ne.symm ne)]; exact g1, g2, g3.move f fun o => hh _ o⟩
  · rcases hw j q g1 with ⟨e1, e2⟩ | ⟨n1, g1⟩ <;> rcases hw k q g2 with ⟨e3, e4⟩ | ⟨n2, g2⟩
    · rw [e1, e3]
    · rw [e2] at g2; exact absurd (.inr ⟨k, g2⟩) np
    · rw [e4] at g1; exact absurd (.inr ⟨j, g1⟩) np
    · exact c.inj j k q g1 g2
/-- an own thing is handed out: it is taken away from its name and out of the heap -/
theorem Cfg.takeOut (c : Cfg T σ H Γ) {i : Nat} {d : D} {p : Addr} (e : Γ[i]? = some (.ow d)) (hp : σ[i]? = some (some (.ref p))) : Cfg T σ (delH H p) (Γ.set i .no) ∧ ∀ a, Sx T.S σ (Γ.set i .no) a → Sx T.S σ Γ a ∧ a ≠ p := by
  have hi : i < Γ.length := (List.getElem?_eq_some_iff.mp e).1
  obtain ⟨p', h1, h2, h3, h4⟩ := c.ow i d e
  rw [hp] at h1
  cases h1
  have op : Owns σ Γ i p := ⟨hp, d, by rw [e]; rfl⟩
  have es : σ.set i (some (.ref p)) = σ := by
    apply List.ext_getElem?
    intro j
    by_cases z : i = j
    · subst z; rw [List.getElem?_set_self (by rw [c.len]; exact hi), hp]
    · rw [List.getElem?_set_ne z]
  have ow : ∀ j q, Owns σ (Γ.set i .no) j q → j ≠ i ∧ Owns σ Γ j q := fun j q h => by
    rw [← es] at h
    have k := owns_set_no h
    exact k
  have sx : ∀ a, Sx T.S σ (Γ.set i .no) a → Sx T.S σ Γ a ∧ a ≠ p := fun a q => by
    rcases q with q | ⟨j, q⟩
    · exact ⟨.inl q, fun z => h3 (z ▸ q)⟩
    · obtain ⟨ne, q⟩ := ow j a q
      exact ⟨.inr ⟨j, q⟩, fun z => ne (c.inj j i p (z ▸ q) op)⟩
  have f : Mv (Sx T.S σ Γ) H (Sx T.S σ (Γ.set i .no)) (delH H p) := ⟨fun a u h n => by
    rw [delH_ne fun z => n (by rw [z]; exact own_sx op)]; exact h, fun a q => .inl (sx a q).1⟩
  refine ⟨⟨by simp [c.len], fun j u h => ?_, fun j u h => ?_, fun j u h => ?_, fun j k q g1 g2 => c.inj j k q (ow j q g1).2 (ow k q g2).2, fun a o h b => ?_, fun a q => ?_, fun a q => ?_, c.bh⟩, sx⟩
  · rcases set_get h with ⟨_, e1, _⟩ | ⟨ne, h⟩
    · cases e1
    · obtain ⟨v', g1, g2⟩ := c.sh j u h
      exact ⟨v', g1, g2.mv f⟩
  · rcases set_get h with ⟨_, e1, _⟩ | ⟨ne, h⟩
    · cases e1
    · obtain ⟨q, g1, g2, g3, g4⟩ := c.ow j u h
      have nq : q ≠ p := fun z => ne (c.inj j i p ⟨by rw [← z]; exact g1, u, by rw [h]; rfl⟩ op)
      exact ⟨q, g1, g2, g3, g4.mv f fun o k => by rw [delH_ne nq]; exact k⟩
  · rcases set_get h with ⟨_, e1, _⟩ | ⟨ne, h⟩
    · cases e1
    · obtain ⟨g1, g2, g3⟩ := c.bo j u h
      have nq : T.B j ≠ p := fun z => ne (c.inj j i p ⟨by rw [← z]; exact g1, u, by rw [h]; rfl⟩ op)
      exact ⟨g1, g2, g3.mv f fun o k => by rw [delH_ne nq]; exact k⟩
  · have z : a ≠ p := fun z => by rw [z, h2] at h; cases h
    rw [delH_ne z]
    exact c.keep a o h b
  · have z : a ≠ p := fun z => h3 (z ▸ q)
    rw [delH_ne z]
    exact c.dom a q
  · have z : a ≠ p := fun z => c.bh a q (z ▸ h2)
    rw [delH_ne z]
    exact c.bs a q
end
end DL
/-! DL2: mirrors (functions over environments) and what makes them sound; expressions. -/
namespace DL
open PySem L2
inductive R (α : Type) where
  | ok (a : α) | exc (c : Nat) (fs : List (Str × D)) | bad
def R.bind {α β : Type} : R α → (α → R β) → R β
  | .ok a, f => f a
  | .exc c fs, _ => .exc c fs
  | .bad, _ => .bad
abbrev M (α : Type) := Env → R (α × Env)
def ret {α : Type} (a : α) : M α := fun Γ => .ok (a, Γ)
def bnd {α β : Type} (m : M α) (f : α → M β) : M β := fun Γ => (m Γ).bind fun p => f p.1 p.2
def lift {α : Type} (r : R α) : M α := fun Γ => r.bind fun a => .ok (a, Γ)
def bad {α : Type} : M α := fun _ => .bad
@[simp] theorem R.bind_ok {α β : Type} (a : α) (f : α → R β) : (R.ok a).bind f = f a := rfl
@[simp] theorem R.bind_exc {α β : Type} (c : Nat) (fs : List (Str × D)) (f : α → R β) : (R.exc c fs : R α).bind f = .exc c fs := rfl
@[simp] theorem R.bind_bad {α β : Type} (f : α → R β) : (R.bad : R α).bind f = .bad := rfl
@[simp] theorem ret_eq {α : Type} (a : α) (Γ : Env) : ret a Γ = .ok (a, Γ) := rfl
@[simp] theorem bnd_eq {α β : Type} (m : M α) (f : α → M β) (Γ : Env) : bnd m f Γ = (m Γ).bind fun p => f p.1 p.2 := rfl
@[simp] theorem lift_eq {α : Type} (r : R α) (Γ : Env) : lift r Γ = r.bind fun a => .ok (a, Γ) := rfl
@[simp] theorem bad_eq {α : Type} (Γ : Env) : (bad : M α) Γ = .bad := rfl
/-- an exception of the class c with these fields reaches the wish E -/
def ExcOk (T : Act) (E : XK) (c : Nat) (fs : List (Str × D)) : Prop :=
  ∀ (dx : Addr) (H' : Hp) (fv : List (Str × V)), (∀ a o, T.H a = some o → ¬ T.Bs a → H' a = some o) → T.H dx = none → H' dx = some (.xd fv) → fv.map Prod.fst = fs.map Prod.fst → RepL T.W H' T.S (fv.map Prod.snd) (fs.map Prod.snd) → E (.ref (T.W.cl c)) (some dx) H'
/-- how a mirror's end answers -/
def Fin {α : Type} (T : Act) (E : XK) (P : α → Env → Prop) : R (α × Env) → Prop
  | .ok (a, Γ) => P a Γ
  | .exc c fs => ExcOk T E c fs
  | .bad => False
theorem Fin.imp {α : Type} {T : Act} {E : XK} {P Q : α → Env → Prop} {r : R (α × Env)} (h : Fin T E P r) (k : ∀ a Γ, P a Γ → Q a Γ) : Fin T E Q r := by
  cases r with
  | ok p => exact k _ _ h
  | exc c fs => exact h
  | bad => exact h
theorem Fin.bind {α β : Type} {T : Act} {E : XK} {P : β → Env → Prop} {r : R (α × Env)} {f : α × Env → R (β × Env)} (h : Fin T E P (r.bind f)) : Fin T E (fun a Γ => Fin T E P (f (a, Γ))) r := by
  cases r with
  | ok p => exact h
  | exc c fs => exact h
  | bad => exact h
theorem Fin.lift {α β : Type} {T : Act} {E : XK} {P : β → Env → Prop} {r : R α} {f : α → R (β × Env)} (h : Fin T E P (r.bind f)) (hx : ∀ c fs, r ≠ .exc c fs) : ∃ a, r = .ok a ∧ Fin T E P (f a) := by
  cases r with
  | ok a => exact ⟨a, rfl, h⟩
  | exc c fs => exact absurd rfl (hx c fs)
  | bad => exact h.elim
/-- what a value's reading must give -/
abbrev KE (T : Act) (σ : L2.St) (H : Hp) (Γ : Env) (Q : VK) : D → Env → Prop := fun d Γ' => ∀ v H', Nx T σ H Γ σ H' Γ' → Rep T.W H' (Sx T.S σ Γ') v d → Q v H'
/-- .. of a new thing -/
abbrev KN (T : Act) (σ : L2.St) (H : Hp) (Γ : Env) (Q : VK) : D → Env → Prop := fun d Γ' => ∀ (p : Addr) Hm H', Nx T σ H Γ σ Hm Γ' → Hm p = none → (∀ a o, Hm a = some o → H' a = some o) → OwnAt T.W H' (fun a => Sx T.S σ Γ' a ∨ a = p) p d → Q (.ref p) H'
abbrev KT' (T : Act) (σ : L2.St) (H : Hp) (Γ : Env) (Q : Bool → Hp → Prop) : Bool → Env → Prop := fun b Γ' => ∀ H', Nx T σ H Γ σ H' Γ' → Q b H'
abbrev KA (T : Act) (σ : L2.St) (H : Hp) (Γ : Env) (Q : List V → Hp → Prop) : List D → Env → Prop := fun ds Γ' => ∀ vs H', Nx T σ H Γ σ H' Γ' → RepL T.W H' (Sx T.S σ Γ') vs ds → Q vs H'
def SndE (W : Wd) (E : XK) (te : TE) (m : M D) : Prop := ∀ T σ H Γ, T.W = W → Cfg T σ H Γ → ∀ Q, Fin T E (KE T σ H Γ Q) (m Γ) → te σ H Q
def SndN (W : Wd) (E : XK) (te : TE) (m : M D) : Prop := ∀ T σ H Γ, T.W = W → Cfg T σ H Γ → ∀ Q, Fin T E (KN T σ H Γ Q) (m Γ) → te σ H Q
def SndT (W : Wd) (E : XK) (tt : TT) (m : M Bool) : Prop := ∀ T σ H Γ, T.W = W → Cfg T σ H Γ → ∀ Q, Fin T E (KT' T σ H Γ Q) (m Γ) → tt σ H Q
def SndA (W : Wd) (E : XK) (ta : TA) (m : M (List D)) : Prop := ∀ T σ H Γ, T.W = W → Cfg T σ H Γ → ∀ Q, Fin T E (KA T σ H Γ Q) (m Γ) → ta σ H Q
variable {cl : Nat → Addr} {E : XK} {X : Cx}
structure PyE (X : Cx) (cl : Nat → Addr) (E : XK) (e : Expr) (m : M D) : Prop where
  out : ∃ te, PE X e te ∧ SndE ⟨X.K, cl⟩ E te m
structure PyN (X : Cx) (cl : Nat → Addr) (E : XK) (e : Expr) (m : M D) : Prop where
  out : ∃ te, PE X e te ∧ SndN ⟨X.K, cl⟩ E te m
structure PyT (X : Cx) (cl : Nat → Addr) (E : XK) (e : Expr) (m : M Bool) : Prop where
  out : ∃ tt, PT X e tt ∧ SndT ⟨X.K, cl⟩ E tt m
structure PyW (X : Cx) (cl : Nat → Addr) (E : XK) (e : Expr) (m : M Bool) : Prop where
  out : ∃ tt, PW X e tt ∧ SndT ⟨X.K, cl⟩ E tt m
structure PyA (X : Cx) (cl : Nat → Addr) (E : XK) (es : List Expr) (m : M (List D)) : Prop where
  out : ∃ ta, PA X es ta ∧ SndA ⟨X.K, cl⟩ E ta m
theorem SndN.e {W : Wd} {te : TE} {m : M D} (h : SndN W E te m) : SndE W E te m := fun T σ H Γ hW c Q f => h T σ H Γ hW c Q (f.imp fun d Γ' k p Hm H' n hp ex o => k _ _ (n.trans (n.cfg.more ex)) (o.rep (fun a q => .inl q) (n.cfg.fresh hp)))
theorem PyN.e {e : Expr} {m : M D} (h : PyN X cl E e m) : PyE X cl E e m := by
  obtain ⟨te, h1, h2⟩ := h.out
  exact ⟨te, h1, h2.e⟩
/-! ### names, constants -/
def mVar (i : Nat) : M D := fun Γ => match Γ[i]? with
  | some (.sh d) => .ok (d, Γ)
  | some (.ow d) => .ok (d, Γ.set i (.sh d))
  | _ => .bad
theorem snd_var {W : Wd} {i : Nat} : SndE W E (tVar i) (mVar i) := fun T σ H Γ hW c Q h => by
  unfold mVar at h
  split at h
  · rename_i d e
    obtain ⟨v, h1, h2⟩ := c.sh i d e
    exact ⟨v, h1, h v H (.refl c) h2⟩
  · rename_i d e
    obtain ⟨p, h1, h2, h3⟩ := c.freeze e
    exact ⟨_, h1, h _ H h2 h3⟩
  · exact h.elim
theorem snd_c {W : Wd} {v : V} {d : D} (hr : ∀ H S, Rep W H S v d) : SndE W E (tC v) (ret d) := fun T σ H Γ hW c Q h => h v H (.refl c) (hW ▸ hr H _)
theorem e_var (i : Nat) {x : Str} {pos : Pos} (hN : X.N[i]? = some x := by rfl) (hv : Vis X.env.scope x := by first | exact Or.inl rfl | exact Or.inr (Or.inl rfl) | exact Or.inr (Or.inr rfl)) (hd : (x == ("__debug__" : Str)) = false := by decide)
    (hcd : (x == ("__classdict__" : Str)) = false := by decide) : PyE X cl E (.Name x pos) (mVar i) := ⟨_, pe_var hN hv hd hcd, snd_var⟩
theorem e_int {i : Int} {j : Nat} {pos : Pos} : PyE X cl E (.Constant (.int i) j pos) (ret (.int i)) := ⟨_, pe_int, snd_c fun _ _ => .int i⟩
theorem e_bl {b : Bool} {j : Nat} {pos : Pos} : PyE X cl E (.Constant (.bool b) j pos) (ret (.bl b)) := ⟨_, pe_bl, snd_c fun _ _ => .bl b⟩
theorem e_non {j : Nat} {pos : Pos} : PyE X cl E (.Constant .none j pos) (ret .non) := ⟨_, pe_non, snd_c fun _ _ => .non⟩
theorem e_str {x : Str} {j : Nat} {pos : Pos} : PyE X cl E (.Constant (.str x) j pos) (ret (.str x)) := ⟨_, pe_str, snd_c fun _ _ => .str x⟩
/-- a module's constant -/
theorem e_globI {x : Str} {i : Int} {t : Tok} {pos : Pos} (hg : Gl X x) (hm : X.mg x = some (.int i t)) (hd : (x == ("__debug__" : Str)) = false := by decide) : PyE X cl E (.Name x pos) (ret (.int i)) := ⟨_, pe_glob hg hm (v := .int i) ⟨t, rfl⟩ hd, snd_c fun _ _ => .int i⟩
/-! ### operations on values -/
abbrev SDom (H : Hp) (S : AS) : Prop := ∀ a, S a → H a ≠ none
def OpS (K : PySem.W.Frag) (r : R2) (f : D → D → R D) : Prop := ∀ (W : Wd) (H : Hp) (S : AS) (x y : V) (d e z : D), W.K = K → SDom H S → Rep W H S x d → Rep W H S y e → f d e = .ok z →
  ∀ Q : VK, (∀ v H', (∀ a o, H a = some o → H' a = some o) → Rep W H' S v z → Q v H') → r x y H Q
def OpN (K : PySem.W.Frag) (r : R2) (f : D → D → R D) : Prop := ∀ (W : Wd) (H : Hp) (S : AS) (x y : V) (d e z : D), W.K = K → SDom H S → Rep W H S x d → Rep W H S y e → f d e = .ok z →
  ∀ Q : VK, (∀ (p : Addr) H', (∀ a o, H a = some o → H' a = some o) → H p = none → OwnAt W H' (fun a => S a ∨ a = p) p z → Q (.ref p) H') → r x y H Q
theorem OpN.s {K : PySem.W.Frag} {r : R2} {f : D → D → R D} (h : OpN K r f) : OpS K r f := fun W H S x y d e z hW sd rx ry hz Q q =>
  h W H S x y d e z hW sd rx ry hz Q fun p H' ex hp o => q _ H' ex (o.rep (fun a k => .inl k) fun k => sd p k hp)
/-- two ways of one operation -/
theorem OpS.or {K : PySem.W.Frag} {r r' : R2} {f g h : D → D → R D} (a : OpS K r f) (b : OpS K r' g) (hh : ∀ d e z, h d e = .ok z → f d e = .ok z ∨ g d e = .ok z) : OpS K (fun x y H Q => r x y H Q ∨ r' x y H Q) h :=
  fun W H S x y d e z hW sd rx ry hz Q q => by
    rcases hh d e z hz with k | k
    · exact .inl (a W H S x y d e z hW sd rx ry k Q q)
    · exact .inr (b W H S x y d e z hW sd rx ry k Q q)
def noexc {α : Type} : R α → R α
  | .exc _ _ => .bad
  | r => r
theorem noexc_ne {α : Type} {r : R α} : ∀ c fs, noexc r ≠ .exc c fs := fun c fs h => by
  cases r <;> cases h
theorem noexc_ok {α : Type} {r : R α} {a : α} (h : noexc r = .ok a) : r = .ok a := by
  cases r <;> simp [noexc] at h ⊢
  exact h
@[simp] theorem noexc_ok' {α : Type} (a : α) : noexc (R.ok a) = .ok a := rfl
@[simp] theorem noexc_bad' {α : Type} : noexc (R.bad : R α) = .bad := rfl
def mOp (f : D → D → R D) (a b : M D) : M D := bnd a fun x => bnd b fun y => lift (noexc (f x y))
theorem Cfg.sd {T : Act} {σ : L2.St} {H : Hp} {Γ : Env} (c : Cfg T σ H Γ) : SDom H (Sx T.S σ Γ) := fun a h e => by
  obtain ⟨o, q⟩ := c.sdom h
  rw [e] at q; cases q
theorem snd_op {W : Wd} {r : R2} {f : D → D → R D} {ta tb : TE} {a b : M D} (ho : OpS W.K r f) (ha : SndE W E ta a) (hb : SndE W E tb b) : SndE W E (tOp r ta tb) (mOp f a b) := fun T σ H Γ hW c Q h => by
  refine ha T σ H Γ hW c _ (h.bind.imp fun d Γ1 h1 v H1 n1 r1 => ?_)
  refine hb T σ H1 Γ1 hW n1.cfg _ (h1.bind.imp fun e Γ2 h2 u H2 n2 r2 => ?_)
  obtain ⟨z, hz, h3⟩ := h2.lift noexc_ne
  subst hW
  exact ho T.W H2 _ v u d e z rfl n2.cfg.sd (r1.move n2.fr) r2 (noexc_ok hz) Q fun v' H' ex r3 => h3 v' H' (n1.trans (n2.trans (n2.cfg.more ex))) r3
theorem snd_opN {W : Wd} {r : R2} {f : D → D → R D} {ta tb : TE} {a b : M D} (ho : OpN W.K r f) (ha : SndE W E ta a) (hb : SndE W E tb b) : SndN W E (tOp r ta tb) (mOp f a b) := fun T σ H Γ hW c Q h => by
  refine ha T σ H Γ hW c _ (h.bind.imp fun d Γ1 h1 v H1 n1 r1 => ?_)
  refine hb T σ H1 Γ1 hW n1.cfg _ (h1.bind.imp fun e Γ2 h2 u H2 n2 r2 => ?_)
  obtain ⟨z, hz, h3⟩ := h2.lift noexc_ne
  subst hW
  exact ho T.W H2 _ v u d e z rfl n2.cfg.sd (r1.move n2.fr) r2 (noexc_ok hz) Q fun p H' ex hp o => h3 p H2 H' (n1.trans n2) hp ex o
theorem e_bin {op : Operator} {r : R2} {f : D → D → R D} {a b : Expr} {ma mb : M D} {pos : Pos} (h : OpR X (binaryOp op) r ∧ OpS X.K r f) (ha : PyE X cl E a ma) (hb : PyE X cl E b mb) : PyE X cl E (.BinOp a op b pos) (mOp f ma mb) := by
  obtain ⟨ta, a1, a2⟩ := ha.out
  obtain ⟨tb, b1, b2⟩ := hb.out
  exact ⟨_, pe_op h.1 a1 b1, snd_op (W := ⟨X.K, cl⟩) h.2 a2 b2⟩
theorem n_bin {op : Operator} {r : R2} {f : D → D → R D} {a b : Expr} {ma mb : M D} {pos : Pos} (h : OpR X (binaryOp op) r ∧ OpN X.K r f) (ha : PyE X cl E a ma) (hb : PyE X cl E b mb) : PyN X cl E (.BinOp a op b pos) (mOp f ma mb) := by
  obtain ⟨ta, a1, a2⟩ := ha.out
  obtain ⟨tb, b1, b2⟩ := hb.out
  exact ⟨_, pe_op h.1 a1 b1, snd_opN (W := ⟨X.K, cl⟩) h.2 a2 b2⟩
theorem ite_ok {α : Type} {c : Prop} [Decidable c] {a z : α} (h : (if c then R.ok a else R.bad) = R.ok z) : c ∧ a = z := by
  by_cases k : c
  · rw [if_pos k] at h; cases h; exact ⟨k, rfl⟩
  · rw [if_neg k] at h; cases h
/-- ints in, an int out -/
def onI (C : Int → Int → Bool) (g : Int → Int → D) : D → D → R D
  | .int i, .int j => if C i j = true then .ok (g i j) else .bad
  | _, _ => .bad
@[simp] theorem onI_int (C : Int → Int → Bool) (g : Int → Int → D) (i j : Int) : onI C g (.int i) (.int j) = if C i j = true then .ok (g i j) else .bad := rfl
theorem opS_I {K : PySem.W.Frag} {C : Int → Int → Bool} {P : Int → Int → Prop} {g : Int → Int → Int} (hC : ∀ i j, C i j = true → P i j) : OpS K (rI P fun i j => .int (g i j)) (onI C fun i j => .int (g i j)) := fun W H S x y d e z hW sd rx ry hz Q q => by
  cases rx <;> cases ry <;> try (cases hz; done)
  rename_i i j
  obtain ⟨c, rfl⟩ := ite_ok hz
  exact ⟨i, j, rfl, rfl, hC i j c, q _ H (fun _ _ h => h) (.int _)⟩
theorem opS_B {K : PySem.W.Frag} {C : Int → Int → Bool} {P : Int → Int → Prop} {g : Int → Int → Bool} (hC : ∀ i j, C i j = true → P i j) : OpS K (rI P fun i j => .bl (g i j)) (onI C fun i j => .bl (g i j)) := fun W H S x y d e z hW sd rx ry hz Q q => by
  cases rx <;> cases ry <;> try (cases hz; done)
  rename_i i j
  obtain ⟨c, rfl⟩ := ite_ok hz
  exact ⟨i, j, rfl, rfl, hC i j c, q _ H (fun _ _ h => h) (.bl _)⟩
theorem opS_I0 {K : PySem.W.Frag} {g : Int → Int → Int} : OpS K (rI0 fun i j => .int (g i j)) (onI (fun _ _ => true) fun i j => .int (g i j)) := fun W H S x y d e z hW sd rx ry hz Q q => by
  cases rx <;> cases ry <;> try (cases hz; done)
  rename_i i j
  have hz' : R.ok (D.int (g i j)) = R.ok z := hz
  cases hz'
  exact ⟨i, j, rfl, rfl, q _ H (fun _ _ h => h) (.int _)⟩
theorem opS_B0 {K : PySem.W.Frag} {g : Int → Int → Bool} : OpS K (rI0 fun i j => .bl (g i j)) (onI (fun _ _ => true) fun i j => .bl (g i j)) := fun W H S x y d e z hW sd rx ry hz Q q => by
  cases rx <;> cases ry <;> try (cases hz; done)
  rename_i i j
  have hz' : R.ok (D.bl (g i j)) = R.ok z := hz
  cases hz'
  exact ⟨i, j, rfl, rfl, q _ H (fun _ _ h => h) (.bl _)⟩
def big : Nat := 16777216
theorem big_line {n : Nat} (h : n ≤ big) : n ≤ sizeLine := by rw [sizeLine_eq]; exact h
theorem big_lt {n : Nat} (h : n < big) : n < sizeLine := by rw [sizeLine_eq]; exact h
/-- + : ints, texts, tuples; lists (new) -/
def dAdd : D → D → R D
  | .int i, .int j => .ok (.int (i + j))
  | .str x, .str y => if x.length + y.length ≤ big then .ok (.str (x ++ y)) else .bad
  | .lst xs, .lst ys => if xs.length + ys.length ≤ big then .ok (.lst (xs ++ ys)) else .bad
  | .tup xs, .tup ys => if xs.length + ys.length ≤ big then .ok (.tup (xs ++ ys)) else .bad
  | _, _ => .bad
@[simp] theorem dAdd_int (i j : Int) : dAdd (.int i) (.int j) = .ok (.int (i + j)) := rfl
@[simp] theorem dAdd_str (x y : Str) : dAdd (.str x) (.str y) = if x.length + y.length ≤ big then .ok (.str (x ++ y)) else .bad := rfl
@[simp] theorem dAdd_lst (x y : List D) : dAdd (.lst x) (.lst y) = if x.length + y.length ≤ big then .ok (.lst (x ++ y)) else .bad := rfl
@[simp] theorem dAdd_tup (x y : List D) : dAdd (.tup x) (.tup y) = if x.length + y.length ≤ big then .ok (.tup (x ++ y)) else .bad := rfl
def rAddStr : R2 := fun x y H Q => ∃ i j, x = .str i ∧ y = .str j ∧ i.length + j.length ≤ sizeLine ∧ Q (.str (i ++ j)) H
def dAddL : D → D → R D
  | .lst xs, .lst ys => if xs.length + ys.length ≤ big then .ok (.lst (xs ++ ys)) else .bad
  | _, _ => .bad
@[simp] theorem dAddL_lst (x y : List D) : dAddL (.lst x) (.lst y) = if x.length + y.length ≤ big then .ok (.lst (x ++ y)) else .bad := rfl
theorem upd_more {H : Hp} {p : Addr} {o : HO} (h : H p = none) : ∀ a u, H a = some u → upd H p o a = some u := fun a u e => by
  rw [upd_ne (ne_of_none e h)]; exact e
/-- a new list, its items as before -/
theorem own_new {W : Wd} {H : Hp} {S : AS} {p : Addr} {xs : List V} {ds : List D} (sd : SDom H S) (hp : H p = none) (r : RepL W H S xs ds) : OwnAt W (upd H p (.lst xs)) (fun a => S a ∨ a = p) p (.lst ds) := by
  refine ⟨xs, upd_same, r.mv ⟨fun a o h _ => upd_more hp a o h, fun a q => ?_⟩⟩
  rcases q with q | q
  · exact .inl q
  · rw [q]; exact .inr hp
theorem opN_cat {K : PySem.W.Frag} : OpN K rCat dAddL := fun W H S x y d e z hW sd rx ry hz Q q => by
  cases rx <;> cases ry <;> try (cases hz; done)
  rename_i a xs ds na ha ra b ys es nb hb rb
  obtain ⟨c, rfl⟩ := ite_ok hz
  refine ⟨a, b, xs, ys, rfl, rfl, ha, hb, big_line (by rw [ra.len, rb.len]; exact c), fun p hp => q p _ (upd_more hp) hp (own_new sd hp (ra.append rb))⟩
/-- a new tuple -/
theorem rep_newT {W : Wd} {H : Hp} {S : AS} {p : Addr} {xs : List V} {ds : List D} (sd : SDom H S) (hp : H p = none) (r : RepL W H S xs ds) : Rep W (upd H p (.tup xs)) S (.ref p) (.tup ds) :=
  .tup (fun k => sd p k hp) upd_same (r.move (.ext0 (upd_more hp)))
def dAddT : D → D → R D
  | .tup xs, .tup ys => if xs.length + ys.length ≤ big then .ok (.tup (xs ++ ys)) else .bad
  | _, _ => .bad
theorem opS_catT {K : PySem.W.Frag} : OpS K (rCatA K) dAddT := fun W H S x y d e z hW sd rx ry hz Q q => by
  subst hW
  cases rx <;> cases ry <;> try (cases hz; done)
  rename_i a xs ds na ha ra b ys es nb hb rb
  obtain ⟨c, rfl⟩ := ite_ok hz
  have hl : xs.length + ys.length ≤ sizeLine := big_line (by rw [ra.len, rb.len]; exact c)
  refine ⟨a, b, xs, ys, rfl, rfl, .of ha, .of hb, hl, fun e => ?_, fun _ e => ?_, fun _ _ p hp => q _ _ (upd_more hp) (rep_newT sd hp (ra.append rb))⟩
  · subst e
    cases ra
    exact q _ H (fun _ _ h => h) (.tup nb hb rb)
  · subst e
    cases rb
    rw [List.append_nil] at q
    exact q _ H (fun _ _ h => h) (.tup na ha ra)
theorem opS_addStr {K : PySem.W.Frag} : OpS K rAddStr (fun d e => match d, e with | .str x, .str y => if x.length + y.length ≤ big then .ok (.str (x ++ y)) else .bad | _, _ => .bad) := fun W H S x y d e z hW sd rx ry hz Q q => by
  cases rx <;> cases ry <;> try (cases hz; done)
  rename_i i j
  obtain ⟨c, rfl⟩ := ite_ok hz
  exact ⟨i, j, rfl, rfl, big_line c, q _ H (fun _ _ h => h) (.str _)⟩
theorem o_add : ∃ r, OpR X (binaryOp .Add) r ∧ OpS X.K r dAdd := by
  refine ⟨_, (op_add (X := X)).or ((op_add_str (X := X)).or ((op_cat (X := X)).or (op_catA (X := X)))), ?_⟩
  refine OpS.or (f := onI (fun _ _ => true) fun i j => .int (i + j)) (g := fun d e => match d, e with | .int _, .int _ => .bad | d, e => dAdd d e) opS_I0 (OpS.or opS_addStr (OpS.or (g := dAddT) opN_cat.s opS_catT (h := fun d e => match d, e with | .int _, .int _ => .bad | .str _, .str _ => .bad | d, e => dAdd d e) ?_) ?_) ?_
  all_goals (intro d e z hz; cases d <;> cases e <;> first | (cases hz; done) | exact .inl hz | exact .inr hz)
/-- an operation's rule, its mirror -/
theorem e_binE {op : Operator} {f : D → D → R D} {a b : Expr} {ma mb : M D} {pos : Pos} (h : ∃ r, OpR X (binaryOp op) r ∧ OpS X.K r f) (ha : PyE X cl E a ma) (hb : PyE X cl E b mb) : PyE X cl E (.BinOp a op b pos) (mOp f ma mb) := by
  obtain ⟨r, h⟩ := h
  exact e_bin h ha hb
def dSub : D → D → R D := onI (fun _ _ => true) fun i j => .int (i - j)
theorem o_sub : ∃ r, OpR X (binaryOp .Sub) r ∧ OpS X.K r dSub := ⟨_, op_sub, opS_I0⟩
def cMul (i j : Int) : Bool := decide (i.natAbs < 2 ^ 64) || decide (j.natAbs < 2 ^ 64)
def dMul : D → D → R D := onI cMul fun i j => .int (i * j)
theorem o_mul : ∃ r, OpR X (binaryOp .Mult) r ∧ OpS X.K r dMul := ⟨_, op_mul, opS_I fun i j h => by
  simp only [cMul, Bool.or_eq_true, decide_eq_true_eq] at h
  rcases h with h | h
  · exact .inl ⟨by omega, by omega⟩
  · exact .inr ⟨by omega, by omega⟩⟩
def dFdiv : D → D → R D := onI (fun _ j => decide (0 < j) && decide (j.natAbs < 1073741824)) fun i j => .int (i / j)
theorem o_fdiv : ∃ r, OpR X (binaryOp .FloorDiv) r ∧ OpS X.K r dFdiv := ⟨_, op_fdiv, opS_I fun i j h => by
  simp only [Bool.and_eq_true, decide_eq_true_eq] at h
  exact ⟨h.1, by omega⟩⟩
def dMod : D → D → R D := onI (fun _ j => decide (0 < j)) fun i j => .int (i % j)
theorem o_mod : ∃ r, OpR X (binaryOp .Mod) r ∧ OpS X.K r dMod := ⟨_, op_mod, opS_I fun i j h => by
  simp only [decide_eq_true_eq] at h
  exact h⟩
theorem op_powB : OpR X (binaryOp .Pow) (rI (fun i j => 0 ≤ j ∧ (Builtin.Int.intBits i : Int) * j ≤ 2 ^ 27) fun i j => .int (i ^ j.toNat)) := opI fun _ _ _ _ _ _ _ hc q => PyProof.Rows.pow_int hc.1 hc.2 q
def dPow : D → D → R D := onI (fun i j => decide (0 ≤ j) && decide ((Builtin.Int.intBits i : Int) * j ≤ 2 ^ 27)) fun i j => .int (i ^ j.toNat)
theorem o_pow : ∃ r, OpR X (binaryOp .Pow) r ∧ OpS X.K r dPow := ⟨_, op_powB, opS_I fun i j h => by
  simp only [Bool.and_eq_true, decide_eq_true_eq] at h
  exact h⟩
def dOr : D → D → R D := onI (fun _ _ => true) fun i j => .int (Builtin.bitOr i j)
theorem o_or : ∃ r, OpR X (binaryOp .BitOr) r ∧ OpS X.K r dOr := ⟨_, op_or, opS_I0⟩
def dAnd : D → D → R D := onI (fun _ _ => true) fun i j => .int (Builtin.bitAnd i j)
theorem o_and : ∃ r, OpR X (binaryOp .BitAnd) r ∧ OpS X.K r dAnd := ⟨_, op_and, opS_I0⟩
def cPow (i j : Int) : Bool := decide (0 ≤ j) && decide (j.natAbs ≤ 1000000) && decide (i.natAbs < 2 ^ 64)
def dShl : D → D → R D := onI cPow fun i j => .int (i * 2 ^ j.toNat)
theorem o_shl : ∃ r, OpR X (binaryOp .LShift) r ∧ OpS X.K r dShl := ⟨_, op_shl, opS_I fun i j h => by
  simp only [cPow, Bool.and_eq_true, decide_eq_true_eq] at h
  exact ⟨h.1.1, by omega, h.2⟩⟩
def dShr : D → D → R D := onI (fun _ j => decide (0 ≤ j)) fun i j => .int (i / 2 ^ j.toNat)
theorem o_shr : ∃ r, OpR X (binaryOp .RShift) r ∧ OpS X.K r dShr := ⟨_, op_shr, opS_I fun i j h => by
  simp only [decide_eq_true_eq] at h
  exact h⟩
/-- xs + ys, both lists: new -/
theorem n_cat {a b : Expr} {ma mb : M D} {pos : Pos} (ha : PyE X cl E a ma) (hb : PyE X cl E b mb) : PyN X cl E (.BinOp a .Add b pos) (mOp dAddL ma mb) := n_bin ⟨op_cat, opN_cat⟩ ha hb
def dRep : D → D → R D
  | .lst xs, .int k => if (decide (k.natAbs < 2 ^ 63) && decide (xs.length * k.toNat ≤ big)) = true then .ok (.lst (List.replicate k.toNat xs).flatten) else .bad
  | _, _ => .bad
theorem opN_rep {K : PySem.W.Frag} : OpN K rRep dRep := fun W H S x y d e z hW sd rx ry hz Q q => by
  cases rx <;> cases ry <;> try (cases hz; done)
  rename_i a xs ds na ha ra k
  obtain ⟨c, rfl⟩ := ite_ok hz
  simp only [Bool.and_eq_true, decide_eq_true_eq] at c
  refine ⟨a, k, xs, rfl, rfl, ha, by omega, by omega, big_line (by rw [ra.len]; exact c.2), fun p hp => q p _ (upd_more hp) hp (own_new sd hp (ra.rep _))⟩
theorem n_rep {a b : Expr} {ma mb : M D} {pos : Pos} (ha : PyE X cl E a ma) (hb : PyE X cl E b mb) : PyN X cl E (.BinOp a .Mult b pos) (mOp dRep ma mb) := n_bin ⟨op_rep, opN_rep⟩ ha hb
/-! ### one operand -/
def mUn (f : D → R D) (a : M D) : M D := bnd a fun x => lift (noexc (f x))
def dNeg : D → R D
  | .int i => .ok (.int (-i))
  | _ => .bad
theorem e_neg {a : Expr} {ma : M D} {pos : Pos} (ha : PyE X cl E a ma) : PyE X cl E (.UnaryOp .USub a pos) (mUn dNeg ma) := by
  obtain ⟨ta, a1, a2⟩ := ha.out
  refine ⟨_, pe_un un_neg a1, fun T σ H Γ hW c Q h => ?_⟩
  refine a2 T σ H Γ hW c _ (h.bind.imp fun d Γ1 h1 v H1 n1 r1 => ?_)
  obtain ⟨z, hz0, h3⟩ := h1.lift noexc_ne
  have hz := noexc_ok hz0
  clear hz0
  cases r1 <;> try (cases hz; done)
  rename_i i
  cases hz
  exact ⟨i, rfl, h3 _ H1 n1 (.int _)⟩
/-! ### comparisons -/
def dLt : D → D → R D := onI (fun _ _ => true) fun i j => .bl (decide (i < j))
def dLe : D → D → R D := onI (fun _ _ => true) fun i j => .bl (decide (i ≤ j))
def dGt : D → D → R D := onI (fun _ _ => true) fun i j => .bl (decide (j < i))
def dGe : D → D → R D := onI (fun _ _ => true) fun i j => .bl (decide (j ≤ i))
theorem o_lt : ∃ r, OpR X (compareOp .Lt) r ∧ OpS X.K r dLt := ⟨_, op_lt, opS_B0⟩
theorem o_le : ∃ r, OpR X (compareOp .LtE) r ∧ OpS X.K r dLe := ⟨_, op_le, opS_B0⟩
theorem o_gt : ∃ r, OpR X (compareOp .Gt) r ∧ OpS X.K r dGt := ⟨_, op_gt, opS_B0⟩
theorem o_ge : ∃ r, OpR X (compareOp .GtE) r ∧ OpS X.K r dGe := ⟨_, op_ge, opS_B0⟩
mutual
def toPd : D → Option PyData
  | .non => some .none
  | .bl b => some (.bool b)
  | .int i => some (.int i)
  | .str x => some (.str x)
  | .lst xs => (toPdL xs).map .list
  | .tup xs => (toPdL xs).map .tuple
  | _ => none
def toPdL : List D → Option (List PyData)
  | [] => some []
  | x :: xs => match toPd x, toPdL xs with | some a, some b => some (a :: b) | _, _ => none
end
mutual
theorem Rep.dp {W : Wd} {H : Hp} {S : AS} : ∀ {v : V} {d : D} {q : PyData}, Rep W H S v d → toPd d = some q → Dp W.K H v q
  | _, _, _, .non, h => by cases h; exact .non
  | _, _, _, .bl b, h => by cases h; exact .bl b
  | _, _, _, .int i, h => by cases h; exact .int i
  | _, _, _, .str x, h => by cases h; exact .str x
  | _, _, _, .lst (ds := ds) n e r, h => by
    cases z : toPdL ds with
    | none => simp [toPd, z] at h
    | some l => simp [toPd, z] at h; subst h; exact .lst (.of e) (RepL.dp r z)
  | _, _, _, .tup (ds := ds) n e r, h => by
    cases z : toPdL ds with
    | none => simp [toPd, z] at h
    | some l => simp [toPd, z] at h; subst h; exact .tup (.of e) (RepL.dp r z)
  | _, _, _, .frl .., h => by simp [toPd] at h
  | _, _, _, .ty .., h => by simp [toPd] at h
  | _, _, _, .cls .., h => by simp [toPd] at h
  | _, _, _, .dK .., h => by simp [toPd] at h
  | _, _, _, .dT .., h => by simp [toPd] at h
  | _, _, _, .ins .., h => by simp [toPd] at h
theorem RepL.dp {W : Wd} {H : Hp} {S : AS} : ∀ {vs : List V} {ds : List D} {qs : List PyData}, RepL W H S vs ds → toPdL ds = some qs → DpAll W.K H vs qs
  | _, _, _, .nil, h => by simp [toPdL] at h; subst h; exact .nil
  | _, _, _, .cons (d := d) (ds := ds) r t, h => by
    cases z : toPd d with
    | none => simp [toPdL, z] at h
    | some a =>
      cases z2 : toPdL ds with
      | none => simp [toPdL, z, z2] at h
      | some b => simp [toPdL, z, z2] at h; subst h; exact .cons (Rep.dp r z) (RepL.dp t z2)
end
def dCmp (g : Bool → Bool) (d e : D) : R D := match toPd d, toPd e with
  | some a, some b => if (SeqAt.shaped a && SeqAt.shaped b) = true then .ok (.bl (g (PyData.eqv a b))) else .bad
  | _, _ => .bad
def dEq : D → D → R D := dCmp id
def dNe : D → D → R D := dCmp not
theorem opS_eq {K : PySem.W.Frag} : OpS K (rEqD K) dEq := fun W H S x y d e z hW sd rx ry hz Q q => by
  subst hW
  unfold dEq dCmp at hz
  split at hz
  · rename_i a b ea eb
    obtain ⟨c, rfl⟩ := ite_ok hz
    simp only [Bool.and_eq_true] at c
    exact ⟨a, b, rx.dp ea, ry.dp eb, c.1, c.2, q _ H (fun _ _ h => h) (.bl _)⟩
  · cases hz
theorem opS_ne {K : PySem.W.Frag} : OpS K (rNeD K) dNe := fun W H S x y d e z hW sd rx ry hz Q q => by
  subst hW
  unfold dNe dCmp at hz
  split at hz
  · rename_i a b ea eb
    obtain ⟨c, rfl⟩ := ite_ok hz
    simp only [Bool.and_eq_true] at c
    exact ⟨a, b, rx.dp ea, ry.dp eb, c.1, c.2, q _ H (fun _ _ h => h) (.bl _)⟩
  · cases hz
theorem o_eq (hu : X.A.units + 64 < cLine) : ∃ r, OpR X (compareOp .Eq) r ∧ OpS X.K r dEq := ⟨_, op_eqD hu, opS_eq⟩
theorem o_ne (hu : X.A.units + 64 < cLine) : ∃ r, OpR X (compareOp .NotEq) r ∧ OpS X.K r dNe := ⟨_, op_neD hu, opS_ne⟩
def isNon : D → Bool
  | .non => true
  | _ => false
theorem Rep.isNon {W : Wd} {H : Hp} {S : AS} {v : V} {d : D} (r : Rep W H S v d) : decide (v = .non) = DL.isNon d := by
  cases r <;> simp [DL.isNon]
def dIs : D → D → R D
  | d, .non => .ok (.bl (isNon d))
  | _, _ => .bad
def dIsNot : D → D → R D
  | d, .non => .ok (.bl (!isNon d))
  | _, _ => .bad
theorem o_is : ∃ r, OpR X (compareOp .Is) r ∧ OpS X.K r dIs := ⟨_, op_isN, fun W H S x y d e z hW sd rx ry hz Q q => by
  cases ry <;> try (cases d <;> cases hz; done)
  have hz' : R.ok (D.bl (isNon d)) = .ok z := by cases d <;> exact hz
  cases hz'
  exact ⟨rfl, q _ H (fun _ _ h => h) (by rw [rx.isNon]; exact .bl _)⟩⟩
theorem o_isnot : ∃ r, OpR X (compareOp .IsNot) r ∧ OpS X.K r dIsNot := ⟨_, op_notN, fun W H S x y d e z hW sd rx ry hz Q q => by
  cases ry <;> try (cases d <;> cases hz; done)
  have hz' : R.ok (D.bl (!isNon d)) = .ok z := by cases d <;> exact hz
  cases hz'
  exact ⟨rfl, q _ H (fun _ _ h => h) (by rw [rx.isNon]; exact .bl _)⟩⟩
end DL
/-! DL3: comparisons as values and tests, and / or / not, conditional expressions, displays, items, slices. -/
namespace DL
open PySem L2
variable {cl : Nat → Addr} {E : XK} {X : Cx}
theorem e_cmp {op : CmpOp} {f : D → D → R D} {a b : Expr} {ma mb : M D} {pos : Pos} (h : ∃ r, OpR X (compareOp op) r ∧ OpS X.K r f) (ha : PyE X cl E a ma) (hb : PyE X cl E b mb) (hm : behindInMarks op b = false := by first | exact nomark _ | with_unfolding_all rfl) :
    PyE X cl E (.Compare a [op] [b] pos) (mOp f ma mb) := by
  obtain ⟨r, h1, h2⟩ := h
  obtain ⟨ta, a1, a2⟩ := ha.out
  obtain ⟨tb, b1, b2⟩ := hb.out
  exact ⟨_, pe_cmpR h1 a1 b1 hm, snd_op (W := ⟨X.K, cl⟩) h2 a2 b2⟩
/-- a bool value, told as a test -/
def toB : D → R Bool
  | .bl b => .ok b
  | _ => .bad
def mT (a : M D) : M Bool := bnd a fun x => lift (toB x)
theorem toB_ne {d : D} : ∀ c fs, toB d ≠ .exc c fs := fun c fs h => by cases d <;> cases h
theorem Rep.toB {W : Wd} {H : Hp} {S : AS} {v : V} {d : D} {b : Bool} (r : Rep W H S v d) (h : DL.toB d = .ok b) : v = .bl b ∧ d = .bl b := by
  cases r <;> cases h
  exact ⟨rfl, rfl⟩
theorem snd_test {W : Wd} {te : TE} {m : M D} (h : SndE W E te m) : SndT W E (tTest te) (mT m) := fun T σ H Γ hW c Q q => by
  refine h T σ H Γ hW c _ (q.bind.imp fun d Γ1 h1 v H1 n1 r1 => ?_)
  obtain ⟨b, hb, h2⟩ := h1.lift toB_ne
  obtain ⟨rfl, rfl⟩ := r1.toB hb
  exact ⟨b, rfl, h2 H1 n1⟩
theorem t_cmp {op : CmpOp} {f : D → D → R D} {a b : Expr} {ma mb : M D} {pos : Pos} (h : ∃ r, OpR X (compareOp op) r ∧ OpS X.K r f) (ha : PyE X cl E a ma) (hb : PyE X cl E b mb) (hm : behindInMarks op b = false := by first | exact nomark _ | with_unfolding_all rfl) :
    PyT X cl E (.Compare a [op] [b] pos) (mT (mOp f ma mb)) := by
  obtain ⟨r, h1, h2⟩ := h
  obtain ⟨ta, a1, a2⟩ := ha.out
  obtain ⟨tb, b1, b2⟩ := hb.out
  exact ⟨_, pt_cmpR h1 a1 b1 hm, snd_test (snd_op (W := ⟨X.K, cl⟩) h2 a2 b2)⟩
/-- a op1 b op2 c -/
def mChain (f g : D → D → R D) (a b c : M D) : M D := bnd a fun x => bnd b fun y => bnd (lift (noexc (f x y))) fun z => bnd (lift (toB z)) fun k => if k = true then bnd c fun w => lift (noexc (g y w)) else ret (.bl false)
theorem snd_chain {W : Wd} {r r' : R2} {f g : D → D → R D} {ta tb tc : TE} {a b c : M D} (h1 : OpS W.K r f) (h2 : OpS W.K r' g) (ha : SndE W E ta a) (hb : SndE W E tb b) (hc : SndE W E tc c) : SndE W E (tChain r r' ta tb tc) (mChain f g a b c) := fun T σ H Γ hW cf Q h => by
  refine ha T σ H Γ hW cf _ (h.bind.imp fun d Γ1 k1 v H1 n1 r1 => ?_)
  refine hb T σ H1 Γ1 hW n1.cfg _ (k1.bind.imp fun e Γ2 k2 u H2 n2 r2 => ?_)
  have k2' := k2.bind
  obtain ⟨z, hz, k3⟩ := k2'.lift noexc_ne
  have k3' := k3
  obtain ⟨k, hk, k4⟩ := (Fin.bind k3').lift toB_ne
  have hz := noexc_ok hz
  subst hW
  refine h1 T.W H2 _ v u d e z rfl n2.cfg.sd (r1.move n2.fr) r2 hz _ fun v3 H3 ex r3 => ?_
  have n3 := n2.cfg.more ex
  obtain ⟨rfl, rfl⟩ := r3.toB hk
  refine ⟨k, rfl, ?_⟩
  cases k with
  | false =>
    rw [if_neg Bool.false_ne_true]
    exact k4 _ H3 (n1.trans (n2.trans n3)) (.bl false)
  | true =>
    rw [if_pos rfl]
    have k4 : Fin T E (KE T σ H Γ Q) ((c Γ2).bind fun p => (noexc (g e p.1)).bind fun a => .ok (a, p.2)) := k4
    refine hc T σ H3 Γ2 rfl n3.cfg _ (k4.bind.imp fun w Γ4 k5 vw H4 n4 r4 => ?_)
    obtain ⟨z2, hz2, k6⟩ := k5.lift noexc_ne
    exact h2 T.W H4 _ u vw e w z2 rfl n4.cfg.sd ((r2.move n3.fr).move n4.fr) r4 (noexc_ok hz2) Q fun v5 H5 ex5 r5 => k6 v5 H5 (n1.trans (n2.trans (n3.trans (n4.trans (n4.cfg.more ex5))))) r5
theorem e_chain {op op' : CmpOp} {f g : D → D → R D} {a b c : Expr} {ma mb mc : M D} {pos : Pos} (h : ∃ r, OpR X (compareOp op) r ∧ OpS X.K r f) (h' : ∃ r, OpR X (compareOp op') r ∧ OpS X.K r g) (ha : PyE X cl E a ma) (hb : PyE X cl E b mb) (hc : PyE X cl E c mc)
    (hm : lastMarks [op, op'] [b, c] = false := by with_unfolding_all rfl) : PyE X cl E (.Compare a [op, op'] [b, c] pos) (mChain f g ma mb mc) := by
  obtain ⟨r, h1, h2⟩ := h
  obtain ⟨r', h3, h4⟩ := h'
  obtain ⟨ta, a1, a2⟩ := ha.out
  obtain ⟨tb, b1, b2⟩ := hb.out
  obtain ⟨tc, c1, c2⟩ := hc.out
  exact ⟨_, pe_chain h1 h3 a1 b1 c1 hm, snd_chain (W := ⟨X.K, cl⟩) h2 h4 a2 b2 c2⟩
theorem t_chain {op op' : CmpOp} {f g : D → D → R D} {a b c : Expr} {ma mb mc : M D} {pos : Pos} (h : ∃ r, OpR X (compareOp op) r ∧ OpS X.K r f) (h' : ∃ r, OpR X (compareOp op') r ∧ OpS X.K r g) (ha : PyE X cl E a ma) (hb : PyE X cl E b mb) (hc : PyE X cl E c mc)
    (hm : lastMarks [op, op'] [b, c] = false := by with_unfolding_all rfl) : PyT X cl E (.Compare a [op, op'] [b, c] pos) (mT (mChain f g ma mb mc)) := by
  obtain ⟨r, h1, h2⟩ := h
  obtain ⟨r', h3, h4⟩ := h'
  obtain ⟨ta, a1, a2⟩ := ha.out
  obtain ⟨tb, b1, b2⟩ := hb.out
  obtain ⟨tc, c1, c2⟩ := hc.out
  exact ⟨_, pt_chain h1 h3 a1 b1 c1 hm, snd_test (snd_chain (W := ⟨X.K, cl⟩) h2 h4 a2 b2 c2)⟩
/-! ### truth -/
def truD : D → R Bool
  | .non => .ok false
  | .bl b => .ok b
  | .int i => .ok (i != 0)
  | .str x => if x.length ≤ big then .ok ((x.length : Int) != 0) else .bad
  | .lst xs => .ok (!xs.isEmpty)
  | .tup xs => .ok (!xs.isEmpty)
  | .dK kvs => .ok (!kvs.isEmpty)
  | _ => .bad
theorem truD_ne {d : D} : ∀ c fs, truD d ≠ .exc c fs := fun c fs h => by
  cases d <;> try (cases h; done)
  simp only [truD] at h
  split at h <;> cases h
theorem RepL.emp {W : Wd} {H : Hp} {S : AS} {vs : List V} {ds : List D} (r : RepL W H S vs ds) : vs.isEmpty = ds.isEmpty := by
  cases r <;> rfl
theorem Rep.tru {W : Wd} {H : Hp} {S : AS} {v : V} {d : D} {b : Bool} (r : Rep W H S v d) (h : truD d = .ok b) : TruV W.K v H b := by
  cases r with
  | non => cases h; rfl
  | bl b => cases h; rfl
  | int i => cases h; rfl
  | str x =>
    obtain ⟨c, rfl⟩ := ite_ok h
    exact ⟨big_line c, rfl⟩
  | lst n e q => cases h; exact .inl ⟨_, .of e, by rw [q.emp]⟩
  | tup n e q => cases h; exact .inr (.inl ⟨_, .of e, by rw [q.emp]⟩)
  | @dK a kvs ds n e k q =>
    cases h
    refine .inr (.inr ⟨_, e, ?_⟩)
    have := congrArg List.length k
    rw [List.length_map, List.length_map] at this
    cases kvs <;> cases ds <;> simp at this ⊢
  | frl _ _ => cases h
  | ty _ => cases h
  | cls _ => cases h
  | dT _ _ _ _ => cases h
  | ins _ _ _ _ => cases h
  | err _ _ _ _ _ _ => cases h
def mTru (a : M D) : M Bool := bnd a fun x => lift (truD x)
theorem t_tru {e : Expr} {m : M D} (h : PyE X cl E e m) (he : ∀ whole, isTrue e X.env whole = (do let v ← whole; standAt e.pos; holding [v] (truthy v)) := by intro _; rfl) : PyT X cl E e (mTru m) := by
  obtain ⟨te, h1, h2⟩ := h.out
  refine ⟨_, pt_truth h1 he, fun T σ H Γ hW c Q q => ?_⟩
  refine h2 T σ H Γ hW c _ (q.bind.imp fun d Γ1 k1 v H1 n1 r1 => ?_)
  obtain ⟨b, hb, k2⟩ := k1.lift truD_ne
  have e : T.W.K = X.K := congrArg Wd.K hW
  exact ⟨b, e ▸ r1.tru hb, k2 H1 n1⟩
/-! ### and, or, not -/
def mAnd (a b : M Bool) : M Bool := bnd a fun k => if k = true then b else ret false
def mOr (a b : M Bool) : M Bool := bnd a fun k => if k = true then ret true else b
def mNot (a : M Bool) : M Bool := bnd a fun k => ret (!k)
theorem t_not {a : Expr} {m : M Bool} {pos : Pos} (h : PyT X cl E a m) : PyT X cl E (.UnaryOp .Not a pos) (mNot m) := by
  obtain ⟨tt, h1, h2⟩ := h.out
  refine ⟨_, pt_not h1, fun T σ H Γ hW c Q q => ?_⟩
  exact h2 T σ H Γ hW c _ (q.bind.imp fun b Γ1 k1 H1 n1 => k1 H1 n1)
theorem snd_and {W : Wd} {t u : TT} {a b : M Bool} (ha : SndT W E t a) (hb : SndT W E u b) : SndT W E (tAnd t u) (mAnd a b) := fun T σ H Γ hW c Q q => by
  refine ha T σ H Γ hW c _ (q.bind.imp fun k Γ1 k1 H1 n1 => ?_)
  cases k with
  | true =>
    rw [if_pos rfl]
    exact hb T σ H1 Γ1 hW n1.cfg _ (Fin.imp (show Fin T E (KT' T σ H Γ Q) (b Γ1) from k1) fun k2 Γ2 k3 H2 n2 => k3 H2 (n1.trans n2))
  | false =>
    rw [if_neg Bool.false_ne_true]
    exact k1 H1 n1
theorem snd_or {W : Wd} {t u : TT} {a b : M Bool} (ha : SndT W E t a) (hb : SndT W E u b) : SndT W E (tOr t u) (mOr a b) := fun T σ H Γ hW c Q q => by
  refine ha T σ H Γ hW c _ (q.bind.imp fun k Γ1 k1 H1 n1 => ?_)
  cases k with
  | false =>
    rw [if_neg Bool.false_ne_true]
    exact hb T σ H1 Γ1 hW n1.cfg _ (Fin.imp (show Fin T E (KT' T σ H Γ Q) (b Γ1) from k1) fun k2 Γ2 k3 H2 n2 => k3 H2 (n1.trans n2))
  | true =>
    rw [if_pos rfl]
    exact k1 H1 n1
theorem w_and1 {a : Expr} {m : M Bool} {pos : Pos} (h : PyT X cl E a m) : PyW X cl E (.BoolOp .And [a] pos) m := by
  obtain ⟨tt, h1, h2⟩ := h.out
  exact ⟨_, pw_and1 h1, h2⟩
theorem w_or1 {a : Expr} {m : M Bool} {pos : Pos} (h : PyT X cl E a m) : PyW X cl E (.BoolOp .Or [a] pos) m := by
  obtain ⟨tt, h1, h2⟩ := h.out
  exact ⟨_, pw_or1 h1, h2⟩
theorem w_and {a b : Expr} {rest : List Expr} {m n : M Bool} {pos : Pos} (h : PyT X cl E a m) (g : PyW X cl E (.BoolOp .And (b :: rest) pos) n) : PyW X cl E (.BoolOp .And (a :: b :: rest) pos) (mAnd m n) := by
  obtain ⟨tt, h1, h2⟩ := h.out
  obtain ⟨uu, g1, g2⟩ := g.out
  exact ⟨_, pw_and h1 g1, snd_and h2 g2⟩
theorem w_or {a b : Expr} {rest : List Expr} {m n : M Bool} {pos : Pos} (h : PyT X cl E a m) (g : PyW X cl E (.BoolOp .Or (b :: rest) pos) n) : PyW X cl E (.BoolOp .Or (a :: b :: rest) pos) (mOr m n) := by
  obtain ⟨tt, h1, h2⟩ := h.out
  obtain ⟨uu, g1, g2⟩ := g.out
  exact ⟨_, pw_or h1 g1, snd_or h2 g2⟩
theorem t_w {e : Expr} {m : M Bool} (h : PyW X cl E e m) : PyT X cl E e m := by
  obtain ⟨tt, h1, h2⟩ := h.out
  exact ⟨_, h1.pt, h2⟩
/-- .. as values, bools -/
def mAndV (a b : M D) : M D := bnd a fun x => bnd (lift (toB x)) fun k => if k = true then b else ret (.bl false)
def mOrV (a b : M D) : M D := bnd a fun x => bnd (lift (toB x)) fun k => if k = true then ret (.bl true) else b
def mNotV (a : M D) : M D := bnd a fun x => bnd (lift (toB x)) fun k => ret (.bl (!k))
theorem e_bool1 {op : BoolOp} {a : Expr} {m : M D} {pos : Pos} (h : PyE X cl E a m) : PyE X cl E (.BoolOp op [a] pos) m := by
  obtain ⟨te, h1, h2⟩ := h.out
  exact ⟨_, pe_one h1, h2⟩
theorem e_and {a b : Expr} {rest : List Expr} {m n : M D} {pos : Pos} (h : PyE X cl E a m) (g : PyE X cl E (.BoolOp .And (b :: rest) pos) n) : PyE X cl E (.BoolOp .And (a :: b :: rest) pos) (mAndV m n) := by
  obtain ⟨ta, h1, h2⟩ := h.out
  obtain ⟨tb, g1, g2⟩ := g.out
  refine ⟨_, pe_and h1 g1, fun T σ H Γ hW c Q q => ?_⟩
  refine h2 T σ H Γ hW c _ (q.bind.imp fun d Γ1 k1 v H1 n1 r1 => ?_)
  obtain ⟨k, hk, k2⟩ := (Fin.bind k1).lift toB_ne
  obtain ⟨rfl, rfl⟩ := r1.toB hk
  refine ⟨k, rfl, ?_⟩
  cases k with
  | true =>
    rw [if_pos rfl]
    exact g2 T σ H1 Γ1 hW n1.cfg _ (Fin.imp (show Fin T E (KE T σ H Γ Q) (n Γ1) from k2) fun d2 Γ2 k3 v2 H2 n2 r2 => k3 v2 H2 (n1.trans n2) r2)
  | false =>
    rw [if_neg Bool.false_ne_true]
    exact k2 _ H1 n1 (.bl false)
theorem e_or {a b : Expr} {rest : List Expr} {m n : M D} {pos : Pos} (h : PyE X cl E a m) (g : PyE X cl E (.BoolOp .Or (b :: rest) pos) n) : PyE X cl E (.BoolOp .Or (a :: b :: rest) pos) (mOrV m n) := by
  obtain ⟨ta, h1, h2⟩ := h.out
  obtain ⟨tb, g1, g2⟩ := g.out
  refine ⟨_, pe_or h1 g1, fun T σ H Γ hW c Q q => ?_⟩
  refine h2 T σ H Γ hW c _ (q.bind.imp fun d Γ1 k1 v H1 n1 r1 => ?_)
  obtain ⟨k, hk, k2⟩ := (Fin.bind k1).lift toB_ne
  obtain ⟨rfl, rfl⟩ := r1.toB hk
  refine ⟨k, rfl, ?_⟩
  cases k with
  | false =>
    rw [if_neg Bool.false_ne_true]
    exact g2 T σ H1 Γ1 hW n1.cfg _ (Fin.imp (show Fin T E (KE T σ H Γ Q) (n Γ1) from k2) fun d2 Γ2 k3 v2 H2 n2 r2 => k3 v2 H2 (n1.trans n2) r2)
  | true =>
    rw [if_pos rfl]
    exact k2 _ H1 n1 (.bl true)
theorem e_not {a : Expr} {m : M D} {pos : Pos} (h : PyE X cl E a m) : PyE X cl E (.UnaryOp .Not a pos) (mNotV m) := by
  obtain ⟨ta, h1, h2⟩ := h.out
  refine ⟨_, pe_not h1, fun T σ H Γ hW c Q q => ?_⟩
  refine h2 T σ H Γ hW c _ (q.bind.imp fun d Γ1 k1 v H1 n1 r1 => ?_)
  obtain ⟨k, hk, k2⟩ := (Fin.bind k1).lift toB_ne
  obtain ⟨rfl, rfl⟩ := r1.toB hk
  exact ⟨k, rfl, k2 _ H1 n1 (.bl _)⟩
/-- a if t else b -/
def mIf {α : Type} (t : M Bool) (a b : M α) : M α := bnd t fun k => if k = true then a else b
theorem e_if {c a b : Expr} {t : M Bool} {m n : M D} {pos : Pos} (hc : PyT X cl E c t) (h : PyE X cl E a m) (g : PyE X cl E b n) : PyE X cl E (.IfExp c a b pos) (mIf t m n) := by
  obtain ⟨tt, c1, c2⟩ := hc.out
  obtain ⟨ta, h1, h2⟩ := h.out
  obtain ⟨tb, g1, g2⟩ := g.out
  refine ⟨_, pe_ifExp c1 h1 g1, fun T σ H Γ hW cf Q q => ?_⟩
  refine c2 T σ H Γ hW cf _ (q.bind.imp fun k Γ1 k1 H1 n1 => ?_)
  cases k with
  | true =>
    rw [if_pos rfl]
    exact h2 T σ H1 Γ1 hW n1.cfg _ (Fin.imp (show Fin T E (KE T σ H Γ Q) (m Γ1) from k1) fun d2 Γ2 k3 v2 H2 n2 r2 => k3 v2 H2 (n1.trans n2) r2)
  | false =>
    rw [if_neg Bool.false_ne_true]
    exact g2 T σ H1 Γ1 hW n1.cfg _ (Fin.imp (show Fin T E (KE T σ H Γ Q) (n Γ1) from k1) fun d2 Γ2 k3 v2 H2 n2 r2 => k3 v2 H2 (n1.trans n2) r2)
/-! ### argument lists, displays -/
def mNil : M (List D) := ret []
def mCons (a : M D) (r : M (List D)) : M (List D) := bnd a fun x => bnd r fun xs => ret (x :: xs)
theorem a_nil : PyA X cl E [] mNil := ⟨_, pa_nil, fun T σ H Γ hW c Q q => q [] H (.refl c) .nil⟩
theorem a_cons {e : Expr} {es : List Expr} {m : M D} {r : M (List D)} (h : PyE X cl E e m) (g : PyA X cl E es r) (hs : starEach (e :: es) X.env = (false, eval e X.env) :: starEach es X.env := by rfl) : PyA X cl E (e :: es) (mCons m r) := by
  obtain ⟨te, h1, h2⟩ := h.out
  obtain ⟨ta, g1, g2⟩ := g.out
  refine ⟨_, pa_cons h1 g1 hs, fun T σ H Γ hW c Q q => ?_⟩
  refine h2 T σ H Γ hW c _ (q.bind.imp fun d Γ1 k1 v H1 n1 r1 => ?_)
  refine g2 T σ H1 Γ1 hW n1.cfg _ (k1.bind.imp fun ds Γ2 k2 vs H2 n2 r2 => ?_)
  exact k2 _ H2 (n1.trans n2) (.cons (r1.move n2.fr) r2)
def dTup (xs : List D) : R D := if xs.length ≤ big then .ok (.tup xs) else .bad
def dLst (xs : List D) : R D := if xs.length ≤ big then .ok (.lst xs) else .bad
theorem dTup_ne {d : List D} : ∀ c fs, dTup d ≠ .exc c fs := fun c fs h => by unfold dTup at h; split at h <;> cases h
theorem dLst_ne {d : List D} : ∀ c fs, dLst d ≠ .exc c fs := fun c fs h => by unfold dLst at h; split at h <;> cases h
def mTup (a : M (List D)) : M D := bnd a fun xs => lift (dTup xs)
def mLst (a : M (List D)) : M D := bnd a fun xs => lift (dLst xs)
theorem e_tup {es : List Expr} {m : M (List D)} {pos : Pos} {x1 : Nat} (h : PyA X cl E es m) : PyE X cl E (.Tuple es x1 pos) (mTup m) := by
  obtain ⟨ta, h1, h2⟩ := h.out
  refine ⟨_, pe_tup h1, fun T σ H Γ hW c Q q => ?_⟩
  refine h2 T σ H Γ hW c _ (q.bind.imp fun ds Γ1 k1 vs H1 n1 r1 => ?_)
  obtain ⟨z, hz, k2⟩ := k1.lift dTup_ne
  obtain ⟨c2, rfl⟩ := ite_ok hz
  exact ⟨big_line (by rw [r1.len]; exact c2), fun p hp => k2 _ _ (n1.trans (n1.cfg.more (upd_more hp))) (rep_newT n1.cfg.sd hp r1)⟩
theorem Nx.old {T : Act} {σ σ' : L2.St} {H H' : Hp} {Γ Γ' : Env} (n : Nx T σ H Γ σ' H' Γ') {p : Addr} (h : H' p = none) : H p = none := by
  cases q : H p with
  | none => rfl
  | some u' => exact absurd h (n.fr.grow p (by rw [q]; intro z; cases z))
theorem n_lst {es : List Expr} {m : M (List D)} {pos : Pos} (h : PyA X cl E es m) : PyN X cl E (.List es pos) (mLst m) := by
  obtain ⟨ta, h1, h2⟩ := h.out
  refine ⟨_, pe_lst h1, fun T σ H Γ hW c Q q => ?_⟩
  refine h2 T σ H Γ hW c _ (q.bind.imp fun ds Γ1 k1 vs H1 n1 r1 => ?_)
  obtain ⟨z, hz, k2⟩ := k1.lift dLst_ne
  obtain ⟨c2, rfl⟩ := ite_ok hz
  exact ⟨big_line (by rw [r1.len]; exact c2), fun p hp => k2 _ _ _ n1 hp (upd_more hp) (own_new n1.cfg.sd hp r1)⟩
end DL
/-! DL4: items, membership, slices, built-in calls; reading an own thing without giving it away. -/
namespace DL
open PySem L2
variable {cl : Nat → Addr} {E : XK} {X : Cx}
/-! ### keys -/
def keyD : D → Option Key
  | .int i => some (.inl i)
  | .str x => some (.inr x)
  | _ => none
def keysD : List D → Option (List Key)
  | [] => some []
  | d :: ds => match keyD d, keysD ds with
    | some k, some ks => some (k :: ks)
    | _, _ => none
theorem Rep.key {W : Wd} {H : Hp} {S : AS} {v : V} {d : D} {k : Key} (r : Rep W H S v d) (h : keyD d = some k) : v = kV k := by
  cases r <;> cases h <;> rfl
theorem RepL.keys {W : Wd} {H : Hp} {S : AS} : ∀ {vs : List V} {ds : List D} {ks : List Key}, RepL W H S vs ds → keysD ds = some ks → vs = ks.map kV
  | _, _, _, .nil, h => by cases h; rfl
  | _, _, _, .cons (d := d) (ds := ds) r t, h => by
    cases z : keyD d with
    | none => simp [keysD, z] at h
    | some a =>
      cases z2 : keysD ds with
      | none => simp [keysD, z, z2] at h
      | some b =>
        simp [keysD, z, z2] at h
        subst h
        rw [r.key z, RepL.keys t z2]
        rfl
section
variable {κ : Type} [DecidableEq κ]
def dGet (kvs : List (κ × D)) (k : κ) : Option D := (kvs.find? fun kv => decide (kv.1 = k)).map (·.2)
def dPut (kvs : List (κ × D)) (k : κ) (v : D) : List (κ × D) :=
  if (kvs.any fun kv => decide (kv.1 = k)) = true then kvs.map (fun kv => if kv.1 = k then (kv.1, v) else kv) else kvs ++ [(k, v)]
theorem get_rel {W : Wd} {H : Hp} {S : AS} {k : κ} : ∀ {kvs : List (κ × V)} {ds : List (κ × D)}, kvs.map Prod.fst = ds.map Prod.fst → RepL W H S (kvs.map Prod.snd) (ds.map Prod.snd) →
    (∀ z, dGet ds k = some z → ∃ v, valV kvs k = some v ∧ Rep W H S v z) ∧ (dGet ds k = none → valV kvs k = none)
  | [], [], _, _ => ⟨fun z h => by simp [dGet] at h, fun _ => rfl⟩
  | [], _ :: _, h, _ => by simp at h
  | _ :: _, [], h, _ => by simp at h
  | (a, v) :: kvs, (b, d) :: ds, h, r => by
    simp only [List.map_cons, List.cons.injEq] at h
    obtain ⟨h1, h2⟩ := h
    have h1 : a = b := h1
    subst h1
    cases r with
    | cons r1 r2 =>
      obtain ⟨i1, i2⟩ := get_rel (k := k) h2 r2
      by_cases e : a = k
      · subst e
        refine ⟨fun z hz => ?_, fun hz => ?_⟩
        · rw [valV_pos rfl]
          simp [dGet, List.find?_cons] at hz
          subst hz
          exact ⟨_, rfl, r1⟩
        · simp [dGet, List.find?_cons] at hz
      · rw [valV_neg (show ¬ (a, v).1 = k from e)]
        have e2 : dGet ((a, d) :: ds) k = dGet ds k := by simp [dGet, List.find?_cons, e]
        rw [e2]
        exact ⟨i1, i2⟩
theorem any_keys {kvs : List (κ × V)} {ds : List (κ × D)} {k : κ} (h : kvs.map Prod.fst = ds.map Prod.fst) : (kvs.any fun kv => decide (kv.1 = k)) = ds.any fun kv => decide (kv.1 = k) := by
  have e1 : (kvs.any fun kv => decide (kv.1 = k)) = (kvs.map Prod.fst).any fun a => decide (a = k) := by rw [List.any_map]; rfl
  have e2 : (ds.any fun kv => decide (kv.1 = k)) = (ds.map Prod.fst).any fun a => decide (a = k) := by rw [List.any_map]; rfl
  rw [e1, e2, h]
theorem repl_rel {W : Wd} {H : Hp} {S : AS} {k : κ} {v : V} {d : D} (r : Rep W H S v d) : ∀ {kvs : List (κ × V)} {ds : List (κ × D)}, kvs.map Prod.fst = ds.map Prod.fst → RepL W H S (kvs.map Prod.snd) (ds.map Prod.snd) →
    (kvs.map fun kv => if kv.1 = k then (kv.1, v) else kv).map Prod.fst = (ds.map fun kv => if kv.1 = k then (kv.1, d) else kv).map Prod.fst ∧ RepL W H S ((kvs.map fun kv => if kv.1 = k then (kv.1, v) else kv).map Prod.snd) ((ds.map fun kv => if kv.1 = k then (kv.1, d) else kv).map Prod.snd)
  | [], [], _, _ => ⟨rfl, .nil⟩
  | [], _ :: _, h, _ => by simp at h
  | _ :: _, [], h, _ => by simp at h
  | (a, v0) :: kvs, (b, d0) :: ds, h, q => by
    simp only [List.map_cons, List.cons.injEq] at h
    obtain ⟨h1, h2⟩ := h
    have h1 : a = b := h1
    subst h1
    cases q with
    | cons q1 q2 =>
      obtain ⟨i1, i2⟩ := repl_rel r h2 q2
      by_cases e : a = k
      · simp only [List.map_cons, e, if_true]
        exact ⟨by rw [i1], .cons r i2⟩
      · simp only [List.map_cons, e, if_false]
        exact ⟨by rw [i1], .cons q1 i2⟩
theorem put_rel {W : Wd} {H : Hp} {S : AS} {k : κ} {v : V} {d : D} (r : Rep W H S v d) {kvs : List (κ × V)} {ds : List (κ × D)} (h : kvs.map Prod.fst = ds.map Prod.fst) (q : RepL W H S (kvs.map Prod.snd) (ds.map Prod.snd)) :
    (putK kvs k v).map Prod.fst = (dPut ds k d).map Prod.fst ∧ RepL W H S ((putK kvs k v).map Prod.snd) ((dPut ds k d).map Prod.snd) := by
  unfold putK dPut
  rw [any_keys h]
  split
  · exact repl_rel r h q
  · simp only [List.map_append, h]
    exact ⟨rfl, q.append (.cons r .nil)⟩
end
theorem map_len {α β γ : Type} {kvs : List (α × β)} {ds : List (α × γ)} (h : kvs.map Prod.fst = ds.map Prod.fst) : kvs.length = ds.length := by
  have := congrArg List.length h
  rw [List.length_map, List.length_map] at this
  exact this
/-! ### items -/
def orBad {α : Type} : Option α → R α
  | some a => .ok a
  | none => .bad
theorem orBad_ok {α : Type} {o : Option α} {a : α} (h : orBad o = .ok a) : o = some a := by
  cases o <;> cases h; rfl
def dIx : D → D → R D
  | .lst xs, .int i => orBad (atI xs i)
  | .tup xs, .int i => orBad (atI xs i)
  | .str x, .int i => if x.length ≤ big then orBad ((atI x.cps.toList i).map fun c => .str ⟨#[c]⟩) else .bad
  | .dK kvs, .int i => orBad (dGet kvs (.inl i))
  | .dK kvs, .str x => orBad (dGet kvs (.inr x))
  | .dT kvs, .tup ks => orBad ((keysD ks).bind fun k => dGet kvs k)
  | _, _ => .bad
theorem RepL.atI {W : Wd} {H : Hp} {S : AS} {vs : List V} {ds : List D} (r : RepL W H S vs ds) {i : Int} {z : D} (h : L2.atI ds i = some z) : ∃ v, L2.atI vs i = some v ∧ Rep W H S v z := by
  unfold L2.atI at h ⊢
  rw [r.len]
  cases e : ixN ds.length i with
  | none => rw [e] at h; cases h
  | some j => rw [e] at h; exact r.get h
/-- an item, by what stands at the address -/
def rIxA (K : PySem.W.Frag) : R2 := fun x y H Q => rIx K x y H Q ∨ ∃ a v, x = .ref a ∧ DGet H a y (some v) ∧ Q v H
theorem ixA {W : Wd} {H : Hp} {S : AS} {x y : V} {d e z : D} (hx : Rep W H S x d ∨ ∃ p, x = .ref p ∧ OwnAt W H S p d) (ry : Rep W H S y e) (hz : dIx d e = .ok z) {Q : VK} (q : ∀ v, Rep W H S v z → Q v H) : rIxA W.K x y H Q := by
  have lst : ∀ (a : Addr) (xs : List V) (ds : List D), x = .ref a → d = .lst ds → H a = some (.lst xs) → RepL W H S xs ds → rIxA W.K x y H Q := fun a xs ds ex ed h r => by
    subst ex ed
    cases ry <;> try (cases hz; done)
    rename_i i
    obtain ⟨v, h1, h2⟩ := r.atI (orBad_ok hz)
    exact .inl (.inl ⟨a, xs, i, v, rfl, rfl, .of h, h1, q v h2⟩)
  have dk : ∀ (a : Addr) (kvs : List (Key × V)) (ds : List (Key × D)), x = .ref a → d = .dK ds → H a = some (.dK kvs) → kvs.map Prod.fst = ds.map Prod.fst → RepL W H S (kvs.map Prod.snd) (ds.map Prod.snd) → rIxA W.K x y H Q := fun a kvs ds ex ed h k r => by
    subst ex ed
    cases ry <;> try (cases hz; done)
    · rename_i i
      obtain ⟨v, h1, h2⟩ := (get_rel (k := Sum.inl i) k r).1 z (orBad_ok hz)
      exact .inr ⟨a, v, rfl, by rw [← h1]; exact .k (k := Sum.inl i) h, q v h2⟩
    · rename_i i
      obtain ⟨v, h1, h2⟩ := (get_rel (k := Sum.inr i) k r).1 z (orBad_ok hz)
      exact .inr ⟨a, v, rfl, by rw [← h1]; exact .k (k := Sum.inr i) h, q v h2⟩
  have dt : ∀ (a : Addr) (kvs : List (List Key × V)) (ds : List (List Key × D)), x = .ref a → d = .dT ds → H a = some (.dT kvs) → kvs.map Prod.fst = ds.map Prod.fst → RepL W H S (kvs.map Prod.snd) (ds.map Prod.snd) → rIxA W.K x y H Q := fun a kvs ds ex ed h k r => by
    subst ex ed
    cases ry <;> try (cases hz; done)
    rename_i b ys es nb hb rb
    have hz' := orBad_ok hz
    cases ek : keysD es with
    | none => rw [ek] at hz'; cases hz'
    | some ks =>
      rw [ek] at hz'
      obtain ⟨v, h1, h2⟩ := (get_rel k r).1 z hz'
      exact .inr ⟨a, v, rfl, by rw [← h1]; exact .t h (by rw [hb, rb.keys ek]), q v h2⟩
  rcases hx with rx | ⟨p, rfl, o⟩
  · cases rx <;> try (cases hz; done)
    · rename_i w
      cases ry <;> try (cases hz; done)
      rename_i i
      have hz0 : (if w.length ≤ big then orBad ((L2.atI w.cps.toList i).map fun c => D.str ⟨#[c]⟩) else .bad) = .ok z := hz
      have c : w.length ≤ big := by
        by_cases c : w.length ≤ big
        · exact c
        · rw [if_neg c] at hz0; cases hz0
      rw [if_pos c] at hz0
      have hz' := orBad_ok hz0
      cases e2 : L2.atI w.cps.toList i with
      | none => rw [e2] at hz'; cases hz'
      | some cc =>
        rw [e2] at hz'
        cases hz'
        exact .inl (.inr (.inr ⟨w, i, cc, rfl, rfl, big_line c, e2, q _ (.str _)⟩))
    · exact lst _ _ _ rfl rfl (by assumption) (by assumption)
    · rename_i a xs ds n h r
      cases ry <;> try (cases hz; done)
      rename_i i
      obtain ⟨v, h1, h2⟩ := r.atI (orBad_ok hz)
      exact .inl (.inr (.inl ⟨a, xs, i, v, rfl, rfl, .of h, h1, q v h2⟩))
    · exact dk _ _ _ rfl rfl (by assumption) (by assumption) (by assumption)
    · exact dt _ _ _ rfl rfl (by assumption) (by assumption) (by assumption)
  · cases d <;> try (exact o.elim)
    · obtain ⟨xs, h, r⟩ := o
      exact lst _ _ _ rfl rfl h r
    · obtain ⟨xs, h, k, r⟩ := o
      exact dk _ _ _ rfl rfl h k r
    · obtain ⟨xs, h, k, r⟩ := o
      exact dt _ _ _ rfl rfl h k r
    · cases e <;> cases hz
theorem ix_dict (hu : X.A.units + 1 < cLine) : IxR X (fun x y H Q => ∃ a v, x = .ref a ∧ DGet H a y (some v) ∧ Q v H) := by
  intro value slice pins s σ H x y v u Q I rx ry h hs
  obtain ⟨a, w, rfl, g, q⟩ := h
  obtain rfl : v = Value.ref a := rx
  exact PyProof.Rows.tail_any (dict_typeIs I g) PySem.F.slot_dict_getitem.lookup (d_getItem hu I g ry fun w' s3 I3 rw' => ⟨w, H, I3, rw', q⟩) hs
theorem ix_all (hu : X.A.units + 1 < cLine) : IxR X (rIxA X.K) := ix_seq.or (ix_dict hu)
theorem orBad_ne {α : Type} {o : Option α} : ∀ c fs, orBad o ≠ .exc c fs := fun c fs h => by cases o <;> cases h
theorem e_ix {a b : Expr} {ma mb : M D} {pos : Pos} (hu : X.A.units + 1 < cLine) (ha : PyE X cl E a ma) (hb : PyE X cl E b mb) (hs : PlainIx b := by exact fun _ _ => rfl) : PyE X cl E (.Subscript a b pos) (mOp dIx ma mb) := by
  obtain ⟨ta, a1, a2⟩ := ha.out
  obtain ⟨tb, b1, b2⟩ := hb.out
  refine ⟨_, pe_ix (ix_all hu) a1 b1 hs, snd_op (W := ⟨X.K, cl⟩) (fun W H S x y d e z hW sd rx ry hz Q q => ?_) a2 b2⟩
  have hW : W.K = X.K := hW
  rw [← hW]
  exact ixA (.inl rx) ry hz fun v r => q v H (fun _ _ h => h) r
/-- x[b], x the name of an own thing: the item, the thing stays one's own -/
def ownAt (Γ : Env) (i : Nat) : R D := match Γ[i]? with
  | some (.ow d) => .ok d
  | some (.bo d) => .ok d
  | _ => .bad
def mIxB (i : Nat) (b : M D) : M D := fun Γ => (ownAt Γ i).bind fun _ => (b Γ).bind fun y => (ownAt y.2 i).bind fun d => (noexc (dIx d y.1)).bind fun z => .ok (z, y.2)
theorem ownAt_ne {Γ : Env} {i : Nat} : ∀ c fs, ownAt Γ i ≠ .exc c fs := fun c fs h => by
  unfold ownAt at h
  split at h <;> cases h
theorem Cfg.at {T : Act} {σ : L2.St} {H : Hp} {Γ : Env} (c : Cfg T σ H Γ) {i : Nat} {d : D} (h : ownAt Γ i = .ok d) : ∃ p, σ[i]? = some (some (.ref p)) ∧ Owns σ Γ i p ∧ OwnAt T.W H (Sx T.S σ Γ) p d := by
  unfold ownAt at h
  split at h
  · rename_i d' e
    cases h
    obtain ⟨p, h1, _, _, h2⟩ := c.ow i d e
    exact ⟨p, h1, ⟨h1, d, by rw [e]; rfl⟩, h2⟩
  · rename_i d' e
    cases h
    obtain ⟨h1, _, h2⟩ := c.bo i d e
    exact ⟨_, h1, ⟨h1, d, by rw [e]; rfl⟩, h2⟩
  · cases h
theorem e_ixB (i : Nat) {b : Expr} {mb : M D} {x : Str} {pos pos' : Pos} (hu : X.A.units + 1 < cLine) (hb : PyE X cl E b mb) (hs : PlainIx b := by exact fun _ _ => rfl) (hN : X.N[i]? = some x := by rfl) (hv : Vis X.env.scope x := by first | exact Or.inl rfl | exact Or.inr (Or.inl rfl) | exact Or.inr (Or.inr rfl))
    (hd : (x == ("__debug__" : Str)) = false := by decide) (hcd : (x == ("__classdict__" : Str)) = false := by decide) : PyE X cl E (.Subscript (.Name x pos') b pos) (mIxB i mb) := by
  obtain ⟨tb, b1, b2⟩ := hb.out
  refine ⟨_, pe_ix (ix_all hu) (pe_var hN hv hd hcd) b1 hs, fun T σ H Γ hW c Q q => ?_⟩
  obtain ⟨d0, hd0, q⟩ := Fin.lift (P := KE T σ H Γ Q) q ownAt_ne
  obtain ⟨p, hp, _, _⟩ := c.at hd0
  refine ⟨_, hp, b2 T σ H Γ hW c _ (q.bind.imp fun e Γ1 k1 y H1 n1 r1 => ?_)⟩
  obtain ⟨d, hd, k2⟩ := Fin.lift (P := KE T σ H Γ Q) k1 ownAt_ne
  obtain ⟨z, hz, k3⟩ := k2.lift noexc_ne
  obtain ⟨p', h1, _, o⟩ := n1.cfg.at hd
  rw [hp] at h1
  cases h1
  have e : T.W.K = X.K := congrArg Wd.K hW
  rw [← e]
  exact ixA (.inr ⟨p, rfl, o⟩) r1 (noexc_ok hz) fun v r => k3 v H1 n1 r
end DL
/-! DL5: membership, slices, built-in calls. -/
namespace DL
open PySem L2
variable {cl : Nat → Addr} {E : XK} {X : Cx}
/-! ### flat values -/
def toV : D → Option V
  | .non => some .non
  | .bl b => some (.bl b)
  | .int i => some (.int i)
  | .str x => some (.str x)
  | _ => none
def toVs : List D → Option (List V)
  | [] => some []
  | d :: ds => match toV d, toVs ds with
    | some v, some vs => some (v :: vs)
    | _, _ => none
theorem Rep.toV {W : Wd} {H : Hp} {S : AS} {v w : V} {d : D} (r : Rep W H S v d) (h : DL.toV d = some w) : v = w ∧ flatV w = true := by
  cases r <;> cases h <;> exact ⟨rfl, rfl⟩
theorem RepL.toVs {W : Wd} {H : Hp} {S : AS} : ∀ {vs : List V} {ds : List D} {ws : List V}, RepL W H S vs ds → DL.toVs ds = some ws → vs = ws ∧ ws.all flatV = true
  | _, _, _, .nil, h => by cases h; exact ⟨rfl, rfl⟩
  | _, _, _, .cons (d := d) (ds := ds) r t, h => by
    cases z : DL.toV d with
    | none => simp [DL.toVs, z] at h
    | some a =>
      cases z2 : DL.toVs ds with
      | none => simp [DL.toVs, z, z2] at h
      | some b =>
        simp [DL.toVs, z, z2] at h
        subst h
        obtain ⟨e1, f1⟩ := r.toV z
        obtain ⟨e2, f2⟩ := RepL.toVs t z2
        rw [e1, e2, List.all_cons, f1, f2]
        exact ⟨rfl, rfl⟩
/-! ### x in y -/
def inD : D → D → Option Bool
  | x, .lst xs => match toV x, toVs xs with
    | some v, some vs => some (inV v vs)
    | _, _ => none
  | x, .tup xs => match toV x, toVs xs with
    | some v, some vs => some (inV v vs)
    | _, _ => none
  | .int i, .dK kvs => some (dGet kvs (.inl i)).isSome
  | .str x, .dK kvs => some (dGet kvs (.inr x)).isSome
  | .tup ks, .dT kvs => (keysD ks).map fun k => (dGet kvs k).isSome
  | .str c, .str z => some (!(Builtin.Str.occurrences z c 0 z.length 1).isEmpty)
  | _, _ => none
def dIn (neg : Bool) (x y : D) : R D := orBad ((inD x y).map fun b => D.bl (if neg then !b else b))
def rInA (K : PySem.W.Frag) (neg : Bool) : R2 := fun x y H Q => rIn K neg x y H Q ∨ (∃ a o, y = .ref a ∧ DGet H a x o ∧ Q (.bl (if neg then !o.isSome else o.isSome)) H) ∨
  (∃ i j, x = .str i ∧ y = .str j ∧ Q (.bl (if neg then !(!(Builtin.Str.occurrences j i 0 j.length 1).isEmpty) else !(Builtin.Str.occurrences j i 0 j.length 1).isEmpty)) H)
theorem op_inA (hu : X.A.units + 1 < cLine) : OpR X (compareOp .In) (rInA X.K false) := by
  refine op_in_seq.or (OpR.or ?_ op_in_str)
  intro pins s σ H x y v u Q I rx ry h
  obtain ⟨a, o, rfl, g, q⟩ := h
  obtain rfl : u = Value.ref a := ry
  exact d_in hu I g rx fun s3 I3 => ⟨.bl o.isSome, H, I3, rfl, q⟩
theorem op_notInA (hu : X.A.units + 1 < cLine) : OpR X (compareOp .NotIn) (rInA X.K true) := by
  refine op_notIn_seq.or (OpR.or ?_ op_notIn_str)
  intro pins s σ H x y v u Q I rx ry h
  obtain ⟨a, o, rfl, g, q⟩ := h
  obtain rfl : u = Value.ref a := ry
  exact d_notIn hu I g rx fun s3 I3 => ⟨.bl (!o.isSome), H, I3, rfl, q⟩
theorem get_some {κ : Type} [DecidableEq κ] {W : Wd} {H : Hp} {S : AS} {k : κ} {kvs : List (κ × V)} {ds : List (κ × D)} (h : kvs.map Prod.fst = ds.map Prod.fst) (r : RepL W H S (kvs.map Prod.snd) (ds.map Prod.snd)) : (valV kvs k).isSome = (dGet ds k).isSome := by
  obtain ⟨h1, h2⟩ := get_rel (k := k) h r
  cases e : dGet ds k with
  | none => rw [h2 e]; rfl
  | some z => obtain ⟨v, h3, _⟩ := h1 z e; rw [h3]; rfl
theorem inA {W : Wd} {H : Hp} {S : AS} {neg : Bool} {x y : V} {d e z : D} (rx : Rep W H S x d) (hy : Rep W H S y e ∨ ∃ p, y = .ref p ∧ OwnAt W H S p e) (hz : dIn neg d e = .ok z) {Q : VK} (q : ∀ b, z = .bl b → Q (.bl b) H) : rInA W.K neg x y H Q := by
  replace hz := orBad_ok hz
  have lst : ∀ (a : Addr) (xs : List V) (ds : List D), y = .ref a → (SqL W.K H a xs ∨ SqT W.K H a xs) → RepL W H S xs ds → (match DL.toV d, DL.toVs ds with | some v, some vs => some (inV v vs) | _, _ => none).map (fun b => D.bl (if neg then !b else b)) = some z → rInA W.K neg x y H Q := fun a xs ds ey h r hz => by
    subst ey
    cases e1 : DL.toV d with
    | none => rw [e1] at hz; cases hz
    | some v =>
      cases e2 : DL.toVs ds with
      | none => rw [e1, e2] at hz; cases hz
      | some vs =>
        rw [e1, e2] at hz
        cases hz
        obtain ⟨rfl, f1⟩ := rx.toV e1
        obtain ⟨rfl, f2⟩ := r.toVs e2
        exact .inl ⟨a, xs, rfl, h, f1, f2, q _ rfl⟩
  have dk : ∀ (a : Addr) (kvs : List (Key × V)) (ds : List (Key × D)), y = .ref a → e = .dK ds → H a = some (.dK kvs) → kvs.map Prod.fst = ds.map Prod.fst → RepL W H S (kvs.map Prod.snd) (ds.map Prod.snd) → rInA W.K neg x y H Q := fun a kvs ds ey ee h k r => by
    subst ey ee
    cases rx <;> try (cases hz; done)
    · rename_i i
      cases hz
      refine .inr (.inl ⟨a, _, rfl, .k (k := Sum.inl i) h, ?_⟩)
      rw [get_some k r]
      exact q _ rfl
    · rename_i i
      cases hz
      refine .inr (.inl ⟨a, _, rfl, .k (k := Sum.inr i) h, ?_⟩)
      rw [get_some k r]
      exact q _ rfl
  have dt : ∀ (a : Addr) (kvs : List (List Key × V)) (ds : List (List Key × D)), y = .ref a → e = .dT ds → H a = some (.dT kvs) → kvs.map Prod.fst = ds.map Prod.fst → RepL W H S (kvs.map Prod.snd) (ds.map Prod.snd) → rInA W.K neg x y H Q := fun a kvs ds ey ee h k r => by
    subst ey ee
    cases rx <;> try (cases hz; done)
    rename_i b ys es nb hb rb
    cases ek : keysD es with
    | none => simp [inD, ek] at hz
    | some ks =>
      simp only [inD, ek, Option.map_some, Option.some.injEq] at hz
      subst hz
      refine .inr (.inl ⟨a, _, rfl, .t h (by rw [hb, rb.keys ek]), ?_⟩)
      rw [get_some k r]
      exact q _ rfl
  rcases hy with ry | ⟨p, rfl, o⟩
  · cases ry with
    | lst n h r =>
      refine lst _ _ _ rfl (.inl (.of h)) r ?_
      cases d <;> exact hz
    | tup n h r =>
      refine lst _ _ _ rfl (.inr (.of h)) r ?_
      cases d <;> exact hz
    | dK n h k r => exact dk _ _ _ rfl rfl h k r
    | dT n h k r => exact dt _ _ _ rfl rfl h k r
    | str w =>
      cases rx <;> try (cases hz; done)
      rename_i c
      cases hz
      exact .inr (.inr ⟨c, w, rfl, rfl, q _ rfl⟩)
    | _ => cases d <;> cases hz
  · cases e <;> try (exact o.elim)
    · obtain ⟨xs, h, r⟩ := o
      refine lst _ _ _ rfl (.inl (.of h)) r ?_
      cases d <;> exact hz
    · obtain ⟨xs, h, k, r⟩ := o
      exact dk _ _ _ rfl rfl h k r
    · obtain ⟨xs, h, k, r⟩ := o
      exact dt _ _ _ rfl rfl h k r
    · cases d <;> cases hz
theorem opS_in {K : PySem.W.Frag} {neg : Bool} : OpS K (rInA K neg) (dIn neg) := fun W H S x y d e z hW sd rx ry hz Q q => by
  subst hW
  exact inA rx (.inl ry) hz fun b hb => q _ H (fun _ _ h => h) (hb ▸ .bl b)
theorem o_in (hu : X.A.units + 1 < cLine) : ∃ r, OpR X (compareOp .In) r ∧ OpS X.K r (dIn false) := ⟨_, op_inA hu, opS_in⟩
theorem o_notin (hu : X.A.units + 1 < cLine) : ∃ r, OpR X (compareOp .NotIn) r ∧ OpS X.K r (dIn true) := ⟨_, op_notInA hu, opS_in⟩
/-- x in y, y the name of an own thing -/
def mInB (neg : Bool) (i : Nat) (a : M D) : M D := bnd a fun x => fun Γ => (ownAt Γ i).bind fun d => (dIn neg x d).bind fun z => .ok (z, Γ)
theorem dIn_ne {neg : Bool} {x y : D} : ∀ c fs, dIn neg x y ≠ .exc c fs := orBad_ne
theorem snd_inB {W : Wd} {neg : Bool} {i : Nat} {ta : TE} {a : M D} (ha : SndE W E ta a) : SndE W E (tOp (rInA W.K neg) ta (tVar i)) (mInB neg i a) := fun T σ H Γ hW c Q q => by
  refine ha T σ H Γ hW c _ (q.bind.imp fun x Γ1 k1 v H1 n1 r1 => ?_)
  obtain ⟨d, hd, k2⟩ := Fin.lift (P := KE T σ H Γ Q) k1 ownAt_ne
  obtain ⟨z, hz, k3⟩ := Fin.lift (P := KE T σ H Γ Q) k2 dIn_ne
  obtain ⟨p, hp, _, o⟩ := n1.cfg.at hd
  subst hW
  exact ⟨_, hp, inA r1 (.inr ⟨p, rfl, o⟩) hz fun b hb => k3 _ H1 n1 (hb ▸ .bl b)⟩
theorem e_inB (i : Nat) {a : Expr} {ma : M D} {x : Str} {pos pos' : Pos} (hu : X.A.units + 1 < cLine) (ha : PyE X cl E a ma) (hm : behindInMarks .In (.Name x pos') = false := by with_unfolding_all rfl) (hN : X.N[i]? = some x := by rfl)
    (hv : Vis X.env.scope x := by first | exact Or.inl rfl | exact Or.inr (Or.inl rfl) | exact Or.inr (Or.inr rfl)) (hd : (x == ("__debug__" : Str)) = false := by decide) (hcd : (x == ("__classdict__" : Str)) = false := by decide) : PyE X cl E (.Compare a [.In] [.Name x pos'] pos) (mInB false i ma) := by
  obtain ⟨ta, a1, a2⟩ := ha.out
  exact ⟨_, pe_cmpR (op_inA hu) a1 (pe_var hN hv hd hcd) hm, snd_inB (W := ⟨X.K, cl⟩) a2⟩
theorem e_notinB (i : Nat) {a : Expr} {ma : M D} {x : Str} {pos pos' : Pos} (hu : X.A.units + 1 < cLine) (ha : PyE X cl E a ma) (hm : behindInMarks .NotIn (.Name x pos') = false := by with_unfolding_all rfl) (hN : X.N[i]? = some x := by rfl)
    (hv : Vis X.env.scope x := by first | exact Or.inl rfl | exact Or.inr (Or.inl rfl) | exact Or.inr (Or.inr rfl)) (hd : (x == ("__debug__" : Str)) = false := by decide) (hcd : (x == ("__classdict__" : Str)) = false := by decide) : PyE X cl E (.Compare a [.NotIn] [.Name x pos'] pos) (mInB true i ma) := by
  obtain ⟨ta, a1, a2⟩ := ha.out
  exact ⟨_, pe_cmpR (op_notInA hu) a1 (pe_var hN hv hd hcd) hm, snd_inB (W := ⟨X.K, cl⟩) a2⟩
theorem t_inB (i : Nat) {a : Expr} {ma : M D} {x : Str} {pos pos' : Pos} (hu : X.A.units + 1 < cLine) (ha : PyE X cl E a ma) (hm : behindInMarks .In (.Name x pos') = false := by with_unfolding_all rfl) (hN : X.N[i]? = some x := by rfl)
    (hv : Vis X.env.scope x := by first | exact Or.inl rfl | exact Or.inr (Or.inl rfl) | exact Or.inr (Or.inr rfl)) (hd : (x == ("__debug__" : Str)) = false := by decide) (hcd : (x == ("__classdict__" : Str)) = false := by decide) : PyT X cl E (.Compare a [.In] [.Name x pos'] pos) (mT (mInB false i ma)) := by
  obtain ⟨ta, a1, a2⟩ := ha.out
  exact ⟨_, pt_cmpR (op_inA hu) a1 (pe_var hN hv hd hcd) hm, snd_test (snd_inB (W := ⟨X.K, cl⟩) a2)⟩
theorem t_notinB (i : Nat) {a : Expr} {ma : M D} {x : Str} {pos pos' : Pos} (hu : X.A.units + 1 < cLine) (ha : PyE X cl E a ma) (hm : behindInMarks .NotIn (.Name x pos') = false := by with_unfolding_all rfl) (hN : X.N[i]? = some x := by rfl)
    (hv : Vis X.env.scope x := by first | exact Or.inl rfl | exact Or.inr (Or.inl rfl) | exact Or.inr (Or.inr rfl)) (hd : (x == ("__debug__" : Str)) = false := by decide) (hcd : (x == ("__classdict__" : Str)) = false := by decide) : PyT X cl E (.Compare a [.NotIn] [.Name x pos'] pos) (mT (mInB true i ma)) := by
  obtain ⟨ta, a1, a2⟩ := ha.out
  exact ⟨_, pt_cmpR (op_notInA hu) a1 (pe_var hN hv hd hcd) hm, snd_test (snd_inB (W := ⟨X.K, cl⟩) a2)⟩
/-! ### slices -/
abbrev KO (T : Act) (σ : L2.St) (H : Hp) (Γ : Env) (Q : Option Int → Hp → Prop) : Option Int → Env → Prop := fun o Γ' => ∀ H', Nx T σ H Γ σ H' Γ' → Q o H'
def SndO (W : Wd) (E : XK) (t : TO) (m : M (Option Int)) : Prop := ∀ T σ H Γ, T.W = W → Cfg T σ H Γ → ∀ Q, Fin T E (KO T σ H Γ Q) (m Γ) → t σ H Q
structure PyO (X : Cx) (cl : Nat → Addr) (E : XK) (e : Option Expr) (m : M (Option Int)) : Prop where
  out : ∃ t, PO X e t ∧ SndO ⟨X.K, cl⟩ E t m
def toI : D → R Int
  | .int i => .ok i
  | _ => .bad
theorem toI_ne {d : D} : ∀ c fs, toI d ≠ .exc c fs := fun c fs h => by cases d <;> cases h
theorem Rep.toI {W : Wd} {H : Hp} {S : AS} {v : V} {d : D} {i : Int} (r : Rep W H S v d) (h : DL.toI d = .ok i) : v = .int i ∧ d = .int i := by
  cases r <;> cases h
  exact ⟨rfl, rfl⟩
def mPart (a : M D) : M (Option Int) := bnd a fun x => bnd (lift (toI x)) fun i => ret (some i)
theorem o_none : PyO X cl E none (ret none) := ⟨_, po_none, fun T σ H Γ hW c Q q => q H (.refl c)⟩
theorem o_some {e : Expr} {m : M D} (h : PyE X cl E e m) : PyO X cl E (some e) (mPart m) := by
  obtain ⟨te, h1, h2⟩ := h.out
  refine ⟨_, po_some h1, fun T σ H Γ hW c Q q => ?_⟩
  refine h2 T σ H Γ hW c _ (q.bind.imp fun d Γ1 k1 v H1 n1 r1 => ?_)
  obtain ⟨i, hi, k2⟩ := (Fin.bind k1).lift toI_ne
  obtain ⟨rfl, rfl⟩ := r1.toI hi
  exact ⟨i, rfl, k2 H1 n1⟩
def cutL {α : Type} (xs : List α) (lo hi : Option Int) : List α := (xs.drop (HT.sIx xs.length 0 lo)).take (HT.sIx xs.length xs.length hi - HT.sIx xs.length 0 lo)
theorem RepL.cut {W : Wd} {H : Hp} {S : AS} {vs : List V} {ds : List D} (r : RepL W H S vs ds) (lo hi : Option Int) : RepL W H S (cutV vs lo hi) (cutL ds lo hi) := by
  unfold cutV cutL
  rw [r.len]
  exact (r.drop _).take _
def dCutL (d : D) (lo hi : Option Int) : R D := match d with
  | .lst xs => .ok (.lst (cutL xs lo hi))
  | .frl xs => .ok (.lst (cutL xs lo hi))
  | _ => .bad
theorem dCutL_ne {d : D} {lo hi : Option Int} : ∀ c fs, dCutL d lo hi ≠ .exc c fs := fun c fs h => by cases d <;> cases h
def mSlice (f : D → Option Int → Option Int → R D) (a : M D) (lo hi : M (Option Int)) : M D := bnd a fun x => bnd lo fun l => bnd hi fun h => lift (f x l h)
/-- xs[lo:hi], xs a list: a new one -/
theorem n_sliceL {e : Expr} {lo hi : Option Expr} {me : M D} {ml mh : M (Option Int)} {pos p2 : Pos} (he : PyE X cl E e me) (hl : PyO X cl E lo ml) (hh : PyO X cl E hi mh) : PyN X cl E (.Subscript e (.Slice lo hi none p2) pos) (mSlice dCutL me ml mh) := by
  obtain ⟨te, h1, h2⟩ := he.out
  obtain ⟨tl, l1, l2⟩ := hl.out
  obtain ⟨th, g1, g2⟩ := hh.out
  refine ⟨_, pe_slice sl_list h1 l1 g1, fun T σ H Γ hW c Q q => ?_⟩
  refine h2 T σ H Γ hW c _ (q.bind.imp fun d Γ1 k1 v H1 n1 r1 => ?_)
  refine l2 T σ H1 Γ1 hW n1.cfg _ (k1.bind.imp fun l Γ2 k2 H2 n2 => ?_)
  refine g2 T σ H2 Γ2 hW n2.cfg _ (k2.bind.imp fun h Γ3 k3 H3 n3 => ?_)
  obtain ⟨z, hz, k4⟩ := k3.lift dCutL_ne
  have r3 := (r1.move n2.fr).move n3.fr
  have n := n1.trans (n2.trans n3)
  have e : T.W.K = X.K := congrArg Wd.K hW
  have fin : ∀ (a : Addr) (xs : List V) (ds : List D), v = .ref a → z = .lst (cutL ds l h) → SqL X.K H3 a xs → RepL T.W H3 (Sx T.S σ Γ3) xs ds → rSlL X.K v l h H3 Q := fun a xs ds ev ez hs r => by
    subst ev ez
    exact ⟨a, xs, rfl, hs, fun p hp => k4 p _ _ n hp (upd_more hp) (own_new n.cfg.sd hp (r.cut l h))⟩
  cases r3 <;> try (cases hz; done)
  · cases hz
    exact fin _ _ _ rfl rfl (.of (by assumption)) (by assumption)
  · cases hz
    rename_i hs _
    exact fin _ _ _ rfl rfl (e ▸ hs.sq) (by assumption)
end DL
/-! DL6: built-in calls. -/
namespace DL
open PySem L2
variable {cl : Nat → Addr} {E : XK} {X : Cx}
/-! ### values whose parts nobody changes -/
mutual
def hard : D → Bool
  | .non => true
  | .bl _ => true
  | .int _ => true
  | .str _ => true
  | .ty _ => true
  | .cls _ => true
  | .tup xs => hardL xs
  | _ => false
def hardL : List D → Bool
  | [] => true
  | x :: xs => hard x && hardL xs
end
mutual
theorem Rep.hard {W : Wd} {H : Hp} {S S' : AS} (hs : ∀ a xs, H a = some (.tup xs) → S a → S' a) : ∀ {v : V} {d : D}, Rep W H S' v d → DL.hard d = true → Rep W H S v d
  | _, _, .non, _ => .non
  | _, _, .bl b, _ => .bl b
  | _, _, .int i, _ => .int i
  | _, _, .str x, _ => .str x
  | _, _, .ty x, _ => .ty x
  | _, _, .cls x, _ => .cls x
  | _, _, .tup n h r, k => .tup (fun q => n (hs _ _ h q)) h (RepL.hard hs r (by simpa [DL.hard] using k))
  | _, _, .lst .., k => by simp [DL.hard] at k
  | _, _, .frl .., k => by simp [DL.hard] at k
  | _, _, .dK .., k => by simp [DL.hard] at k
  | _, _, .dT .., k => by simp [DL.hard] at k
  | _, _, .ins .., k => by simp [DL.hard] at k
theorem RepL.hard {W : Wd} {H : Hp} {S S' : AS} (hs : ∀ a xs, H a = some (.tup xs) → S a → S' a) : ∀ {vs : List V} {ds : List D}, RepL W H S' vs ds → DL.hardL ds = true → RepL W H S vs ds
  | _, _, .nil, _ => .nil
  | _, _, .cons r t, k => by
    simp only [DL.hardL, Bool.and_eq_true] at k
    exact .cons (Rep.hard hs r k.1) (RepL.hard hs t k.2)
end
theorem OwnAt.ntup {W : Wd} {H : Hp} {S : AS} {p : Addr} {xs : List V} : ∀ {d : D}, OwnAt W H S p d → H p ≠ some (.tup xs)
  | .lst _, ⟨_, h, _⟩, e => by rw [h] at e; cases e
  | .dK _, ⟨_, h, _⟩, e => by rw [h] at e; cases e
  | .dT _, ⟨_, h, _⟩, e => by rw [h] at e; cases e
  | .ins _ _, ⟨_, _, h, _⟩, e => by rw [h] at e; cases e
  | .non, h, _ => h.elim
  | .bl _, h, _ => h.elim
  | .int _, h, _ => h.elim
  | .str _, h, _ => h.elim
  | .tup _, h, _ => h.elim
  | .frl _, h, _ => h.elim
  | .ty _, h, _ => h.elim
  | .cls _, h, _ => h.elim
theorem Cfg.up {T : Act} {σ : L2.St} {H : Hp} {Γ : Env} (c : Cfg T σ H Γ) {S' : AS} (hs : ∀ a, Sx T.S σ Γ a → S' a ∨ ∃ i, Owns σ Γ i a) {v : V} {z : D} (r : Rep T.W H S' v z) (h : hard z = true) : Rep T.W H (Sx T.S σ Γ) v z :=
  r.hard (fun a xs e q => by
    rcases hs a q with k | ⟨i, k⟩
    · exact k
    · obtain ⟨d, _, o⟩ := c.owns k
      exact absurd e o.ntup) h
def hardR (r : R D) : R D := match r with
  | .ok z => if hard z = true then .ok z else .bad
  | _ => .bad
theorem hardR_ne {r : R D} : ∀ c fs, hardR r ≠ .exc c fs := fun c fs h => by
  cases r <;> simp only [hardR] at h <;> try (cases h; done)
  split at h <;> cases h
theorem hardR_ok {r : R D} {z : D} (h : hardR r = .ok z) : r = .ok z ∧ hard z = true := by
  cases r <;> simp only [hardR] at h <;> try (cases h; done)
  obtain ⟨c, rfl⟩ := ite_ok h
  exact ⟨rfl, c⟩
@[simp] theorem hardR_int (i : Int) : hardR (.ok (.int i)) = .ok (.int i) := rfl
@[simp] theorem hardR_bl (i : Bool) : hardR (.ok (.bl i)) = .ok (.bl i) := rfl
@[simp] theorem hardR_non : hardR (.ok .non) = .ok .non := rfl
@[simp] theorem hardR_str (i : Str) : hardR (.ok (.str i)) = .ok (.str i) := rfl
/-! ### arguments some of which are own things that are only looked at -/
abbrev KB (T : Act) (σ : L2.St) (H : Hp) (Γ : Env) (Q : List V → Hp → Prop) : List D → Env → Prop := fun ds Γ' => ∀ vs H' (S' : AS), Nx T σ H Γ σ H' Γ' → (∀ a, S' a → Sx T.S σ Γ' a) → (∀ a, Sx T.S σ Γ' a → S' a ∨ ∃ i, Owns σ Γ' i a) → RepL T.W H' S' vs ds → Q vs H'
def SndB (W : Wd) (E : XK) (ta : TA) (m : M (List D)) : Prop := ∀ T σ H Γ, T.W = W → Cfg T σ H Γ → ∀ Q, Fin T E (KB T σ H Γ Q) (m Γ) → ta σ H Q
structure PyB (X : Cx) (cl : Nat → Addr) (E : XK) (es : List Expr) (m : M (List D)) : Prop where
  out : ∃ ta, PA X es ta ∧ SndB ⟨X.K, cl⟩ E ta m
theorem b_nil : PyB X cl E [] mNil := ⟨_, pa_nil, fun T σ H Γ hW c Q q => q [] H _ (.refl c) (fun _ h => h) (fun _ h => .inl h) .nil⟩
theorem b_cons {e : Expr} {es : List Expr} {m : M D} {r : M (List D)} (h : PyE X cl E e m) (g : PyB X cl E es r) (hs : starEach (e :: es) X.env = (false, eval e X.env) :: starEach es X.env := by rfl) : PyB X cl E (e :: es) (mCons m r) := by
  obtain ⟨te, h1, h2⟩ := h.out
  obtain ⟨ta, g1, g2⟩ := g.out
  refine ⟨_, pa_cons h1 g1 hs, fun T σ H Γ hW c Q q => ?_⟩
  refine h2 T σ H Γ hW c _ (q.bind.imp fun d Γ1 k1 v H1 n1 r1 => ?_)
  refine g2 T σ H1 Γ1 hW n1.cfg _ (k1.bind.imp fun ds Γ2 k2 vs H2 S' n2 h1 h2 r2 => ?_)
  exact k2 _ H2 S' (n1.trans n2) h1 h2 (.cons ((r1.move n2.fr).move (.weak h1)) r2)
def mOwnA (i : Nat) (r : M (List D)) : M (List D) := fun Γ => (ownAt Γ i).bind fun _ => (r Γ).bind fun p => (ownAt p.2 i).bind fun d => .ok (d :: p.1, p.2)
theorem b_own (i : Nat) {es : List Expr} {r : M (List D)} {x : Str} {pos : Pos} (g : PyB X cl E es r) (hs : starEach (.Name x pos :: es) X.env = (false, eval (.Name x pos) X.env) :: starEach es X.env := by rfl) (hN : X.N[i]? = some x := by rfl)
    (hv : Vis X.env.scope x := by first | exact Or.inl rfl | exact Or.inr (Or.inl rfl) | exact Or.inr (Or.inr rfl)) (hd : (x == ("__debug__" : Str)) = false := by decide) (hcd : (x == ("__classdict__" : Str)) = false := by decide) : PyB X cl E (.Name x pos :: es) (mOwnA i r) := by
  obtain ⟨ta, g1, g2⟩ := g.out
  refine ⟨_, pa_cons (pe_var hN hv hd hcd) g1 hs, fun T σ H Γ hW c Q q => ?_⟩
  obtain ⟨d0, hd0, q⟩ := Fin.lift (P := KB T σ H Γ Q) q ownAt_ne
  obtain ⟨p, hp, _, _⟩ := c.at hd0
  refine ⟨_, hp, g2 T σ H Γ hW c _ (q.bind.imp fun ds Γ2 k2 vs H2 S' n2 h1 h2 r2 => ?_)⟩
  obtain ⟨d, hd, k3⟩ := Fin.lift (P := KB T σ H Γ Q) k2 ownAt_ne
  obtain ⟨p', hp', ow, o⟩ := n2.cfg.at hd
  rw [hp] at hp'
  cases hp'
  refine k3 _ H2 (fun a => S' a ∧ a ≠ p) n2 (fun a h => h1 a h.1) (fun a h => ?_) (.cons (o.rep (fun a h => h1 a h.1) fun h => h.2 rfl) (r2.move (.weak fun a h => h.1)))
  by_cases z : a = p
  · exact .inr ⟨i, z ▸ ow⟩
  · rcases h2 a h with k | k
    · exact .inl ⟨k, z⟩
    · exact .inr k
/-! ### calls by values -/
def CallS (K : PySem.W.Frag) (r : List V → Hp → VK → Prop) (f : List D → R D) : Prop := ∀ (W : Wd) (H : Hp) (S : AS) (vs : List V) (ds : List D) (z : D), W.K = K → SDom H S → RepL W H S vs ds → f ds = .ok z →
  ∀ Q : VK, (∀ v H', (∀ a o, H a = some o → H' a = some o) → Rep W H' S v z → Q v H') → r vs H Q
def CallN (K : PySem.W.Frag) (r : List V → Hp → VK → Prop) (f : List D → R D) : Prop := ∀ (W : Wd) (H : Hp) (S : AS) (vs : List V) (ds : List D) (z : D), W.K = K → SDom H S → RepL W H S vs ds → f ds = .ok z →
  ∀ Q : VK, (∀ (p : Addr) H', (∀ a o, H a = some o → H' a = some o) → H p = none → OwnAt W H' (fun a => S a ∨ a = p) p z → Q (.ref p) H') → r vs H Q
theorem CallN.s {K : PySem.W.Frag} {r : List V → Hp → VK → Prop} {f : List D → R D} (h : CallN K r f) : CallS K r f := fun W H S vs ds z hW sd rs hz Q q =>
  h W H S vs ds z hW sd rs hz Q fun p H' ex hp o => q _ H' ex (o.rep (fun a k => .inl k) fun k => sd p k hp)
theorem CallS.or {K : PySem.W.Frag} {r r' : List V → Hp → VK → Prop} {f g h : List D → R D} (a : CallS K r f) (b : CallS K r' g) (hh : ∀ d z, h d = .ok z → f d = .ok z ∨ g d = .ok z) : CallS K (fun x H Q => r x H Q ∨ r' x H Q) h :=
  fun W H S x d z hW sd rx hz Q q => by
    rcases hh d z hz with k | k
    · exact .inl (a W H S x d z hW sd rx k Q q)
    · exact .inr (b W H S x d z hW sd rx k Q q)
def mCallB (f : List D → R D) (a : M (List D)) : M D := bnd a fun ds => lift (hardR (f ds))
def mCall (f : List D → R D) (a : M (List D)) : M D := bnd a fun ds => lift (noexc (f ds))
theorem snd_callB {W : Wd} {r : List V → Hp → VK → Prop} {f : List D → R D} {ta : TA} {m : M (List D)} (h : CallS W.K r f) (ha : SndB W E ta m) : SndE W E (tCB r ta) (mCallB f m) := fun T σ H Γ hW c Q q => by
  refine ha T σ H Γ hW c _ (q.bind.imp fun ds Γ1 k1 vs H1 S' n1 h1 h2 r1 => ?_)
  obtain ⟨z, hz, k2⟩ := k1.lift hardR_ne
  obtain ⟨hz, hh⟩ := hardR_ok hz
  subst hW
  refine h T.W H1 S' vs ds z rfl (fun a q => n1.cfg.sd a (h1 a q)) r1 hz Q fun v H' ex rv => ?_
  have n := n1.cfg.more ex
  exact k2 v H' (n1.trans n) (n.cfg.up h2 rv hh)
theorem snd_call {W : Wd} {r : List V → Hp → VK → Prop} {f : List D → R D} {ta : TA} {m : M (List D)} (h : CallS W.K r f) (ha : SndA W E ta m) : SndE W E (tCB r ta) (mCall f m) := fun T σ H Γ hW c Q q => by
  refine ha T σ H Γ hW c _ (q.bind.imp fun ds Γ1 k1 vs H1 n1 r1 => ?_)
  obtain ⟨z, hz, k2⟩ := k1.lift noexc_ne
  subst hW
  exact h T.W H1 _ vs ds z rfl n1.cfg.sd r1 (noexc_ok hz) Q fun v H' ex rv => k2 v H' (n1.trans (n1.cfg.more ex)) rv
theorem snd_callN {W : Wd} {r : List V → Hp → VK → Prop} {f : List D → R D} {ta : TA} {m : M (List D)} (h : CallN W.K r f) (ha : SndA W E ta m) : SndN W E (tCB r ta) (mCall f m) := fun T σ H Γ hW c Q q => by
  refine ha T σ H Γ hW c _ (q.bind.imp fun ds Γ1 k1 vs H1 n1 r1 => ?_)
  obtain ⟨z, hz, k2⟩ := k1.lift noexc_ne
  subst hW
  exact h T.W H1 _ vs ds z rfl n1.cfg.sd r1 (noexc_ok hz) Q fun p H' ex hp o => k2 p _ H' n1 hp ex o
theorem e_callB {x : Str} {id : String} {f : List D → R D} {e : Expr} {es : List Expr} {m : M (List D)} {p pos : Pos} (h : ∃ r, CallR X (.builtin id) r ∧ CallS X.K r f) (hm : X.mg x = none) (ha : PyB X cl E (e :: es) m) (hg : Gl X x := by rfl)
    (hv : bootBuiltins x = some (.builtin id) := by decide +kernel) (hn : x ≠ "__name__" := by decide) (hdb : (x == ("__debug__" : Str)) = false := by decide)
    (he : starEach (e :: es) X.env = (false, eval e X.env) :: starEach es X.env := by rfl) (hpl : (backTo pos (starEach es X.env)).any (·.1) = false := by rfl) : PyE X cl E (.Call (.Name x p) (e :: es) [] pos) (mCallB f m) := by
  obtain ⟨r, h1, h2⟩ := h
  obtain ⟨ta, a1, a2⟩ := ha.out
  exact ⟨_, pe_callB h1 hg hm hv a1 hn hdb he hpl, snd_callB (W := ⟨X.K, cl⟩) h2 a2⟩
theorem e_callTyB {x : Str} {T : String} {f : List D → R D} {e : Expr} {es : List Expr} {m : M (List D)} {p pos : Pos} (h : ∃ r, CallR X (.type T) r ∧ CallS X.K r f) (hm : X.mg x = none) (ha : PyB X cl E (e :: es) m) (hg : Gl X x := by rfl)
    (hv : bootBuiltins x = some (.type T) := by decide +kernel) (hn : x ≠ "__name__" := by decide) (hdb : (x == ("__debug__" : Str)) = false := by decide)
    (he : starEach (e :: es) X.env = (false, eval e X.env) :: starEach es X.env := by rfl) (hpl : (backTo pos (starEach es X.env)).any (·.1) = false := by rfl) : PyE X cl E (.Call (.Name x p) (e :: es) [] pos) (mCallB f m) := by
  obtain ⟨r, h1, h2⟩ := h
  obtain ⟨ta, a1, a2⟩ := ha.out
  exact ⟨_, pe_callTy h1 hg hm hv a1 hn hdb he hpl, snd_callB (W := ⟨X.K, cl⟩) h2 a2⟩
theorem e_callTy {x : Str} {T : String} {f : List D → R D} {e : Expr} {es : List Expr} {m : M (List D)} {p pos : Pos} (h : ∃ r, CallR X (.type T) r ∧ CallS X.K r f) (hm : X.mg x = none) (ha : PyA X cl E (e :: es) m) (hg : Gl X x := by rfl)
    (hv : bootBuiltins x = some (.type T) := by decide +kernel) (hn : x ≠ "__name__" := by decide) (hdb : (x == ("__debug__" : Str)) = false := by decide)
    (he : starEach (e :: es) X.env = (false, eval e X.env) :: starEach es X.env := by rfl) (hpl : (backTo pos (starEach es X.env)).any (·.1) = false := by rfl) : PyE X cl E (.Call (.Name x p) (e :: es) [] pos) (mCall f m) := by
  obtain ⟨r, h1, h2⟩ := h
  obtain ⟨ta, a1, a2⟩ := ha.out
  exact ⟨_, pe_callTy h1 hg hm hv a1 hn hdb he hpl, snd_call (W := ⟨X.K, cl⟩) h2 a2⟩
theorem n_callTy {x : Str} {T : String} {f : List D → R D} {e : Expr} {es : List Expr} {m : M (List D)} {p pos : Pos} (h : ∃ r, CallR X (.type T) r ∧ CallN X.K r f) (hm : X.mg x = none) (ha : PyA X cl E (e :: es) m) (hg : Gl X x := by rfl)
    (hv : bootBuiltins x = some (.type T) := by decide +kernel) (hn : x ≠ "__name__" := by decide) (hdb : (x == ("__debug__" : Str)) = false := by decide)
    (he : starEach (e :: es) X.env = (false, eval e X.env) :: starEach es X.env := by rfl) (hpl : (backTo pos (starEach es X.env)).any (·.1) = false := by rfl) : PyN X cl E (.Call (.Name x p) (e :: es) [] pos) (mCall f m) := by
  obtain ⟨r, h1, h2⟩ := h
  obtain ⟨ta, a1, a2⟩ := ha.out
  exact ⟨_, pe_callTy h1 hg hm hv a1 hn hdb he hpl, snd_callN (W := ⟨X.K, cl⟩) h2 a2⟩
theorem n_callF {x : Str} {id : String} {f : List D → R D} {e : Expr} {es : List Expr} {m : M (List D)} {p pos : Pos} (h : ∃ r, CallR X (.builtin id) r ∧ CallN X.K r f) (hm : X.mg x = none) (ha : PyA X cl E (e :: es) m) (hg : Gl X x := by rfl)
    (hv : bootBuiltins x = some (.builtin id) := by decide +kernel) (hn : x ≠ "__name__" := by decide) (hdb : (x == ("__debug__" : Str)) = false := by decide)
    (he : starEach (e :: es) X.env = (false, eval e X.env) :: starEach es X.env := by rfl) (hpl : (backTo pos (starEach es X.env)).any (·.1) = false := by rfl) : PyN X cl E (.Call (.Name x p) (e :: es) [] pos) (mCall f m) := by
  obtain ⟨r, h1, h2⟩ := h
  obtain ⟨ta, a1, a2⟩ := ha.out
  exact ⟨_, pe_callB h1 hg hm hv a1 hn hdb he hpl, snd_callN (W := ⟨X.K, cl⟩) h2 a2⟩
/-- a built-in type's name as a value -/
theorem e_ty (n : String) {x : Str} {pos : Pos} (hm : X.mg x = none) (hg : Gl X x := by rfl) (hv : bootBuiltins x = some (.type n) := by decide +kernel) (hn : x ≠ "__name__" := by decide) (hd : (x == ("__debug__" : Str)) = false := by decide) : PyE X cl E (.Name x pos) (ret (.ty n)) :=
  ⟨_, pe_bltn hg hm hv (v := .ty n) rfl hn hd, snd_c fun _ _ => .ty n⟩
/-! ### one by one -/
def dLen : List D → R D
  | [.lst xs] => .ok (.int xs.length)
  | [.frl xs] => .ok (.int xs.length)
  | [.tup xs] => .ok (.int xs.length)
  | [.str x] => if x.length ≤ big then .ok (.int x.length) else .bad
  | [.dK kvs] => .ok (.int kvs.length)
  | _ => .bad
theorem RepL.one {W : Wd} {H : Hp} {S : AS} {vs : List V} {d : D} (r : RepL W H S vs [d]) : ∃ v, vs = [v] ∧ Rep W H S v d := by
  cases r with
  | cons r t => cases t; exact ⟨_, rfl, r⟩
theorem RepL.two {W : Wd} {H : Hp} {S : AS} {vs : List V} {d e : D} (r : RepL W H S vs [d, e]) : ∃ v u, vs = [v, u] ∧ Rep W H S v d ∧ Rep W H S u e := by
  cases r with
  | cons r t => cases t with | cons r2 t2 => cases t2; exact ⟨_, _, rfl, r, r2⟩
theorem one_of {f : List D → R D} {vs : List D} {z : D} (h : f vs = .ok z) (h0 : f [] = .bad) (h2 : ∀ a b r, f (a :: b :: r) = .bad) : ∃ d, vs = [d] := by
  match vs, h with
  | [], h => rw [h0] at h; cases h
  | [d], _ => exact ⟨d, rfl⟩
  | a :: b :: r, h => rw [h2] at h; cases h
theorem b_len : ∃ r, CallR X (.builtin "len") r ∧ CallS X.K r dLen := by
  refine ⟨_, (call_len (X := X)).or (call_lenD (X := X)), fun W H S vs ds z hW sd rs hz Q q => ?_⟩
  rw [← hW]
  obtain ⟨d, rfl⟩ := one_of hz rfl fun a b r => by cases a <;> rfl
  obtain ⟨v, rfl, r⟩ := rs.one
  cases r <;> try (cases hz; done)
  · rename_i x
    obtain ⟨c, rfl⟩ := ite_ok hz
    exact .inl ⟨_, x.length, rfl, ⟨big_line c, rfl⟩, q _ H (fun _ _ h => h) (.int _)⟩
  · rename_i a xs ds n h r
    cases hz
    exact .inl ⟨_, xs.length, rfl, .inl ⟨xs, .of h, rfl⟩, q _ H (fun _ _ h => h) (by rw [r.len]; exact .int _)⟩
  · rename_i a xs ds h r
    cases hz
    exact .inl ⟨_, xs.length, rfl, .inl ⟨xs, h.sq, rfl⟩, q _ H (fun _ _ h => h) (by rw [r.len]; exact .int _)⟩
  · rename_i a xs ds n h r
    cases hz
    exact .inl ⟨_, xs.length, rfl, .inr ⟨xs, .of h, rfl⟩, q _ H (fun _ _ h => h) (by rw [r.len]; exact .int _)⟩
  · rename_i a kvs ds n h k r
    cases hz
    exact .inr ⟨_, kvs, rfl, h, q _ H (fun _ _ h => h) (by rw [map_len k]; exact .int _)⟩
def dAbs : List D → R D
  | [.int i] => .ok (.int (if i < 0 then -i else i))
  | _ => .bad
theorem b_abs : ∃ r, CallR X (.builtin "abs") r ∧ CallS X.K r dAbs := by
  refine ⟨_, call_abs (X := X), fun W H S vs ds z hW sd rs hz Q q => ?_⟩
  obtain ⟨d, rfl⟩ := one_of hz rfl fun a b r => by cases a <;> rfl
  obtain ⟨v, rfl, r⟩ := rs.one
  cases r <;> try (cases hz; done)
  cases hz
  exact ⟨_, rfl, q _ H (fun _ _ h => h) (.int _)⟩
def dInt : List D → R D
  | [.int i] => .ok (.int i)
  | [.bl k] => .ok (.int (if k then 1 else 0))
  | _ => .bad
theorem b_int : ∃ r, CallR X (.type "int") r ∧ CallS X.K r dInt := by
  refine ⟨_, call_int1 (X := X), fun W H S vs ds z hW sd rs hz Q q => ?_⟩
  obtain ⟨d, rfl⟩ := one_of hz rfl fun a b r => by cases a <;> rfl
  obtain ⟨v, rfl, r⟩ := rs.one
  cases r <;> try (cases hz; done)
  · cases hz
    exact .inr ⟨_, rfl, q _ H (fun _ _ h => h) (.int _)⟩
  · cases hz
    exact .inl ⟨_, rfl, q _ H (fun _ _ h => h) (.int _)⟩
def dStr : List D → R D
  | [.int i] => if i.natAbs.log2 < 1920 then .ok (.str (toString i)) else .bad
  | _ => .bad
theorem b_str : ∃ r, CallR X (.type "str") r ∧ CallS X.K r dStr := by
  refine ⟨_, call_str_int (X := X), fun W H S vs ds z hW sd rs hz Q q => ?_⟩
  obtain ⟨d, rfl⟩ := one_of hz rfl fun a b r => by cases a <;> rfl
  obtain ⟨v, rfl, r⟩ := rs.one
  cases r <;> try (cases hz; done)
  obtain ⟨c, rfl⟩ := ite_ok hz
  exact ⟨_, rfl, c, q _ H (fun _ _ h => h) (.str _)⟩
def intsD : List D → Option (List Int)
  | [] => some []
  | .int i :: ds => (intsD ds).map (i :: ·)
  | _ => none
theorem RepL.ints {W : Wd} {H : Hp} {S : AS} : ∀ {vs : List V} {ds : List D} {ns : List Int}, RepL W H S vs ds → intsD ds = some ns → vs = ns.map V.int
  | _, _, _, .nil, h => by cases h; rfl
  | _, _, _, .cons (d := d) (ds := ds) r t, h => by
    cases r <;> try (simp [intsD] at h; done)
    cases e : intsD ds with
    | none => simp [intsD, e] at h
    | some l =>
      simp [intsD, e] at h
      subst h
      rw [RepL.ints t e]
      rfl
@[simp] theorem intsD_map (ns : List Int) : intsD (ns.map D.int) = some ns := by
  induction ns with
  | nil => rfl
  | cons n ns ih => simp [intsD, ih]
def maxI : Int → List Int → Int
  | x, [] => x
  | x, y :: ys => maxI (if y > x then y else x) ys
def minI : Int → List Int → Int
  | x, [] => x
  | x, y :: ys => minI (if y < x then y else x) ys
theorem maxI_ge : ∀ (ys : List Int) (x : Int), x ≤ maxI x ys ∧ ∀ y ∈ ys, y ≤ maxI x ys
  | [], x => ⟨Int.le_refl _, fun y h => by cases h⟩
  | z :: ys, x => by
    obtain ⟨h1, h2⟩ := maxI_ge ys (if z > x then z else x)
    show x ≤ maxI (if z > x then z else x) ys ∧ ∀ y ∈ z :: ys, y ≤ maxI (if z > x then z else x) ys
    refine ⟨?_, fun y hy => ?_⟩
    · split at h1 <;> rename_i k <;> (try rw [if_pos k]) <;> (try rw [if_neg k]) <;> omega
    · rcases List.mem_cons.mp hy with rfl | hy
      · split at h1 <;> rename_i k <;> (try rw [if_pos k]) <;> (try rw [if_neg k]) <;> omega
      · exact h2 y hy
theorem maxI_mem : ∀ (ys : List Int) (x : Int), maxI x ys = x ∨ maxI x ys ∈ ys
  | [], x => .inl rfl
  | z :: ys, x => by
    show maxI (if z > x then z else x) ys = x ∨ maxI (if z > x then z else x) ys ∈ z :: ys
    rcases maxI_mem ys (if z > x then z else x) with h | h
    · rw [h]
      split
      · exact .inr List.mem_cons_self
      · exact .inl rfl
    · exact .inr (List.mem_cons_of_mem _ h)
theorem minI_le : ∀ (ys : List Int) (x : Int), minI x ys ≤ x ∧ ∀ y ∈ ys, minI x ys ≤ y
  | [], x => ⟨Int.le_refl _, fun y h => by cases h⟩
  | z :: ys, x => by
    obtain ⟨h1, h2⟩ := minI_le ys (if z < x then z else x)
    show minI (if z < x then z else x) ys ≤ x ∧ ∀ y ∈ z :: ys, minI (if z < x then z else x) ys ≤ y
    refine ⟨?_, fun y hy => ?_⟩
    · split at h1 <;> rename_i k <;> (try rw [if_pos k]) <;> (try rw [if_neg k]) <;> omega
    · rcases List.mem_cons.mp hy with rfl | hy
      · split at h1 <;> rename_i k <;> (try rw [if_pos k]) <;> (try rw [if_neg k]) <;> omega
      · exact h2 y hy
theorem minI_mem : ∀ (ys : List Int) (x : Int), minI x ys = x ∨ minI x ys ∈ ys
  | [], x => .inl rfl
  | z :: ys, x => by
    show minI (if z < x then z else x) ys = x ∨ minI (if z < x then z else x) ys ∈ z :: ys
    rcases minI_mem ys (if z < x then z else x) with h | h
    · rw [h]
      split
      · exact .inr List.mem_cons_self
      · exact .inl rfl
    · exact .inr (List.mem_cons_of_mem _ h)
def dMax : List D → R D
  | [.int i, .int j] => .ok (.int (if j > i then j else i))
  | [.lst xs] => match intsD xs with
    | some (n :: ns) => .ok (.int (maxI n ns))
    | _ => .bad
  | _ => .bad
def dMin : List D → R D
  | [.int i, .int j] => .ok (.int (if j < i then j else i))
  | [.lst xs] => match intsD xs with
    | some (n :: ns) => .ok (.int (minI n ns))
    | _ => .bad
  | _ => .bad
theorem oneTwo {f : List D → R D} {vs : List D} {z : D} (h : f vs = .ok z) (h0 : f [] = .bad) (h2 : ∀ a b c r, f (a :: b :: c :: r) = .bad) : (∃ d, vs = [d]) ∨ ∃ d e, vs = [d, e] := by
  match vs, h with
  | [], h => rw [h0] at h; cases h
  | [d], _ => exact .inl ⟨d, rfl⟩
  | [d, e], _ => exact .inr ⟨d, e, rfl⟩
  | a :: b :: c :: r, h => rw [h2] at h; cases h
theorem b_max (hc : X.calm = true) : ∃ r, CallR X (.builtin "max") r ∧ CallS X.K r dMax := by
  refine ⟨_, (call_max2 hc).or (cr_max hc), fun W H S vs ds z hW sd rs hz Q q => ?_⟩
  rw [← hW]
  rcases oneTwo hz rfl (fun a b c r => by cases a <;> cases b <;> rfl) with ⟨d, rfl⟩ | ⟨d, e, rfl⟩
  · obtain ⟨v, rfl, r⟩ := rs.one
    cases r <;> try (cases hz; done)
    rename_i a xs ds n h r
    cases e : intsD ds with
    | none => simp [dMax, e] at hz
    | some l =>
      cases l with
      | nil => simp [dMax, e] at hz
      | cons k l =>
        simp [dMax, e] at hz
        subst hz
        have := r.ints e
        subst this
        refine .inr ⟨a, k :: l, rfl, .of h, Nat.succ_pos _, fun m hm hle => ?_⟩
        have e1 : m = maxI k l := by
          have g := maxI_ge l k
          have hm' : m ≤ maxI k l := by
            rcases List.mem_cons.mp hm with rfl | hm
            · exact g.1
            · exact g.2 m hm
          have : maxI k l ≤ m := by
            rcases maxI_mem l k with h | h
            · rw [h]; exact hle k List.mem_cons_self
            · exact hle _ (List.mem_cons_of_mem _ h)
          omega
        rw [e1]
        exact q _ H (fun _ _ h => h) (.int _)
  · obtain ⟨v, u, rfl, r1, r2⟩ := rs.two
    cases r1 <;> try (cases hz; done)
    cases r2 <;> try (cases hz; done)
    cases hz
    exact .inl ⟨_, _, rfl, q _ H (fun _ _ h => h) (.int _)⟩
theorem b_min (hc : X.calm = true) : ∃ r, CallR X (.builtin "min") r ∧ CallS X.K r dMin := by
  refine ⟨_, (call_min2 hc).or (cr_min hc), fun W H S vs ds z hW sd rs hz Q q => ?_⟩
  rw [← hW]
  rcases oneTwo hz rfl (fun a b c r => by cases a <;> cases b <;> rfl) with ⟨d, rfl⟩ | ⟨d, e, rfl⟩
  · obtain ⟨v, rfl, r⟩ := rs.one
    cases r <;> try (cases hz; done)
    rename_i a xs ds n h r
    cases e : intsD ds with
    | none => simp [dMin, e] at hz
    | some l =>
      cases l with
      | nil => simp [dMin, e] at hz
      | cons k l =>
        simp [dMin, e] at hz
        subst hz
        have := r.ints e
        subst this
        refine .inr ⟨a, k :: l, rfl, .of h, Nat.succ_pos _, fun m hm hle => ?_⟩
        have e1 : m = minI k l := by
          have g := minI_le l k
          have hm' : minI k l ≤ m := by
            rcases List.mem_cons.mp hm with rfl | hm
            · exact g.1
            · exact g.2 m hm
          have : m ≤ minI k l := by
            rcases minI_mem l k with h | h
            · rw [h]; exact hle k List.mem_cons_self
            · exact hle _ (List.mem_cons_of_mem _ h)
          omega
        rw [e1]
        exact q _ H (fun _ _ h => h) (.int _)
  · obtain ⟨v, u, rfl, r1, r2⟩ := rs.two
    cases r1 <;> try (cases hz; done)
    cases r2 <;> try (cases hz; done)
    cases hz
    exact .inl ⟨_, _, rfl, q _ H (fun _ _ h => h) (.int _)⟩
def dSum : List D → R D
  | [.lst xs] => match intsD xs with
    | some ns => .ok (.int ns.sum)
    | _ => .bad
  | _ => .bad
theorem b_sum (hc : X.calm = true) : ∃ r, CallR X (.builtin "sum") r ∧ CallS X.K r dSum := by
  refine ⟨_, cr_sum hc, fun W H S vs ds z hW sd rs hz Q q => ?_⟩
  rw [← hW]
  obtain ⟨d, rfl⟩ := one_of hz rfl fun a b r => by cases a <;> rfl
  obtain ⟨v, rfl, r⟩ := rs.one
  cases r <;> try (cases hz; done)
  rename_i a xs ds n h r
  cases e : intsD ds with
  | none => simp [dSum, e] at hz
  | some l =>
    simp [dSum, e] at hz
    subst hz
    have := r.ints e
    subst this
    exact ⟨a, l, rfl, .of h, q _ H (fun _ _ h => h) (.int _)⟩
def blsD : List D → Option (List Bool)
  | [] => some []
  | .bl i :: ds => (blsD ds).map (i :: ·)
  | _ => none
theorem RepL.bls {W : Wd} {H : Hp} {S : AS} : ∀ {vs : List V} {ds : List D} {ns : List Bool}, RepL W H S vs ds → blsD ds = some ns → vs = ns.map V.bl
  | _, _, _, .nil, h => by cases h; rfl
  | _, _, _, .cons (d := d) (ds := ds) r t, h => by
    cases r <;> try (simp [blsD] at h; done)
    cases e : blsD ds with
    | none => simp [blsD, e] at h
    | some l =>
      simp [blsD, e] at h
      subst h
      rw [RepL.bls t e]
      rfl
@[simp] theorem blsD_map (ns : List Bool) : blsD (ns.map D.bl) = some ns := by
  induction ns with
  | nil => rfl
  | cons n ns ih => simp [blsD, ih]
def dAll : List D → R D
  | [.lst xs] => match blsD xs with
    | some ns => .ok (.bl (ns.all id))
    | _ => .bad
  | _ => .bad
theorem b_all (hc : X.calm = true) : ∃ r, CallR X (.builtin "all") r ∧ CallS X.K r dAll := by
  refine ⟨_, cr_all hc, fun W H S vs ds z hW sd rs hz Q q => ?_⟩
  rw [← hW]
  obtain ⟨d, rfl⟩ := one_of hz rfl fun a b r => by cases a <;> rfl
  obtain ⟨v, rfl, r⟩ := rs.one
  cases r <;> try (cases hz; done)
  rename_i a xs ds n h r
  cases e : blsD ds with
  | none => simp [dAll, e] at hz
  | some l =>
    simp [dAll, e] at hz
    subst hz
    have := r.bls e
    subst this
    exact ⟨a, l, rfl, .of h, by simpa using q _ H (fun _ _ h => h) (.bl _)⟩
def dList : List D → R D
  | [.lst xs] => .ok (.lst xs)
  | [.frl xs] => .ok (.lst xs)
  | [.tup xs] => .ok (.lst xs)
  | _ => .bad
theorem b_list : ∃ r, CallR X (.type "list") r ∧ CallN X.K r dList := by
  refine ⟨_, call_list_of (X := X), fun W H S vs ds z hW sd rs hz Q q => ?_⟩
  rw [← hW]
  obtain ⟨d, rfl⟩ := one_of hz rfl fun a b r => by cases a <;> rfl
  obtain ⟨v, rfl, r⟩ := rs.one
  cases r <;> try (cases hz; done)
  · rename_i a xs ds n h r
    cases hz
    exact ⟨a, xs, rfl, .inl (.of h), fun p hp => q p _ (upd_more hp) hp (own_new sd hp r)⟩
  · rename_i a xs ds h r
    cases hz
    exact ⟨a, xs, rfl, .inl h.sq, fun p hp => q p _ (upd_more hp) hp (own_new sd hp r)⟩
  · rename_i a xs ds n h r
    cases hz
    exact ⟨a, xs, rfl, .inr (.of h), fun p hp => q p _ (upd_more hp) hp (own_new sd hp r)⟩
def dTuple : List D → R D
  | [.lst xs] => .ok (.tup xs)
  | [.tup xs] => .ok (.tup xs)
  | _ => .bad
theorem b_tuple : ∃ r, CallR X (.type "tuple") r ∧ CallS X.K r dTuple := by
  refine ⟨_, call_tuple_of (X := X), fun W H S vs ds z hW sd rs hz Q q => ?_⟩
  rw [← hW]
  obtain ⟨d, rfl⟩ := one_of hz rfl fun a b r => by cases a <;> rfl
  obtain ⟨v, rfl, r⟩ := rs.one
  cases r <;> try (cases hz; done)
  · rename_i a xs ds n h r
    cases hz
    exact ⟨a, xs, rfl, .inl ⟨.of h, fun p hp => q _ _ (upd_more hp) (rep_newT sd hp r)⟩⟩
  · rename_i a xs ds n h r
    cases hz
    exact ⟨a, xs, rfl, .inr ⟨.of h, q _ H (fun _ _ h => h) (.tup n h r)⟩⟩
/-! ### isinstance -/
def tyName : D → Option String
  | .non => some "NoneType"
  | .bl _ => some "bool"
  | .int _ => some "int"
  | .str _ => some "str"
  | .lst _ => some "list"
  | .tup _ => some "tuple"
  | .dK _ => some "dict"
  | .dT _ => some "dict"
  | _ => none
def isiB (a b : String) : Option Bool :=
  if a ∈ ["NoneType", "bool", "int", "str", "list", "tuple", "dict"] ∧ b ∈ ["bool", "int", "str", "list", "tuple", "dict"] then some (decide (a = b) || (decide (a = "bool") && decide (b = "int"))) else none
def isiL (a : String) : List D → Option Bool
  | [] => some false
  | .ty n :: r => match isiB a n, isiL a r with
    | some b, some c => some (b || c)
    | _, _ => none
  | _ => none
def dIsi : List D → R D
  | [x, .ty n] => orBad (((tyName x).bind fun t => isiB t n).map D.bl)
  | [x, .tup ts] => orBad (((tyName x).bind fun t => isiL t ts).map D.bl)
  | _ => .bad
theorem isiB_ok {a b : String} {r : Bool} (h : isiB a b = some r) : kitB a b = some r := by
  unfold isiB at h
  split at h
  · rename_i c
    obtain ⟨ha, hb⟩ := c
    simp only [List.mem_cons, List.not_mem_nil, or_false] at ha hb
    rw [← h]
    rcases ha with rfl | rfl | rfl | rfl | rfl | rfl | rfl <;> rcases hb with rfl | rfl | rfl | rfl | rfl | rfl <;> decide +kernel
  · cases h
theorem Rep.ty' {W : Wd} {H : Hp} {S : AS} {v : V} {d : D} {t : String} (r : Rep W H S v d) (h : tyName d = some t) : TyX W.K H v (.type t) := by
  cases r <;> cases h
  · exact .base .non
  · exact .base (.bl _)
  · exact .base (.int _)
  · exact .base (.str _)
  · exact .base (.lst (by assumption))
  · exact .base (.tup (by assumption))
  · exact .base (.dK (by assumption))
  · exact .base (.dT (by assumption))
theorem isiL_ok {K : PySem.W.Frag} {W : Wd} {H : Hp} {S : AS} {t : String} : ∀ {ts : List D} {vs : List V} {b : Bool}, RepL W H S vs ts → isiL t ts = some b → ∃ us, Paired ClsV vs us ∧ PySem.W.kitAny K (.type t) us = some b
  | _, _, _, .nil, h => by cases h; exact ⟨[], .nil, rfl⟩
  | _, _, b, .cons (ds := ts) r q, h => by
    cases r <;> try (simp [isiL] at h; done)
    rename_i n
    cases e : isiB t n with
    | none => simp [isiL, e] at h
    | some k =>
      cases e2 : isiL t ts with
      | none => simp [isiL, e, e2] at h
      | some k2 =>
        simp [isiL, e, e2] at h
        subst h
        obtain ⟨us, h1, h2⟩ := isiL_ok (K := K) q e2
        refine ⟨_ :: us, .cons (.ty n) h1, kitAny_cons (kit_ty (isiB_ok e)) (fun z => ?_) fun z => ?_⟩
        · rw [z]; exact h2
        · rw [z]; rfl
theorem dIsi_two {ds : List D} {z : D} (h : dIsi ds = .ok z) : ∃ x c, ds = [x, c] := by
  rcases ds with _ | ⟨a, _ | ⟨b, _ | ⟨c, r⟩⟩⟩
  · cases h
  · cases h
  · exact ⟨a, b, rfl⟩
  · exfalso
    have e : dIsi (a :: b :: c :: r) = .bad := by
      unfold dIsi
      split <;> simp_all
    rw [e] at h; cases h
theorem b_isi : ∃ r, CallR X (.builtin "isinstance") r ∧ CallS X.K r dIsi := by
  refine ⟨_, (call_isi (X := X)).or (call_isiT (X := X)), fun W H S vs ds z hW sd rs hz Q q => ?_⟩
  rw [← hW]
  obtain ⟨x, c, rfl⟩ := dIsi_two hz
  obtain ⟨v, u, rfl, r1, r2⟩ := rs.two
  clear rs
  cases c with
  | ty n =>
    cases r2
    replace hz := orBad_ok hz
    cases e : tyName x with
    | none => rw [e] at hz; cases hz
    | some t =>
      cases e2 : isiB t n with
      | none => rw [e] at hz; simp [e2] at hz
      | some b =>
        rw [e] at hz
        simp [e2] at hz
        subst hz
        exact .inl ⟨v, .ty n, .type t, .type n, b, rfl, .ty n, r1.ty' e, kit_ty (isiB_ok e2), q _ H (fun _ _ h => h) (.bl b)⟩
  | tup ts =>
    cases r2 with
    | @tup a xs _ n h r =>
      replace hz := orBad_ok hz
      cases e : tyName x with
      | none => rw [e] at hz; cases hz
      | some t =>
        cases e2 : isiL t ts with
        | none => rw [e] at hz; simp [e2] at hz
        | some b =>
          rw [e] at hz
          simp [e2] at hz
          subst hz
          obtain ⟨us, h1, h2⟩ := isiL_ok (K := W.K) r e2
          exact .inr ⟨v, a, xs, .type t, us, b, rfl, h, h1, r1.ty' e, h2, q _ H (fun _ _ h => h) (.bl b)⟩
  | _ => cases hz
end DL
/-! DL7: targets, statements, loops. -/
namespace DL
open PySem L2
variable {cl : Nat → Addr} {E : XK} {X : Cx}
/-! ### targets -/
abbrev GM := D → Env → R Env
abbrev GsM := List D → Env → R Env
def FinG (T : Act) (E : XK) (P : Env → Prop) : R Env → Prop
  | .ok Γ => P Γ
  | .exc c fs => ExcOk T E c fs
  | .bad => False
theorem FinG.imp {T : Act} {E : XK} {P Q : Env → Prop} {r : R Env} (h : FinG T E P r) (k : ∀ Γ, P Γ → Q Γ) : FinG T E Q r := by
  cases r with
  | ok p => exact k _ h
  | exc c fs => exact h
  | bad => exact h
theorem FinG.bind {α : Type} {T : Act} {E : XK} {P : Env → Prop} {r : R (α × Env)} {f : α × Env → R Env} (h : FinG T E P (r.bind f)) : Fin T E (fun a Γ => FinG T E P (f (a, Γ))) r := by
  cases r with
  | ok p => exact h
  | exc c fs => exact h
  | bad => exact h
theorem FinG.bindG {T : Act} {E : XK} {P : Env → Prop} {r : R Env} {f : Env → R Env} (h : FinG T E P (r.bind f)) : FinG T E (fun Γ => FinG T E P (f Γ)) r := by
  cases r with
  | ok p => exact h
  | exc c fs => exact h
  | bad => exact h
theorem FinG.lift {β : Type} {T : Act} {E : XK} {P : Env → Prop} {r : R β} {f : β → R Env} (h : FinG T E P (r.bind f)) (hx : ∀ c fs, r ≠ .exc c fs) : ∃ a, r = .ok a ∧ FinG T E P (f a) := by
  cases r with
  | ok a => exact ⟨a, rfl, h⟩
  | exc c fs => exact absurd rfl (hx c fs)
  | bad => exact h.elim
/-- the slots but those of js stand -/
structure But (js : List Nat) (σ σ' : L2.St) : Prop where
  len : σ'.length = σ.length
  at_ : ∀ k, k ∉ js → σ'[k]? = σ[k]?
theorem But.refl {js : List Nat} {σ : L2.St} : But js σ σ := ⟨rfl, fun _ _ => rfl⟩
theorem But.trans {js : List Nat} {σ σ1 σ2 : L2.St} (a : But js σ σ1) (b : But js σ1 σ2) : But js σ σ2 := ⟨b.len.trans a.len, fun k h => (b.at_ k h).trans (a.at_ k h)⟩
theorem But.mono {js ks : List Nat} {σ σ' : L2.St} (a : But js σ σ') (h : ∀ j ∈ js, j ∈ ks) : But ks σ σ' := ⟨a.len, fun k n => a.at_ k fun z => n (h k z)⟩
def SndG (W : Wd) (E : XK) (js : List Nat) (t : TG) (g : GM) : Prop := ∀ T σ H Γ, T.W = W → Cfg T σ H Γ → ∀ v d, Rep T.W H (Sx T.S σ Γ) v d → ∀ Q : L2.St → Hp → Prop, FinG T E (fun Γ' => ∀ σ' H', Nx T σ H Γ σ' H' Γ' → But js σ σ' → Q σ' H') (g d Γ) → t v σ H Q
def SndGs (W : Wd) (E : XK) (js : List Nat) (t : TGs) (g : GsM) : Prop := ∀ T σ H Γ, T.W = W → Cfg T σ H Γ → ∀ vs ds, RepL T.W H (Sx T.S σ Γ) vs ds → ∀ Q : L2.St → Hp → Prop, FinG T E (fun Γ' => ∀ σ' H', Nx T σ H Γ σ' H' Γ' → But js σ σ' → Q σ' H') (g ds Γ) → t vs σ H Q
structure PyG (X : Cx) (cl : Nat → Addr) (E : XK) (js : List Nat) (tg : Expr) (g : GM) : Prop where
  out : ∃ t, PG X tg t ∧ SndG ⟨X.K, cl⟩ E js t g
structure PyGs (X : Cx) (cl : Nat → Addr) (E : XK) (js : List Nat) (tgs : List Expr) (g : GsM) : Prop where
  out : ∃ t, PGs X tgs t ∧ SndGs ⟨X.K, cl⟩ E js t g
def gSet (i : Nat) : GM := fun d Γ => if i < Γ.length then .ok (Γ.set i (.sh d)) else .bad
theorem but_set {i : Nat} {js : List Nat} {σ : L2.St} {v : Option V} (h : i ∈ js) : But js σ (σ.set i v) := ⟨by simp, fun k n => by rw [List.getElem?_set_ne]; rintro rfl; exact n h⟩
theorem snd_gName {W : Wd} {i : Nat} {js : List Nat} (hj : i ∈ js) : SndG W E js (gName i) (gSet i) := fun T σ H Γ hW c v d r Q h => by
  unfold gSet at h
  by_cases hi : i < Γ.length
  · rw [if_pos hi] at h
    exact h _ H (c.put hi r) (but_set hj)
  · rw [if_neg hi] at h
    exact h.elim
theorem g_name (i : Nat) {x : Str} {pos : Pos} (hN : X.N.Nodup) (hi : X.N[i]? = some x := by rfl) (hx : Loc X.env.scope x := by first | exact Or.inl rfl | exact Or.inr rfl)
    (hf : X.fn x = true ∨ X.env.scope.names.lookup x = some .local := by first | exact .inl rfl | exact .inr rfl) : PyG X cl E [i] (.Name x pos) (gSet i) := ⟨_, pg_name hN hi hx hf, snd_gName (by simp)⟩
def gsNil : GsM := fun ds Γ => match ds with
  | [] => .ok Γ
  | _ => .bad
def gsCons (g : GM) (gs : GsM) : GsM := fun ds Γ => match ds with
  | d :: r => (g d Γ).bind fun Γ1 => gs r Γ1
  | [] => .bad
theorem gs_nil : PyGs X cl E [] [] gsNil := ⟨_, pgs_nil, fun T σ H Γ hW c vs ds r Q h => by
  cases r with
  | nil => exact ⟨rfl, h σ H (.refl c) .refl⟩
  | cons _ _ => exact h.elim⟩
theorem gs_cons {js ks : List Nat} {e : Expr} {es : List Expr} {g : GM} {gs : GsM} (h1 : PyG X cl E js e g) (h2 : PyGs X cl E ks es gs) (hs : (assignEach (e :: es) X.env).map (·.2) = assign e X.env :: (assignEach es X.env).map (·.2) := by rfl) : PyGs X cl E (js ++ ks) (e :: es) (gsCons g gs) := by
  obtain ⟨t, a1, a2⟩ := h1.out
  obtain ⟨u, b1, b2⟩ := h2.out
  refine ⟨_, pgs_cons a1 b1 hs, fun T σ H Γ hW c vs ds r Q h => ?_⟩
  cases r with
  | nil => exact h.elim
  | @cons v d vs ds r1 r2 =>
    refine ⟨v, vs, rfl, a2 T σ H Γ hW c v d r1 _ (FinG.imp (FinG.bindG h) fun Γ1 k1 σ1 H1 n1 bt1 => ?_)⟩
    exact b2 T σ1 H1 Γ1 hW n1.cfg vs ds (r2.move n1.fr) Q (k1.imp fun Γ2 k2 σ2 H2 n2 bt2 => k2 σ2 H2 (n1.trans n2) ((bt1.mono fun j q => List.mem_append_left _ q).trans (bt2.mono fun j q => List.mem_append_right _ q)))
def gUn (n : Nat) (gs : GsM) : GM := fun d Γ => match d with
  | .tup ds => if ds.length = n then gs ds Γ else .bad
  | .lst ds => if ds.length = n then gs ds Γ else .bad
  | _ => .bad
theorem PG.or {tg : Expr} {t u : TG} (h : PG X tg t) (g : PG X tg u) : PG X tg (fun v σ H Q => t v σ H Q ∨ u v σ H Q) := ⟨fun pins s σ H v w Q I r k => by
  rcases k with k | k
  · exact h.run pins s σ H v w Q I r k
  · exact g.run pins s σ H v w Q I r k⟩
theorem g_un {js : List Nat} {es : List Expr} {k : Nat} {gs : GsM} {n : Nat} {pos : Pos} (hc : X.calm = true) (h : PyGs X cl E js es gs) (hn : (assignEach es X.env).length = n := by rfl) (hst : (assignEach es X.env).findIdx? (·.1) = none := by rfl) :
    PyG X cl E js (.Tuple es k pos) (gUn n gs) := by
  obtain ⟨t, a1, a2⟩ := h.out
  refine ⟨_, PG.or (pg_tup hc a1 hn hst) (pg_lst hc a1 hn hst), fun T σ H Γ hW c v d r Q h => ?_⟩
  have e : T.W.K = X.K := congrArg Wd.K hW
  cases r <;> try (exact h.elim)
  · rename_i a xs ds n' h' r
    simp only [gUn] at h
    split at h
    · rename_i hl
      exact .inr ⟨a, xs, rfl, .of h', by rw [r.len, hl], a2 T σ H Γ hW c xs ds r Q h⟩
    · exact h.elim
  · rename_i a xs ds n' h' r
    simp only [gUn] at h
    split at h
    · rename_i hl
      exact .inl ⟨a, xs, rfl, .of h', by rw [r.len, hl], a2 T σ H Γ hW c xs ds r Q h⟩
    · exact h.elim
/-- x[i] = .., x the name of an own thing -/
def dSetIx (o i v : D) : R D := match o, i with
  | .lst xs, .int k => match ixN xs.length k with
    | some j => .ok (.lst (xs.set j v))
    | none => .bad
  | .dK kvs, .int k => if kvs.length < big then .ok (.dK (dPut kvs (.inl k) v)) else .bad
  | .dK kvs, .str k => if kvs.length < big then .ok (.dK (dPut kvs (.inr k) v)) else .bad
  | .dT kvs, .tup ks => if kvs.length < big then match keysD ks with
      | some k => .ok (.dT (dPut kvs k v))
      | none => .bad
    else .bad
  | _, _ => .bad
theorem dSetIx_ne {o i v : D} : ∀ c fs, dSetIx o i v ≠ .exc c fs := fun c fs h => by
  unfold dSetIx at h
  repeat' (split at h)
  all_goals cases h
def setOwn (i : Nat) (d : D) (Γ : Env) : Env := match Γ[i]? with
  | some s => Γ.set i (s.with d)
  | none => Γ
def rSetA : TSet := fun o i v H Q => rSetL o i v H Q ∨ ∃ a H', o = .ref a ∧ DPut H a i v H' ∧ Q H'
theorem set_all (hu : X.A.units + 1 < cLine) : PSet X rSetA := by
  intro pins s σ H o i v ov iv u Q I ro ri rv h
  rcases h with h | ⟨a, H', rfl, g, q⟩
  · exact set_list pins s σ H o i v ov iv u Q I ro ri rv h
  · obtain rfl : ov = Value.ref a := ro
    exact d_setItem hu I g ri rv fun s4 I4 => ⟨H', I4, q⟩
/-- the state behind a change of an own thing -/
theorem Cfg.setOwn {T : Act} {σ : L2.St} {H : Hp} {Γ : Env} (c : Cfg T σ H Γ) {i : Nat} {p : Addr} {d0 d : D} {o : HO} (h : ownAt Γ i = .ok d0) (hp : σ[i]? = some (some (.ref p))) (hd : ∀ S : AS, (∀ a, a = p → S a) → (∀ a, S a ↔ Sx T.S σ Γ a) → OwnAt T.W (upd H p o) S p d) :
    Nx T σ H Γ σ (upd H p o) (DL.setOwn i d Γ) := by
  have key : ∀ s, Γ[i]? = some s → s.own? = some d0 → Nx T σ H Γ σ (upd H p o) (DL.setOwn i d Γ) := fun s e hs => by
    unfold DL.setOwn
    rw [e]
    exact c.mut e hs hp (fun a u n e => by rw [upd_ne n]; exact e) (by rw [upd_same]; intro z; cases z) hd
  unfold ownAt at h
  split at h
  · rename_i e; cases h; exact key _ e rfl
  · rename_i e; cases h; exact key _ e rfl
  · cases h
theorem setIx_ok {W : Wd} {H : Hp} {S : AS} {p : Addr} {y v : V} {d0 i d z : D} (o : OwnAt W H S p d0) (hp : S p) (ri : Rep W H S y i) (rv : Rep W H S v d) (hz : dSetIx d0 i d = .ok z) {Q : Hp → Prop}
    (q : ∀ o, (∀ S' : AS, (∀ a, a = p → S' a) → (∀ a, S' a ↔ S a) → OwnAt W (upd H p o) S' p z) → Q (upd H p o)) : rSetA (.ref p) y v H Q := by
  have mv : ∀ (o : HO) (S' : AS), (∀ a, S' a ↔ S a) → Fr S H S' (upd H p o) := fun o S' e => ⟨⟨fun a u h n => by
    have z : a ≠ p := fun z => n (by rw [z]; exact hp)
    rw [upd_ne z]; exact h, fun a h => .inl ((e a).mp h)⟩, fun a h => by
    by_cases k : a = p
    · rw [k, upd_same]; intro z; cases z
    · rw [upd_ne k]; exact h⟩
  cases d0 with
  | lst ds =>
    obtain ⟨xs, h, r⟩ := o
    cases ri <;> try (cases hz; done)
    rename_i k
    simp only [dSetIx] at hz
    split at hz
    · rename_i j ej
      cases hz
      refine .inl ⟨p, xs, k, j, rfl, rfl, h, by rw [r.len]; exact ej, q _ fun S' _ e => ⟨_, upd_same, (r.set rv j).move (mv _ S' e)⟩⟩
    · cases hz
  | dK ds =>
    obtain ⟨kvs, h, k, r⟩ := o
    have put : ∀ key : Key, y = kV key → kvs.length < big → z = .dK (dPut ds key d) → rSetA (.ref p) y v H Q := fun key ey hl ez => by
      subst ey ez
      obtain ⟨h1, h2⟩ := put_rel (k := key) rv k r
      exact .inr ⟨p, _, rfl, .k h (big_lt hl), q _ fun S' _ e => ⟨_, upd_same, h1, h2.move (mv _ S' e)⟩⟩
    cases ri <;> try (cases hz; done)
    · rename_i n
      obtain ⟨c, rfl⟩ := ite_ok hz
      exact put (.inl n) rfl (by rw [map_len k]; exact c) rfl
    · rename_i n
      obtain ⟨c, rfl⟩ := ite_ok hz
      exact put (.inr n) rfl (by rw [map_len k]; exact c) rfl
  | dT ds =>
    obtain ⟨kvs, h, k, r⟩ := o
    cases ri <;> try (cases hz; done)
    rename_i b ys es nb hb rb
    simp only [dSetIx] at hz
    split at hz
    · rename_i hl
      split at hz
      · rename_i ks ek
        cases hz
        obtain ⟨h1, h2⟩ := put_rel (k := ks) rv k r
        exact .inr ⟨p, _, rfl, .t h (by rw [hb, rb.keys ek]) (big_lt (by rw [map_len k]; exact hl)), q _ fun S' _ e => ⟨_, upd_same, h1, h2.move (mv _ S' e)⟩⟩
      · cases hz
    · cases hz
  | ins c fs => cases i <;> cases hz
  | _ => exact o.elim
def gSetIx (i : Nat) (mi : M D) : GM := fun d Γ => (ownAt Γ i).bind fun _ => (mi Γ).bind fun y => (ownAt y.2 i).bind fun d0 => (dSetIx d0 y.1 d).bind fun z => .ok (setOwn i z y.2)
theorem g_setIx (i : Nat) {e : Expr} {mi : M D} {x : Str} {pos pos' : Pos} (hu : X.A.units + 1 < cLine) (hi : PyE X cl E e mi) (hN : X.N[i]? = some x := by rfl) (hv : Vis X.env.scope x := by first | exact Or.inl rfl | exact Or.inr (Or.inl rfl) | exact Or.inr (Or.inr rfl))
    (hd : (x == ("__debug__" : Str)) = false := by decide) (hcd : (x == ("__classdict__" : Str)) = false := by decide)
    (ha : ∀ v, assign (.Subscript (.Name x pos') e pos) X.env v = (do
      let ov ← holding [v] (eval (.Name x pos') X.env)
      let iv ← holding [v, ov] (eval e X.env)
      standAt pos
      holding [v, ov, iv] (setItem ov iv v)
      release [v, ov, iv] []) := by intro _; rfl) : PyG X cl E [] (.Subscript (.Name x pos') e pos) (gSetIx i mi) := by
  obtain ⟨te, a1, a2⟩ := hi.out
  refine ⟨_, pg_sub (pe_var hN hv hd hcd) a1 (set_all hu) ha, fun T σ H Γ hW c v d r Q h => ?_⟩
  obtain ⟨d00, hd0, h⟩ := FinG.lift h ownAt_ne
  obtain ⟨p, hp, _, _⟩ := c.at hd0
  refine ⟨_, hp, a2 T σ H Γ hW c _ (Fin.imp (FinG.bind h) fun y Γ1 k1 u H1 n1 r1 => ?_)⟩
  obtain ⟨d0, hd0, k2⟩ := FinG.lift k1 ownAt_ne
  obtain ⟨z, hz, k3⟩ := FinG.lift k2 dSetIx_ne
  obtain ⟨p', hp', ow, o⟩ := n1.cfg.at hd0
  rw [hp] at hp'
  cases hp'
  exact setIx_ok o (own_sx ow) r1 (r.move n1.fr) hz fun o hd => k3 σ _ (n1.trans (n1.cfg.setOwn hd0 hp hd)) .refl
/-! ### statements -/
inductive Out where
  | nx (Γ : Env) | rt (d : D) (Γ : Env) | rn (d : D) (Γ : Env) | bk (Γ : Env) | ct (Γ : Env) | exc (c : Nat) (fs : List (Str × D)) | bad
abbrev SM := Env → Out
def FinS (T : Act) (E : XK) (σ : L2.St) (H : Hp) (Γ : Env) (D : Ends) : Out → Prop
  | .nx Γ' => ∀ σ' H', Nx T σ H Γ σ' H' Γ' → D.nx σ' H'
  | .rt d Γ' => ∀ v σ' H', Nx T σ H Γ σ' H' Γ' → Rep T.W H' (Sx T.S σ' Γ') v d → D.rt v H'
  | .rn d Γ' => ∀ (p : Addr) σ' Hm H', Cfg T σ' Hm Γ' → Hm p = none → (∀ a o, Hm a = some o → H' a = some o) → OwnAt T.W H' (fun a => Sx T.S σ' Γ' a ∨ a = p) p d → D.rt (.ref p) H'
  | .bk Γ' => ∀ σ' H', Nx T σ H Γ σ' H' Γ' → D.bk σ' H'
  | .ct Γ' => ∀ σ' H', Nx T σ H Γ σ' H' Γ' → D.ct σ' H'
  | .exc c fs => ExcOk T E c fs
  | .bad => False
theorem FinS.from {T : Act} {E : XK} {σ σ1 : L2.St} {H H1 : Hp} {Γ Γ1 : Env} {D : Ends} {o : Out} (h : FinS T E σ H Γ D o) (n : Nx T σ H Γ σ1 H1 Γ1) : FinS T E σ1 H1 Γ1 D o := by
  cases o with
  | nx Γ' => exact fun σ' H' m => h σ' H' (n.trans m)
  | rt d Γ' => exact fun v σ' H' m => h v σ' H' (n.trans m)
  | rn d Γ' => exact h
  | bk Γ' => exact fun σ' H' m => h σ' H' (n.trans m)
  | ct Γ' => exact fun σ' H' m => h σ' H' (n.trans m)
  | exc c fs => exact h
  | bad => exact h
def SndS (W : Wd) (E : XK) (t : TS) (m : SM) : Prop := ∀ T σ H Γ, T.W = W → Cfg T σ H Γ → ∀ D : Ends, FinS T E σ H Γ D (m Γ) → t D σ H
structure PyS (X : Cx) (cl : Nat → Addr) (E : XK) (s : Stmt) (m : SM) : Prop where
  out : ∃ t, PS X s t ∧ SndS ⟨X.K, cl⟩ E t m
structure PySs (X : Cx) (cl : Nat → Addr) (E : XK) (s : List Stmt) (m : SM) : Prop where
  out : ∃ t, PSs X s t ∧ SndS ⟨X.K, cl⟩ E t m
/-- a statement that is never come to -/
def sDead : SM := fun _ => .bad
theorem s_dead {s : Stmt} : PyS X cl E s sDead := ⟨fun _ _ _ => False, ⟨fun _ _ _ _ _ _ h => h.elim⟩, fun T σ H Γ hW c D h => h.elim⟩
theorem ss_dead {s : List Stmt} : PySs X cl E s sDead := ⟨fun _ _ _ => False, ⟨fun _ _ _ _ _ _ h => h.elim⟩, fun T σ H Γ hW c D h => h.elim⟩
theorem e_dead {e : Expr} : PyE X cl E e bad := ⟨fun _ _ _ => False, ⟨fun _ _ _ _ _ _ h => h.elim⟩, fun T σ H Γ hW c D h => h.elim⟩
theorem t_dead {e : Expr} : PyT X cl E e bad := ⟨fun _ _ _ => False, ⟨fun _ _ _ _ _ _ h => h.elim⟩, fun T σ H Γ hW c D h => h.elim⟩
def sNil : SM := fun Γ => .nx Γ
def sSeq (a b : SM) : SM := fun Γ => match a Γ with
  | .nx Γ' => b Γ'
  | o => o
theorem ss_nil : PySs X cl E [] sNil := ⟨_, pss_nil, fun T σ H Γ hW c D h => h σ H (.refl c)⟩
theorem ss_one {s : Stmt} {m : SM} (h : PyS X cl E s m) : PySs X cl E [s] m := by
  obtain ⟨t, h1, h2⟩ := h.out
  exact ⟨_, pss_one h1, h2⟩
theorem ss_cons {s : Stmt} {r : List Stmt} {a b : SM} (h : PyS X cl E s a) (g : PySs X cl E r b) : PySs X cl E (s :: r) (sSeq a b) := by
  obtain ⟨t, h1, h2⟩ := h.out
  obtain ⟨u, g1, g2⟩ := g.out
  refine ⟨_, pss_cons h1 g1, fun T σ H Γ hW c D h => ?_⟩
  refine h2 T σ H Γ hW c _ ?_
  unfold sSeq at h
  cases e : a Γ with
  | nx Γ' =>
    rw [e] at h
    exact fun σ' H' n => g2 T σ' H' Γ' hW n.cfg D (h.from n)
  | rt d Γ' => rw [e] at h; exact h
  | rn d Γ' => rw [e] at h; exact h
  | bk Γ' => rw [e] at h; exact h
  | ct Γ' => rw [e] at h; exact h
  | exc c fs => rw [e] at h; exact h
  | bad => rw [e] at h; exact h
/-- a value's mirror as a statement's -/
def ofM {α : Type} (m : M α) (k : α → SM) : SM := fun Γ => match m Γ with
  | .ok (a, Γ') => k a Γ'
  | .exc c fs => .exc c fs
  | .bad => .bad
theorem ofM_fin {α : Type} {T : Act} {E : XK} {σ : L2.St} {H : Hp} {Γ : Env} {D : Ends} {m : M α} {k : α → SM} (h : FinS T E σ H Γ D (ofM m k Γ)) : Fin T E (fun a Γ' => FinS T E σ H Γ D (k a Γ')) (m Γ) := by
  unfold ofM at h
  cases e : m Γ with
  | ok p => rw [e] at h; exact h
  | exc c fs => rw [e] at h; exact h
  | bad => rw [e] at h; exact h.elim
def ofG (r : R Env) : Out := match r with
  | .ok Γ => .nx Γ
  | .exc c fs => .exc c fs
  | .bad => .bad
theorem ofG_fin {T : Act} {E : XK} {σ : L2.St} {H : Hp} {Γ : Env} {D : Ends} {r : R Env} (h : FinS T E σ H Γ D (ofG r)) : FinG T E (fun Γ' => FinS T E σ H Γ D (.nx Γ')) r := by
  cases r with
  | ok p => exact h
  | exc c fs => exact h
  | bad => exact h.elim
def sExpr (m : M D) : SM := ofM m fun _ Γ => .nx Γ
theorem s_expr {e : Expr} {m : M D} {pos : Pos} (h : PyE X cl E e m) (hs : swapsWith e none pos.line X.env = pure false := by rfl) : PyS X cl E (.Expr e pos) (sExpr m) := by
  obtain ⟨t, h1, h2⟩ := h.out
  refine ⟨_, ps_expr h1 hs, fun T σ H Γ hW c D h => ?_⟩
  exact h2 T σ H Γ hW c _ ((ofM_fin h).imp fun d Γ1 k1 v H1 n1 r1 => k1 σ H1 n1)
def sAsg (m : M D) (g : GM) : SM := ofM m fun d Γ => ofG (g d Γ)
theorem s_asg {js : List Nat} {tg e : Expr} {m : M D} {g : GM} {pos : Pos} (h : PyE X cl E e m) (k : PyG X cl E js tg g) (hs : swapsWithSole [tg] e pos.line X.env = pure false := by rfl) (hw : swappedStores [tg] e X.env = pure none := by rfl)
    (h1 : (assignEach [tg] X.env).map (·.2) = [assign tg X.env] := by rfl) : PyS X cl E (.Assign [tg] e pos) (sAsg m g) := by
  obtain ⟨t, a1, a2⟩ := h.out
  obtain ⟨u, b1, b2⟩ := k.out
  refine ⟨_, ps_asg a1 b1 hs hw h1, fun T σ H Γ hW c D h => ?_⟩
  refine a2 T σ H Γ hW c _ ((ofM_fin h).imp fun d Γ1 k1 v H1 n1 r1 => ?_)
  exact b2 T σ H1 Γ1 hW n1.cfg v d r1 D.nx ((ofG_fin k1).imp fun Γ2 k2 σ2 H2 n2 _ => k2 σ2 H2 (n1.trans n2))
/-- name = value -/
theorem s_set (i : Nat) {x : Str} {e : Expr} {m : M D} {pos pos' : Pos} (hN : X.N.Nodup) (h : PyE X cl E e m) (hi : X.N[i]? = some x := by rfl) (hx : Loc X.env.scope x := by first | exact Or.inl rfl | exact Or.inr rfl) (hs : swapsWith e (some (.Name x pos')) pos.line X.env = pure false := by rfl)
    (hf : X.fn x = true ∨ X.env.scope.names.lookup x = some .local := by first | exact .inl rfl | exact .inr rfl) : PyS X cl E (.Assign [.Name x pos'] e pos) (sAsg m (gSet i)) := by
  obtain ⟨t, a1, a2⟩ := h.out
  refine ⟨_, ps_set hN hi hx a1 hs hf, fun T σ H Γ hW c D h => ?_⟩
  refine a2 T σ H Γ hW c _ ((ofM_fin h).imp fun d Γ1 k1 v H1 n1 r1 => ?_)
  exact snd_gName (js := [i]) (by simp) T σ H1 Γ1 hW n1.cfg v d r1 D.nx ((ofG_fin k1).imp fun Γ2 k2 σ2 H2 n2 _ => k2 σ2 H2 (n1.trans n2))
/-- name = a new thing, which is one's own from here on -/
def gOwn (i : Nat) : GM := fun d Γ => if i < Γ.length then .ok (Γ.set i (.ow d)) else .bad
theorem s_setN (i : Nat) {x : Str} {e : Expr} {m : M D} {pos pos' : Pos} (hN : X.N.Nodup) (h : PyN X cl E e m) (hi : X.N[i]? = some x := by rfl) (hx : Loc X.env.scope x := by first | exact Or.inl rfl | exact Or.inr rfl) (hs : swapsWith e (some (.Name x pos')) pos.line X.env = pure false := by rfl)
    (hf : X.fn x = true ∨ X.env.scope.names.lookup x = some .local := by first | exact .inl rfl | exact .inr rfl) : PyS X cl E (.Assign [.Name x pos'] e pos) (sAsg m (gOwn i)) := by
  obtain ⟨t, a1, a2⟩ := h.out
  refine ⟨_, ps_set hN hi hx a1 hs hf, fun T σ H Γ hW c D h => ?_⟩
  refine a2 T σ H Γ hW c _ ((ofM_fin h).imp fun d Γ1 k1 p Hm H1 n1 hp ex o => ?_)
  have k2 := ofG_fin k1
  unfold gOwn at k2
  by_cases hi' : i < Γ1.length
  · rw [if_pos hi'] at k2
    exact k2 _ H1 (n1.trans (n1.cfg.put_own hi' hp ex o))
  · rw [if_neg hi'] at k2
    exact k2.elim
def sRet (m : M D) : SM := ofM m fun d Γ => .rt d Γ
theorem s_ret {e : Expr} {m : M D} {pos : Pos} (h : PyE X cl E e m) : PyS X cl E (.Return (some e) pos) (sRet m) := by
  obtain ⟨t, h1, h2⟩ := h.out
  refine ⟨_, ps_ret h1, fun T σ H Γ hW c D h => ?_⟩
  exact h2 T σ H Γ hW c _ ((ofM_fin h).imp fun d Γ1 k1 v H1 n1 r1 => k1 v σ H1 n1 r1)
def sRetN (m : M D) : SM := ofM m fun d Γ => .rn d Γ
theorem s_retN {e : Expr} {m : M D} {pos : Pos} (h : PyN X cl E e m) : PyS X cl E (.Return (some e) pos) (sRetN m) := by
  obtain ⟨t, h1, h2⟩ := h.out
  refine ⟨_, ps_ret h1, fun T σ H Γ hW c D h => ?_⟩
  exact h2 T σ H Γ hW c _ ((ofM_fin h).imp fun d Γ1 k1 p Hm H1 n1 hp ex o => k1 p σ Hm H1 n1.cfg hp ex o)
/-- the own thing of a name is handed out -/
def sRetOwn (i : Nat) : SM := fun Γ => match Γ[i]? with
  | some (.ow d) => .rn d (Γ.set i .no)
  | _ => .bad
theorem s_retOwn (i : Nat) {x : Str} {pos pos' : Pos} (hN : X.N[i]? = some x := by rfl) (hv : Vis X.env.scope x := by first | exact Or.inl rfl | exact Or.inr (Or.inl rfl) | exact Or.inr (Or.inr rfl))
    (hd : (x == ("__debug__" : Str)) = false := by decide) (hcd : (x == ("__classdict__" : Str)) = false := by decide) : PyS X cl E (.Return (some (.Name x pos')) pos) (sRetOwn i) := by
  refine ⟨_, ps_ret (pe_var hN hv hd hcd), fun T σ H Γ hW c D h => ?_⟩
  unfold sRetOwn at h
  split at h
  · rename_i d e
    obtain ⟨p, h1, h2, h3, h4⟩ := c.ow i d e
    obtain ⟨ct, sx⟩ := c.takeOut e h1
    refine ⟨_, h1, h p σ (delH H p) H ct delH_same delH_le (h4.mv ⟨fun a o h _ => h, fun a q => .inl ?_⟩ fun _ z => z)⟩
    rcases q with q | q
    · exact (sx a q).1
    · rw [q]; exact .inr ⟨i, h1, d, by rw [e]; rfl⟩
  · exact h.elim
theorem s_ret0 {pos : Pos} : PyS X cl E (.Return none pos) (fun Γ => .rt .non Γ) := ⟨_, ps_retN, fun T σ H Γ hW c D h => h .non σ H (.refl c) .non⟩
theorem s_pass {pos : Pos} : PyS X cl E (.Pass pos) sNil := ⟨_, ps_pass, fun T σ H Γ hW c D h => h σ H (.refl c)⟩
theorem s_break {pos : Pos} : PyS X cl E (.Break pos) (fun Γ => .bk Γ) := ⟨_, ps_break, fun T σ H Γ hW c D h => h σ H (.refl c)⟩
theorem s_continue {pos : Pos} : PyS X cl E (.Continue pos) (fun Γ => .ct Γ) := ⟨_, ps_continue, fun T σ H Γ hW c D h => h σ H (.refl c)⟩
def sIf (t : M Bool) (a b : SM) : SM := ofM t fun k => if k = true then a else b
theorem s_if {c : Expr} {a b : List Stmt} {t : M Bool} {m n : SM} {pos : Pos} (hc : PyT X cl E c t) (h : PySs X cl E a m) (g : PySs X cl E b n) : PyS X cl E (.If c a b pos) (sIf t m n) := by
  obtain ⟨tt, c1, c2⟩ := hc.out
  obtain ⟨ta, h1, h2⟩ := h.out
  obtain ⟨tb, g1, g2⟩ := g.out
  refine ⟨_, ps_if c1 h1 g1, fun T σ H Γ hW cf D q => ?_⟩
  refine c2 T σ H Γ hW cf _ ((ofM_fin q).imp fun k Γ1 k1 H1 n1 => ?_)
  cases k with
  | true =>
    rw [if_pos rfl]
    exact h2 T σ H1 Γ1 hW n1.cfg D (FinS.from (show FinS T E σ H Γ D (m Γ1) from k1) n1)
  | false =>
    rw [if_neg Bool.false_ne_true]
    exact g2 T σ H1 Γ1 hW n1.cfg D (FinS.from (show FinS T E σ H Γ D (n Γ1) from k1) n1)
end DL
/-! DL8: what is walked, for, while, comprehensions, append. -/
namespace DL
open PySem L2
variable {cl : Nat → Addr} {E : XK} {X : Cx}
/-- J walks the values ds, whatever happens to what is excluded -/
def ItOk (W : Wd) (S : AS) (H : Hp) (J : It) (ds : List D) : Prop := ∃ (G : Hp → Prop) (Y : Nat → Hp → V → Hp → Prop), Walk J ds.length G Y ∧ (∀ S2 H2, Fr S H S2 H2 → G H2) ∧
  (∀ i S2 H2 x H3, i < ds.length → Fr S H S2 H2 → SDom H2 S2 → Y i H2 x H3 → (∀ a o, H2 a = some o → H3 a = some o) ∧ ∀ d, ds[i]? = some d → Rep W H3 S2 x d)
abbrev KI (T : Act) (σ : L2.St) (H : Hp) (Γ : Env) (Q : It → Hp → Prop) : List D → Env → Prop := fun ds Γ' => ∀ J H', Nx T σ H Γ σ H' Γ' → ItOk T.W (Sx T.S σ Γ') H' J ds → Q J H'
def SndI (W : Wd) (E : XK) (wi : TI) (m : M (List D)) : Prop := ∀ T σ H Γ, T.W = W → Cfg T σ H Γ → ∀ Rk, Fin T E (KI T σ H Γ Rk) (m Γ) → wi σ H Rk
structure PyI (X : Cx) (cl : Nat → Addr) (E : XK) (tg iter : Expr) (m : M (List D)) : Prop where
  out : ∃ wi, PI X tg iter wi ∧ SndI ⟨X.K, cl⟩ E wi m
theorem PI.or {tg iter : Expr} {t u : TI} (h : PI X tg iter t) (g : PI X tg iter u) : PI X tg iter (fun σ H R => t σ H R ∨ u σ H R) := ⟨fun pins s σ H R I k => by
  rcases k with k | k
  · exact h.run pins s σ H R I k
  · exact g.run pins s σ H R I k⟩
theorem itOk_list {W : Wd} {H : Hp} {S : AS} {K : PySem.W.Frag} {a : Addr} {xs : List V} {ds : List D} (h : ∀ S2 H2, Fr S H S2 H2 → SqL K H2 a xs) (r : RepL W H S xs ds) : ItOk W S H (Itl K a) ds :=
  ⟨_, _, by rw [← r.len]; exact walk_list (xs := xs), h, fun i S2 H2 x H3 hi f sd y => by
    obtain ⟨rfl, hx⟩ := y
    refine ⟨fun _ _ h => h, fun d hd => ?_⟩
    obtain ⟨v, h1, h2⟩ := r.get hd
    rw [hx] at h1; cases h1
    exact h2.move f⟩
theorem itOk_tup {W : Wd} {H : Hp} {S : AS} {K : PySem.W.Frag} {a : Addr} {xs : List V} {ds : List D} (h : ∀ S2 H2, Fr S H S2 H2 → SqT K H2 a xs) (r : RepL W H S xs ds) : ItOk W S H (Itt K a) ds :=
  ⟨_, _, by rw [← r.len]; exact walk_tup (xs := xs), h, fun i S2 H2 x H3 hi f sd y => by
    obtain ⟨rfl, hx⟩ := y
    refine ⟨fun _ _ h => h, fun d hd => ?_⟩
    obtain ⟨v, h1, h2⟩ := r.get hd
    rw [hx] at h1; cases h1
    exact h2.move f⟩
def seqD : D → R (List D)
  | .lst xs => .ok xs
  | .frl xs => .ok xs
  | .tup xs => .ok xs
  | _ => .bad
theorem seqD_ne {d : D} : ∀ c fs, seqD d ≠ .exc c fs := fun c fs h => by cases d <;> cases h
def mSeq (a : M D) : M (List D) := bnd a fun x => lift (seqD x)
theorem i_seq {tg e : Expr} {m : M D} (h : PyE X cl E e m) : PyI X cl E tg e (mSeq m) := by
  obtain ⟨te, h1, h2⟩ := h.out
  refine ⟨_, PI.or (pi_list h1) (pi_tup h1), fun T σ H Γ hW c Rk q => ?_⟩
  have eK : T.W.K = X.K := congrArg Wd.K hW
  have h2' := fun Q => h2 T σ H Γ hW c Q
  cases e0 : m Γ with
  | bad => simp [mSeq, e0] at q; exact q.elim
  | exc cc fs =>
    simp only [mSeq, bnd_eq, e0, R.bind_exc] at q
    refine .inl (h2' _ ?_)
    rw [e0]; exact q
  | ok pr =>
    obtain ⟨d, Γ1⟩ := pr
    simp only [mSeq, bnd_eq, e0, R.bind_ok, lift_eq] at q
    obtain ⟨ds, hds, k⟩ := Fin.lift (P := KI T σ H Γ Rk) q seqD_ne
    cases d <;> try (cases hds; done)
    · cases hds
      refine .inl (h2' _ ?_)
      rw [e0]
      refine fun v H1 n1 r1 => ?_
      cases r1 with
      | lst n hh r => exact ⟨_, rfl, ⟨_, .of hh⟩, k _ H1 n1 (itOk_list (fun S2 H2 f => .of (f.ext _ _ hh n)) r)⟩
    · cases hds
      refine .inr (h2' _ ?_)
      rw [e0]
      refine fun v H1 n1 r1 => ?_
      cases r1 with
      | tup n hh r => exact ⟨_, rfl, ⟨_, .of hh⟩, k _ H1 n1 (itOk_tup (fun S2 H2 f => .of (f.ext _ _ hh n)) r)⟩
    · cases hds
      refine .inl (h2' _ ?_)
      rw [e0]
      refine fun v H1 n1 r1 => ?_
      cases r1 with
      | frl hh r => exact ⟨_, rfl, ⟨_, eK ▸ hh.sq⟩, k _ H1 n1 (itOk_list (fun S2 H2 f => eK ▸ (hh.move f).sq) r)⟩
def rangeD (lo : Int) (n : Nat) : List D := (List.range n).map fun i => D.int (lo + (i : Nat))
@[simp] theorem rangeD_len (lo : Int) (n : Nat) : (rangeD lo n).length = n := by simp [rangeD]
theorem itOk_range {W : Wd} {H : Hp} {S : AS} {lo : Int} {n : Nat} : ItOk W S H (Itr lo n) (rangeD lo n) :=
  ⟨_, _, by rw [rangeD_len]; exact walk_range, fun _ _ _ => trivial, fun i S2 H2 x H3 hi f sd y => by
    obtain ⟨rfl, rfl⟩ := y
    refine ⟨fun _ _ h => h, fun d hd => ?_⟩
    rw [rangeD_len] at hi
    simp [rangeD, List.getElem?_map, List.getElem?_range hi] at hd
    subst hd
    exact .int _⟩
def dRange1 : List D → R (List D)
  | [.int j] => if decide (j.natAbs < 2 ^ 62) = true then .ok (rangeD 0 j.toNat) else .bad
  | _ => .bad
def dRange2 : List D → R (List D)
  | [.int i, .int j] => if (decide (i.natAbs < 2 ^ 62) && decide (j.natAbs < 2 ^ 62)) = true then .ok (rangeD i (j - i).toNat) else .bad
  | _ => .bad
theorem dRange1_ne {ds : List D} : ∀ c fs, dRange1 ds ≠ .exc c fs := fun c fs h => by
  unfold dRange1 at h
  split at h
  · split at h <;> cases h
  · cases h
theorem dRange2_ne {ds : List D} : ∀ c fs, dRange2 ds ≠ .exc c fs := fun c fs h => by
  unfold dRange2 at h
  split at h
  · split at h <;> cases h
  · cases h
def mRange1 (a : M (List D)) : M (List D) := bnd a fun ds => lift (dRange1 ds)
def mRange2 (a : M (List D)) : M (List D) := bnd a fun ds => lift (dRange2 ds)
theorem range1_of {ds z : List D} (h : dRange1 ds = .ok z) : ∃ j, ds = [.int j] ∧ -(2 ^ 62) ≤ j ∧ j < 2 ^ 62 ∧ z = rangeD 0 j.toNat := by
  unfold dRange1 at h
  split at h
  · rename_i j
    obtain ⟨cc, rfl⟩ := ite_ok h
    simp only [decide_eq_true_eq] at cc
    exact ⟨j, rfl, by omega, by omega, rfl⟩
  · cases h
theorem range2_of {ds z : List D} (h : dRange2 ds = .ok z) : ∃ i j, ds = [.int i, .int j] ∧ (-(2 ^ 62) ≤ i ∧ i < 2 ^ 62 ∧ -(2 ^ 62) ≤ j ∧ j < 2 ^ 62) ∧ z = rangeD i (j - i).toNat := by
  unfold dRange2 at h
  split at h
  · rename_i i j
    obtain ⟨cc, rfl⟩ := ite_ok h
    simp only [Bool.and_eq_true, decide_eq_true_eq] at cc
    exact ⟨i, j, rfl, ⟨by omega, by omega, by omega, by omega⟩, rfl⟩
  · cases h
theorem i_range1 {tg a : Expr} {m : M (List D)} {p pos : Pos} (hm : X.mg "range" = none) (ha : PyB X cl E [a] m) (hg : Gl X "range" := by rfl) (hs : starEach [a] X.env = [(false, eval a X.env)] := by rfl) : PyI X cl E tg (.Call (.Name "range" p) [a] [] pos) (mRange1 m) := by
  obtain ⟨ta, a1, a2⟩ := ha.out
  refine ⟨_, pi_range1 hg hm a1 hs, fun T σ H Γ hW c Rk q => ?_⟩
  refine a2 T σ H Γ hW c _ (q.bind.imp fun ds Γ1 k1 vs H1 S' n1 h1 h2 r1 => ?_)
  obtain ⟨z, hz, k2⟩ := k1.lift dRange1_ne
  obtain ⟨j, rfl, l1, l2, rfl⟩ := range1_of hz
  obtain ⟨v, rfl, r⟩ := r1.one
  cases r
  exact ⟨j, rfl, l1, l2, k2 _ H1 n1 itOk_range⟩
theorem i_range2 {tg a b : Expr} {m : M (List D)} {p pos : Pos} (hm : X.mg "range" = none) (ha : PyB X cl E [a, b] m) (hg : Gl X "range" := by rfl) (hs : starEach [a, b] X.env = [(false, eval a X.env), (false, eval b X.env)] := by rfl)
    (hs2 : starEach [b] X.env = [(false, eval b X.env)] := by rfl) : PyI X cl E tg (.Call (.Name "range" p) [a, b] [] pos) (mRange2 m) := by
  obtain ⟨ta, a1, a2⟩ := ha.out
  refine ⟨_, pi_range2 hg hm a1 hs hs2, fun T σ H Γ hW c Rk q => ?_⟩
  refine a2 T σ H Γ hW c _ (q.bind.imp fun ds Γ1 k1 vs H1 S' n1 h1 h2 r1 => ?_)
  obtain ⟨z, hz, k2⟩ := k1.lift dRange2_ne
  obtain ⟨i, j, rfl, l, rfl⟩ := range2_of hz
  obtain ⟨v, u, rfl, r, r'⟩ := r1.two
  cases r
  cases r'
  exact ⟨i, j, rfl, l, k2 _ H1 n1 itOk_range⟩
/-- pairs -/
def enumD : Nat → List D → List D
  | _, [] => []
  | k, d :: ds => .tup [.int k, d] :: enumD (k + 1) ds
@[simp] theorem enumD_len : ∀ (k : Nat) (ds : List D), (enumD k ds).length = ds.length
  | _, [] => rfl
  | k, _ :: ds => congrArg (· + 1) (enumD_len (k + 1) ds)
theorem enumD_get : ∀ (k : Nat) (ds : List D) (i : Nat) (z : D), (enumD k ds)[i]? = some z → ∃ d, ds[i]? = some d ∧ z = .tup [.int (k + i : Nat), d]
  | _, [], i, z, h => by simp [enumD] at h
  | k, d :: ds, 0, z, h => by simp [enumD] at h; exact ⟨d, rfl, h.symm⟩
  | k, d :: ds, i + 1, z, h => by
    obtain ⟨e, h1, h2⟩ := enumD_get (k + 1) ds i z (by simpa [enumD] using h)
    exact ⟨e, by simpa using h1, by rw [h2]; congr 3; omega⟩
theorem pair_rep {W : Wd} {H : Hp} {S : AS} {p : Addr} {x y : V} {d e : D} (sd : SDom H S) (hp : H p = none) (r1 : Rep W H S x d) (r2 : Rep W H S y e) : Rep W (upd H p (.tup [x, y])) S (.ref p) (.tup [d, e]) := rep_newT sd hp (.cons r1 (.cons r2 .nil))
theorem itOk_enum {W : Wd} {H : Hp} {S : AS} {K : PySem.W.Frag} {a : Addr} {xs : List V} {ds : List D} (h : ∀ S2 H2, Fr S H S2 H2 → SqL K H2 a xs) (r : RepL W H S xs ds) : ItOk W S H (Ite K a) (enumD 0 ds) :=
  ⟨_, _, by rw [enumD_len, ← r.len]; exact walk_enum (xs := xs), h, fun i S2 H2 x H3 hi f sd y => by
    obtain ⟨Tt, u, w, rfl, hT, rfl, h1, h2⟩ := y
    refine ⟨upd_more hT, fun d hd => ?_⟩
    obtain ⟨e, g1, rfl⟩ := enumD_get 0 ds i d hd
    obtain ⟨v, g2, g3⟩ := r.get g1
    have h2' : xs[i]? = some w := h2
    rw [g2] at h2'
    cases h2'
    have h1' : some (V.int (i : Nat)) = some u := h1
    cases h1'
    have e0 : 0 + i = i := Nat.zero_add i
    rw [e0]
    exact pair_rep sd hT (.int _) (g3.move f)⟩
def dEnum : List D → R (List D)
  | [.lst xs] => .ok (enumD 0 xs)
  | [.frl xs] => .ok (enumD 0 xs)
  | _ => .bad
theorem dEnum_ne {ds : List D} : ∀ c fs, dEnum ds ≠ .exc c fs := fun c fs h => by
  unfold dEnum at h
  split at h <;> cases h
def mEnum (a : M (List D)) : M (List D) := bnd a fun ds => lift (dEnum ds)
theorem dEnum_of {ds z : List D} (h : dEnum ds = .ok z) : ∃ xs, (ds = [.lst xs] ∨ ds = [.frl xs]) ∧ z = enumD 0 xs := by
  unfold dEnum at h
  split at h
  · cases h; exact ⟨_, .inl rfl, rfl⟩
  · cases h; exact ⟨_, .inr rfl, rfl⟩
  · cases h
theorem i_enum {e : Expr} {elts : List Expr} {kk : Nat} {m : M (List D)} {p pos tpos : Pos} (hm : X.mg "enumerate" = none) (ha : PyA X cl E [e] m) (hg : Gl X "enumerate" := by rfl) (hs : starEach [e] X.env = [(false, eval e X.env)] := by rfl) :
    PyI X cl E (.Tuple elts kk tpos) (.Call (.Name "enumerate" p) [e] [] pos) (mEnum m) := by
  obtain ⟨ta, a1, a2⟩ := ha.out
  refine ⟨_, pi_enum hg hm a1 hs, fun T σ H Γ hW c Rk q => ?_⟩
  refine a2 T σ H Γ hW c _ (q.bind.imp fun ds Γ1 k1 vs H1 n1 r1 => ?_)
  obtain ⟨z, hz, k2⟩ := k1.lift dEnum_ne
  obtain ⟨xs, hx, rfl⟩ := dEnum_of hz
  have eK : T.W.K = X.K := congrArg Wd.K hW
  rcases hx with rfl | rfl
  · obtain ⟨v, rfl, r⟩ := r1.one
    cases r with
    | lst n hh r => exact ⟨_, _, rfl, .of hh, k2 _ H1 n1 (itOk_enum (fun S2 H2 f => .of (f.ext _ _ hh n)) r)⟩
  · obtain ⟨v, rfl, r⟩ := r1.one
    cases r with
    | frl hh r => exact ⟨_, _, rfl, eK ▸ hh.sq, k2 _ H1 n1 (itOk_enum (fun S2 H2 f => eK ▸ (hh.move f).sq) r)⟩
def zipD : List D → List D → List D
  | a :: as, b :: bs => .tup [a, b] :: zipD as bs
  | _, _ => []
@[simp] theorem zipD_len : ∀ (as bs : List D), (zipD as bs).length = min as.length bs.length
  | [], _ => by simp [zipD]
  | _ :: _, [] => by simp [zipD]
  | _ :: as, _ :: bs => by simp [zipD, zipD_len as bs]
theorem zipD_get : ∀ (as bs : List D) (i : Nat) (z : D), (zipD as bs)[i]? = some z → ∃ a b, as[i]? = some a ∧ bs[i]? = some b ∧ z = .tup [a, b]
  | [], bs, i, z, h => by simp [zipD] at h
  | _ :: _, [], i, z, h => by simp [zipD] at h
  | a :: as, b :: bs, 0, z, h => by simp [zipD] at h; exact ⟨a, b, rfl, rfl, h.symm⟩
  | a :: as, b :: bs, i + 1, z, h => by
    obtain ⟨x, y, h1, h2, h3⟩ := zipD_get as bs i z (by simpa [zipD] using h)
    exact ⟨x, y, by simpa using h1, by simpa using h2, h3⟩
theorem itOk_zip {W : Wd} {H : Hp} {S : AS} {K : PySem.W.Frag} {a b : Addr} {xs ys : List V} {ds es : List D} (h : ∀ S2 H2, Fr S H S2 H2 → SqL K H2 a xs) (g : ∀ S2 H2, Fr S H S2 H2 → SqL K H2 b ys) (r : RepL W H S xs ds) (q : RepL W H S ys es) : ItOk W S H (Itz K a b) (zipD ds es) :=
  ⟨fun H => SqL K H a xs ∧ SqL K H b ys, YPair (fun i => xs[i]?) (fun i => ys[i]?), by rw [zipD_len, ← r.len, ← q.len]; exact walk_zip (xs := xs) (ys := ys) rfl, fun S2 H2 f => ⟨h S2 H2 f, g S2 H2 f⟩, fun i S2 H2 x H3 hi f sd y => by
    obtain ⟨Tt, u, w, rfl, hT, rfl, h1, h2⟩ := y
    refine ⟨upd_more hT, fun d hd => ?_⟩
    obtain ⟨d1, d2, g1, g2, rfl⟩ := zipD_get ds es i d hd
    obtain ⟨v1, k1, l1⟩ := r.get g1
    obtain ⟨v2, k2, l2⟩ := q.get g2
    have h1' : xs[i]? = some u := h1
    have h2' : ys[i]? = some w := h2
    rw [k1] at h1'; cases h1'
    rw [k2] at h2'; cases h2'
    exact pair_rep sd hT (l1.move f) (l2.move f)⟩
def dZip : List D → R (List D)
  | [.lst xs, .lst ys] => .ok (zipD xs ys)
  | _ => .bad
theorem dZip_ne {ds : List D} : ∀ c fs, dZip ds ≠ .exc c fs := fun c fs h => by
  unfold dZip at h
  split at h <;> cases h
def mZip (a : M (List D)) : M (List D) := bnd a fun ds => lift (dZip ds)
theorem dZip_of {ds z : List D} (h : dZip ds = .ok z) : ∃ xs ys, ds = [.lst xs, .lst ys] ∧ z = zipD xs ys := by
  unfold dZip at h
  split at h
  · cases h; exact ⟨_, _, rfl, rfl⟩
  · cases h
theorem i_zip {e e2 : Expr} {elts : List Expr} {kk : Nat} {m : M (List D)} {p pos tpos : Pos} (hm : X.mg "zip" = none) (ha : PyA X cl E [e, e2] m) (hg : Gl X "zip" := by rfl) (hs : starEach [e, e2] X.env = (false, eval e X.env) :: starEach [e2] X.env := by rfl)
    (hpl : (backTo pos (starEach [e2] X.env)).any (·.1) = false := by rfl) :
    PyI X cl E (.Tuple elts kk tpos) (.Call (.Name "zip" p) [e, e2] [] pos) (mZip m) := by
  obtain ⟨ta, a1, a2⟩ := ha.out
  refine ⟨_, pi_zip hg hm a1 hs hpl, fun T σ H Γ hW c Rk q => ?_⟩
  unfold iZip
  refine a2 T σ H Γ hW c _ (q.bind.imp fun ds Γ1 k1 vs H1 n1 r1 => ?_)
  obtain ⟨z, hz, k2⟩ := k1.lift dZip_ne
  obtain ⟨xs, ys, rfl, rfl⟩ := dZip_of hz
  obtain ⟨v, u, rfl, r, r'⟩ := r1.two
  cases r with
  | lst n hh r =>
    cases r' with
    | lst n' hh' r' => exact ⟨_, _, _, _, rfl, .of hh, .of hh', k2 _ H1 n1 (itOk_zip (fun S2 H2 f => .of (f.ext _ _ hh n)) (fun S2 H2 f => .of (f.ext _ _ hh' n')) r r')⟩
/-! ### for -/
def forL (g : GM) (body : SM) : List D → Env → Out
  | [], Γ => .nx Γ
  | d :: ds, Γ => match g d Γ with
    | .ok Γ1 => match body Γ1 with
      | .nx Γ2 => forL g body ds Γ2
      | .ct Γ2 => forL g body ds Γ2
      | .bk Γ2 => .nx Γ2
      | .rt d Γ2 => .rt d Γ2
      | .rn d Γ2 => .rn d Γ2
      | .exc c fs => .exc c fs
      | .bad => .bad
    | .exc c fs => .exc c fs
    | .bad => .bad
def sFor (it : M (List D)) (g : GM) (body : SM) : SM := ofM it fun ds => forL g body ds
theorem snd_for {W : Wd} {js : List Nat} {wi : TI} {g : TG} {tb : TS} {mi : M (List D)} {mg : GM} {mb : SM} (hi : SndI W E wi mi) (hg : SndG W E js g mg) (hb : SndS W E tb mb) : SndS W E (tFor wi g tb) (sFor mi mg mb) := fun T σ H Γ hW c Dn h => by
  refine hi T σ H Γ hW c _ ((ofM_fin h).imp fun ds Γ1 k1 J H1 n1 io => ?_)
  obtain ⟨G, Y, wk, hG, hY⟩ := io
  refine for_it wk (fun i σ' H' => ∃ Γi, Nx T σ H1 Γ1 σ' H' Γi ∧ FinS T E σ H Γ Dn (forL mg mb (ds.drop i) Γi)) ⟨Γ1, .refl n1.cfg, k1⟩ (fun i σ' H' _ ⟨Γi, ni, _⟩ => hG _ _ ni.fr) ?_ ?_
  · rintro i x σ' H' H3 hi ⟨Γi, ni, ki⟩ y
    obtain ⟨ex, hr⟩ := hY i _ _ x H3 hi ni.fr ni.cfg.sd y
    have n3 := ni.cfg.more ex
    rw [List.drop_eq_getElem_cons hi] at ki
    have r := hr ds[i] (by simp [hi])
    refine hg T σ' H3 Γi hW n3.cfg x ds[i] r _ ?_
    unfold forL at ki
    cases e : mg ds[i] Γi with
    | bad => rw [e] at ki; exact ki
    | exc cc fs => rw [e] at ki; exact ki
    | ok Γ2 =>
      simp only [e] at ki
      refine fun σ2 H2 n2 _ => hb T σ2 H2 Γ2 hW n2.cfg _ ?_
      have nn : Nx T σ H1 Γ1 σ2 H2 Γ2 := ni.trans (n3.trans n2)
      cases e2 : mb Γ2 with
      | nx Γ4 => simp only [e2] at ki; exact fun σ4 H4 n4 => ⟨Γ4, nn.trans n4, ki⟩
      | ct Γ4 => simp only [e2] at ki; exact fun σ4 H4 n4 => ⟨Γ4, nn.trans n4, ki⟩
      | bk Γ4 => simp only [e2] at ki; exact fun σ4 H4 n4 => ki σ4 H4 (n1.trans (nn.trans n4))
      | rt d Γ4 => simp only [e2] at ki; exact fun v σ4 H4 n4 => ki v σ4 H4 (n1.trans (nn.trans n4))
      | rn d Γ4 => simp only [e2] at ki; exact ki
      | exc cc fs => simp only [e2] at ki; exact ki
      | bad => simp only [e2] at ki; exact ki
  · rintro σ' H' ⟨Γi, ni, ki⟩
    rw [List.drop_length] at ki
    exact ki σ' H' (n1.trans ni)
theorem s_for {js : List Nat} {tg iter : Expr} {body : List Stmt} {mi : M (List D)} {g : GM} {mb : SM} {pos : Pos} (hp : PassesOwn (model X.prog X.w) X.A X.env X.xe) (hc : X.calm = true) (hi : PyI X cl E tg iter mi) (hg : PyG X cl E js tg g) (hb : PySs X cl E body mb)
    (hs : ∀ x, foldedSetIterable iter X.env x = pure x := by intro _; rfl) : PyS X cl E (.For tg iter body [] pos) (sFor mi g mb) := by
  obtain ⟨wi, i1, i2⟩ := hi.out
  obtain ⟨t, g1, g2⟩ := hg.out
  obtain ⟨tb, b1, b2⟩ := hb.out
  exact ⟨_, ps_for hp hc i1 g1 b1 hs, snd_for i2 g2 b2⟩
/-! ### while: n turns at most -/
def whL (t : M Bool) (body : SM) : Nat → Env → Out
  | 0, _ => .bad
  | n + 1, Γ => match t Γ with
    | .ok (b, Γ1) => if b = true then match body Γ1 with
        | .nx Γ2 => whL t body n Γ2
        | .ct Γ2 => whL t body n Γ2
        | .bk Γ2 => .nx Γ2
        | .rt d Γ2 => .rt d Γ2
        | .rn d Γ2 => .rn d Γ2
        | .exc c fs => .exc c fs
        | .bad => .bad
      else .nx Γ1
    | .exc c fs => .exc c fs
    | .bad => .bad
theorem snd_while {W : Wd} (n : Env → Nat) {t : TT} {tb : TS} {mt : M Bool} {mb : SM} (ht : SndT W E t mt) (hb : SndS W E tb mb) : SndS W E (tWhile t tb) (fun Γ => whL mt mb (n Γ) Γ) := fun T σ H Γ hW c Dn h => by
  refine ⟨fun m σ' H' => ∃ Γi, Nx T σ H Γ σ' H' Γi ∧ FinS T E σ H Γ Dn (whL mt mb m Γi), ⟨n Γ, Γ, .refl c, h⟩, ?_⟩
  rintro m σ' H' ⟨Γi, ni, ki⟩
  cases m with
  | zero => exact ki.elim
  | succ m =>
    unfold whL at ki
    refine ht T σ' H' Γi hW ni.cfg _ ?_
    cases e : mt Γi with
    | bad => rw [e] at ki; exact ki
    | exc cc fs => rw [e] at ki; exact ki
    | ok p =>
      obtain ⟨b, Γ1⟩ := p
      simp only [e] at ki
      refine fun H1 n1 => ?_
      cases b with
      | false =>
        rw [if_neg Bool.false_ne_true]
        exact ki σ' H1 (ni.trans n1)
      | true =>
        rw [if_pos rfl]
        refine ⟨fun σ2 H2 => ∃ Γ2, Nx T σ H Γ σ2 H2 Γ2 ∧ FinS T E σ H Γ Dn (whL mt mb m Γ2), fun σ2 H2 q => ⟨m, Nat.lt_succ_self m, q⟩, ?_⟩
        refine hb T σ' H1 Γ1 hW n1.cfg _ ?_
        have nn := ni.trans n1
        simp only [if_true] at ki
        cases e2 : mb Γ1 with
        | nx Γ4 => simp only [e2] at ki; exact fun σ4 H4 n4 => ⟨Γ4, nn.trans n4, ki⟩
        | ct Γ4 => simp only [e2] at ki; exact fun σ4 H4 n4 => ⟨Γ4, nn.trans n4, ki⟩
        | bk Γ4 => simp only [e2] at ki; exact fun σ4 H4 n4 => ki σ4 H4 (nn.trans n4)
        | rt d Γ4 => simp only [e2] at ki; exact fun v σ4 H4 n4 => ki v σ4 H4 (nn.trans n4)
        | rn d Γ4 => simp only [e2] at ki; exact ki
        | exc cc fs => simp only [e2] at ki; exact ki
        | bad => simp only [e2] at ki; exact ki
theorem s_while (n : Env → Nat) {c : Expr} {body : List Stmt} {mt : M Bool} {mb : SM} {pos : Pos} (hp : PassesOwn (model X.prog X.w) X.A X.env X.xe) (hc : PyT X cl E c mt) (hb : PySs X cl E body mb) : PyS X cl E (.While c body [] pos) (fun Γ => whL mt mb (n Γ) Γ) := by
  obtain ⟨t, g1, g2⟩ := hc.out
  obtain ⟨tb, b1, b2⟩ := hb.out
  exact ⟨_, ps_while hp g1 b1, snd_while n g2 b2⟩
/-! ### x.append(e), x one's own list -/
def sApp (i : Nat) (m : M D) : SM := fun Γ => match ownAt Γ i with
  | .ok (.lst _) => ofM m (fun d Γ1 => match ownAt Γ1 i with
      | .ok (.lst xs) => if xs.length < big then .nx (setOwn i (.lst (xs ++ [d])) Γ1) else .bad
      | _ => .bad) Γ
  | _ => .bad
theorem s_app (i : Nat) {x : Str} {e : Expr} {m : M D} {p1 p2 p3 p4 : Pos} (h : PyE X cl E e m)
    (hc : ∀ {te : TE}, PE X e te → PE X (.Call (.Attribute (.Name x p1) "append" p2) [e] [] p3) (tBM X.K "list" rAppend (tVar i) (tCons te tNil)))
    (hs : swapsWith (.Call (.Attribute (.Name x p1) "append" p2) [e] [] p3) none p4.line X.env = pure false := by rfl) : PyS X cl E (.Expr (.Call (.Attribute (.Name x p1) "append" p2) [e] [] p3) p4) (sApp i m) := by
  obtain ⟨te, a1, a2⟩ := h.out
  refine ⟨_, ps_expr (hc a1) hs, fun T σ H Γ hW c Dn h => ?_⟩
  unfold sApp at h
  split at h
  · rename_i ds0 hd0
    obtain ⟨p, hp, _, xs0, h0, _⟩ := c.at hd0
    refine ⟨_, hp, .inl ⟨rfl, _, .of h0⟩, a2 T σ H Γ hW c _ ((ofM_fin h).imp fun d Γ1 k1 v H1 n1 r1 => ?_)⟩
    split at k1
    · rename_i ds hd
      split at k1
      · rename_i hl
        obtain ⟨p', hp', ow, xs, hx, r⟩ := n1.cfg.at hd
        rw [hp] at hp'
        cases hp'
        refine ⟨p, xs, v, rfl, rfl, hx, big_lt (by rw [r.len]; exact hl), k1 σ _ (n1.trans (n1.cfg.setOwn hd hp fun S' _ e => ⟨_, upd_same, (r.snoc r1).mv ⟨fun a u h n => ?_, fun a h => .inl ((e a).mp h)⟩⟩))⟩
        · have z : a ≠ p := fun z => n (by rw [z]; exact own_sx ow)
          rw [upd_ne z]; exact h
      · exact k1.elim
    · exact k1.elim
  · exact h.elim
end DL
/-! DL9: comprehensions. -/
namespace DL
open PySem L2
variable {cl : Nat → Addr} {E : XK} {X : Cx}
/-! ### slots wiped -/
def wipeE (Γ : Env) : List Nat → Env
  | [] => Γ
  | v :: vs => (wipeE Γ vs).set v .no
@[simp] theorem wipeE_nil (Γ : Env) : wipeE Γ [] = Γ := rfl
@[simp] theorem wipeE_cons (Γ : Env) (v : Nat) (vs : List Nat) : wipeE Γ (v :: vs) = (wipeE Γ vs).set v .no := rfl
theorem wipeE_no {Γ : Env} : ∀ {vs : List Nat} {j : Nat} {s : Sl}, j ∈ vs → (wipeE Γ vs)[j]? = some s → s = .no
  | [], j, s, h, _ => by cases h
  | v :: vs, j, s, h, e => by
    rw [wipeE_cons] at e
    rcases set_get e with ⟨_, rfl, _⟩ | ⟨ne, e⟩
    · rfl
    · rcases List.mem_cons.mp h with z | z
      · exact absurd z ne
      · exact wipeE_no z e
theorem wipe_at {σ : L2.St} : ∀ {vs : List Nat} {k : Nat}, k ∉ vs → (wipe σ vs)[k]? = σ[k]? := fun h => wipe_out h
theorem wipe_in {σ : L2.St} : ∀ {vs : List Nat} {k : Nat}, k ∈ vs → k < σ.length → (wipe σ vs)[k]? = some none
  | [], k, h, _ => by cases h
  | v :: vs, k, h, hl => by
    show ((wipe σ vs).set v none)[k]? = _
    by_cases z : v = k
    · subst z; rw [List.getElem?_set_self (by rw [wipe_length]; exact hl)]
    · rw [List.getElem?_set_ne z]
      rcases List.mem_cons.mp h with q | q
      · exact absurd q.symm z
      · exact wipe_in q hl
theorem wipe_eq {σ σ' : L2.St} {vs js : List Nat} (b : But js σ σ') (h : ∀ j ∈ js, j ∈ vs) : wipe σ' vs = wipe σ vs := by
  apply List.ext_getElem?
  intro k
  by_cases hk : k ∈ vs
  · by_cases hl : k < σ.length
    · rw [wipe_in hk hl, wipe_in hk (by rw [b.len]; exact hl)]
    · rw [List.getElem?_eq_none (by rw [wipe_length, b.len]; omega), List.getElem?_eq_none (by rw [wipe_length]; omega)]
  · rw [wipe_at hk, wipe_at hk, b.at_ k fun z => hk (h k z)]
theorem wipe_wipe {σ : L2.St} {vs : List Nat} : wipe (wipe σ vs) vs = wipe σ vs := (wipe_eq (js := vs) ⟨wipe_length _ _, fun k n => wipe_at n⟩ fun _ h => h)
theorem Cfg.wipe {T : Act} {σ : L2.St} {H : Hp} {Γ : Env} (c : Cfg T σ H Γ) : ∀ vs : List Nat, Nx T σ H Γ (L2.wipe σ vs) H (wipeE Γ vs)
  | [] => .refl c
  | v :: vs => (Cfg.wipe c vs).trans ((Cfg.wipe c vs).cfg.drop)
/-! ### a thing under work, which nobody sees -/
def Tg (T : Act) (p : Addr) (o : HO) : Act := { T with S := fun a => T.S a ∨ a = p, H := fun a => if a = p then some o else T.H a }
theorem fr_guard {T : Act} {σ : L2.St} {H : Hp} {Γ : Env} {p : Addr} {o : HO} (hp : H p = none) : Fr (Sx T.S σ Γ) H (Sx (Tg T p o).S σ Γ) (upd H p o) := by
  refine ⟨⟨fun a u h _ => upd_more hp a u h, fun a q => ?_⟩, (Fr.ext0 (S := Sx T.S σ Γ) (upd_more hp)).grow⟩
  rcases q with (q | q) | q
  · exact .inl (.inl q)
  · rw [q]; exact .inr hp
  · exact .inl (.inr q)
theorem Cfg.guard {T : Act} {σ : L2.St} {H : Hp} {Γ : Env} (c : Cfg T σ H Γ) {p : Addr} {o : HO} (hp : H p = none) : Cfg (Tg T p o) σ (upd H p o) Γ := by
  have f := fr_guard (T := T) (σ := σ) (Γ := Γ) (o := o) hp
  refine ⟨c.len, fun i d e => ?_, fun i d e => ?_, fun i d e => ?_, c.inj, fun a u h b => ?_, fun a q => ?_, fun a q => f.grow a (c.bs a q), fun a q => ?_⟩
  · obtain ⟨v, h1, h2⟩ := c.sh i d e
    exact ⟨v, h1, h2.move f⟩
  · obtain ⟨q, h1, h2, h3, h4⟩ := c.ow i d e
    have ne : q ≠ p := fun z => by
      obtain ⟨u, hu⟩ := h4.dom
      rw [z, hp] at hu; cases hu
    refine ⟨q, h1, ?_, fun z => ?_, h4.move f fun u => upd_more hp q u⟩
    · show (if q = p then some o else T.H q) = none
      rw [if_neg ne]; exact h2
    · rcases z with z | z
      · exact h3 z
      · exact ne z
  · obtain ⟨h1, h2, h3⟩ := c.bo i d e
    exact ⟨h1, h2, h3.move f fun u => upd_more hp _ u⟩
  · have h : (if a = p then some o else T.H a) = some u := h
    by_cases z : a = p
    · rw [if_pos z] at h
      rw [z, upd_same]; exact h
    · rw [if_neg z] at h
      rw [upd_ne z]
      exact c.keep a u h b
  · rcases q with q | q
    · exact f.grow a (c.dom a q)
    · rw [q, upd_same]; intro z; cases z
  · show (if a = p then some o else T.H a) ≠ none
    by_cases z : a = p
    · rw [if_pos z]; intro z; cases z
    · rw [if_neg z]; exact c.bh a q
/-- its content is changed -/
theorem Cfg.reguard {T : Act} {σ : L2.St} {H : Hp} {Γ : Env} {p : Addr} {o o' : HO} (c : Cfg (Tg T p o) σ H Γ) (nb : ¬ T.Bs p) : Cfg (Tg T p o') σ (upd H p o') Γ ∧ Fr (Sx (Tg T p o).S σ Γ) H (Sx (Tg T p o').S σ Γ) (upd H p o') := by
  have f : Fr (Sx (Tg T p o).S σ Γ) H (Sx (Tg T p o').S σ Γ) (upd H p o') := ⟨⟨fun a u h n => by
    have z : a ≠ p := fun z => n (.inl (.inr z))
    rw [upd_ne z]; exact h, fun a q => .inl q⟩, fun a h => by
    by_cases k : a = p
    · rw [k, upd_same]; intro z; cases z
    · rw [upd_ne k]; exact h⟩
  refine ⟨⟨c.len, fun i d e => ?_, fun i d e => ?_, fun i d e => ?_, c.inj, fun a u h b => ?_, fun a q => f.grow a (c.dom a q), fun a q => f.grow a (c.bs a q), fun a q => ?_⟩, f⟩
  · obtain ⟨v, h1, h2⟩ := c.sh i d e
    exact ⟨v, h1, h2.move f⟩
  · obtain ⟨q, h1, h2, h3, h4⟩ := c.ow i d e
    have ne : q ≠ p := fun z => h3 (.inr z)
    refine ⟨q, h1, ?_, h3, h4.move f fun u h => by rw [upd_ne ne]; exact h⟩
    have h2 : (if q = p then some o else T.H q) = none := h2
    show (if q = p then some o' else T.H q) = none
    rw [if_neg ne] at h2 ⊢
    exact h2
  · obtain ⟨h1, h2, h3⟩ := c.bo i d e
    have ne : T.B i ≠ p := fun z => nb (z ▸ h2)
    exact ⟨h1, h2, h3.move f fun u h => by show upd H p o' (T.B i) = _; rw [upd_ne ne]; exact h⟩
  · have h : (if a = p then some o' else T.H a) = some u := h
    by_cases z : a = p
    · rw [if_pos z] at h
      rw [z, upd_same]; exact h
    · rw [if_neg z] at h
      rw [upd_ne z]
      exact c.keep a u (by show (if a = p then some o else T.H a) = some u; rw [if_neg z]; exact h) b
  · have z : a ≠ p := fun z => nb (z ▸ q)
    have k : (if a = p then some o else T.H a) ≠ none := c.bh a q
    show (if a = p then some o' else T.H a) ≠ none
    rw [if_neg z] at k ⊢
    exact k
theorem Cfg.unguard {T : Act} {σ : L2.St} {H : Hp} {Γ : Env} {p : Addr} {o : HO} (c : Cfg (Tg T p o) σ H Γ) (nb : ¬ T.Bs p) (ns : ¬ T.S p) (nh : T.H p = none) : Cfg T σ (delH H p) Γ := by
  have np : ∀ i, ¬ Owns σ Γ i p := fun i q => by
    obtain ⟨d, hd, _⟩ := c.owns q
    rcases hd with e | e
    · obtain ⟨q', h1, _, h3, _⟩ := c.ow i d e
      rw [q.1] at h1; cases h1
      exact h3 (.inr rfl)
    · obtain ⟨h1, h2, _⟩ := c.bo i d e
      rw [q.1] at h1
      have h1 : p = T.B i := V.ref.inj (Option.some.inj (Option.some.inj h1))
      have h2 : T.Bs (T.B i) := h2
      exact nb (h1 ▸ h2)
  have f : Mv (Sx (Tg T p o).S σ Γ) H (Sx T.S σ Γ) (delH H p) := ⟨fun a u h n => by
    rw [delH_ne fun z => n (.inl (.inr z))]; exact h, fun a q => .inl (by
    rcases q with q | q
    · exact .inl (.inl q)
    · exact .inr q)⟩
  skip
  refine ⟨c.len, fun i d e => ?_, fun i d e => ?_, fun i d e => ?_, c.inj, fun a u h b => ?_, fun a q => ?_, fun a q => ?_, fun a q => ?_⟩
  · obtain ⟨v, h1, h2⟩ := c.sh i d e
    exact ⟨v, h1, h2.mv f⟩
  · obtain ⟨q, h1, h2, h3, h4⟩ := c.ow i d e
    have ne : q ≠ p := fun z => h3 (.inr z)
    have h2 : (if q = p then some o else T.H q) = none := h2
    rw [if_neg ne] at h2
    exact ⟨q, h1, h2, fun z => h3 (.inl z), h4.mv f fun u h => by rw [delH_ne ne]; exact h⟩
  · obtain ⟨h1, h2, h3⟩ := c.bo i d e
    have ne : T.B i ≠ p := fun z => by
      have h2 : T.Bs (T.B i) := h2
      exact nb (z ▸ h2)
    exact ⟨h1, h2, h3.mv f fun u h => by show delH H p (T.B i) = _; rw [delH_ne ne]; exact h⟩
  · have z : a ≠ p := fun z => by rw [z, nh] at h; cases h
    rw [delH_ne z]
    exact c.keep a u (by show (if a = p then some o else T.H a) = some u; rw [if_neg z]; exact h) b
  · have z : a ≠ p := fun z => ns (z ▸ q)
    rw [delH_ne z]
    exact c.dom a (.inl q)
  · have z : a ≠ p := fun z => nb (z ▸ q)
    rw [delH_ne z]
    exact c.bs a q
  · have z : a ≠ p := fun z => nb (z ▸ q)
    have k : (if a = p then some o else T.H a) ≠ none := c.bh a q
    rw [if_neg z] at k
    exact k
/-- slots that are told to be nothing may hold anything -/
theorem Cfg.slots {T : Act} {σ σ' : L2.St} {H : Hp} {Γ : Env} (c : Cfg T σ H Γ) (hl : σ'.length = σ.length) (h : ∀ (j : Nat) (s : Sl), Γ[j]? = some s → s = Sl.no ∨ σ'[j]? = σ[j]?) : Cfg T σ' H Γ ∧ ∀ a, Sx T.S σ' Γ a ↔ Sx T.S σ Γ a := by
  have ow : ∀ i p, Owns σ' Γ i p ↔ Owns σ Γ i p := fun i p => by
    unfold Owns
    constructor
    · rintro ⟨h1, d, h2⟩
      cases e : Γ[i]? with
      | none => rw [e] at h2; cases h2
      | some s =>
        rcases h i s e with rfl | z
        · rw [e] at h2; cases h2
        · exact ⟨z ▸ h1, d, by rw [← e]; exact h2⟩
    · rintro ⟨h1, d, h2⟩
      cases e : Γ[i]? with
      | none => rw [e] at h2; cases h2
      | some s =>
        rcases h i s e with rfl | z
        · rw [e] at h2; cases h2
        · exact ⟨z ▸ h1, d, by rw [← e]; exact h2⟩
  have sx : ∀ a, Sx T.S σ' Γ a ↔ Sx T.S σ Γ a := fun a => by
    unfold Sx
    constructor
    · rintro (q | ⟨i, q⟩)
      · exact .inl q
      · exact .inr ⟨i, (ow i a).mp q⟩
    · rintro (q | ⟨i, q⟩)
      · exact .inl q
      · exact .inr ⟨i, (ow i a).mpr q⟩
  have f : Fr (Sx T.S σ Γ) H (Sx T.S σ' Γ) H := .weak fun a q => (sx a).mp q
  refine ⟨⟨hl.trans c.len, fun i d e => ?_, fun i d e => ?_, fun i d e => ?_, fun i j p a b => c.inj i j p ((ow i p).mp a) ((ow j p).mp b), c.keep, c.dom, c.bs, c.bh⟩, sx⟩
  · obtain ⟨v, h1, h2⟩ := c.sh i d e
    rcases h i _ e with z | z
    · cases z
    · exact ⟨v, z.trans h1, h2.move f⟩
  · obtain ⟨q, h1, h2, h3, h4⟩ := c.ow i d e
    rcases h i _ e with z | z
    · cases z
    · exact ⟨q, z.trans h1, h2, h3, h4.move f fun _ z => z⟩
  · obtain ⟨h1, h2, h3⟩ := c.bo i d e
    rcases h i _ e with z | z
    · cases z
    · exact ⟨z.trans h1, h2, h3.move f fun _ z => z⟩
/-! ### the mirror of a comprehension -/
abbrev E0' : XK := fun _ _ _ => False
def lcL (vs : List Nat) (g : GM) (t : M Bool) (e : M D) : List D → Env → R (List D × Env)
  | [], Γ => .ok ([], Γ)
  | d :: ds, Γ => match g d Γ with
    | .ok Γa => match t Γa with
      | .ok (b, Γb) => if b = true then match e Γb with
          | .ok (y, Γc) => (lcL vs g t e ds (wipeE Γc vs)).bind fun q => .ok (y :: q.1, q.2)
          | _ => .bad
        else lcL vs g t e ds (wipeE Γb vs)
      | _ => .bad
    | _ => .bad
def mLc (vs : List Nat) (it : M (List D)) (g : GM) (t : M Bool) (e : M D) : M D := fun Γ => (it Γ).bind fun p => (lcL vs g t e p.1 (wipeE p.2 vs)).bind fun q => if q.1.length ≤ big then .ok (.lst q.1, q.2) else .bad
theorem lcL_ne {vs : List Nat} {mg : GM} {mt : M Bool} {me : M D} : ∀ (ds : List D) (Γ : Env) (cc : Nat) (fs : List (Str × D)), lcL vs mg mt me ds Γ ≠ .exc cc fs
  | [], Γ, cc, fs, h => by cases h
  | d :: ds, Γ, cc, fs, h => by
    unfold lcL at h
    split at h
    · split at h
      · split at h
        · split at h
          · rename_i y Γc _
            cases e : lcL vs mg mt me ds (wipeE Γc vs) with
            | ok p => rw [e] at h; cases h
            | exc c2 f2 => exact lcL_ne ds _ _ _ e
            | bad => rw [e] at h; cases h
          · cases h
        · exact lcL_ne ds _ _ _ h
      · cases h
    · cases h
theorem snd_lc {W : Wd} {vs js : List Nat} {wi : TI} {g : TG} {tt : TT} {te : TE} {mi : M (List D)} {mg : GM} {mt : M Bool} {me : M D} (hi : SndI W E wi mi) (hg : SndG W E0' js g mg) (ht : SndT W E0' tt mt) (he : SndE W E0' te me) (hj : ∀ j ∈ js, j ∈ vs) :
    SndN W E (tLc wi g tt te vs) (mLc vs mi mg mt me) := fun T σ H Γ hW c Q h => by
  refine hi T σ H Γ hW c _ (h.bind.imp fun ds Γ1 k1 J H1 n1 io => ?_)
  obtain ⟨G, Y, wk, hG, hY⟩ := io
  intro Dl hD
  have nb : ¬ T.Bs Dl := fun q => n1.cfg.bs Dl q hD
  have ns : ¬ T.S Dl := fun q => n1.cfg.dom Dl q hD
  have nh : T.H Dl = none := n1.cfg.entry hD
  have nw := n1.cfg.wipe vs
  -- what is left to be made
  let Rem : List D → List D → Env → Prop := fun ys ds Γi => Fin T E (KN T σ H Γ Q) ((lcL vs mg mt me ds Γi).bind fun q => if (ys ++ q.1).length ≤ big then .ok (.lst (ys ++ q.1), q.2) else .bad)
  refine lc_it wk (fun i H' => ∃ Γi xs ys, Cfg (Tg T Dl (.lst xs)) (L2.wipe σ vs) H' Γi ∧ Fr (Sx T.S σ Γ1) H1 (Sx (Tg T Dl (.lst xs)).S (L2.wipe σ vs) Γi) H' ∧ (∀ (j : Nat), j ∈ vs → ∀ (s : Sl), Γi[j]? = some s → s = Sl.no) ∧ H' Dl = some (.lst xs) ∧
      RepL T.W H' (Sx (Tg T Dl (.lst xs)).S (L2.wipe σ vs) Γi) xs ys ∧ Rem ys (ds.drop i) Γi) ?_ ?_ ?_ ?_
  · refine ⟨wipeE Γ1 vs, [], [], nw.cfg.guard hD, nw.fr.trans (fr_guard hD), fun j hj s e => wipeE_no hj e, upd_same, .nil, ?_⟩
    show Fin T E (KN T σ H Γ Q) _
    simpa using k1
  · rintro i H' _ ⟨Γi, xs, ys, ci, fi, _⟩
    exact hG _ _ fi
  · rintro i x H' H3 hi' ⟨Γi, xs, ys, ci, fi, wi', hx, ry, rem⟩ y
    obtain ⟨ex, hr⟩ := hY i _ _ x H3 hi' fi ci.sd y
    have n3 := ci.more ex
    have rem : Rem ys (ds.drop i) Γi := rem
    rw [List.drop_eq_getElem_cons hi'] at rem
    have r := hr ds[i] (by simp [hi'])
    have hW' : (Tg T Dl (.lst xs)).W = W := hW
    refine hg (Tg T Dl (.lst xs)) (L2.wipe σ vs) H3 Γi hW' n3.cfg x ds[i] r _ ?_
    have rem : Fin T E (KN T σ H Γ Q) ((lcL vs mg mt me (ds[i] :: ds.drop (i + 1)) Γi).bind fun q => if (ys ++ q.1).length ≤ big then .ok (.lst (ys ++ q.1), q.2) else .bad) := rem
    unfold lcL at rem
    cases e1 : mg ds[i] Γi with
    | bad => simp only [e1, R.bind_bad] at rem; exact rem.elim
    | exc cc fs => simp only [e1, R.bind_bad] at rem; exact rem.elim
    | ok Γa =>
      simp only [e1] at rem
      refine fun σ2 H2 n2 bt => ⟨by rw [wipe_eq bt hj, wipe_wipe], ?_⟩
      have w2 : L2.wipe σ2 vs = L2.wipe σ vs := by rw [wipe_eq bt hj, wipe_wipe]
      refine ht (Tg T Dl (.lst xs)) σ2 H2 Γa hW' n2.cfg _ ?_
      cases e2 : mt Γa with
      | bad => simp only [e2, R.bind_bad] at rem; exact rem.elim
      | exc cc fs => simp only [e2, R.bind_bad] at rem; exact rem.elim
      | ok pb =>
        obtain ⟨b, Γb⟩ := pb
        simp only [e2] at rem
        refine fun H4 n4 => ?_
        show ite (b = true) _ _
        have nn := n3.trans (n2.trans n4)
        have step : ∀ {σ5 : L2.St} {H5 : Hp} {Γ5 : Env}, L2.wipe σ5 vs = L2.wipe σ vs → Nx (Tg T Dl (.lst xs)) (L2.wipe σ vs) H' Γi σ5 H5 Γ5 → Cfg (Tg T Dl (.lst xs)) (L2.wipe σ vs) H5 (wipeE Γ5 vs) ∧ Fr (Sx (Tg T Dl (.lst xs)).S (L2.wipe σ vs) Γi) H' (Sx (Tg T Dl (.lst xs)).S (L2.wipe σ vs) (wipeE Γ5 vs)) H5 := fun {σ5 H5 Γ5} hw n5 => by
          have n6 := n5.trans (n5.cfg.wipe vs)
          rw [hw] at n6
          exact ⟨n6.cfg, n6.fr⟩
        have still : ∀ {σ5 : L2.St} {H5 : Hp} {Γ5 : Env}, Cfg (Tg T Dl (.lst xs)) σ5 H5 Γ5 → H5 Dl = some (.lst xs) := fun {σ5 H5 Γ5} c5 => c5.keep Dl (.lst xs) (by show (if Dl = Dl then some (HO.lst xs) else T.H Dl) = _; rw [if_pos rfl]) nb
        cases b with
        | false =>
          rw [if_neg Bool.false_ne_true] at rem ⊢
          obtain ⟨c5, f5⟩ := step w2 nn
          exact ⟨wipeE Γb vs, xs, ys, c5, fi.trans f5, fun j hj s e => wipeE_no hj e, still c5, ry.move f5, rem⟩
        | true =>
          rw [if_pos rfl] at rem ⊢
          refine he (Tg T Dl (.lst xs)) σ2 H4 Γb hW' n4.cfg _ ?_
          cases e3 : me Γb with
          | bad => simp only [e3, R.bind_bad] at rem; exact rem.elim
          | exc cc fs => simp only [e3, R.bind_bad] at rem; exact rem.elim
          | ok py =>
            obtain ⟨yv, Γc⟩ := py
            simp only [e3] at rem
            refine fun v H5 n5 r5 => ?_
            have n6 := nn.trans n5
            obtain ⟨c7, f7⟩ := step w2 n6
            have hD5 := still c7
            obtain ⟨c8, f8⟩ := c7.reguard (o' := .lst (xs ++ [v])) nb
            have rv : Rep T.W H5 (Sx (Tg T Dl (.lst xs)).S (L2.wipe σ vs) (wipeE Γc vs)) v yv := by
              have k := r5.move (n5.cfg.wipe vs).fr
              rw [w2] at k
              exact k
            have lenb : xs.length < sizeLine := by
              rw [ry.len]
              cases e4 : lcL vs mg mt me (ds.drop (i + 1)) (wipeE Γc vs) with
              | bad => simp only [e4, R.bind_bad] at rem; exact rem.elim
              | exc cc fs => exact absurd e4 (lcL_ne _ _ _ _)
              | ok q =>
                simp only [e4, R.bind_ok] at rem
                by_cases hl : (ys ++ yv :: q.1).length ≤ big
                · refine big_lt ?_
                  rw [List.length_append, List.length_cons] at hl
                  omega
                · rw [if_neg hl] at rem; exact rem.elim
            refine ⟨xs, hD5, lenb, wipeE Γc vs, xs ++ [v], ys ++ [yv], c8, (fi.trans f7).trans f8, fun j hj s e => wipeE_no hj e, upd_same, ((ry.move f7).snoc rv).move f8, ?_⟩
            show Fin T E (KN T σ H Γ Q) _
            cases e4 : lcL vs mg mt me (ds.drop (i + 1)) (wipeE Γc vs) with
            | bad => simp only [e4, R.bind_bad] at rem; exact rem.elim
            | exc cc fs => simp only [e4, R.bind_exc] at rem ⊢; exact rem
            | ok q =>
              simp only [e4, R.bind_ok, List.append_assoc, List.singleton_append] at rem ⊢
              exact rem
  · rintro H' ⟨Γi, xs, ys, ci, fi, wi', hx, ry, rem⟩
    have rem : Rem ys (ds.drop ds.length) Γi := rem
    rw [List.drop_length] at rem
    have rem : Fin T E (KN T σ H Γ Q) (if (ys ++ []).length ≤ big then .ok (.lst (ys ++ []), Γi) else .bad) := rem
    rw [List.append_nil] at rem
    by_cases hl : ys.length ≤ big
    · rw [if_pos hl] at rem
      have cu := ci.unguard nb ns nh
      obtain ⟨cs, sx⟩ := cu.slots (σ' := σ) (by rw [wipe_length]) fun (j : Nat) (s : Sl) e => by
        by_cases hj : j ∈ vs
        · exact .inl (wi' j hj s e)
        · exact .inr (wipe_at hj).symm
      refine rem Dl (delH H' Dl) H' (n1.trans ⟨cs, ⟨⟨fun a o h n => ?_, fun a q => ?_⟩, fun a h => ?_⟩⟩) delH_same delH_le ⟨xs, hx, ry.mv ⟨fun a o h _ => h, fun a q => .inl ?_⟩⟩
      · rw [delH_ne (ne_of_none h hD)]
        exact fi.ext a o h n
      · exact fi.sub a (by
          rcases (sx a).mp q with q | q
          · exact .inl (.inl q)
          · exact .inr q)
      · have z : a ≠ Dl := fun z => h (z ▸ hD)
        rw [delH_ne z]
        exact fi.grow a h
      · rcases q with q | q
        · rcases (sx a).mp q with q | q
          · exact .inl (.inl q)
          · exact .inr q
        · exact .inl (.inr q)
    · rw [if_neg hl] at rem; exact rem.elim
/-! ### one reading for all blocks -/
abbrev Bk (X : Cx) (scope : Scope) (i : Shared × Hp × Addr × List (Str × Addr) × List Addr) : Cx := X.blk i.1 i.2.1 scope (compEnvC scope i.2.2.2.1 i.2.2.1 X.env) i.2.2.2.2
theorem uniE {ι : Type} {Xf : ι → Cx} {W : Wd} {e : Expr} {m : M D} (h : ∀ i, ∃ te, PE (Xf i) e te ∧ SndE W E te m) : ∃ te, (∀ i, PE (Xf i) e te) ∧ SndE W E te m :=
  ⟨fun σ H Q => ∀ i, Classical.choose (h i) σ H Q, fun i => ⟨fun pins s σ H Q I k => (Classical.choose_spec (h i)).1.run pins s σ H Q I (k i)⟩, fun T σ H Γ hW c Q f i => (Classical.choose_spec (h i)).2 T σ H Γ hW c Q f⟩
theorem uniT {ι : Type} {Xf : ι → Cx} {W : Wd} {e : List Expr} {m : M Bool} (h : ∀ i, ∃ te, PTs (Xf i) e te ∧ SndT W E te m) : ∃ te, (∀ i, PTs (Xf i) e te) ∧ SndT W E te m :=
  ⟨fun σ H Q => ∀ i, Classical.choose (h i) σ H Q, fun i => ⟨fun pins s σ H Q I k => (Classical.choose_spec (h i)).1.run pins s σ H Q I (k i)⟩, fun T σ H Γ hW c Q f i => (Classical.choose_spec (h i)).2 T σ H Γ hW c Q f⟩
theorem uniG {ι : Type} {Xf : ι → Cx} {W : Wd} {js : List Nat} {e : Expr} {m : GM} (h : ∀ i, ∃ te, PG (Xf i) e te ∧ SndG W E js te m) : ∃ te, (∀ i, PG (Xf i) e te) ∧ SndG W E js te m :=
  ⟨fun v σ H Q => ∀ i, Classical.choose (h i) v σ H Q, fun i => ⟨fun pins s σ H v u Q I r k => (Classical.choose_spec (h i)).1.run pins s σ H v u Q I r (k i)⟩, fun T σ H Γ hW c v d r Q f i => (Classical.choose_spec (h i)).2 T σ H Γ hW c v d r Q f⟩
theorem uniI {ι : Type} {Xf : ι → Cx} {W : Wd} {tg e : Expr} {m : M (List D)} (h : ∀ i, ∃ te, PI (Xf i) tg e te ∧ SndI W E te m) : ∃ te, (∀ i, PI (Xf i) tg e te) ∧ SndI W E te m :=
  ⟨fun σ H Q => ∀ i, Classical.choose (h i) σ H Q, fun i => ⟨fun pins s σ H Q I k => (Classical.choose_spec (h i)).1.run pins s σ H Q I (k i)⟩, fun T σ H Γ hW c Q f i => (Classical.choose_spec (h i)).2 T σ H Γ hW c Q f⟩
structure PyTs (X : Cx) (cl : Nat → Addr) (E : XK) (es : List Expr) (m : M Bool) : Prop where
  out : ∃ tt, PTs X es tt ∧ SndT ⟨X.K, cl⟩ E tt m
theorem ts_nil : PyTs X cl E [] (ret true) := ⟨_, pts_nil, fun T σ H Γ hW c Q h => h H (.refl c)⟩
theorem ts_one {e : Expr} {m : M Bool} (h : PyT X cl E e m) : PyTs X cl E [e] m := by
  obtain ⟨t, h1, h2⟩ := h.out
  exact ⟨_, pts_one h1, h2⟩
theorem n_lc {own : List (Str × Nat)} {js : List Nat} {elt tg iter : Expr} {ifs : List Expr} {scope : Scope} {pos : Pos} {mi : M (List D)} {mg : GM} {mt : M Bool} {me : M D} (hc : X.calm = true) (hN : X.N.Nodup) (hi : PyI X cl E tg iter mi) (ok : BlkOk X.N X.env.scope scope own)
    (hg : ∀ i, PyG (Bk X scope i) cl E0' js tg mg) (ht : ∀ i, PyTs (Bk X scope i) cl E0' ifs mt) (he : ∀ i, PyE (Bk X scope i) cl E0' elt me) (hj : ∀ j ∈ js, j ∈ own.map (·.2) := by decide) (hs : ∀ x, foldedSetIterable iter X.env x = pure x := by intro _; rfl) :
    PyN X cl E (.ListComp elt [⟨tg, iter, ifs, 0⟩] scope pos) (mLc (own.map (·.2)) mi mg mt me) := by
  obtain ⟨wi, i1, i2⟩ := hi.out
  obtain ⟨g, g1, g2⟩ := uniG (Xf := Bk X scope) (W := ⟨X.K, cl⟩) fun i => (hg i).out
  obtain ⟨t, t1, t2⟩ := uniT (Xf := Bk X scope) (W := ⟨X.K, cl⟩) fun i => (ht i).out
  obtain ⟨te, e1, e2⟩ := uniE (Xf := Bk X scope) (W := ⟨X.K, cl⟩) fun i => (he i).out
  exact ⟨_, pe_lc hc hN i1 ok (fun s H C c fp => g1 ⟨s, H, C, c, fp⟩) (fun s H C c fp => t1 ⟨s, H, C, c, fp⟩) (fun s H C c fp => e1 ⟨s, H, C, c, fp⟩) hs, snd_lc i2 g2 t2 e2 hj⟩
end DL
/-! DL10: defs and their calls. -/
namespace DL
open PySem L2
variable {cl : Nat → Addr} {E : XK} {X : Cx}
/-! ### arguments and results of a def -/
def ArgsR (W : Wd) (H : Hp) (S : AS) : List Bool → List V → List D → Prop
  | [], [], [] => True
  | false :: ms, v :: vs, d :: ds => Rep W H S v d ∧ ArgsR W H S ms vs ds
  | true :: ms, v :: vs, d :: ds => (∃ p, v = .ref p ∧ S p ∧ OwnAt W H S p d) ∧ ArgsR W H S ms vs ds
  | _, _, _ => False
def OutsR (W : Wd) (H : Hp) (S : AS) : List Bool → List V → List D → Prop
  | false :: ms, _ :: vs, _ :: ds => OutsR W H S ms vs ds
  | true :: ms, v :: vs, d :: ds => (∃ p, v = .ref p ∧ OwnAt W H S p d) ∧ OutsR W H S ms vs ds
  | [], [], [] => True
  | _, _, _ => False
def OwnI (ms : List Bool) (vs : List V) (i : Nat) (a : Addr) : Prop := ms[i]? = some true ∧ vs[i]? = some (.ref a)
structure Rv where
  fr : Bool
  d : D
  outs : List D
abbrev Fm := List D → R Rv
def callSp (W : Wd) (ms : List Bool) (F : Fm) : Sp := fun vs H Q E => ∃ (S : AS) (ds : List D), SDom H S ∧ ArgsR W H S ms vs ds ∧ (∀ i j a, OwnI ms vs i a → OwnI ms vs j a → i = j) ∧
  match F ds with
  | .ok r => if r.fr = true then ∀ (p : Addr) Hm H', (∀ a o, H a = some o → (∀ i, ¬ OwnI ms vs i a) → Hm a = some o) → OutsR W Hm S ms vs r.outs → Hm p = none → (∀ a o, Hm a = some o → H' a = some o) → OwnAt W H' (fun a => S a ∨ a = p) p r.d → Q (.ref p) H'
      else ∀ v H', (∀ a o, H a = some o → (∀ i, ¬ OwnI ms vs i a) → H' a = some o) → OutsR W H' S ms vs r.outs → Rep W H' S v r.d → Q v H'
  | .exc c fs => ∀ (dx : Addr) (H' : Hp) (fv : List (Str × V)), (∀ a o, H a = some o → (∀ i, ¬ OwnI ms vs i a) → H' a = some o) → H dx = none → H' dx = some (.xd fv) → fv.map Prod.fst = fs.map Prod.fst → RepL W H' S (fv.map Prod.snd) (fs.map Prod.snd) → E (.ref (W.cl c)) (some dx) H'
  | .bad => False
theorem ArgsR.len {W : Wd} {H : Hp} {S : AS} : ∀ {ms : List Bool} {vs : List V} {ds : List D}, ArgsR W H S ms vs ds → vs.length = ms.length ∧ ds.length = ms.length
  | [], [], [], _ => ⟨rfl, rfl⟩
  | [], _ :: _, _, h => by simp [ArgsR] at h
  | [], [], _ :: _, h => by simp [ArgsR] at h
  | m :: ms, [], _, h => by cases m <;> simp [ArgsR] at h
  | m :: ms, _ :: _, [], h => by cases m <;> simp [ArgsR] at h
  | false :: ms, v :: vs, d :: ds, h => by
    obtain ⟨h1, h2⟩ := ArgsR.len h.2
    exact ⟨congrArg (· + 1) h1, congrArg (· + 1) h2⟩
  | true :: ms, v :: vs, d :: ds, h => by
    obtain ⟨h1, h2⟩ := ArgsR.len h.2
    exact ⟨congrArg (· + 1) h1, congrArg (· + 1) h2⟩
theorem ArgsR.at_ {W : Wd} {H : Hp} {S : AS} : ∀ {ms : List Bool} {vs : List V} {ds : List D}, ArgsR W H S ms vs ds → ∀ (i : Nat) (d : D), ds[i]? = some d →
    (ms[i]? = some false → ∃ v, vs[i]? = some v ∧ Rep W H S v d) ∧ (ms[i]? = some true → ∃ p, vs[i]? = some (.ref p) ∧ S p ∧ OwnAt W H S p d)
  | [], [], [], _, i, d, h => by simp at h
  | [], _ :: _, _, h, _, _, _ => by simp [ArgsR] at h
  | [], [], _ :: _, h, _, _, _ => by simp [ArgsR] at h
  | m :: ms, [], _, h, _, _, _ => by cases m <;> simp [ArgsR] at h
  | m :: ms, _ :: _, [], h, _, _, _ => by cases m <;> simp [ArgsR] at h
  | false :: ms, v :: vs, d :: ds, h, 0, e, he => by
    simp at he; subst he
    exact ⟨fun _ => ⟨v, rfl, h.1⟩, fun z => by simp at z⟩
  | true :: ms, v :: vs, d :: ds, h, 0, e, he => by
    simp at he; subst he
    obtain ⟨p, rfl, hp, ho⟩ := h.1
    exact ⟨fun z => by simp at z, fun _ => ⟨p, rfl, hp, ho⟩⟩
  | false :: ms, v :: vs, d :: ds, h, i + 1, e, he => by
    have k := ArgsR.at_ h.2 i e (by simpa using he)
    simpa using k
  | true :: ms, v :: vs, d :: ds, h, i + 1, e, he => by
    have k := ArgsR.at_ h.2 i e (by simpa using he)
    simpa using k
def env0 (n : Nat) (ms : List Bool) (ds : List D) : Env := (List.zipWith (fun m d => if m = true then Sl.bo d else Sl.sh d) ms ds) ++ List.replicate (n - ds.length) .no
def outsE : List Bool → Env → Option (List D)
  | [], _ => some []
  | false :: ms, _ :: Γ => (outsE ms Γ).map (D.non :: ·)
  | true :: ms, .bo d :: Γ => (outsE ms Γ).map (d :: ·)
  | _, _ => none
def runBody (n : Nat) (ms : List Bool) (m : SM) : Fm := fun ds => match m (env0 n ms ds) with
  | .nx Γ => match outsE ms Γ with | some o => .ok ⟨false, .non, o⟩ | none => .bad
  | .rt d Γ => match outsE ms Γ with | some o => .ok ⟨false, d, o⟩ | none => .bad
  | .rn d Γ => match outsE ms Γ with | some o => .ok ⟨true, d, o⟩ | none => .bad
  | .exc c fs => .exc c fs
  | _ => .bad
theorem env0_at {n : Nat} {ms : List Bool} {ds : List D} (hl : ds.length = ms.length) {i : Nat} {s : Sl} (h : (env0 n ms ds)[i]? = some s) : s = .no ∨ ∃ m d, ms[i]? = some m ∧ ds[i]? = some d ∧ s = if m = true then .bo d else .sh d := by
  unfold env0 at h
  by_cases hi : i < ms.length
  · rw [List.getElem?_append_left (by rw [List.length_zipWith]; omega)] at h
    rw [List.getElem?_zipWith] at h
    have h1 : ms[i]? = some ms[i] := by simp [hi]
    have h2 : ds[i]? = some (ds[i]'(by omega)) := by simp
    rw [h1, h2] at h
    simp at h
    exact .inr ⟨_, _, h1, h2, h.symm⟩
  · rw [List.getElem?_append_right (by rw [List.length_zipWith]; omega), List.getElem?_replicate] at h
    split at h
    · cases h; exact .inl rfl
    · cases h
theorem outs_ok {W : Wd} {H : Hp} {S : AS} (B : Nat → Addr) : ∀ (k : Nat) {ms : List Bool} {vs : List V} {Γ : Env} {o : List D}, outsE ms Γ = some o → vs.length = ms.length → (∀ i : Nat, ms[i]? = some true → vs[i]? = some (V.ref (B (k + i)))) →
    (∀ (i : Nat) (d : D), Γ[i]? = some (Sl.bo d) → ms[i]? = some true → OwnAt W H S (B (k + i)) d) → OutsR W H S ms vs o
  | k, [], [], Γ, o, h, _, _, _ => by cases h; trivial
  | k, [], _ :: _, Γ, o, _, h, _, _ => by simp at h
  | k, _ :: _, [], Γ, o, _, h, _, _ => by simp at h
  | k, false :: ms, v :: vs, [], o, h, _, _, _ => by simp [outsE] at h
  | k, true :: ms, v :: vs, [], o, h, _, _, _ => by simp [outsE] at h
  | k, false :: ms, v :: vs, s :: Γ, o, h, hl, hv, ho => by
    cases e : outsE ms Γ with
    | none => simp [outsE, e] at h
    | some o' =>
      simp [outsE, e] at h
      subst h
      show OutsR W H S ms vs o'
      refine outs_ok B (k + 1) e (by simpa using hl) (fun i hi => ?_) fun i d hi hm => ?_
      · have := hv (i + 1) (by simpa using hi)
        rw [show k + 1 + i = k + (i + 1) by omega]
        simpa using this
      · have := ho (i + 1) d (by simpa using hi) (by simpa using hm)
        rw [show k + 1 + i = k + (i + 1) by omega]
        exact this
  | k, true :: ms, v :: vs, s :: Γ, o, h, hl, hv, ho => by
    cases s <;> try (simp [outsE] at h; done)
    rename_i d
    cases e : outsE ms Γ with
    | none => simp [outsE, e] at h
    | some o' =>
      simp [outsE, e] at h
      subst h
      refine ⟨⟨B (k + 0), by simpa using hv 0 (by simp), ho 0 d (by simp) (by simp)⟩, outs_ok B (k + 1) e (by simpa using hl) (fun i hi => ?_) fun i d hi hm => ?_⟩
      · have := hv (i + 1) (by simpa using hi)
        rw [show k + 1 + i = k + (i + 1) by omega]
        simpa using this
      · have := ho (i + 1) d (by simpa using hi) (by simpa using hm)
        rw [show k + 1 + i = k + (i + 1) by omega]
        exact this
/-- the activation of a def at its entry -/
def actOf (W : Wd) (S : AS) (H : Hp) (ms : List Bool) (vs : List V) : Act where
  W := W
  S := S
  H := H
  B := fun i => match vs[i]? with | some (.ref a) => a | _ => 0
  Bs := fun a => ∃ i, OwnI ms vs i a
theorem start_at {N : List Str} {vs : List V} {i : Nat} {v : V} (h : vs[i]? = some v) : (L2.start N vs)[i]? = some (some v) := by
  unfold L2.start
  have hi := (List.getElem?_eq_some_iff.mp h).1
  rw [List.getElem?_append_left (by simpa using hi), List.getElem?_map, h]
  rfl
theorem cfg0 {W : Wd} {S : AS} {H : Hp} {ms : List Bool} {vs : List V} {ds : List D} {N : List Str} (hn : ms.length ≤ N.length) (sd : SDom H S) (ha : ArgsR W H S ms vs ds) (hd : ∀ i j a, OwnI ms vs i a → OwnI ms vs j a → i = j) :
    Cfg (actOf W S H ms vs) (L2.start N vs) H (env0 N.length ms ds) ∧ ∀ a, Sx S (L2.start N vs) (env0 N.length ms ds) a → S a := by
  obtain ⟨hl1, hl2⟩ := ha.len
  have own : ∀ i p, Owns (L2.start N vs) (env0 N.length ms ds) i p → OwnI ms vs i p ∧ S p := fun i p h => by
    obtain ⟨h1, d, h2⟩ := h
    cases e : (env0 N.length ms ds)[i]? with
    | none => rw [e] at h2; cases h2
    | some s =>
      rw [e] at h2
      rcases env0_at hl2 e with rfl | ⟨m, d', g1, g2, rfl⟩
      · cases h2
      · cases m with
        | false => cases h2
        | true =>
          obtain ⟨q, k1, k2, k3⟩ := (ha.at_ i d' g2).2 g1
          rw [start_at k1] at h1
          cases h1
          exact ⟨⟨g1, k1⟩, k2⟩
  have sx : ∀ a, Sx S (L2.start N vs) (env0 N.length ms ds) a → S a := fun a q => by
    rcases q with q | ⟨i, q⟩
    · exact q
    · exact (own i a q).2
  have f : Fr S H (Sx S (L2.start N vs) (env0 N.length ms ds)) H := .weak sx
  have bh : ∀ a, (∃ i, OwnI ms vs i a) → H a ≠ none := fun a ⟨i, h⟩ => by
    have hi : i < ds.length := by
      have := (List.getElem?_eq_some_iff.mp h.1).1
      omega
    obtain ⟨q, k1, k2, k3⟩ := (ha.at_ i ds[i] (by simp [hi])).2 h.1
    rw [h.2] at k1
    cases k1
    obtain ⟨o, ho⟩ := k3.dom
    rw [ho]
    intro z; cases z
  refine ⟨⟨?_, fun i d e => ?_, fun i d e => ?_, fun i d e => ?_, fun i j p a b => hd i j p (own i p a).1 (own j p b).1, fun a o h _ => h, sd, bh, bh⟩, sx⟩
  · unfold L2.start env0
    rw [List.length_append, List.length_append, List.length_map, List.length_replicate, List.length_replicate, List.length_zipWith]
    omega
  · rcases env0_at hl2 e with z | ⟨m, d', g1, g2, z⟩
    · cases z
    · cases m with
      | true => cases z
      | false =>
        cases z
        obtain ⟨v, k1, k2⟩ := (ha.at_ i d g2).1 g1
        exact ⟨v, start_at k1, k2.move f⟩
  · rcases env0_at hl2 e with z | ⟨m, d', g1, g2, z⟩
    · cases z
    · cases m <;> cases z
  · rcases env0_at hl2 e with z | ⟨m, d', g1, g2, z⟩
    · cases z
    · cases m with
      | false => cases z
      | true =>
        cases z
        obtain ⟨q, k1, k2, k3⟩ := (ha.at_ i d g2).2 g1
        have eB : (actOf W S H ms vs).B i = q := by show (match vs[i]? with | some (.ref a) => a | _ => 0) = q; rw [k1]
        rw [eB]
        exact ⟨start_at k1, ⟨i, g1, k1⟩, k3.move f fun _ z => z⟩
/-- the body's mirror keeps what the calls are promised -/
theorem body_ok {K : PySem.W.Frag} {N : List Str} {ms : List Bool} {m : SM} {t : TS} {vs : List V} {H : Hp} {Q : VK} {E : XK} (hn : ms.length ≤ N.length) (h2 : SndS ⟨K, cl⟩ E t m) (h : callSp ⟨K, cl⟩ ms (runBody N.length ms m) vs H Q E) :
    t { nx := fun _ H' => Q .non H', rt := Q } (L2.start N vs) H := by
  obtain ⟨S, ds, sd, ha, hd, h⟩ := h
  refine h2 (actOf ⟨K, cl⟩ S H ms vs) _ H _ rfl (cfg0 hn sd ha hd).1 _ ?_
  obtain ⟨c0, sx0⟩ := cfg0 (N := N) hn sd ha hd
  have bo : ∀ {σ' H' Γ'}, Cfg (actOf ⟨K, cl⟩ S H ms vs) σ' H' Γ' → ∀ o, outsE ms Γ' = some o → OutsR ⟨K, cl⟩ H' S ms vs o := fun {σ' H' Γ'} n o ho => by
    refine outs_ok (fun i => (actOf ⟨K, cl⟩ S H ms vs).B i) 0 ho ha.len.1 (fun i hi => ?_) fun i d e _ => ?_
    · have hi' : i < ds.length := by
        have := (List.getElem?_eq_some_iff.mp hi).1
        have := ha.len.2
        omega
      obtain ⟨q, k1, _, _⟩ := (ha.at_ i ds[i] (by simp [hi'])).2 hi
      rw [Nat.zero_add, k1]
      show _ = some (V.ref (match vs[i]? with | some (.ref a) => a | _ => 0))
      rw [k1]
    · rw [Nat.zero_add]
      exact (n.bo i d e).2.2.mv ⟨fun a o h _ => h, fun a q => .inl (.inl q)⟩ fun _ z => z
  have keep : ∀ {σ' H' Γ'}, Cfg (actOf ⟨K, cl⟩ S H ms vs) σ' H' Γ' → ∀ a o, H a = some o → (∀ i, ¬ OwnI ms vs i a) → H' a = some o := fun {σ' H' Γ'} n a o h k => n.keep a o h fun ⟨i, q⟩ => k i q
  unfold runBody at h
  cases e : m (env0 N.length ms ds) with
  | bad => rw [e] at h; exact h.elim
  | bk Γ => rw [e] at h; exact h.elim
  | ct Γ => rw [e] at h; exact h.elim
  | exc c fs =>
    simp only [e] at h
    exact fun dx H' fv k => h dx H' fv fun a o q n => k a o q fun ⟨i, z⟩ => n i z
  | nx Γ =>
    simp only [e] at h
    cases eo : outsE ms Γ with
    | none => simp only [eo] at h
    | some o =>
      simp only [eo, Bool.false_eq_true, if_false, if_true] at h
      exact fun σ' H' n => h .non H' (keep n.cfg) (bo n.cfg o eo) .non
  | rt d Γ =>
    simp only [e] at h
    cases eo : outsE ms Γ with
    | none => simp only [eo] at h
    | some o =>
      simp only [eo, Bool.false_eq_true, if_false, if_true] at h
      exact fun v σ' H' n r => h v H' (keep n.cfg) (bo n.cfg o eo) (r.move (.weak fun a q => .inl q))
  | rn d Γ =>
    simp only [e] at h
    cases eo : outsE ms Γ with
    | none => simp only [eo] at h
    | some o =>
      simp only [eo, Bool.false_eq_true, if_false, if_true] at h
      exact fun p σ' Hm H' n hp ex ow => h p Hm H' (keep n) (bo n o eo) hp ex (ow.mv ⟨fun a o h _ => h, fun a q => .inl (by
        rcases q with q | q
        · exact .inl (.inl q)
        · exact .inr q)⟩ fun _ z => z)
section
variable {P : Program} {w : World} {K : PySem.W.Frag} {mg : Str → Option Value} {base : Heap}
/-- THE RULE for a def: the mirror of its body is the mirror of its calls -/
theorem def_ok {x qual : Str} {st : Stmt} {f : Addr} {fd : FuncData} {N ps : List Str} {k : Nat} {ms : List Bool} {m : SM} (Fn : Fun K x qual st f fd) (sc : FnScope N ps (defScope st)) (hm : ms.length = ps.length)
    (hb : ∀ (cdv : Value) (A : Around) (outer : List PySem.Env) (s : Shared) (H : Hp) (E : XK), Room k (A.deeper (PyProof.Rows.envOfC qual (defScope st) s.heap.objs.size f cdv)) → PySs (cxOf (L2.CX P w) P w K mg base N qual (defScope st) f cdv A outer s H E) cl E (defBody st) m) :
    FnOk P w K mg base (L2.CX P w) (k + 1) f fd ps (callSp ⟨K, cl⟩ ms (runBody N.length ms m)) := by
  have hn : ms.length ≤ N.length := by
    have := congrArg List.length sc.pre
    rw [List.length_take] at this
    omega
  refine Fn.okX sc (fun vs H Q E ⟨S, ds, _, ha, _⟩ => by rw [ha.len.1, hm]) fun cdv A outer s H vs Q E hr h => ?_
  obtain ⟨t, h1, h2⟩ := (hb cdv A outer s H E hr).out
  exact ⟨t, h1, body_ok hn h2 h⟩
end
end DL
/-! DL11: calls of defs. -/
namespace DL
open PySem L2
variable {cl : Nat → Addr} {E : XK} {X : Cx}
/-- several own things are changed at once -/
theorem Cfg.muts {T : Act} {σ : L2.St} {H H' : Hp} {Γ Γ' : Env} (c : Cfg T σ H Γ) {J : Nat → Prop} (hl : Γ'.length = Γ.length) (hn : ∀ j, ¬ J j → Γ'[j]? = Γ[j]?)
    (hj : ∀ j, J j → ∃ s d0 d, Γ[j]? = some s ∧ s.own? = some d0 ∧ Γ'[j]? = some (s.with d) ∧ ∀ p, Owns σ Γ j p → OwnAt T.W H' (Sx T.S σ Γ) p d) (hx : ∀ a o, H a = some o → (∀ j, J j → ¬ Owns σ Γ j a) → H' a = some o) (hg : ∀ a, H a ≠ none → H' a ≠ none) :
    Nx T σ H Γ σ H' Γ' ∧ (∀ a, Sx T.S σ Γ' a ↔ Sx T.S σ Γ a) ∧ ∀ i a, Owns σ Γ' i a ↔ Owns σ Γ i a := by
  have ow : ∀ i p, Owns σ Γ' i p ↔ Owns σ Γ i p := fun i p => by
    unfold Owns
    by_cases q : J i
    · obtain ⟨s, d0, d, h1, h2, h3, _⟩ := hj i q
      rw [h1, h3]
      cases s <;> simp [Sl.own?, Sl.with] at h2 ⊢
    · rw [hn i q]
  have sx : ∀ a, Sx T.S σ Γ' a ↔ Sx T.S σ Γ a := fun a => by
    unfold Sx
    constructor
    · rintro (q | ⟨i, q⟩)
      · exact .inl q
      · exact .inr ⟨i, (ow i a).mp q⟩
    · rintro (q | ⟨i, q⟩)
      · exact .inl q
      · exact .inr ⟨i, (ow i a).mpr q⟩
  have f : Fr (Sx T.S σ Γ) H (Sx T.S σ Γ') H' := ⟨⟨fun a o h n => hx a o h fun j _ q => n (.inr ⟨j, q⟩), fun a q => .inl ((sx a).mp q)⟩, hg⟩
  have fs : Mv (Sx T.S σ Γ) H' (Sx T.S σ Γ') H' := ⟨fun a o h _ => h, fun a q => .inl ((sx a).mp q)⟩
  have st : ∀ i p o, ¬ J i → Owns σ Γ i p → H p = some o → H' p = some o := fun i p o q w h => hx p o h fun j hj' w' => q (c.inj j i p w' w ▸ hj')
  refine ⟨⟨⟨c.len.trans hl.symm, fun i d e => ?_, fun i d e => ?_, fun i d e => ?_, fun i j p a b => c.inj i j p ((ow i p).mp a) ((ow j p).mp b), fun a o h b => ?_, fun a q => hg a (c.dom a q), fun a q => hg a (c.bs a q), c.bh⟩, f⟩, sx, ow⟩
  · by_cases q : J i
    · obtain ⟨s, d0, d', h1, h2, h3, _⟩ := hj i q
      rw [e] at h3
      cases s <;> simp [Sl.own?, Sl.with] at h2 h3
    · rw [hn i q] at e
      obtain ⟨v, h1, h2⟩ := c.sh i d e
      exact ⟨v, h1, h2.move f⟩
  · by_cases q : J i
    · obtain ⟨s, d0, d', h1, h2, h3, h4⟩ := hj i q
      rw [e] at h3
      cases s with
      | ow d1 =>
        have ed : d = d' := by simpa [Sl.with] using h3
        subst ed
        obtain ⟨p, g1, g2, g3, _⟩ := c.ow i d1 h1
        exact ⟨p, g1, g2, g3, (h4 p ⟨g1, d1, by rw [h1]; rfl⟩).mv fs fun _ z => z⟩
      | bo d1 => simp [Sl.with] at h3
      | no => simp [Sl.own?] at h2
      | sh d1 => simp [Sl.own?] at h2
    · rw [hn i q] at e
      obtain ⟨p, g1, g2, g3, g4⟩ := c.ow i d e
      exact ⟨p, g1, g2, g3, g4.move f fun o => st i p o q ⟨g1, d, by rw [e]; rfl⟩⟩
  · by_cases q : J i
    · obtain ⟨s, d0, d', h1, h2, h3, h4⟩ := hj i q
      rw [e] at h3
      cases s with
      | bo d1 =>
        have ed : d = d' := by simpa [Sl.with] using h3
        subst ed
        obtain ⟨g1, g2, _⟩ := c.bo i d1 h1
        exact ⟨g1, g2, (h4 _ ⟨g1, d1, by rw [h1]; rfl⟩).mv fs fun _ z => z⟩
      | ow d1 => simp [Sl.with] at h3
      | no => simp [Sl.own?] at h2
      | sh d1 => simp [Sl.own?] at h2
    · rw [hn i q] at e
      obtain ⟨g1, g2, g3⟩ := c.bo i d e
      exact ⟨g1, g2, g3.move f fun o => st i _ o q ⟨g1, d, by rw [e]; rfl⟩⟩
  · refine hx a o (c.keep a o h b) fun j q w => ?_
    obtain ⟨u, hu, _⟩ := c.owns w
    rcases hu with hu | hu
    · obtain ⟨p, g1, g2, _⟩ := c.ow j u hu
      rw [w.1] at g1; cases g1
      rw [g2] at h; cases h
    · obtain ⟨g1, g2, _⟩ := c.bo j u hu
      rw [w.1] at g1
      have e3 : a = T.B j := V.ref.inj (Option.some.inj (Option.some.inj g1))
      rw [← e3] at g2
      exact b g2
/-! ### arguments: a value; an own thing handed over for the call; an own thing that is only looked at -/
def Sb (T : Act) (σ : L2.St) (Γ : Env) (bs : List Nat) : AS := fun a => Sx T.S σ Γ a ∧ ∀ j ∈ bs, ¬ Owns σ Γ j a
abbrev KC (T : Act) (σ : L2.St) (H : Hp) (Γ : Env) (js : List (Option Nat)) (bs : List Nat) (Q : List V → Hp → Prop) : List D → Env → Prop := fun ds Γ' => ∀ vs H', Nx T σ H Γ σ H' Γ' → ArgsR T.W H' (Sb T σ Γ' bs) (js.map (·.isSome)) vs ds →
  (∀ (k j : Nat), js[k]? = some (some j) → ∃ p : Addr, vs[k]? = some (V.ref p) ∧ Owns σ Γ' j p) → Q vs H'
def SndC (W : Wd) (E : XK) (js : List (Option Nat)) (bs : List Nat) (ta : TA) (m : M (List D)) : Prop := ∀ T σ H Γ, T.W = W → Cfg T σ H Γ → ∀ Q, Fin T E (KC T σ H Γ js bs Q) (m Γ) → ta σ H Q
structure PyC (X : Cx) (cl : Nat → Addr) (E : XK) (js : List (Option Nat)) (bs : List Nat) (es : List Expr) (m : M (List D)) : Prop where
  out : ∃ ta, PA X es ta ∧ SndC ⟨X.K, cl⟩ E js bs ta m
theorem c_nil : PyC X cl E [] [] [] mNil := ⟨_, pa_nil, fun T σ H Γ hW c Q q => q [] H (.refl c) trivial fun k j h => by simp at h⟩
theorem sb_le {T : Act} {σ : L2.St} {Γ : Env} {bs : List Nat} : ∀ a, Sb T σ Γ bs a → Sx T.S σ Γ a := fun a h => h.1
theorem c_val {js : List (Option Nat)} {bs : List Nat} {e : Expr} {es : List Expr} {m : M D} {r : M (List D)} (h : PyE X cl E e m) (g : PyC X cl E js bs es r) (hs : starEach (e :: es) X.env = (false, eval e X.env) :: starEach es X.env := by rfl) : PyC X cl E (none :: js) bs (e :: es) (mCons m r) := by
  obtain ⟨te, h1, h2⟩ := h.out
  obtain ⟨ta, g1, g2⟩ := g.out
  refine ⟨_, pa_cons h1 g1 hs, fun T σ H Γ hW c Q q => ?_⟩
  refine h2 T σ H Γ hW c _ (q.bind.imp fun d Γ1 k1 v H1 n1 r1 => ?_)
  refine g2 T σ H1 Γ1 hW n1.cfg _ (k1.bind.imp fun ds Γ2 k2 vs H2 n2 r2 ow => ?_)
  refine k2 _ H2 (n1.trans n2) ⟨(r1.move n2.fr).move (.weak sb_le), r2⟩ fun k j hk => ?_
  cases k with
  | zero => simp at hk
  | succ k => simpa using ow k j (by simpa using hk)
theorem ArgsR.weak {W : Wd} {H : Hp} {S S' : AS} (hs : ∀ a, S' a → S a) : ∀ {ms : List Bool} {vs : List V} {ds : List D}, ArgsR W H S ms vs ds → (∀ (i : Nat) (p : Addr), ms[i]? = some true → vs[i]? = some (V.ref p) → S p → S' p) → ArgsR W H S' ms vs ds
  | [], [], [], _, _ => trivial
  | [], _ :: _, _, h, _ => by simp [ArgsR] at h
  | [], [], _ :: _, h, _ => by simp [ArgsR] at h
  | m :: ms, [], _, h, _ => by cases m <;> simp [ArgsR] at h
  | m :: ms, _ :: _, [], h, _ => by cases m <;> simp [ArgsR] at h
  | false :: ms, v :: vs, d :: ds, h, k => ⟨h.1.move (.weak hs), h.2.weak hs fun i p a b => k (i + 1) p (by simpa using a) (by simpa using b)⟩
  | true :: ms, v :: vs, d :: ds, h, k => by
    obtain ⟨⟨p, rfl, hp, o⟩, h2⟩ := h
    exact ⟨⟨p, rfl, k 0 p (by simp) (by simp) hp, o.mv ⟨fun a o h _ => h, fun a q => .inl (hs a q)⟩ fun _ z => z⟩, h2.weak hs fun i p a b => k (i + 1) p (by simpa using a) (by simpa using b)⟩
theorem c_bor (i : Nat) {js : List (Option Nat)} {bs : List Nat} {es : List Expr} {r : M (List D)} {x : Str} {pos : Pos} (g : PyC X cl E js bs es r) (hi : some i ∉ js := by decide) (hs : starEach (.Name x pos :: es) X.env = (false, eval (.Name x pos) X.env) :: starEach es X.env := by rfl) (hN : X.N[i]? = some x := by rfl)
    (hv : Vis X.env.scope x := by first | exact Or.inl rfl | exact Or.inr (Or.inl rfl) | exact Or.inr (Or.inr rfl)) (hd : (x == ("__debug__" : Str)) = false := by decide) (hcd : (x == ("__classdict__" : Str)) = false := by decide) : PyC X cl E (none :: js) (i :: bs) (.Name x pos :: es) (mOwnA i r) := by
  obtain ⟨ta, g1, g2⟩ := g.out
  refine ⟨_, pa_cons (pe_var hN hv hd hcd) g1 hs, fun T σ H Γ hW c Q q => ?_⟩
  obtain ⟨d0, hd0, q⟩ := Fin.lift (P := KC T σ H Γ (none :: js) (i :: bs) Q) q ownAt_ne
  obtain ⟨p, hp, _, _⟩ := c.at hd0
  refine ⟨_, hp, g2 T σ H Γ hW c _ (q.bind.imp fun ds Γ2 k2 vs H2 n2 r2 ow => ?_)⟩
  obtain ⟨d, hd, k3⟩ := Fin.lift (P := KC T σ H Γ (none :: js) (i :: bs) Q) k2 ownAt_ne
  obtain ⟨p', hp', w, o⟩ := n2.cfg.at hd
  rw [hp] at hp'
  cases hp'
  have le : ∀ a, Sb T σ Γ2 (i :: bs) a → Sb T σ Γ2 bs a := fun a h => ⟨h.1, fun j hj => h.2 j (List.mem_cons_of_mem _ hj)⟩
  refine k3 _ H2 n2 ⟨o.rep sb_le fun h => h.2 i List.mem_cons_self w, r2.weak le fun k q hk hq hS => ⟨hS.1, fun j hj => ?_⟩⟩ fun k j hk => ?_
  · rcases List.mem_cons.mp hj with rfl | hj
    · rw [List.getElem?_map] at hk
      cases ek : js[k]? with
      | none => rw [ek] at hk; cases hk
      | some z =>
        rw [ek] at hk
        cases z with
        | none => simp at hk
        | some j' =>
          obtain ⟨q', h1, h2⟩ := ow k j' ek
          rw [hq] at h1
          cases h1
          intro w'
          have := n2.cfg.inj _ _ _ h2 w'
          subst this
          exact hi (List.mem_of_getElem? ek)
    · exact hS.2 j hj
  · cases k with
    | zero => simp at hk
    | succ k => simpa using ow k j (by simpa using hk)
theorem c_own (i : Nat) {js : List (Option Nat)} {bs : List Nat} {es : List Expr} {r : M (List D)} {x : Str} {pos : Pos} (g : PyC X cl E js bs es r) (hi : i ∉ bs := by decide) (hs : starEach (.Name x pos :: es) X.env = (false, eval (.Name x pos) X.env) :: starEach es X.env := by rfl) (hN : X.N[i]? = some x := by rfl)
    (hv : Vis X.env.scope x := by first | exact Or.inl rfl | exact Or.inr (Or.inl rfl) | exact Or.inr (Or.inr rfl)) (hd : (x == ("__debug__" : Str)) = false := by decide) (hcd : (x == ("__classdict__" : Str)) = false := by decide) : PyC X cl E (some i :: js) bs (.Name x pos :: es) (mOwnA i r) := by
  obtain ⟨ta, g1, g2⟩ := g.out
  refine ⟨_, pa_cons (pe_var hN hv hd hcd) g1 hs, fun T σ H Γ hW c Q q => ?_⟩
  obtain ⟨d0, hd0, q⟩ := Fin.lift (P := KC T σ H Γ (some i :: js) bs Q) q ownAt_ne
  obtain ⟨p, hp, _, _⟩ := c.at hd0
  refine ⟨_, hp, g2 T σ H Γ hW c _ (q.bind.imp fun ds Γ2 k2 vs H2 n2 r2 ow => ?_)⟩
  obtain ⟨d, hd, k3⟩ := Fin.lift (P := KC T σ H Γ (some i :: js) bs Q) k2 ownAt_ne
  obtain ⟨p', hp', w, o⟩ := n2.cfg.at hd
  rw [hp] at hp'
  cases hp'
  refine k3 _ H2 n2 ⟨⟨p, rfl, ⟨own_sx w, fun j hj w' => hi (n2.cfg.inj _ _ _ w' w ▸ hj)⟩, o.mv ⟨fun a o h _ => h, fun a q => .inl q.1⟩ fun _ z => z⟩, r2⟩ fun k j hk => ?_
  cases k with
  | zero =>
    simp at hk
    subst hk
    exact ⟨p, rfl, w⟩
  | succ k => simpa using ow k j (by simpa using hk)
/-! ### the call -/
def setOuts : List (Option Nat) → List D → Env → Env
  | some j :: js, d :: ds, Γ => setOuts js ds (setOwn j d Γ)
  | none :: js, _ :: ds, Γ => setOuts js ds Γ
  | _, _, Γ => Γ
def hardO : D → Bool
  | .lst xs => hardL xs
  | _ => false
def hardOs : List (Option Nat) → List D → Bool
  | some _ :: js, d :: ds => hardO d && hardOs js ds
  | none :: js, _ :: ds => hardOs js ds
  | _, _ => true
def mCallF (F : Fm) (js : List (Option Nat)) (bs : List Nat) (args : M (List D)) : M D := fun Γ => (args Γ).bind fun p => match F p.1 with
  | .ok r => if bs = [] ∨ (r.fr = false ∧ hard r.d = true ∧ hardOs js r.outs = true) then .ok (r.d, setOuts js r.outs p.2) else .bad
  | .exc c fs => if bs = [] then .exc c fs else .bad
  | .bad => .bad
def mCallN (F : Fm) (js : List (Option Nat)) (args : M (List D)) : M D := fun Γ => (args Γ).bind fun p => match F p.1 with
  | .ok r => if r.fr = true then .ok (r.d, setOuts js r.outs p.2) else .bad
  | .exc c fs => .exc c fs
  | .bad => .bad
theorem setOwn_len {i : Nat} {d : D} {Γ : Env} : (setOwn i d Γ).length = Γ.length := by
  unfold setOwn
  split <;> simp
theorem setOwn_at {i j : Nat} {d : D} {Γ : Env} : (setOwn i d Γ)[j]? = if j = i then (Γ[j]?).map (·.with d) else Γ[j]? := by
  unfold setOwn
  cases e : Γ[i]? with
  | none =>
    by_cases z : j = i
    · rw [if_pos z, z, e]; rfl
    · rw [if_neg z]
  | some s =>
    show (Γ.set i (s.with d))[j]? = _
    by_cases z : j = i
    · subst z
      rw [if_pos rfl, e, List.getElem?_set_self (List.getElem?_eq_some_iff.mp e).1]
      rfl
    · rw [if_neg z, List.getElem?_set_ne (Ne.symm z)]
theorem with_own {s : Sl} {d d0 : D} (h : s.own? = some d0) : (s.with d).own? = some d := by
  cases s <;> simp [Sl.own?, Sl.with] at h ⊢
theorem with_with {s : Sl} {d e : D} : (s.with d).with e = s.with e := by cases s <;> rfl
/-- the own things behind the call -/
theorem setOuts_ok {W : Wd} {H : Hp} {S : AS} {σ : L2.St} : ∀ {js : List (Option Nat)} {vs : List V} {os : List D} {Γ : Env}, OutsR W H S (js.map (·.isSome)) vs os → (∀ (k j : Nat), js[k]? = some (some j) → ∃ p : Addr, vs[k]? = some (V.ref p) ∧ Owns σ Γ j p) → (∀ (i k j : Nat), js[i]? = some (some j) → js[k]? = some (some j) → i = k) →
    (setOuts js os Γ).length = Γ.length ∧ (∀ j, some j ∉ js → (setOuts js os Γ)[j]? = Γ[j]?) ∧ ∀ j, some j ∈ js → ∃ s d0 d, Γ[j]? = some s ∧ s.own? = some d0 ∧ (setOuts js os Γ)[j]? = some (s.with d) ∧ (hardOs js os = true → hardO d = true) ∧ ∀ p, Owns σ Γ j p → OwnAt W H S p d
  | [], vs, os, Γ, _, _, _ => ⟨by cases os <;> rfl, fun j _ => by cases os <;> rfl, fun j h => by cases h⟩
  | none :: js, [], os, Γ, h, _, _ => by simp [OutsR] at h
  | some _ :: js, [], os, Γ, h, _, _ => by simp [OutsR] at h
  | none :: js, _ :: _, [], Γ, h, _, _ => by simp [OutsR] at h
  | some _ :: js, _ :: _, [], Γ, h, _, _ => by simp [OutsR] at h
  | none :: js, v :: vs, d :: os, Γ, h, ow, nd => by
    obtain ⟨h1, h2, h3⟩ := setOuts_ok (js := js) (vs := vs) (os := os) (Γ := Γ) h (fun k j hk => by simpa using ow (k + 1) j (by simpa using hk)) fun i k j a b => by
      have := nd (i + 1) (k + 1) j (by simpa using a) (by simpa using b)
      omega
    refine ⟨h1, fun j hj => h2 j fun z => hj (List.mem_cons_of_mem _ z), fun j hj => ?_⟩
    rcases List.mem_cons.mp hj with z | hj
    · cases z
    · exact h3 j hj
  | some i :: js, v :: vs, d :: os, Γ, h, ow, nd => by
    obtain ⟨⟨p, rfl, o⟩, h⟩ := h
    obtain ⟨p0, hp0, w⟩ := ow 0 i (by simp)
    simp at hp0
    subst hp0
    obtain ⟨hσ, d0, he⟩ := id w
    cases es : Γ[i]? with
    | none => rw [es] at he; cases he
    | some s =>
      rw [es] at he
      have he : s.own? = some d0 := he
      have ows : ∀ j q, Owns σ (setOwn i d Γ) j q ↔ Owns σ Γ j q := fun j q => by
        have : setOwn i d Γ = Γ.set i (s.with d) := by unfold setOwn; rw [es]
        rw [this]
        exact owns_with es he
      obtain ⟨h1, h2, h3⟩ := setOuts_ok (js := js) (vs := vs) (os := os) (Γ := setOwn i d Γ) h (fun k j hk => by
        obtain ⟨q, a, b⟩ := ow (k + 1) j (by simpa using hk)
        exact ⟨q, by simpa using a, (ows j q).mpr b⟩) fun i k j a b => by
          have := nd (i + 1) (k + 1) j (by simpa using a) (by simpa using b)
          omega
      have ni : some i ∉ js := fun z => by
        obtain ⟨k, hk, e⟩ := List.mem_iff_getElem.mp z
        have := nd 0 (k + 1) i (by simp) (by simp [hk, e])
        omega
      refine ⟨h1.trans setOwn_len, fun j hj => ?_, fun j hj => ?_⟩
      · have nj : j ≠ i := fun z => hj (z ▸ List.mem_cons_self)
        have := h2 j fun z => hj (List.mem_cons_of_mem _ z)
        show (setOuts js os (setOwn i d Γ))[j]? = _
        rw [this, setOwn_at, if_neg nj]
      · rcases List.mem_cons.mp hj with z | hj
        · cases z
          refine ⟨s, d0, d, es, he, ?_, fun hh => ?_, fun q w' => ?_⟩
          · show (setOuts js os (setOwn i d Γ))[i]? = _
            rw [h2 i ni, setOwn_at, if_pos rfl, es]
            rfl
          · simp only [hardOs, Bool.and_eq_true] at hh
            exact hh.1
          · rw [w'.fun w]; exact o
        · have nj : j ≠ i := fun z => ni (z ▸ hj)
          obtain ⟨s', d1, d2, a1, a2, a3, a4, a5⟩ := h3 j hj
          rw [setOwn_at, if_neg nj] at a1
          refine ⟨s', d1, d2, a1, a2, a3, fun hh => ?_, fun q w' => a5 q ((ows j q).mpr w')⟩
          simp only [hardOs, Bool.and_eq_true] at hh
          exact a4 hh.2
theorem hardO_up {W : Wd} {H : Hp} {S S' : AS} (hs : ∀ a xs, H a = some (.tup xs) → S a → S' a) {p : Addr} : ∀ {d : D}, OwnAt W H S' p d → hardO d = true → OwnAt W H S p d
  | .lst _, ⟨xs, h, r⟩, k => ⟨xs, h, r.hard hs k⟩
  | .non, h, _ => h.elim
  | .bl _, h, _ => h.elim
  | .int _, h, _ => h.elim
  | .str _, h, _ => h.elim
  | .tup _, h, _ => h.elim
  | .frl _, h, _ => h.elim
  | .ty _, h, _ => h.elim
  | .cls _, h, _ => h.elim
  | .dK _, _, k => by cases k
  | .dT _, _, k => by cases k
  | .ins _ _, _, k => by cases k
theorem js_true {js : List (Option Nat)} {i : Nat} (h : (js.map (·.isSome))[i]? = some true) : ∃ j, js[i]? = some (some j) := by
  rw [List.getElem?_map] at h
  cases e : js[i]? with
  | none => rw [e] at h; cases h
  | some z =>
    rw [e] at h
    cases z with
    | none => simp at h
    | some j => exact ⟨j, rfl⟩
/-- behind a def's call, in its caller -/
theorem after_call {T : Act} {σ : L2.St} {H H' : Hp} {Γ : Env} {js : List (Option Nat)} {bs : List Nat} {vs : List V} {os : List D} (c : Cfg T σ H Γ) (ow : ∀ (k j : Nat), js[k]? = some (some j) → ∃ p : Addr, vs[k]? = some (V.ref p) ∧ Owns σ Γ j p) (nd : ∀ (i k j : Nat), js[i]? = some (some j) → js[k]? = some (some j) → i = k)
    (kp : ∀ a o, H a = some o → (∀ i, ¬ OwnI (js.map (·.isSome)) vs i a) → H' a = some o) (oo : OutsR T.W H' (Sb T σ Γ bs) (js.map (·.isSome)) vs os) (hb : bs = [] ∨ hardOs js os = true) :
    Nx T σ H Γ σ H' (setOuts js os Γ) ∧ (∀ a, Sx T.S σ (setOuts js os Γ) a ↔ Sx T.S σ Γ a) ∧ ∀ i a, Owns σ (setOuts js os Γ) i a ↔ Owns σ Γ i a := by
  obtain ⟨h1, h2, h3⟩ := setOuts_ok oo ow nd
  have own : ∀ i a, OwnI (js.map (·.isSome)) vs i a → ∃ j, js[i]? = some (some j) ∧ Owns σ Γ j a := fun i a ⟨q1, q2⟩ => by
    obtain ⟨j, e⟩ := js_true q1
    obtain ⟨p, p1, p2⟩ := ow i j e
    rw [q2] at p1; cases p1
    exact ⟨j, e, p2⟩
  have hx : ∀ a o, H a = some o → (∀ j, some j ∈ js → ¬ Owns σ Γ j a) → H' a = some o := fun a o h n => kp a o h fun i q => by
    obtain ⟨j, e, w⟩ := own i a q
    exact n j (List.mem_of_getElem? e) w
  -- a tuple that stands behind the call and is excluded here is excluded there too
  have up : ∀ a xs, H' a = some (.tup xs) → Sx T.S σ Γ a → Sb T σ Γ bs a := fun a xs e q => ⟨q, fun j hj w => by
    by_cases z : some j ∈ js
    · obtain ⟨s, d0, d, _, _, _, _, o⟩ := h3 j z
      exact absurd e (o a w).ntup
    · obtain ⟨d, _, o⟩ := c.owns w
      obtain ⟨u, hu⟩ := o.dom
      have k := hx a u hu fun j' hj' w' => z (c.inj _ _ _ w' w ▸ hj')
      rw [e] at k
      cases k
      exact absurd hu o.ntup⟩
  refine c.muts (J := fun j => some j ∈ js) h1 h2 (fun j hj => ?_) hx fun a h => ?_
  · obtain ⟨s, d0, d, a1, a2, a3, a4, a5⟩ := h3 j hj
    refine ⟨s, d0, d, a1, a2, a3, fun p w => ?_⟩
    rcases hb with rfl | hb
    · exact (a5 p w).mv ⟨fun a o h _ => h, fun a q => .inl ⟨q, fun j hj => by cases hj⟩⟩ fun _ z => z
    · exact hardO_up up (a5 p w) (a4 hb)
  · by_cases q : ∃ j, some j ∈ js ∧ Owns σ Γ j a
    · obtain ⟨j, hj, w⟩ := q
      obtain ⟨s, d0, d, _, _, _, _, o⟩ := h3 j hj
      obtain ⟨u, hu⟩ := (o a w).dom
      rw [hu]; intro z; cases z
    · cases e : H a with
      | none => exact absurd e h
      | some o => rw [hx a o e fun j hj w => q ⟨j, hj, w⟩]; intro z; cases z
/-- a list of slots, none twice -/
def noTwice (js : List (Option Nat)) : Bool := decide (js.filterMap id).Nodup
theorem noTwice_ok : ∀ {js : List (Option Nat)}, noTwice js = true → ∀ (i k j : Nat), js[i]? = some (some j) → js[k]? = some (some j) → i = k := fun {js} h => by
  have h : (js.filterMap id).Nodup := of_decide_eq_true h
  induction js with
  | nil => intro i k j a; simp at a
  | cons z js ih =>
    intro i k j a b
    cases z with
    | none =>
      cases i with
      | zero => simp at a
      | succ i =>
        cases k with
        | zero => simp at b
        | succ k => rw [ih (by simpa [noTwice] using h) (by simpa using h) i k j (by simpa using a) (by simpa using b)]
    | some m =>
      have h' : m ∉ js.filterMap id ∧ (js.filterMap id).Nodup := by simpa using h
      have nm : ∀ k, js[k]? = some (some m) → False := fun k e => h'.1 (List.mem_filterMap.mpr ⟨some m, List.mem_of_getElem? e, rfl⟩)
      cases i with
      | zero =>
        cases k with
        | zero => rfl
        | succ k =>
          simp at a b
          subst a
          exact (nm k b).elim
      | succ i =>
        cases k with
        | zero =>
          simp at a b
          subst b
          exact (nm i a).elim
        | succ k => rw [ih (by simpa [noTwice] using h'.2) h'.2 i k j (by simpa using a) (by simpa using b)]
theorem OutsR.mvx {W : Wd} {H H' : Hp} {S : AS} (ex : ∀ a o, H a = some o → H' a = some o) : ∀ {ms : List Bool} {vs : List V} {os : List D}, OutsR W H S ms vs os → OutsR W H' S ms vs os
  | [], [], [], _ => trivial
  | [], _ :: _, _, h => by simp [OutsR] at h
  | [], [], _ :: _, h => by simp [OutsR] at h
  | m :: ms, [], _, h => by cases m <;> simp [OutsR] at h
  | m :: ms, _ :: _, [], h => by cases m <;> simp [OutsR] at h
  | false :: ms, v :: vs, d :: ds, h => OutsR.mvx ex (ms := ms) h
  | true :: ms, v :: vs, d :: ds, h => by
    obtain ⟨⟨p, rfl, o⟩, h2⟩ := h
    exact ⟨⟨p, rfl, o.move (.ext0 ex) fun u => ex p u⟩, OutsR.mvx ex h2⟩
theorem OutsR.dom {W : Wd} {H : Hp} {S : AS} : ∀ {ms : List Bool} {vs : List V} {os : List D}, OutsR W H S ms vs os → ∀ (i : Nat) (p : Addr), OwnI ms vs i p → ∃ o, H p = some o
  | [], _, _, _, i, p, q => by have := q.1; simp at this
  | m :: ms, [], _, h, _, _, _ => by cases m <;> simp [OutsR] at h
  | m :: ms, _ :: _, [], h, _, _, _ => by cases m <;> simp [OutsR] at h
  | false :: ms, v :: vs, d :: ds, h, i, p, q => by
    cases i with
    | zero => have := q.1; simp at this
    | succ i => exact OutsR.dom (ms := ms) h i p ⟨by simpa using q.1, by simpa using q.2⟩
  | true :: ms, v :: vs, d :: ds, h, i, p, q => by
    obtain ⟨⟨p', rfl, o⟩, h2⟩ := h
    cases i with
    | zero =>
      have := q.2
      simp at this
      subst this
      exact o.dom
    | succ i => exact OutsR.dom h2 i p ⟨by simpa using q.1, by simpa using q.2⟩
theorem snd_callF {W : Wd} {js : List (Option Nat)} {bs : List Nat} {F : Fm} {ta : TA} {m : M (List D)} (nt : noTwice js = true) (ha : SndC W E js bs ta m) : SndE W E (tCall (callSp W (js.map (·.isSome)) F) [] E ta) (mCallF F js bs m) := fun T σ H Γ hW c Q q => by
  refine ha T σ H Γ hW c _ (q.bind.imp fun ds Γ1 k1 vs H1 n1 r1 ow => ?_)
  subst hW
  rw [List.append_nil]
  refine ⟨Sb T σ Γ1 bs, ds, fun a h => n1.cfg.sd a h.1, r1, fun i j a q1 q2 => ?_, ?_⟩
  · obtain ⟨x, ex⟩ := js_true q1.1
    obtain ⟨y, ey⟩ := js_true q2.1
    obtain ⟨p, p1, p2⟩ := ow i x ex
    obtain ⟨p', p1', p2'⟩ := ow j y ey
    rw [q1.2] at p1; cases p1
    rw [q2.2] at p1'; cases p1'
    have := n1.cfg.inj _ _ _ p2 p2'
    subst this
    exact noTwice_ok nt i j x ex ey
  · cases e : F ds with
    | bad => simp only [e] at k1; exact k1.elim
    | exc cc fs =>
      simp only [e] at k1
      by_cases hb : bs = []
      · rw [if_pos hb] at k1
        refine fun dx H' fv kp hd hx hk hr => k1 dx H' fv (fun a o h b => kp a o (n1.cfg.keep a o h b) fun i q => ?_) (n1.cfg.entry hd) hx hk (hr.move (.weak fun a q => ⟨.inl q, fun j hj => by rw [hb] at hj; cases hj⟩))
        obtain ⟨j, ej⟩ := js_true q.1
        obtain ⟨p, p1, p2⟩ := ow i j ej
        rw [q.2] at p1; cases p1
        obtain ⟨u, hu, _⟩ := n1.cfg.owns p2
        rcases hu with hu | hu
        · obtain ⟨p', g1, g2, _⟩ := n1.cfg.ow j u hu
          rw [p2.1] at g1; cases g1
          rw [g2] at h; cases h
        · obtain ⟨g1, g2, _⟩ := n1.cfg.bo j u hu
          rw [p2.1] at g1
          have e3 : a = T.B j := V.ref.inj (Option.some.inj (Option.some.inj g1))
          rw [← e3] at g2
          exact b g2
      · rw [if_neg hb] at k1; exact k1.elim
    | ok r =>
      simp only [e] at k1
      by_cases hc : bs = [] ∨ (r.fr = false ∧ hard r.d = true ∧ hardOs js r.outs = true)
      · rw [if_pos hc] at k1
        have fin : ∀ v H', (∀ a o, H1 a = some o → (∀ i, ¬ OwnI (js.map (·.isSome)) vs i a) → H' a = some o) → OutsR T.W H' (Sb T σ Γ1 bs) (js.map (·.isSome)) vs r.outs → Rep T.W H' (Sb T σ Γ1 bs) v r.d → Q v H' := fun v H' kp oo rv => by
          obtain ⟨n2, sx, owi⟩ := after_call n1.cfg ow (noTwice_ok nt) kp oo (by
            rcases hc with h | h
            · exact .inl h
            · exact .inr h.2.2)
          refine k1 v H' (n1.trans n2) ?_
          rcases hc with rfl | hc
          · exact rv.move (.weak fun a q => ⟨(sx a).mp q, fun j hj => by cases hj⟩)
          · refine n2.cfg.up (S' := Sb T σ Γ1 bs) (fun a q => ?_) rv hc.2.1
            by_cases z : ∃ j, j ∈ bs ∧ Owns σ Γ1 j a
            · obtain ⟨j, _, w⟩ := z
              exact .inr ⟨j, (owi j a).mpr w⟩
            · exact .inl ⟨(sx a).mp q, fun j hj w => z ⟨j, hj, w⟩⟩
        show ite (r.fr = true) _ _
        by_cases hf : r.fr = true
        · rw [if_pos hf]
          refine fun p Hm H' kp oo hp ex o => fin _ H' (fun a o h q => ex a o (kp a o h q)) (oo.mvx ex) (o.rep (fun a q => .inl q) fun q => ?_)
          -- p is new
          obtain ⟨u, hu⟩ := n1.cfg.sdom q.1
          by_cases z : ∃ i, OwnI (js.map (·.isSome)) vs i p
          · obtain ⟨i, z⟩ := z
            obtain ⟨u', hu'⟩ := oo.dom i p z
            rw [hp] at hu'; cases hu'
          · have := kp p u hu fun i w => z ⟨i, w⟩
            rw [hp] at this; cases this
        · rw [if_neg hf]
          exact fin
      · rw [if_neg hc] at k1; exact k1.elim
/-- a call that hands out a new thing -/
theorem snd_callG {W : Wd} {js : List (Option Nat)} {F : Fm} {ta : TA} {m : M (List D)} (nt : noTwice js = true) (ha : SndC W E js [] ta m) : SndN W E (tCall (callSp W (js.map (·.isSome)) F) [] E ta) (mCallN F js m) := fun T σ H Γ hW c Q q => by
  refine ha T σ H Γ hW c _ (q.bind.imp fun ds Γ1 k1 vs H1 n1 r1 ow => ?_)
  subst hW
  rw [List.append_nil]
  refine ⟨Sb T σ Γ1 [], ds, fun a h => n1.cfg.sd a h.1, r1, fun i j a q1 q2 => ?_, ?_⟩
  · obtain ⟨x, ex⟩ := js_true q1.1
    obtain ⟨y, ey⟩ := js_true q2.1
    obtain ⟨p, p1, p2⟩ := ow i x ex
    obtain ⟨p', p1', p2'⟩ := ow j y ey
    rw [q1.2] at p1; cases p1
    rw [q2.2] at p1'; cases p1'
    have := n1.cfg.inj _ _ _ p2 p2'
    subst this
    exact noTwice_ok nt i j x ex ey
  · cases e : F ds with
    | bad => simp only [e] at k1; exact k1.elim
    | exc cc fs =>
      simp only [e] at k1
      refine fun dx H' fv kp hd hx hk hr => k1 dx H' fv (fun a o h b => kp a o (n1.cfg.keep a o h b) fun i q => ?_) (n1.cfg.entry hd) hx hk (hr.move (.weak fun a q => ⟨.inl q, fun j hj => by cases hj⟩))
      obtain ⟨j, ej⟩ := js_true q.1
      obtain ⟨p, p1, p2⟩ := ow i j ej
      rw [q.2] at p1; cases p1
      obtain ⟨u, hu, _⟩ := n1.cfg.owns p2
      rcases hu with hu | hu
      · obtain ⟨p', g1, g2, _⟩ := n1.cfg.ow j u hu
        rw [p2.1] at g1; cases g1
        rw [g2] at h; cases h
      · obtain ⟨g1, g2, _⟩ := n1.cfg.bo j u hu
        rw [p2.1] at g1
        have e3 : a = T.B j := V.ref.inj (Option.some.inj (Option.some.inj g1))
        rw [← e3] at g2
        exact b g2
    | ok r =>
      simp only [e] at k1
      by_cases hf : r.fr = true
      · rw [if_pos hf] at k1
        show ite (r.fr = true) _ _
        rw [if_pos hf]
        refine fun p Hm H' kp oo hp ex o => ?_
        obtain ⟨n2, sx, owi⟩ := after_call n1.cfg ow (noTwice_ok nt) kp oo (.inl rfl)
        refine k1 p Hm H' (n1.trans n2) hp ex (o.mv ⟨fun a o h _ => h, fun a q => .inl ?_⟩ fun _ z => z)
        rcases q with q | q
        · exact .inl ⟨(sx a).mp q, fun j hj => by cases hj⟩
        · exact .inr q
      · rw [if_neg hf] at k1; exact k1.elim
end DL
/-! DL12: the rules for calls and for raising own exceptions. -/
namespace DL
open PySem L2
variable {cl : Nat → Addr} {E : XK} {X : Cx}
/-- the def named x keeps the mirror F, the parameters handed over told by ms -/
structure FnI (P : Program) (w : World) (K : PySem.W.Frag) (mg : Str → Option Value) (base : Heap) (cl : Nat → Addr) (k : Nat) (x : Str) (ms : List Bool) (F : Fm) : Prop where
  out : ∃ (f : Addr) (fd : FuncData) (ps : List Str), FnOk P w K mg base (L2.CX P w) k f fd ps (callSp ⟨K, cl⟩ ms F) ∧ mg x = some (.ref f) ∧ PySem.W.keepIn K (.ref f) = true ∧ Binds K fd ps []
theorem FnI.mono {P : Program} {w : World} {K : PySem.W.Frag} {mg : Str → Option Value} {base : Heap} {j k : Nat} {x : Str} {ms : List Bool} {F : Fm} (h : FnI P w K mg base cl j x ms F) (l : j ≤ k) : FnI P w K mg base cl k x ms F := by
  obtain ⟨f, fd, ps, h1, h2⟩ := h.out
  exact ⟨f, fd, ps, h1.mono l, h2⟩
/-- what is wished of a callee's exceptions -/
def Lets (X : Cx) (E : XK) : Prop := Passes (L2.CX X.prog X.w) X E
theorem lets_of (hs : X.stack = X.env :: X.outer) (hf : X.env.frame = some X.env.locals) (hex : X.ex = []) {E₁ : Value → Shared → Prop}
    (hx : X.xe = fun e s' => wpAny (model X.prog X.w) X.A (leaving X.env e) (fun _ s'' => L2.CX X.prog X.w X.outer X.H_0 X.s_0 E e s'') E₁ s') : Lets X E := passes_call (takes_of hs hf hex hx) fun _ _ _ _ h => h
theorem lets0 : Lets X E0' := passL
section
variable {k : Nat} {x : Str} {p pos : Pos} {e : Expr} {es : List Expr} {js : List (Option Nat)} {bs : List Nat} {ms : List Bool} {F : Fm} {m : M (List D)}
theorem e_call (Fi : FnI X.prog X.w X.K X.mg X.base cl k x ms F) (hr : Room k X.A) (hx : Lets X E) (ha : PyC X cl E js bs (e :: es) m) (hms : js.map (·.isSome) = ms := by rfl) (nt : noTwice js = true := by decide) (hg : Gl X x := by rfl)
    (hdb : (x == ("__debug__" : Str)) = false := by decide) (he : starEach (e :: es) X.env = (false, eval e X.env) :: starEach es X.env := by rfl) (hpl : (backTo pos (starEach es X.env)).any (·.1) = false := by rfl) : PyE X cl E (.Call (.Name x p) (e :: es) [] pos) (mCallF F js bs m) := by
  obtain ⟨f, fd, ps, h1, h2, h3, h4⟩ := Fi.out
  obtain ⟨ta, g1, g2⟩ := ha.out
  subst hms
  exact ⟨_, pe_call h1 hr hg h2 h3 h4 .nil hx g1 hdb he hpl, snd_callF nt g2⟩
theorem n_call (Fi : FnI X.prog X.w X.K X.mg X.base cl k x ms F) (hr : Room k X.A) (hx : Lets X E) (ha : PyC X cl E js [] (e :: es) m) (hms : js.map (·.isSome) = ms := by rfl) (nt : noTwice js = true := by decide) (hg : Gl X x := by rfl)
    (hdb : (x == ("__debug__" : Str)) = false := by decide) (he : starEach (e :: es) X.env = (false, eval e X.env) :: starEach es X.env := by rfl) (hpl : (backTo pos (starEach es X.env)).any (·.1) = false := by rfl) : PyN X cl E (.Call (.Name x p) (e :: es) [] pos) (mCallN F js m) := by
  obtain ⟨f, fd, ps, h1, h2, h3, h4⟩ := Fi.out
  obtain ⟨ta, g1, g2⟩ := ha.out
  subst hms
  exact ⟨_, pe_call h1 hr hg h2 h3 h4 .nil hx g1 hdb he hpl, snd_callG nt g2⟩
theorem e_call0 (Fi : FnI X.prog X.w X.K X.mg X.base cl k x [] F) (hr : Room k X.A) (hx : Lets X E) (hg : Gl X x := by rfl) (hdb : (x == ("__debug__" : Str)) = false := by decide) : PyE X cl E (.Call (.Name x p) [] [] pos) (mCallF F [] [] mNil) := by
  obtain ⟨f, fd, ps, h1, h2, h3, h4⟩ := Fi.out
  obtain ⟨ta, g1, g2⟩ := (c_nil (X := X) (cl := cl) (E := E)).out
  exact ⟨_, pe_call0 h1 hr hg h2 h3 h4 .nil hx hdb, snd_callF rfl fun T σ H Γ hW c Q q => q [] H (.refl c) trivial fun k j h => by simp at h⟩
theorem n_call0 (Fi : FnI X.prog X.w X.K X.mg X.base cl k x [] F) (hr : Room k X.A) (hx : Lets X E) (hg : Gl X x := by rfl) (hdb : (x == ("__debug__" : Str)) = false := by decide) : PyN X cl E (.Call (.Name x p) [] [] pos) (mCallN F [] mNil) := by
  obtain ⟨f, fd, ps, h1, h2, h3, h4⟩ := Fi.out
  exact ⟨_, pe_call0 h1 hr hg h2 h3 h4 .nil hx hdb, snd_callG rfl fun T σ H Γ hW c Q q => q [] H (.refl c) trivial fun k j h => by simp at h⟩
end
/-- a weaker mirror: where it answers, the other answers so too -/
theorem callSp_imp {W : Wd} {ms : List Bool} {F G : Fm} (h : ∀ ds, F ds = .bad ∨ F ds = G ds) : ∀ vs H Q E, callSp W ms F vs H Q E → callSp W ms G vs H Q E := fun vs H Q E ⟨S, ds, a, b, c, d⟩ => by
  refine ⟨S, ds, a, b, c, ?_⟩
  rcases h ds with q | q
  · rw [q] at d; exact d.elim
  · rw [← q]; exact d
/-! ### own exceptions -/
/-- __init__ of an exception at C whose fields are fl, in this order -/
def spX (C : Addr) (fl : List Str) : Sp := fun vs H Q _ => ∃ (a : Addr) (ys : List V), vs = .ref a :: ys ∧ ys.length = fl.length ∧ H a = some (exo a C none) ∧
  ∀ (d : Addr) (H' : Hp), H d = none → d ≠ a → (∀ b o, b ≠ a → H b = some o → H' b = some o) → H' a = some (exo a C (some d)) → H' d = some (exd d (fl.zip ys).reverse) → Q .non H'
/-- the class named x is an own exception: the number c, its fields -/
structure ExI (P : Program) (w : World) (K : PySem.W.Frag) (mg : Str → Option Value) (base : Heap) (cl : Nat → Addr) (k : Nat) (x : Str) (c : Nat) (fl : List Str) : Prop where
  out : ∃ (fI : Addr) (fd : FuncData) (ps : List Str), OexC K (cl c) ∧ PySem.W.findIn K (.ref (cl c)) "__init__" = some (some (.ref fI)) ∧ PySem.W.typeIn K (.ref fI) = some (.type "function") ∧ FnOk P w K mg base (L2.CX P w) k fI fd ps (spX (cl c) fl) ∧
    Binds K fd ps [] ∧ mg x = some (.ref (cl c)) ∧ ps.length = fl.length + 1 ∧ fl.length ≤ 900
def sRaise (c : Nat) (fl : List Str) (a : M (List D)) : SM := ofM a fun ds _ => if ds.length = fl.length then .exc c (fl.zip ds).reverse else .bad
theorem zip_fst {α : Type} : ∀ {fl : List Str} {ys : List α}, ys.length = fl.length → (fl.zip ys).map Prod.fst = fl := fun {fl ys} h => by
  rw [List.map_fst_zip]
  omega
theorem zip_snd {α : Type} : ∀ {fl : List Str} {ys : List α}, ys.length = fl.length → (fl.zip ys).map Prod.snd = ys := fun {fl ys} h => by
  rw [List.map_snd_zip]
  omega
theorem RepL.rev {W : Wd} {H : Hp} {S : AS} : ∀ {vs : List V} {ds : List D}, RepL W H S vs ds → RepL W H S vs.reverse ds.reverse
  | [], [], _ => .nil
  | v :: vs, d :: ds, .cons h t => by
    rw [List.reverse_cons, List.reverse_cons]
    exact t.rev.snoc h
theorem s_raise {k c : Nat} {x : Str} {fl : List Str} {p pos pos2 : Pos} {e : Expr} {es : List Expr} {m : M (List D)} (Ei : ExI X.prog X.w X.K X.mg X.base cl k x c fl) (hr : Room (k + 1) X.A) (hc : X.calm = true) (tk : Takes X fun cls d _ H => E cls d H)
    (ha : PyA X cl E (e :: es) m) (hg : Gl X x := by rfl) (hdb : (x == ("__debug__" : Str)) = false := by decide) (he : starEach (e :: es) X.env = (false, eval e X.env) :: starEach es X.env := by rfl) (hpl : (backTo pos (starEach es X.env)).any (·.1) = false := by rfl) :
    PyS X cl E (.Raise (some (.Call (.Name x p) (e :: es) [] pos)) none pos2) (sRaise c fl m) := by
  obtain ⟨fI, fd, ps, h1, h2, h3, h4, h5, h6, h7, h8⟩ := Ei.out
  obtain ⟨ta, g1, g2⟩ := ha.out
  refine ⟨_, ps_raise hc tk (pmk_oex h1 h2 h3 h4 hr h5 .nil passL hg h6 g1 hdb he hpl), fun T σ H Γ hW cf D h => ?_⟩
  refine g2 T σ H Γ hW cf _ ((ofM_fin h).imp fun ds Γ1 k1 vs H1 n1 r1 => ?_)
  by_cases hl : ds.length = fl.length
  · rw [if_pos hl] at k1
    have hv : vs.length = fl.length := r1.len.trans hl
    refine ⟨by omega, fun a ha0 => ⟨a, vs ++ [], rfl, by rw [List.append_nil]; exact hv, upd_same, fun d H' hd nda kp ea ed => ⟨rfl, d, _, ea, ed, ?_, ?_⟩⟩⟩
    · rw [upd_ne nda] at hd; exact hd
    · rw [upd_ne nda] at hd
      rw [List.append_nil] at ed ⊢
      have up : ∀ b o, H1 b = some o → (upd (L2.del H' a) d (.xd (fl.zip vs).reverse)) b = some o := fun b o q => by
        have nba : b ≠ a := fun z => by rw [z, ha0] at q; cases q
        have nbd : b ≠ d := fun z => by rw [z, hd] at q; cases q
        rw [upd_ne nbd, L2.del_ne nba]
        exact kp b o nba (by rw [upd_ne nba]; exact q)
      have k1 : ExcOk T E c (fl.zip ds).reverse := k1
      have hz : (E (.ref (T.W.cl c)) (some d) (upd (L2.del H' a) d (.xd (fl.zip vs).reverse))) := by
        refine k1 d _ (fl.zip vs).reverse (fun b o q nb => up b o (n1.cfg.keep b o q nb)) (n1.cfg.entry hd) upd_same ?_ ?_
        · rw [List.map_reverse, List.map_reverse, zip_fst hv, zip_fst hl]
        · rw [List.map_reverse, List.map_reverse, zip_snd hv, zip_snd hl]
          exact (r1.rev).mv ⟨fun b o q _ => up b o q, fun b q => .inl (.inl q)⟩
      rw [hW] at hz
      exact hz
  · rw [if_neg hl] at k1
    exact k1.elim
section
variable {P : Program} {w : World} {K : PySem.W.Frag} {mg : Str → Option Value} {base : Heap} {C f : Addr} {fd : FuncData} {x qual f1 f2 : Str} {st : Stmt} {N : List Str}
/-- def __init__(self, v): self.f1 = v -/
theorem init1 (T : OexC K C) (Fn : Fun K x qual st f fd) (sc : FnScope N N (defScope st)) (hN : N.length = 2) (no : PySem.W.findIn K (.ref C) f1 = some none)
    (hb : ∀ (cdv : Value) (A : Around) (outer : List PySem.Env) (s : Shared) (H : Hp) (E : XK), PSs (cxOf (L2.CX P w) P w K mg base N qual (defScope st) f cdv A outer s H E) (defBody st) (tOst K f1 (tVar 0) (tVar 1))) :
    FnOk P w K mg base (L2.CX P w) 1 f fd N (spX C [f1]) := by
  refine Fn.okX sc (fun vs H Q E ⟨a, ys, e, l, _⟩ => by rw [e, hN]; exact congrArg (· + 1) l) fun cdv A outer s H vs Q E hr ⟨a, ys, e, l, ha, q⟩ => ⟨_, hb cdv A outer s H E, ?_⟩
  match ys, l with
  | [y], _ =>
    subst e
    have e0 : L2.start N [V.ref a, y] = [some (V.ref a), some y] := by unfold L2.start; rw [hN]; rfl
    rw [e0]
    refine ⟨_, rfl, _, rfl, a, C, rfl, T, no, .inl ⟨ha, fun dx hd nd => q dx _ hd nd (fun b o nb hb => ?_) upd_same ?_⟩⟩
    · rw [upd_ne nb, upd_ne (ne_of_none hb hd)]; exact hb
    · rw [upd_ne nd, upd_same]; rfl
/-- def __init__(self, v, u): self.f1 = v; self.f2 = u -/
theorem init2 (T : OexC K C) (Fn : Fun K x qual st f fd) (sc : FnScope N N (defScope st)) (hN : N.length = 3) (no : PySem.W.findIn K (.ref C) f1 = some none) (no2 : PySem.W.findIn K (.ref C) f2 = some none)
    (hb : ∀ (cdv : Value) (A : Around) (outer : List PySem.Env) (s : Shared) (H : Hp) (E : XK), PSs (cxOf (L2.CX P w) P w K mg base N qual (defScope st) f cdv A outer s H E) (defBody st) (tSeq (tOst K f1 (tVar 0) (tVar 1)) (tOst K f2 (tVar 0) (tVar 2)))) :
    FnOk P w K mg base (L2.CX P w) 1 f fd N (spX C [f1, f2]) := by
  refine Fn.okX sc (fun vs H Q E ⟨a, ys, e, l, _⟩ => by rw [e, hN]; exact congrArg (· + 1) l) fun cdv A outer s H vs Q E hr ⟨a, ys, e, l, ha, q⟩ => ⟨_, hb cdv A outer s H E, ?_⟩
  match ys, l with
  | [y, z], _ =>
    subst e
    have e0 : L2.start N [V.ref a, y, z] = [some (V.ref a), some y, some z] := by unfold L2.start; rw [hN]; rfl
    rw [e0]
    refine ⟨_, rfl, _, rfl, a, C, rfl, T, no, .inl ⟨ha, fun dx hd nd => ?_⟩⟩
    refine ⟨_, rfl, _, rfl, a, C, rfl, T, no2, .inr ⟨dx, _, upd_same, by rw [upd_ne nd, upd_same], (by show 1 ≤ 900; omega), ?_⟩⟩
    refine q dx _ hd nd (fun b o nb hb => ?_) ?_ upd_same
    · rw [upd_ne (ne_of_none hb hd), upd_ne nb, upd_ne (ne_of_none hb hd)]; exact hb
    · rw [upd_ne (Ne.symm nd), upd_same]
end
end DL
/-! DL13: parallel stores, a comprehension stored, list(range(..)). -/
namespace DL
open PySem L2
variable {cl : Nat → Addr} {E : XK} {X : Cx}
/-! ### a new thing set aside while more is evaluated -/
theorem ExcOk.tg {T : Act} {E : XK} {c : Nat} {fs : List (Str × D)} {p : Addr} {o : HO} (h : ExcOk T E c fs) (np : T.H p = none) : ExcOk (Tg T p o) E c fs := fun dx H' fv k hd hx hk hr => by
  have e : ∀ a u, T.H a = some u → (Tg T p o).H a = some u := fun a u q => by
    show (if a = p then some o else T.H a) = some u
    rw [if_neg (fun z => by rw [z, np] at q; cases q)]; exact q
  refine h dx H' fv (fun a u q nb => k a u (e a u q) nb) ?_ hx hk (hr.mv ⟨fun a o h _ => h, fun a q => .inl (.inl q)⟩)
  cases q : T.H dx with
  | none => rfl
  | some u => rw [e dx u q] at hd; cases hd
theorem Fin.tg {α : Type} {T : Act} {E : XK} {P Q : α → Env → Prop} {r : R (α × Env)} {p : Addr} {o : HO} (h : Fin T E P r) (np : T.H p = none) (k : ∀ a Γ, P a Γ → Q a Γ) : Fin (Tg T p o) E Q r := by
  cases r with
  | ok q => exact k _ _ h
  | exc c fs => exact ExcOk.tg h np
  | bad => exact h
theorem upd_del {H : Hp} {p : Addr} {o : HO} (h : H p = some o) : upd (delH H p) p o = H := by
  funext b
  by_cases e : b = p
  · rw [e, upd_same, h]
  · rw [upd_ne e, delH_ne e]
/-! ### values into slots: (slot, a new thing?) -/
def setV : List (Nat × Bool) → List V → L2.St → L2.St
  | j :: js, v :: vs, σ => (setV js vs σ).set j.1 (some v)
  | _, _, σ => σ
def setE : List (Nat × Bool) → List D → Env → Env
  | j :: js, d :: ds, Γ => (setE js ds Γ).set j.1 (if j.2 = true then .ow d else .sh d)
  | _, _, Γ => Γ
theorem setE_len : ∀ {js : List (Nat × Bool)} {ds : List D} {Γ : Env}, (setE js ds Γ).length = Γ.length
  | [], ds, Γ => by cases ds <;> rfl
  | j :: js, [], Γ => rfl
  | j :: js, d :: ds, Γ => by
    show ((setE js ds Γ).set _ _).length = _
    rw [List.length_set, setE_len]
def okJ (js : List (Nat × Bool)) (Γ : Env) : Bool := js.all fun j => decide (j.1 < Γ.length)
abbrev KL' (T : Act) (σ : L2.St) (H : Hp) (Γ : Env) (js : List (Nat × Bool)) (Q : List V → Hp → Prop) : List D → Env → Prop := fun ds Γ' => okJ js Γ' = true ∧ ∀ vs H', vs.length = js.length → Nx T σ H Γ (setV js vs σ) H' (setE js ds Γ') → Q vs H'
def SndL (W : Wd) (E : XK) (js : List (Nat × Bool)) (ta : TA) (m : M (List D)) : Prop := ∀ T σ H Γ, T.W = W → Cfg T σ H Γ → ∀ Q, Fin T E (KL' T σ H Γ js Q) (m Γ) → ta σ H Q
structure PyL (X : Cx) (cl : Nat → Addr) (E : XK) (js : List (Nat × Bool)) (es : List Expr) (m : M (List D)) : Prop where
  out : ∃ ta, PA X es ta ∧ SndL ⟨X.K, cl⟩ E js ta m
theorem l_nil : PyL X cl E [] [] mNil := ⟨_, pa_nil, fun T σ H Γ hW c Q q => q.2 [] H rfl (.refl c)⟩
theorem okJ_cons {j : Nat × Bool} {js : List (Nat × Bool)} {Γ : Env} (h : okJ (j :: js) Γ = true) : j.1 < Γ.length ∧ okJ js Γ = true := by
  unfold okJ at h ⊢
  rw [List.all_cons, Bool.and_eq_true] at h
  exact ⟨of_decide_eq_true h.1, h.2⟩
theorem l_val (i : Nat) {js : List (Nat × Bool)} {e : Expr} {es : List Expr} {m : M D} {r : M (List D)} (h : PyE X cl E e m) (g : PyL X cl E js es r) (hs : starEach (e :: es) X.env = (false, eval e X.env) :: starEach es X.env := by rfl) :
    PyL X cl E ((i, false) :: js) (e :: es) (mCons m r) := by
  obtain ⟨te, h1, h2⟩ := h.out
  obtain ⟨ta, g1, g2⟩ := g.out
  refine ⟨_, pa_cons h1 g1 hs, fun T σ H Γ hW c Q q => ?_⟩
  refine h2 T σ H Γ hW c _ (q.bind.imp fun d Γ1 k1 v H1 n1 r1 => ?_)
  refine g2 T σ H1 Γ1 hW n1.cfg _ (k1.bind.imp fun ds Γ2 k2 => ?_)
  obtain ⟨o1, o2⟩ := okJ_cons k2.1
  refine ⟨o2, fun vs H2 hl n2 => k2.2 (v :: vs) H2 (congrArg (· + 1) hl) ?_⟩
  have o1' : i < (setE js ds Γ2).length := by rw [setE_len]; exact o1
  exact (n1.trans n2).trans (n2.cfg.put o1' (r1.move n2.fr))
theorem l_new (i : Nat) {js : List (Nat × Bool)} {e : Expr} {es : List Expr} {m : M D} {r : M (List D)} (h : PyN X cl E e m) (g : PyL X cl E js es r) (hs : starEach (e :: es) X.env = (false, eval e X.env) :: starEach es X.env := by rfl) :
    PyL X cl E ((i, true) :: js) (e :: es) (mCons m r) := by
  obtain ⟨te, h1, h2⟩ := h.out
  obtain ⟨ta, g1, g2⟩ := g.out
  refine ⟨_, pa_cons h1 g1 hs, fun T σ H Γ hW c Q q => ?_⟩
  refine h2 T σ H Γ hW c _ (q.bind.imp fun d Γ1 k1 p Hm H1 n1 hp ex ow => ?_)
  obtain ⟨o, ho⟩ := ow.dom
  have nT : T.H p = none := n1.cfg.entry hp
  have nS : ¬ T.S p := fun z => n1.cfg.dom p z hp
  have nB : ¬ T.Bs p := fun z => n1.cfg.bs p z hp
  have ex' : ∀ a u, Hm a = some u → delH H1 p a = some u := fun a u z => by
    rw [delH_ne (ne_of_none z hp)]; exact ex a u z
  have n2 := n1.cfg.more ex'
  have cg : Cfg (Tg T p o) σ H1 Γ1 := by
    have k := n2.cfg.guard (p := p) (o := o) delH_same
    rw [upd_del ho] at k
    exact k
  refine g2 (Tg T p o) σ H1 Γ1 hW cg _ (k1.bind.tg nT fun ds Γ2 k2 => ?_)
  obtain ⟨o1, o2⟩ := okJ_cons k2.1
  refine ⟨o2, fun vs H2 hl n3 => k2.2 (.ref p :: vs) H2 (congrArg (· + 1) hl) ?_⟩
  have o1' : i < (setE js ds Γ2).length := by rw [setE_len]; exact o1
  have hp2 : H2 p = some o := n3.cfg.keep p o (by show (if p = p then some o else T.H p) = _; rw [if_pos rfl]) nB
  have cu := n3.cfg.unguard nB nS nT
  have ow2 : OwnAt T.W H2 (fun a => Sx T.S (setV js vs σ) (setE js ds Γ2) a ∨ a = p) p d := by
    refine (ow.mv (S' := Sx (Tg T p o).S σ Γ1) ⟨fun a u z _ => z, fun a z => .inl ?_⟩ fun u z => z).mv (S' := fun a => Sx T.S (setV js vs σ) (setE js ds Γ2) a ∨ a = p) ⟨n3.fr.ext, fun a z => ?_⟩ fun u z => ?_
    · rcases z with (z | z) | z
      · exact .inl (.inl z)
      · exact .inr z
      · exact .inl (.inr z)
    · refine n3.fr.sub a ?_
      rcases z with (z | z) | z
      · exact .inl (.inl z)
      · exact .inr z
      · exact .inl (.inr z)
    · rw [ho] at z; cases z; exact hp2
  have n4 := cu.put_own (i := i) (p := p) (d := d) (H' := H2) o1' delH_same delH_le ow2
  have n5 : Nx T σ Hm Γ1 (setV js vs σ) (delH H2 p) (setE js ds Γ2) := ⟨cu, ⟨⟨fun a u z nz => ?_, fun a z => ?_⟩, fun a z => ?_⟩⟩
  · exact (n1.trans n5).trans n4
  · have na : a ≠ p := ne_of_none z hp
    rw [delH_ne na]
    refine n3.fr.ext a u (ex a u z) fun y => nz ?_
    rcases y with (y | y) | y
    · exact .inl y
    · exact absurd y na
    · exact .inr y
  · have k := n3.fr.sub a (by
      rcases z with z | z
      · exact .inl (.inl z)
      · exact .inr z)
    rcases k with ((k | k) | k) | k
    · exact .inl (.inl k)
    · exact .inr (k ▸ hp)
    · exact .inl (.inr k)
    · refine .inr ?_
      cases y : Hm a with
      | none => rfl
      | some u => rw [ex a u y] at k; cases k
  · have na : a ≠ p := fun y => z (y ▸ hp)
    rw [delH_ne na]
    refine n3.fr.grow a fun y => ?_
    cases q : Hm a with
    | none => exact z q
    | some u => rw [ex a u q] at y; cases y
def sPar (js : List (Nat × Bool)) (m : M (List D)) : SM := ofM m fun ds Γ => if okJ js Γ = true then .nx (setE js ds Γ) else .bad
theorem s_par2 {i j : Nat} {bi bj : Bool} {x y : Str} {a b : Expr} {m : M (List D)} {px py pt pos : Pos} {kt k2 pt2} (hc : X.calm = true) (hN : X.N.Nodup) (ha : PyL X cl E [(i, bi), (j, bj)] [a, b] m) (hi : X.N[i]? = some x := by rfl) (hj : X.N[j]? = some y := by rfl) (hij : i ≠ j := by decide)
    (hx : X.env.scope.names.lookup x = some .local := by rfl) (hy : X.env.scope.names.lookup y = some .local := by rfl) (hw : swappedStores [.Tuple [.Name x px, .Name y py] kt pt] (.Tuple [a, b] k2 pt2) X.env = pure (some [x, y]) := by rfl)
    (hs : swapsWithSole [.Tuple [.Name x px, .Name y py] kt pt] (.Tuple [a, b] k2 pt2) pos.line X.env = pure false := by rfl) :
    PyS X cl E (.Assign [.Tuple [.Name x px, .Name y py] kt pt] (.Tuple [a, b] k2 pt2) pos) (sPar [(i, bi), (j, bj)] m) := by
  obtain ⟨ta, h1, h2⟩ := ha.out
  refine ⟨_, ps_par hc hN hi hj hij hx hy h1 hw hs, fun T σ H Γ hW c Dn h => ?_⟩
  refine h2 T σ H Γ hW c _ ((ofM_fin h).imp fun ds Γ1 k1 => ?_)
  by_cases q : okJ [(i, bi), (j, bj)] Γ1 = true
  · rw [if_pos q] at k1
    refine ⟨q, fun vs H1 hl n => ?_⟩
    match vs, hl with
    | [v, w], _ =>
      refine ⟨v, w, rfl, ?_⟩
      have e : setV [(i, bi), (j, bj)] [v, w] σ = (σ.set i (some v)).set j (some w) := by
        show (σ.set j (some w)).set i (some v) = _
        exact List.set_comm _ _ (Ne.symm hij)
      rw [← e]
      exact k1 _ H1 n
  · rw [if_neg q] at k1; exact k1.elim
theorem s_par3 {i j l : Nat} {bi bj bl : Bool} {x y z : Str} {a b c : Expr} {m : M (List D)} {px py pz pt pos : Pos} {kt k2 pt2} (hc : X.calm = true) (hN : X.N.Nodup) (ha : PyL X cl E [(i, bi), (j, bj), (l, bl)] [a, b, c] m) (hi : X.N[i]? = some x := by rfl) (hj : X.N[j]? = some y := by rfl)
    (hl : X.N[l]? = some z := by rfl) (hij : i ≠ j := by decide) (hil : i ≠ l := by decide) (hjl : j ≠ l := by decide) (hx : X.env.scope.names.lookup x = some .local := by rfl) (hy : X.env.scope.names.lookup y = some .local := by rfl) (hz : X.env.scope.names.lookup z = some .local := by rfl)
    (hw : swappedStores [.Tuple [.Name x px, .Name y py, .Name z pz] kt pt] (.Tuple [a, b, c] k2 pt2) X.env = pure (some [x, y, z]) := by rfl) (hs : swapsWithSole [.Tuple [.Name x px, .Name y py, .Name z pz] kt pt] (.Tuple [a, b, c] k2 pt2) pos.line X.env = pure false := by rfl) :
    PyS X cl E (.Assign [.Tuple [.Name x px, .Name y py, .Name z pz] kt pt] (.Tuple [a, b, c] k2 pt2) pos) (sPar [(i, bi), (j, bj), (l, bl)] m) := by
  obtain ⟨ta, h1, h2⟩ := ha.out
  refine ⟨_, ps_par3 hc hN hi hj hl hij hil hjl hx hy hz h1 hw hs, fun T σ H Γ hW cf Dn h => ?_⟩
  refine h2 T σ H Γ hW cf _ ((ofM_fin h).imp fun ds Γ1 k1 => ?_)
  by_cases q : okJ [(i, bi), (j, bj), (l, bl)] Γ1 = true
  · rw [if_pos q] at k1
    refine ⟨q, fun vs H1 hlen n => ?_⟩
    match vs, hlen with
    | [u, v, w], _ =>
      refine ⟨u, v, w, rfl, ?_⟩
      have e : setV [(i, bi), (j, bj), (l, bl)] [u, v, w] σ = ((σ.set i (some u)).set j (some v)).set l (some w) := by
        show ((σ.set l (some w)).set j (some v)).set i (some u) = _
        rw [List.set_comm _ _ (Ne.symm hjl), List.set_comm _ _ (Ne.symm hil), List.set_comm (some v) (some u) (Ne.symm hij)]
      rw [← e]
      exact k1 _ H1 n
  · rw [if_neg q] at k1; exact k1.elim
/-! ### name = [.. for ..] -/
theorem snd_asgName {W : Wd} {te : TE} {m : M D} {i : Nat} (h : SndE W E te m) : SndS W E (tAsg te (gName i)) (sAsg m (gSet i)) := fun T σ H Γ hW c Dn q => by
  refine h T σ H Γ hW c _ ((ofM_fin q).imp fun d Γ1 k1 v H1 n1 r1 => ?_)
  have k1 := ofG_fin k1
  by_cases hi : i < Γ1.length
  · unfold gSet at k1
    rw [if_pos hi] at k1
    exact k1 _ H1 (n1.trans (n1.cfg.put hi r1))
  · unfold gSet at k1
    rw [if_neg hi] at k1
    exact k1.elim
theorem snd_asgOwn {W : Wd} {te : TE} {m : M D} {i : Nat} (h : SndN W E te m) : SndS W E (tAsg te (gName i)) (sAsg m (gOwn i)) := fun T σ H Γ hW c Dn q => by
  refine h T σ H Γ hW c _ ((ofM_fin q).imp fun d Γ1 k1 p Hm H1 n1 hp ex ow => ?_)
  have k1 := ofG_fin k1
  by_cases hi : i < Γ1.length
  · unfold gOwn at k1
    rw [if_pos hi] at k1
    exact k1 _ H1 (n1.trans (n1.cfg.put_own hi hp ex ow))
  · unfold gOwn at k1
    rw [if_neg hi] at k1
    exact k1.elim
theorem s_setLc (i : Nat) {own : List (Str × Nat)} {js : List Nat} {y : Str} {py spos : Pos} {elt tg iter : Expr} {ifs : List Expr} {scope : Scope} {pos : Pos} {mi : M (List D)} {mg : GM} {mt : M Bool} {me : M D} (hc : X.calm = true) (hN : X.N.Nodup) (hi : PyI X cl E tg iter mi)
    (ok : BlkOk X.N X.env.scope scope own) (hg : ∀ i, PyG (Bk X scope i) cl E0' js tg mg) (ht : ∀ i, PyTs (Bk X scope i) cl E0' ifs mt) (he : ∀ i, PyE (Bk X scope i) cl E0' elt me) (hj : ∀ j ∈ js, j ∈ own.map (·.2) := by decide) (hy : X.N[i]? = some y := by rfl)
    (hyl : X.env.scope.names.lookup y = some .local := by rfl) (hsw : swapsWith (.ListComp elt [⟨tg, iter, ifs, 0⟩] scope pos) (some (.Name y py)) spos.line X.env = pure true := by rfl) (hs : ∀ x, foldedSetIterable iter X.env x = pure x := by intro _; rfl) :
    PyS X cl E (.Assign [.Name y py] (.ListComp elt [⟨tg, iter, ifs, 0⟩] scope pos) spos) (sAsg (mLc (own.map (·.2)) mi mg mt me) (gSet i)) := by
  obtain ⟨wi, i1, i2⟩ := hi.out
  obtain ⟨g, g1, g2⟩ := uniG (Xf := Bk X scope) (W := ⟨X.K, cl⟩) fun i => (hg i).out
  obtain ⟨t, t1, t2⟩ := uniT (Xf := Bk X scope) (W := ⟨X.K, cl⟩) fun i => (ht i).out
  obtain ⟨te, e1, e2⟩ := uniE (Xf := Bk X scope) (W := ⟨X.K, cl⟩) fun i => (he i).out
  exact ⟨_, ps_setLc hc hN hy hyl hsw i1 ok (fun s H C c fp => g1 ⟨s, H, C, c, fp⟩) (fun s H C c fp => t1 ⟨s, H, C, c, fp⟩) (fun s H C c fp => e1 ⟨s, H, C, c, fp⟩) hs, snd_asgName (snd_lc i2 g2 t2 e2 hj).e⟩
theorem s_setLcN (i : Nat) {own : List (Str × Nat)} {js : List Nat} {y : Str} {py spos : Pos} {elt tg iter : Expr} {ifs : List Expr} {scope : Scope} {pos : Pos} {mi : M (List D)} {mg : GM} {mt : M Bool} {me : M D} (hc : X.calm = true) (hN : X.N.Nodup) (hi : PyI X cl E tg iter mi)
    (ok : BlkOk X.N X.env.scope scope own) (hg : ∀ i, PyG (Bk X scope i) cl E0' js tg mg) (ht : ∀ i, PyTs (Bk X scope i) cl E0' ifs mt) (he : ∀ i, PyE (Bk X scope i) cl E0' elt me) (hj : ∀ j ∈ js, j ∈ own.map (·.2) := by decide) (hy : X.N[i]? = some y := by rfl)
    (hyl : X.env.scope.names.lookup y = some .local := by rfl) (hsw : swapsWith (.ListComp elt [⟨tg, iter, ifs, 0⟩] scope pos) (some (.Name y py)) spos.line X.env = pure true := by rfl) (hs : ∀ x, foldedSetIterable iter X.env x = pure x := by intro _; rfl) :
    PyS X cl E (.Assign [.Name y py] (.ListComp elt [⟨tg, iter, ifs, 0⟩] scope pos) spos) (sAsg (mLc (own.map (·.2)) mi mg mt me) (gOwn i)) := by
  obtain ⟨wi, i1, i2⟩ := hi.out
  obtain ⟨g, g1, g2⟩ := uniG (Xf := Bk X scope) (W := ⟨X.K, cl⟩) fun i => (hg i).out
  obtain ⟨t, t1, t2⟩ := uniT (Xf := Bk X scope) (W := ⟨X.K, cl⟩) fun i => (ht i).out
  obtain ⟨te, e1, e2⟩ := uniE (Xf := Bk X scope) (W := ⟨X.K, cl⟩) fun i => (he i).out
  exact ⟨_, ps_setLc hc hN hy hyl hsw i1 ok (fun s H C c fp => g1 ⟨s, H, C, c, fp⟩) (fun s H C c fp => t1 ⟨s, H, C, c, fp⟩) (fun s H C c fp => e1 ⟨s, H, C, c, fp⟩) hs, snd_asgOwn (snd_lc i2 g2 t2 e2 hj)⟩
/-! ### list(range(n)) -/
def dListRg : List D → R D
  | [.int n] => if n.natAbs ≤ 16777216 then .ok (.lst (rangeD 0 n.toNat)) else .bad
  | _ => .bad
theorem rgV_rep {W : Wd} {H : Hp} {S : AS} {n : Int} : RepL W H S (rgV 0 n) (rangeD 0 n.toNat) := by
  have k : ∀ l : List Nat, RepL W H S (l.map fun i => V.int (0 + (i : Nat))) (l.map fun i => D.int (0 + (i : Nat))) := fun l => by
    induction l with
    | nil => exact .nil
    | cons x r ih => exact .cons (.int _) ih
  unfold rgV rangeD
  rw [show n - 0 = n by omega]
  exact k _
theorem n_listRg {a : Expr} {m : M D} {p q pos qpos : Pos} (hc : X.calm = true) (hm : X.mg "list" = none) (hr : X.mg "range" = none) (ha : PyE X cl E a m) (hg : Gl X "list" := by rfl) (hgr : Gl X "range" := by rfl) (na : starEach [a] X.env = (false, eval a X.env) :: starEach [] X.env := by rfl)
    (ne : starEach [.Call (.Name "range" q) [a] [] qpos] X.env = (false, eval (.Call (.Name "range" q) [a] [] qpos) X.env) :: starEach [] X.env := by rfl) :
    PyN X cl E (.Call (.Name "list" p) [.Call (.Name "range" q) [a] [] qpos] [] pos) (bnd m fun x => lift (noexc (dListRg [x]))) := by
  obtain ⟨te, h1, h2⟩ := ha.out
  refine ⟨_, pe_listRg hc hg hm (prg_1 hgr hr h1 na) ne, fun T σ H Γ hW c Q h => ?_⟩
  refine h2 T σ H Γ hW c _ (h.bind.imp fun x Γ1 k1 v H1 n1 r1 => ?_)
  obtain ⟨z, hz, k2⟩ := Fin.lift (P := KN T σ H Γ Q) k1 noexc_ne
  have hz := noexc_ok hz
  cases x with
  | int n =>
    obtain ⟨cc, rfl⟩ := ite_ok hz
    cases r1
    refine ⟨n, rfl, ⟨by omega, by omega, by omega, by omega, by omega⟩, fun q hq => ?_⟩
    exact k2 q H1 _ n1 hq (upd_more hq) (own_new n1.cfg.sd hq rgV_rep)
  | _ => cases hz
end DL
/-! DL14: comprehensions with two fors. -/
namespace DL
open PySem L2
variable {cl : Nat → Addr} {E : XK} {X : Cx}
/-- turns over a walk, whatever is done in them -/
theorem turns {J : It} {n : Nat} {G : Hp → Prop} {Y : Nat → Hp → V → Hp → Prop} (w : Walk J n G Y) {H1 : Hp} {Qd : Hp → Prop} (Bd : (Hp → Prop) → V → Hp → Prop) (Pv : Nat → Hp → Prop) (h0 : Pv 0 H1) (hG : ∀ i H, i ≤ n → Pv i H → G H)
    (hs : ∀ i x H H', i < n → Pv i H → Y i H x H' → Bd (Pv (i + 1)) x H') (hd : ∀ H, Pv n H → Qd H) :
    ∃ W : Nat → Nat → Hp → Prop, (∃ m, W 0 m H1) ∧ ∀ i m H, W i m H → (J.stop i H ∧ Qd H) ∨ (J.go i H ∧ ∃ Nx : Hp → Prop, (∀ H', Nx H' → ∃ m', m' < m ∧ W (i + 1) m' H') ∧ ∀ x H', J.yld i H x H' → Bd Nx x H') := by
  refine ⟨fun i m H => m = n - i ∧ i ≤ n ∧ Pv i H, ⟨n, by simp, Nat.zero_le _, h0⟩, fun i m H ⟨hm, hi, p⟩ => ?_⟩
  subst hm
  have q := hG i H hi p
  by_cases hlt : i < n
  · exact .inr ⟨w.goes i H hlt q, Pv (i + 1), fun H' p' => ⟨n - (i + 1), by omega, rfl, hlt, p'⟩, fun x H' y => hs i x H H' hlt p (w.yields i H x H' hlt q y)⟩
  · have e : i = n := by omega
    subst e
    exact .inl ⟨w.stops H q, hd H p⟩
/-- the list under way at Dl -/
structure Lst (T : Act) (Dl : Addr) (σ : L2.St) (H : Hp) (Γ : Env) (xs : List V) (ys : List D) : Prop where
  cfg : Cfg (Tg T Dl (.lst xs)) σ H Γ
  rep : RepL T.W H (Sx (Tg T Dl (.lst xs)).S σ Γ) xs ys
theorem Lst.here {T : Act} {Dl : Addr} {σ : L2.St} {H : Hp} {Γ : Env} {xs : List V} {ys : List D} (l : Lst T Dl σ H Γ xs ys) (nb : ¬ T.Bs Dl) : H Dl = some (.lst xs) := l.cfg.keep Dl (.lst xs) (by show (if Dl = Dl then some (HO.lst xs) else T.H Dl) = _; rw [if_pos rfl]) nb
theorem Lst.go {T : Act} {Dl : Addr} {σ σ' : L2.St} {H H' : Hp} {Γ Γ' : Env} {xs : List V} {ys : List D} (l : Lst T Dl σ H Γ xs ys) (n : Nx (Tg T Dl (.lst xs)) σ H Γ σ' H' Γ') : Lst T Dl σ' H' Γ' xs ys := ⟨n.cfg, l.rep.move n.fr⟩
/-- one more item -/
theorem Lst.add {T : Act} {Dl : Addr} {σ : L2.St} {H : Hp} {Γ : Env} {xs : List V} {ys : List D} {v : V} {d : D} (l : Lst T Dl σ H Γ xs ys) (nb : ¬ T.Bs Dl) (r : Rep T.W H (Sx (Tg T Dl (.lst xs)).S σ Γ) v d) :
    Lst T Dl σ (upd H Dl (.lst (xs ++ [v]))) Γ (xs ++ [v]) (ys ++ [d]) ∧ Fr (Sx (Tg T Dl (.lst xs)).S σ Γ) H (Sx (Tg T Dl (.lst (xs ++ [v]))).S σ Γ) (upd H Dl (.lst (xs ++ [v]))) := by
  obtain ⟨c, f⟩ := l.cfg.reguard (o' := .lst (xs ++ [v])) nb
  exact ⟨⟨c, (l.rep.snoc r).move f⟩, f⟩
/-- the items that one run of a for with its clauses adds, behind ys, within the bound -/
theorem inner_lc {W : Wd} {vs js : List Nat} {g : TG} {tt : TT} {te : TE} {mg : GM} {mt : M Bool} {me : M D} (hg : SndG W E0' js g mg) (ht : SndT W E0' tt mt) (he : SndE W E0' te me) (hj : ∀ j ∈ js, j ∈ vs) {T : Act} {Dl : Addr} (hW : T.W = W) (nb : ¬ T.Bs Dl) {σ : L2.St} {J : It} {H0 : Hp} {ds zs : List D} {S0 : AS} (io : ItOk T.W S0 H0 J ds)
    {Γ0 Γz : Env} {xs0 : List V} {ys0 : List D} (l0 : Lst T Dl (L2.wipe σ vs) H0 Γ0 xs0 ys0) (hS0 : ∀ a, Sx (Tg T Dl (.lst xs0)).S (L2.wipe σ vs) Γ0 a → S0 a) (hl : lcL vs mg mt me ds Γ0 = .ok (zs, Γz)) (hb : (ys0 ++ zs).length ≤ big) {Qd : Hp → Prop}
    (hd : ∀ H xs, Lst T Dl (L2.wipe σ vs) H Γz xs (ys0 ++ zs) → Fr S0 H0 (Sx (Tg T Dl (.lst xs)).S (L2.wipe σ vs) Γz) H → Qd H) :
    ∃ W1 : Nat → Nat → Hp → Prop, (∃ m, W1 0 m H0) ∧ ∀ j k H, W1 j k H → (J.stop j H ∧ Qd H) ∨ (J.go j H ∧ ∃ Nx1 : Hp → Prop, (∀ H', Nx1 H' → ∃ k', k' < k ∧ W1 (j + 1) k' H') ∧ ∀ x H', J.yld j H x H' → g x (L2.wipe σ vs) H' fun σ3 H5 => L2.wipe σ3 vs = L2.wipe σ vs ∧ tt σ3 H5 fun b H6 =>
      if b = true then te σ3 H6 fun y H7 => ∃ acc, H7 Dl = some (.lst acc) ∧ acc.length < sizeLine ∧ Nx1 (upd H7 Dl (.lst (acc ++ [y]))) else Nx1 H6) := by
  obtain ⟨G, Y, wk, hG, hY⟩ := io
  refine turns wk (fun Nx1 x H' => g x (L2.wipe σ vs) H' fun σ3 H5 => L2.wipe σ3 vs = L2.wipe σ vs ∧ tt σ3 H5 fun b H6 => if b = true then te σ3 H6 fun y H7 => ∃ acc, H7 Dl = some (.lst acc) ∧ acc.length < sizeLine ∧ Nx1 (upd H7 Dl (.lst (acc ++ [y]))) else Nx1 H6)
    (fun i H' => ∃ Γi xs ys rs, Lst T Dl (L2.wipe σ vs) H' Γi xs (ys0 ++ ys) ∧ Fr S0 H0 (Sx (Tg T Dl (.lst xs)).S (L2.wipe σ vs) Γi) H' ∧ lcL vs mg mt me (ds.drop i) Γi = .ok (rs, Γz) ∧ zs = ys ++ rs) ?_ ?_ ?_ ?_
  · exact ⟨Γ0, xs0, [], zs, by rw [List.append_nil]; exact l0, .weak hS0, hl, rfl⟩
  · rintro i H' _ ⟨Γi, xs, ys, rs, li, fi, _⟩
    exact hG _ _ fi
  · rintro i x H' H3 hi' ⟨Γi, xs, ys, rs, li, fi, rem, ez⟩ y
    obtain ⟨ex, hr⟩ := hY i _ _ x H3 hi' fi li.cfg.sd y
    have n3 := li.cfg.more ex
    rw [List.drop_eq_getElem_cons hi'] at rem
    have r := hr ds[i] (by simp [hi'])
    have hW' : (Tg T Dl (.lst xs)).W = W := hW
    unfold lcL at rem
    refine hg (Tg T Dl (.lst xs)) (L2.wipe σ vs) H3 Γi hW' n3.cfg x ds[i] r _ ?_
    cases e1 : mg ds[i] Γi with
    | bad => simp only [e1] at rem; cases rem
    | exc cc fs => simp only [e1] at rem; cases rem
    | ok Γa =>
      simp only [e1] at rem
      refine fun σ2 H2 n2 bt => ?_
      have w2 : L2.wipe σ2 vs = L2.wipe σ vs := by rw [wipe_eq bt hj, wipe_wipe]
      refine ⟨w2, ht (Tg T Dl (.lst xs)) σ2 H2 Γa hW' n2.cfg _ ?_⟩
      cases e2 : mt Γa with
      | bad => simp only [e2] at rem; cases rem
      | exc cc fs => simp only [e2] at rem; cases rem
      | ok pb =>
        obtain ⟨b, Γb⟩ := pb
        simp only [e2] at rem
        refine fun H4 n4 => ?_
        show ite (b = true) _ _
        have nn := n3.trans (n2.trans n4)
        have step : ∀ {σ5 : L2.St} {H5 : Hp} {Γ5 : Env}, L2.wipe σ5 vs = L2.wipe σ vs → Nx (Tg T Dl (.lst xs)) (L2.wipe σ vs) H' Γi σ5 H5 Γ5 → Nx (Tg T Dl (.lst xs)) (L2.wipe σ vs) H' Γi (L2.wipe σ vs) H5 (wipeE Γ5 vs) := fun {σ5 H5 Γ5} hw n5 => by
          have n6 := n5.trans (n5.cfg.wipe vs)
          rw [hw] at n6
          exact n6
        cases b with
        | false =>
          rw [if_neg Bool.false_ne_true] at rem ⊢
          have n5 := step w2 nn
          exact ⟨wipeE Γb vs, xs, ys, rs, li.go n5, fi.trans n5.fr, rem, ez⟩
        | true =>
          rw [if_pos rfl] at rem ⊢
          refine he (Tg T Dl (.lst xs)) σ2 H4 Γb hW' n4.cfg _ ?_
          cases e3 : me Γb with
          | bad => simp only [e3] at rem; cases rem
          | exc cc fs => simp only [e3] at rem; cases rem
          | ok py =>
            obtain ⟨yv, Γc⟩ := py
            simp only [e3] at rem
            refine fun v H5 n5 r5 => ?_
            have n7 := step w2 (nn.trans n5)
            have l7 := li.go n7
            have rv : Rep T.W H5 (Sx (Tg T Dl (.lst xs)).S (L2.wipe σ vs) (wipeE Γc vs)) v yv := by
              have k := r5.move (n5.cfg.wipe vs).fr
              rw [w2] at k
              exact k
            obtain ⟨l8, f8⟩ := l7.add nb rv
            cases e4 : lcL vs mg mt me (ds.drop (i + 1)) (wipeE Γc vs) with
            | bad => simp only [e4, R.bind_bad] at rem; cases rem
            | exc cc fs => exact absurd e4 (lcL_ne _ _ _ _)
            | ok q =>
              obtain ⟨q1, q2⟩ := q
              simp only [e4, R.bind_ok] at rem
              cases rem
              have lenb : xs.length < sizeLine := by
                refine big_lt ?_
                rw [l7.rep.len]
                rw [ez] at hb
                simp only [List.length_append, List.length_cons] at hb ⊢
                omega
              refine ⟨xs, l7.here nb, lenb, wipeE Γc vs, xs ++ [v], ys ++ [yv], q1, by rw [← List.append_assoc]; exact l8, (fi.trans n7.fr).trans f8, e4, by rw [ez]; simp⟩
  · rintro H' ⟨Γi, xs, ys, rs, li, fi, rem, ez⟩
    rw [List.drop_length] at rem
    cases rem
    rw [List.append_nil] at ez
    subst ez
    exact hd H' xs li fi
/-! ### [e for g in it if t for g1 in it1 if t1] -/
def lcL2 (vs : List Nat) (g : GM) (t : M Bool) (it1 : M (List D)) (vs1 : List Nat) (g1 : GM) (t1 : M Bool) (e : M D) : List D → Env → R (List D × Env)
  | [], Γ => .ok ([], Γ)
  | d :: ds, Γ => match g d Γ with
    | .ok Γa => match t Γa with
      | .ok (b, Γb) => if b = true then match it1 Γb with
          | .ok (ds1, Γc) => match lcL vs1 g1 t1 e ds1 (wipeE Γc vs1) with
            | .ok (ys, Γd) => (lcL2 vs g t it1 vs1 g1 t1 e ds (wipeE Γd vs)).bind fun q => .ok (ys ++ q.1, q.2)
            | _ => .bad
          | _ => .bad
        else lcL2 vs g t it1 vs1 g1 t1 e ds (wipeE Γb vs)
      | _ => .bad
    | _ => .bad
def mLc2 (vs : List Nat) (it : M (List D)) (g : GM) (t : M Bool) (it1 : M (List D)) (vs1 : List Nat) (g1 : GM) (t1 : M Bool) (e : M D) : M D :=
  fun Γ => (it Γ).bind fun p => (lcL2 vs g t it1 vs1 g1 t1 e p.1 (wipeE p.2 vs)).bind fun q => if q.1.length ≤ big then .ok (.lst q.1, q.2) else .bad
theorem wipe_in2 {σ : L2.St} {vs vs1 : List Nat} (h : ∀ j ∈ vs1, j ∈ vs) : L2.wipe (L2.wipe σ vs1) vs = L2.wipe σ vs := wipe_eq (js := vs1) ⟨wipe_length _ _, fun k n => wipe_at n⟩ h
theorem snd_lc2 {W : Wd} {vs js vs1 js1 : List Nat} {wi wi1 : TI} {g g1 : TG} {tt tt1 : TT} {te : TE} {mi mi1 : M (List D)} {mg mg1 : GM} {mt mt1 : M Bool} {me : M D} (hi : SndI W E wi mi) (hg : SndG W E0' js g mg) (ht : SndT W E0' tt mt) (hi1 : SndI W E0' wi1 mi1) (hg1 : SndG W E0' js1 g1 mg1) (ht1 : SndT W E0' tt1 mt1)
    (he : SndE W E0' te me) (hj : ∀ j ∈ js, j ∈ vs) (hj1 : ∀ j ∈ js1, j ∈ vs1) (hv : ∀ j ∈ vs1, j ∈ vs) : SndN W E (tLc2 wi g tt wi1 g1 tt1 te vs vs1) (mLc2 vs mi mg mt mi1 vs1 mg1 mt1 me) := fun T σ H Γ hW c Q h => by
  refine hi T σ H Γ hW c _ (h.bind.imp fun ds Γ1 k1 J H1 n1 io => ?_)
  obtain ⟨G, Y, wk, hG, hY⟩ := io
  intro Dl hD
  have nb : ¬ T.Bs Dl := fun q => n1.cfg.bs Dl q hD
  have ns : ¬ T.S Dl := fun q => n1.cfg.dom Dl q hD
  have nh : T.H Dl = none := n1.cfg.entry hD
  have nw := n1.cfg.wipe vs
  cases e0 : lcL2 vs mg mt mi1 vs1 mg1 mt1 me ds (wipeE Γ1 vs) with
  | bad => simp only [e0, R.bind_bad] at k1; exact k1.elim
  | exc cc fs =>
    exfalso
    have ne : ∀ (ds : List D) (Γ : Env), lcL2 vs mg mt mi1 vs1 mg1 mt1 me ds Γ ≠ .exc cc fs := fun ds => by
      induction ds with
      | nil => intro Γ z; cases z
      | cons d ds ih =>
        intro Γ z
        unfold lcL2 at z
        split at z
        · split at z
          · split at z
            · split at z
              · split at z
                · rename_i Γd _
                  cases e : lcL2 vs mg mt mi1 vs1 mg1 mt1 me ds (wipeE Γd vs) with
                  | ok p => rw [e] at z; cases z
                  | exc c2 f2 => rw [e] at z; cases z; exact ih _ e
                  | bad => rw [e] at z; cases z
                · cases z
              · cases z
            · exact ih _ z
          · cases z
        · cases z
    exact ne _ _ e0
  | ok qq =>
    obtain ⟨zs, Γz⟩ := qq
    simp only [e0, R.bind_ok] at k1
    by_cases hb : zs.length ≤ big
    · rw [if_pos hb] at k1
      refine turns wk (H1 := upd H1 Dl (.lst [])) (Qd := Q (.ref Dl)) (fun Nx x H' => g x (L2.wipe σ vs) H' fun σ2 H2 => L2.wipe σ2 vs = L2.wipe σ vs ∧ tt σ2 H2 fun b H3 => if b = true then wi1 σ2 H3 fun J1 H4 => ∃ W1 : Nat → Nat → Hp → Prop, (∃ m, W1 0 m H4) ∧ ∀ j k H, W1 j k H →
          (J1.stop j H ∧ Nx H) ∨ (J1.go j H ∧ ∃ Nx1 : Hp → Prop, (∀ H', Nx1 H' → ∃ k', k' < k ∧ W1 (j + 1) k' H') ∧ ∀ x H', J1.yld j H x H' → g1 x (L2.wipe σ2 vs1) H' fun σ3 H5 => L2.wipe σ3 vs1 = L2.wipe σ2 vs1 ∧ tt1 σ3 H5 fun b H6 =>
            if b = true then te σ3 H6 fun y H7 => ∃ acc, H7 Dl = some (.lst acc) ∧ acc.length < sizeLine ∧ Nx1 (upd H7 Dl (.lst (acc ++ [y]))) else Nx1 H6) else Nx H3)
        (fun i H' => ∃ Γi xs ys rs, Lst T Dl (L2.wipe σ vs) H' Γi xs ys ∧ Fr (Sx T.S σ Γ1) H1 (Sx (Tg T Dl (.lst xs)).S (L2.wipe σ vs) Γi) H' ∧ (∀ (j : Nat), j ∈ vs → ∀ (s : Sl), Γi[j]? = some s → s = Sl.no) ∧ lcL2 vs mg mt mi1 vs1 mg1 mt1 me (ds.drop i) Γi = .ok (rs, Γz) ∧ zs = ys ++ rs) ?_ ?_ ?_ ?_
      · exact ⟨wipeE Γ1 vs, [], [], zs, ⟨nw.cfg.guard hD, .nil⟩, nw.fr.trans (fr_guard hD), fun j hj s e => wipeE_no hj e, e0, rfl⟩
      · rintro i H' _ ⟨Γi, xs, ys, rs, li, fi, _⟩
        exact hG _ _ fi
      · rintro i x H' H3 hi' ⟨Γi, xs, ys, rs, li, fi, wi', rem, ez⟩ y
        obtain ⟨ex, hr⟩ := hY i _ _ x H3 hi' fi li.cfg.sd y
        have n3 := li.cfg.more ex
        rw [List.drop_eq_getElem_cons hi'] at rem
        have r := hr ds[i] (by simp [hi'])
        have hW' : (Tg T Dl (.lst xs)).W = W := hW
        unfold lcL2 at rem
        refine hg (Tg T Dl (.lst xs)) (L2.wipe σ vs) H3 Γi hW' n3.cfg x ds[i] r _ ?_
        cases e1 : mg ds[i] Γi with
        | bad => simp only [e1] at rem; cases rem
        | exc cc fs => simp only [e1] at rem; cases rem
        | ok Γa =>
          simp only [e1] at rem
          refine fun σ2 H2 n2 bt => ?_
          have w2 : L2.wipe σ2 vs = L2.wipe σ vs := by rw [wipe_eq bt hj, wipe_wipe]
          refine ⟨w2, ht (Tg T Dl (.lst xs)) σ2 H2 Γa hW' n2.cfg _ ?_⟩
          cases e2 : mt Γa with
          | bad => simp only [e2] at rem; cases rem
          | exc cc fs => simp only [e2] at rem; cases rem
          | ok pb =>
            obtain ⟨b, Γb⟩ := pb
            simp only [e2] at rem
            refine fun H4 n4 => ?_
            show ite (b = true) _ _
            have nn := n3.trans (n2.trans n4)
            cases b with
            | false =>
              rw [if_neg Bool.false_ne_true] at rem ⊢
              have n5 := nn.trans (nn.cfg.wipe vs)
              rw [w2] at n5
              exact ⟨wipeE Γb vs, xs, ys, rs, li.go n5, fi.trans n5.fr, fun j hj s e => wipeE_no hj e, rem, ez⟩
            | true =>
              rw [if_pos rfl] at rem ⊢
              refine hi1 (Tg T Dl (.lst xs)) σ2 H4 Γb hW' n4.cfg _ ?_
              cases e3 : mi1 Γb with
              | bad => simp only [e3] at rem; cases rem
              | exc cc fs => simp only [e3] at rem; cases rem
              | ok p1 =>
                obtain ⟨ds1, Γc⟩ := p1
                simp only [e3] at rem
                refine fun J1 H5 n5 io1 => ?_
                cases e4 : lcL vs1 mg1 mt1 me ds1 (wipeE Γc vs1) with
                | bad => simp only [e4] at rem; cases rem
                | exc cc fs => simp only [e4] at rem; cases rem
                | ok p2 =>
                  obtain ⟨us, Γd⟩ := p2
                  simp only [e4] at rem
                  cases e5 : lcL2 vs mg mt mi1 vs1 mg1 mt1 me (ds.drop (i + 1)) (wipeE Γd vs) with
                  | bad => simp only [e5, R.bind_bad] at rem; cases rem
                  | exc cc fs => simp only [e5, R.bind_exc] at rem; cases rem
                  | ok p3 =>
                    obtain ⟨q1, q2⟩ := p3
                    simp only [e5, R.bind_ok] at rem
                    cases rem
                    have n6 := nn.trans n5
                    have n7 := n6.cfg.wipe vs1
                    have hb1 : (ys ++ us).length ≤ big := by
                      rw [ez] at hb
                      simp only [List.length_append] at hb ⊢
                      omega
                    refine inner_lc hg1 ht1 he hj1 hW nb (σ := σ2) (S0 := Sx (Tg T Dl (.lst xs)).S σ2 Γc) io1 ((li.go n6).go n7) (fun a q => ?_) e4 hb1 fun H' xs' l8 f8 => ?_
                    · exact (n7.fr.sub a q).elim id fun z => by
                        have k := n7.cfg.sd a q
                        exact absurd z k
                    · have n9 := l8.cfg.wipe vs
                      rw [wipe_in2 hv, w2] at n9
                      refine ⟨wipeE Γd vs, xs', ys ++ us, q1, l8.go n9, ((fi.trans n6.fr).trans f8).trans n9.fr, fun j hj s e => wipeE_no hj e, e5, by rw [ez, List.append_assoc]⟩
      · rintro H' ⟨Γi, xs, ys, rs, li, fi, wi', rem, ez⟩
        rw [List.drop_length] at rem
        cases rem
        rw [List.append_nil] at ez
        subst ez
        have hx := li.here nb
        have cu := li.cfg.unguard nb ns nh
        obtain ⟨cs, sx⟩ := cu.slots (σ' := σ) (by rw [wipe_length]) fun (j : Nat) (s : Sl) e => by
          by_cases hj : j ∈ vs
          · exact .inl (wi' j hj s e)
          · exact .inr (wipe_at hj).symm
        refine k1 Dl (delH H' Dl) H' (n1.trans ⟨cs, ⟨⟨fun a o h n => ?_, fun a q => ?_⟩, fun a h => ?_⟩⟩) delH_same delH_le ⟨xs, hx, li.rep.mv ⟨fun a o h _ => h, fun a q => .inl ?_⟩⟩
        · rw [delH_ne (ne_of_none h hD)]
          exact fi.ext a o h n
        · exact fi.sub a (by
            rcases (sx a).mp q with q | q
            · exact .inl (.inl q)
            · exact .inr q)
        · have z : a ≠ Dl := fun z => h (z ▸ hD)
          rw [delH_ne z]
          exact fi.grow a h
        · rcases q with q | q
          · rcases (sx a).mp q with q | q
            · exact .inl (.inl q)
            · exact .inr q
          · exact .inl (.inr q)
    · rw [if_neg hb] at k1; exact k1.elim
theorem n_lc2 (vs1 : List Nat) {own : List (Str × Nat)} {js js1 : List Nat} {elt tg iter tg1 iter1 : Expr} {ifs ifs1 : List Expr} {scope : Scope} {pos : Pos} {mi mi1 : M (List D)} {mg mg1 : GM} {mt mt1 : M Bool} {me : M D} (hc : X.calm = true) (hN : X.N.Nodup) (hi : PyI X cl E tg iter mi) (ok : BlkOk X.N X.env.scope scope own)
    (hg : ∀ i, PyG (Bk X scope i) cl E0' js tg mg) (ht : ∀ i, PyTs (Bk X scope i) cl E0' ifs mt) (hi1 : ∀ i, PyI (Bk X scope i) cl E0' tg1 iter1 mi1) (hg1 : ∀ i, PyG (Bk X scope i) cl E0' js1 tg1 mg1) (ht1 : ∀ i, PyTs (Bk X scope i) cl E0' ifs1 mt1) (he : ∀ i, PyE (Bk X scope i) cl E0' elt me)
    (hj : ∀ j ∈ js, j ∈ own.map (·.2) := by decide) (hj1 : ∀ j ∈ js1, j ∈ vs1 := by decide) (hv : ∀ j ∈ vs1, j ∈ own.map (·.2) := by decide) (hs : ∀ x, foldedSetIterable iter X.env x = pure x := by intro _; rfl) (hs1 : ∀ env x, foldedSetIterable iter1 env x = pure x := by intro _ _; rfl) :
    PyN X cl E (.ListComp elt [⟨tg, iter, ifs, 0⟩, ⟨tg1, iter1, ifs1, 0⟩] scope pos) (mLc2 (own.map (·.2)) mi mg mt mi1 vs1 mg1 mt1 me) := by
  obtain ⟨wi, i1, i2⟩ := hi.out
  obtain ⟨g, g1, g2⟩ := uniG (Xf := Bk X scope) (W := ⟨X.K, cl⟩) fun i => (hg i).out
  obtain ⟨t, t1, t2⟩ := uniT (Xf := Bk X scope) (W := ⟨X.K, cl⟩) fun i => (ht i).out
  obtain ⟨wj, j1, j2⟩ := uniI (Xf := Bk X scope) (W := ⟨X.K, cl⟩) fun i => (hi1 i).out
  obtain ⟨gg, gg1, gg2⟩ := uniG (Xf := Bk X scope) (W := ⟨X.K, cl⟩) fun i => (hg1 i).out
  obtain ⟨u, u1, u2⟩ := uniT (Xf := Bk X scope) (W := ⟨X.K, cl⟩) fun i => (ht1 i).out
  obtain ⟨te, e1, e2⟩ := uniE (Xf := Bk X scope) (W := ⟨X.K, cl⟩) fun i => (he i).out
  exact ⟨_, pe_lc2 hc hN i1 ok hv (fun s H C c fp => g1 ⟨s, H, C, c, fp⟩) (fun s H C c fp => t1 ⟨s, H, C, c, fp⟩) (fun s H C c fp => j1 ⟨s, H, C, c, fp⟩) (fun s H C c fp => gg1 ⟨s, H, C, c, fp⟩) (fun s H C c fp => u1 ⟨s, H, C, c, fp⟩) (fun s H C c fp => e1 ⟨s, H, C, c, fp⟩) hs hs1, snd_lc2 i2 g2 t2 j2 gg2 u2 e2 hj hj1 hv⟩
theorem s_setLc2 (i : Nat) (vs1 : List Nat) {own : List (Str × Nat)} {js js1 : List Nat} {y : Str} {py spos : Pos} {elt tg iter tg1 iter1 : Expr} {ifs ifs1 : List Expr} {scope : Scope} {pos : Pos} {mi mi1 : M (List D)} {mg mg1 : GM} {mt mt1 : M Bool} {me : M D} (hc : X.calm = true) (hN : X.N.Nodup) (hi : PyI X cl E tg iter mi) (ok : BlkOk X.N X.env.scope scope own)
    (hg : ∀ i, PyG (Bk X scope i) cl E0' js tg mg) (ht : ∀ i, PyTs (Bk X scope i) cl E0' ifs mt) (hi1 : ∀ i, PyI (Bk X scope i) cl E0' tg1 iter1 mi1) (hg1 : ∀ i, PyG (Bk X scope i) cl E0' js1 tg1 mg1) (ht1 : ∀ i, PyTs (Bk X scope i) cl E0' ifs1 mt1) (he : ∀ i, PyE (Bk X scope i) cl E0' elt me)
    (hj : ∀ j ∈ js, j ∈ own.map (·.2) := by decide) (hj1 : ∀ j ∈ js1, j ∈ vs1 := by decide) (hv : ∀ j ∈ vs1, j ∈ own.map (·.2) := by decide) (hy : X.N[i]? = some y := by rfl) (hyl : X.env.scope.names.lookup y = some .local := by rfl)
    (hsw : swapsWith (.ListComp elt [⟨tg, iter, ifs, 0⟩, ⟨tg1, iter1, ifs1, 0⟩] scope pos) (some (.Name y py)) spos.line X.env = pure true := by rfl) (hs : ∀ x, foldedSetIterable iter X.env x = pure x := by intro _; rfl) (hs1 : ∀ env x, foldedSetIterable iter1 env x = pure x := by intro _ _; rfl) :
    PyS X cl E (.Assign [.Name y py] (.ListComp elt [⟨tg, iter, ifs, 0⟩, ⟨tg1, iter1, ifs1, 0⟩] scope pos) spos) (sAsg (mLc2 (own.map (·.2)) mi mg mt mi1 vs1 mg1 mt1 me) (gSet i)) := by
  obtain ⟨wi, i1, i2⟩ := hi.out
  obtain ⟨g, g1, g2⟩ := uniG (Xf := Bk X scope) (W := ⟨X.K, cl⟩) fun i => (hg i).out
  obtain ⟨t, t1, t2⟩ := uniT (Xf := Bk X scope) (W := ⟨X.K, cl⟩) fun i => (ht i).out
  obtain ⟨wj, j1, j2⟩ := uniI (Xf := Bk X scope) (W := ⟨X.K, cl⟩) fun i => (hi1 i).out
  obtain ⟨gg, gg1, gg2⟩ := uniG (Xf := Bk X scope) (W := ⟨X.K, cl⟩) fun i => (hg1 i).out
  obtain ⟨u, u1, u2⟩ := uniT (Xf := Bk X scope) (W := ⟨X.K, cl⟩) fun i => (ht1 i).out
  obtain ⟨te, e1, e2⟩ := uniE (Xf := Bk X scope) (W := ⟨X.K, cl⟩) fun i => (he i).out
  exact ⟨_, ps_setLc2 hc hN hy hyl hsw i1 ok hv (fun s H C c fp => g1 ⟨s, H, C, c, fp⟩) (fun s H C c fp => t1 ⟨s, H, C, c, fp⟩) (fun s H C c fp => j1 ⟨s, H, C, c, fp⟩) (fun s H C c fp => gg1 ⟨s, H, C, c, fp⟩) (fun s H C c fp => u1 ⟨s, H, C, c, fp⟩) (fun s H C c fp => e1 ⟨s, H, C, c, fp⟩) hs hs1, snd_asgName (snd_lc2 i2 g2 t2 j2 gg2 u2 e2 hj hj1 hv).e⟩
end DL
/-! DL15: a caught exception that is tracked; defs that may be called while it is handled. -/
namespace DL
open PySem L2 PyProof.Rows
section
variable {X : Cx} {pins : List (Addr × Obj)} {σ : L2.St} {H : Hp} {s : Shared}
theorem exh_ok {P : Program} {w : World} {H : Hp} {h : Heap} {a C dx : Addr} {oe : Obj} {vs : Array Value} (e : h.get? a = some oe) (h1 : oe.cls = .ref C) (h2 : oe.dict = some dx) (h3 : oe.data = .fields vs) : ObjOk P w H h a (exh a C dx) :=
  ⟨⟨oe, vs, e, h1, h2, h3⟩, ⟨oe, e⟩, fun ha hb ⟨u, us, q, r⟩ k => ⟨u, us, k u q, r⟩⟩
/-- an object that no tracked thing reaches and that is new since the entry may be tracked as an exception -/
theorem Inv.seen {a C dx : Addr} {oe : Obj} {vs : Array Value} (I : Inv X pins σ H s) (e : s.heap.get? a = some oe) (h1 : oe.cls = .ref C) (h2 : oe.dict = some dx) (h3 : oe.data = .fields vs) (na : H a = none) (nL : a ≠ X.env.locals) (n0 : X.s_0.heap.get? a = none) (np : ∀ p ∈ X.pn ++ pins, p.1 ≠ a) :
    Inv X pins σ (upd H a (exh a C dx)) s := by
  have ne0 : ∀ {b : Addr} {o : Obj}, X.s_0.heap.get? b = some o → b ≠ a := fun {b o} q z => by rw [z, n0] at q; cases q
  refine ⟨I.ok, I.os, I.bare, ⟨I.base.keep, I.base.slot, fun b o q n x => ?_, I.base.there, fun b xs q => ?_, fun b o u q => ?_, fun b ps q => ?_⟩, I.loc, I.cell, ?_, fun y c q => ?_, fun p hp => ?_, fun b u q => ?_, I.len⟩
  · rw [upd_ne (ne0 q)]; exact I.base.free b o q n x
  · rw [upd_ne (ne_of_none (I.base.tups b xs q) na)]; exact I.base.tups b xs q
  · rw [upd_ne (ne_of_none (I.base.frzs b o u q) na)]; exact I.base.frzs b o u q
  · obtain ⟨m, z⟩ := I.base.tbls b ps q
    exact ⟨m, by rw [upd_ne (ne_of_none z na)]; exact z⟩
  · rw [upd_ne (Ne.symm nL)]; exact I.free
  · have nc : c ≠ a := fun z => by
      obtain ⟨v, o, ho, hd⟩ := I.cell y c q
      rw [z, e] at ho
      cases ho
      rw [h3] at hd
      cases hd
    rw [upd_ne nc]; exact I.freeC y c q
  · obtain ⟨p1, p2, p3⟩ := I.pin p hp
    exact ⟨p1, by rw [upd_ne (np p hp)]; exact p2, p3⟩
  · by_cases z : b = a
    · rw [z] at q ⊢
      rw [upd_same] at q
      cases q
      exact exh_ok e h1 h2 h3
    · rw [upd_ne z] at q
      exact (I.hok b u q).stay (fun _ _ _ y => y) (fun c y => by rw [upd_ne (ne_of_none y na)]; exact y) fun c xs y => by rw [upd_ne (ne_of_none y na)]; exact y
/-- an except suite whose exception, at a, is tracked -/
abbrev sT (X : Cx) (a : Addr) (pn : List (Addr × Obj)) : Cx := { X with A := X.A.mark (some (.ref a)), calm := false, pn := pn, xe := fun _ _ => False }
theorem Inv.toT (I : Inv X pins σ H s) (a : Addr) : Inv (sT X a (X.pn ++ pins)) [] σ H s :=
  ⟨I.ok.suite a _, I.os, I.bare, I.base, I.loc, I.cell, I.free, I.freeC, fun p hp => I.pin p (by rw [List.append_nil] at hp; exact hp), I.hok, I.len⟩
theorem Inv.ofT {a : Addr} {pn' : List (Addr × Obj)} (I : Inv (sT X a (X.pn ++ pins)) pn' σ H s) (ok : X.Ok) : Inv X pins σ H s :=
  ⟨ok, I.os, I.bare, I.base, I.loc, I.cell, I.free, I.freeC, fun p hp => I.pin p (List.mem_append_left _ hp), I.hok, I.len⟩
/-- what the clause 'except c as n' wishes, the exception tracked in n's slot i -/
def wSeen (K : PySem.W.Frag) (c : Value) (i : Nat) (ts : TS) (Wo : WX) (D : Ends) : WX := fun cls d σ H => ∃ b, PySem.W.exmOne K cls c = some b ∧
  (b = true → ∃ C dx, cls = .ref C ∧ d = some dx ∧ ∀ a, H a = none → ts { nx := fun σ' H' => D.nx (σ'.set i none) H', rt := D.rt, bk := fun σ' H' => D.bk (σ'.set i none) H', ct := fun σ' H' => D.ct (σ'.set i none) H' } (σ.set i (some (.ref a))) (upd H a (exh a C dx))) ∧ (b = false → Wo cls d σ H)
section
variable {x n : Str} {c : Value} {i : Nat} {body suite : List Stmt} {st : Stmt} {np pos pos' : Pos} {tb : WX → TS} {ts : TS} {Wo : WX}
theorem ps_trySeen (hs : X.stack = X.env :: X.outer) (hf : X.env.frame = some X.env.locals) (hex : X.ex = []) (hN : X.N.Nodup) (hi : X.N[i]? = some n) (hln : X.env.kindOf n = some .local) (hc : Names X x c) (tk : Takes X Wo)
    (hb : ∀ (W : WX) (pn : List (Addr × Obj)) (xe : Value → Shared → Prop), Takes (X.tr pn xe) W → PSs (X.tr pn xe) body (tb W)) (hu : ∀ (a : Addr) (pn : List (Addr × Obj)), PSs (sT X a pn) (st :: suite) ts) :
    PS X (.Try body [.ExceptHandler (some (.Name x np)) (some n) (st :: suite) pos'] [] [] pos) (fun D σ H => tb (wSeen X.K c i ts Wo D) D σ H) := by
  refine ⟨fun pins s σ H D I h => ?_⟩
  have ok := I.ok
  have hfr : X.A.frames = some (X.env :: X.outer) := ok.frames.trans (congrArg some hs)
  have hll : Loc X.env.scope n := Or.inl hln
  apply wpAny_Try_except
  refine wpAny_mono ((hb (wSeen X.K c i ts Wo D) (X.pn ++ pins) (fun u s1 => wpAny (model X.prog X.w) X.A (noteFrame u X.env) (fun _ s2 => wpAny (model X.prog X.w) X.A (setFlight u none) (fun _ s3 =>
    wpAny (model X.prog X.w) X.A (handleBy u X.env [.ExceptHandler (some (.Name x np)) (some n) (st :: suite) pos']) (SP X pins D) X.xe s3) X.xe s2) X.xe s1) (fun u s' air => ?_)).run [] s σ H D (I.toTry _) h) (fun fl s1 hsp => ?_) (fun _ _ z => z)
  · obtain ⟨a, G, sI, pins1, σ1, H1, cls, d, rfl, J0, nb, up, sky, na, os, ag, b, hb1, yes, no⟩ := air
    have J : Inv X pins σ1 H1 sI := J0.ofTry ok
    have sky1 : Sky G (X.env :: X.outer) a (Zc cls d) X.env.locals s'.heap := hs ▸ sky
    have noG : G.get? a = none := by
      rcases sky with ⟨_, z, _⟩ | z | z
      · exact z
      · exact z.2.1
      · exact z.2.1
    show wpAny (model X.prog X.w) X.A (noteFrame (.ref a) X.env) _ _ _
    refine Sky.land Zc.steady hfr hf sky1 fun hA flA upA => ?_
    obtain ⟨oA, vA, eA, zA, dA⟩ := flA.there
    have nofr : a ∉ frs (X.env :: X.outer) := fun hm => by
      obtain ⟨_, o', e', hnf⟩ := flA.2.2.1.mem hm
      rw [eA] at e'; cases e'
      exact hnf _ dA
    have nL : a ≠ X.env.locals := fun z => nofr (List.mem_filterMap.mpr ⟨X.env, List.mem_cons_self, by rw [hf, z]⟩)
    have noI : ∀ o, sI.heap.get? a ≠ some o := fun o z => by
      have := nb a o z (by rw [hs]; exact nofr)
      rw [noG] at this; cases this
    have n0 : X.s_0.heap.get? a = none := by
      cases q : X.s_0.heap.get? a with
      | none => rfl
      | some o =>
        obtain ⟨o', z⟩ := J.base.there a o q (by rw [hex]; exact fun z => nomatch z)
        exact absurd z (noI o')
    have npn : ∀ p ∈ X.pn ++ pins, p.1 ≠ a := fun p hp z => noI p.2 (z ▸ (J.pin p hp).1)
    have look : PySem.W.Looks (model X.prog X.w) hA (typeOf (.ref a)) cls := fun A Q E s k q => wpAny_typeOf_ref (k _ _ eA) (by rw [zA.1]; exact q)
    have JA : Inv X pins σ1 H1 { s' with heap := hA } := J.landed nb flA.1 (up.trans upA) os ag
    have meets := PySem.W.exm_one (M := model X.prog X.w) JA.kIn look hb1
    have SA := Inv.toT JA a
    have test : ∀ {Q : Value → Shared → Prop} {E : Value → Shared → Prop}, Q c { s' with heap := hA } → wpAny (model X.prog X.w) (X.A.mark (some (.ref a))) (eval (.Name x np) X.env) Q E { s' with heap := hA } := fun {Q E} q => by
      obtain ⟨hg, hdb, hm | ⟨hm, hv, hnn⟩⟩ := hc
      · exact ld_glob (X := sT X a (X.pn ++ pins)) SA hg hm q hdb
      · exact ld_blt (X := sT X a (X.pn ++ pins)) SA hg hm hv q hnn hdb
    refine wpAny_handleBy_cons (codeAny_handlers_test (test (meets.here ?_))) (by intro q; cases q)
    cases b with
    | true =>
      obtain ⟨C, dx, rfl, rfl, go⟩ := yes rfl
      apply codeAny_handlers_suite_as
      refine HandSPX.lands_againZ flA fun hB flB upB => ?_
      obtain ⟨oB, vB, eB, zB, dB⟩ := flB.there
      have JB : Inv X pins σ1 H1 { s' with heap := hB } := J.landed nb flB.1 ((up.trans upA).trans upB) os ag
      have JC := Inv.seen JB eB zB.1 zB.2 dB na nL n0 npn
      refine store_ok (X := sT X a (X.pn ++ pins)) (v := .ref a) (Inv.toT JC a) hN hi hll rfl (fun sC SC => ?_) (Or.inr hln)
      refine wpAny_mono ((hu a (X.pn ++ pins)).run [] sC _ _ _ SC (go a na)) (fun fl sD hsp => ?_) fun _ _ z => z.elim
      have last : ∀ {σ6 : L2.St} {H6 : Hp} {Q : Shared → Prop}, Inv (sT X a (X.pn ++ pins)) [] σ6 H6 sD → (∀ sE, Inv X pins (σ6.set i none) H6 sE → Q sE) →
          wpAny (model X.prog X.w) X.A (do bindName X.env n .none; unbindBehindTheSuite X.env n pos') (fun _ sE => Q sE) X.xe sD := fun {σ6 H6 Q} S6 hq => gone_ok (Inv.ofT S6 ok) hN hi hln hq
      cases fl with
      | next => obtain ⟨_, _, S6, q6⟩ := hsp; exact last S6 fun _ J7 => ⟨_, _, J7, q6⟩
      | brk => obtain ⟨_, _, S6, q6⟩ := hsp; exact last S6 fun _ J7 => ⟨_, _, J7, q6⟩
      | cont => obtain ⟨_, _, S6, q6⟩ := hsp; exact last S6 fun _ J7 => ⟨_, _, J7, q6⟩
      | ret u => obtain ⟨_, _, _, S6, r6, q6⟩ := hsp; exact last S6 fun _ J7 => ⟨_, _, _, J7, r6, q6⟩
    | false =>
      show wpAny _ X.A (handleBy (.ref a) X.env []) _ _ _
      apply wpAny_handleBy_nil
      obtain ⟨_, _, _, oF, vF, T, oT, _, hoF, _, hdF, h1F, _⟩ := id flA
      unfold PySem.passOn
      apply wpAny_bind
      refine wpAny_field hoF hdF h1F ?_
      rw [if_neg (show ¬ ((Value.ref T == Value.none) = true) from fun z => by simp at z)]
      have out : wpAny (model X.prog X.w) X.A (setFlight (.ref a) X.env.frame) (fun _ s4 => wpAny (model X.prog X.w) X.A (throw (.ref a) : Sem Flow) (SP X pins D) X.xe s4) X.xe { s' with heap := hA } := by
        rw [hf]
        refine HandSPX.setFlight_upZ flA fun hC flC upC => wpAny_throw (tk _ _ ⟨a, G, sI, pins, σ1, H1, cls, d, rfl, J, nb, (up.trans upA).trans upC, Or.inr (Or.inr ?_), na, os, ag, no rfl⟩)
        rw [hs]; exact flC
      first
        | exact wpAny_bind out
        | exact wpAny_bind (wpAny_pure (wpAny_bind out))
  · cases fl with
    | next => obtain ⟨_, _, S6, q⟩ := hsp; exact wpAny_execs_nil ⟨_, _, S6.ofTry ok, q⟩
    | brk => obtain ⟨_, _, S6, q⟩ := hsp; exact ⟨_, _, S6.ofTry ok, q⟩
    | cont => obtain ⟨_, _, S6, q⟩ := hsp; exact ⟨_, _, S6.ofTry ok, q⟩
    | ret u => obtain ⟨_, _, _, S6, r, q⟩ := hsp; exact ⟨_, _, _, S6.ofTry ok, r, q⟩
end
end
/-! ### a caught exception's class and fields -/
/-- what the class C says, so that its instances may be looked at -/
structure ErrC (K : PySem.W.Frag) (C : Addr) : Prop where
  cls : (PySem.W.clsIn K C).isSome = true
  ga : PySem.W.findIn K (.ref C) "__getattribute__" = some (some (.builtin "BaseException.__getattribute__"))
  gg : PySem.W.findIn K (.ref C) "__getattr__" = some none
  exC : PySem.W.subIn K (.ref C) (.type "BaseException") = some true
  hdC : PySem.W.hasDictIn K C = true
  cc : PySem.W.findIn K (.ref C) "__class__" = some (some (.builtin "object.__class__"))
  ob : PySem.W.mroIn K C (.type "object") = some true
/-- .. and what holds of every class -/
structure ErrG (K : PySem.W.Frag) : Prop where
  sp : PySem.W.specialIn K (.builtin "object.__class__") "__get__" = some (some (.builtin "getset_descriptor.__get__"))
  tk : PySem.W.takesIn K (.builtin "object.__class__") = some true
theorem exh_at {P : Program} {w : World} {H : Hp} {h : Heap} {a C dx : Addr} (hok : HOk P w H h) (he : H a = some (exh a C dx)) : ∃ (oe : Obj) (vs : Array Value), h.get? a = some oe ∧ oe.cls = .ref C ∧ oe.dict = some dx ∧ oe.data = .fields vs := by
  have k : ObjOk P w H h a (.ext fun h => ∃ (oe : Obj) (vs : Array Value), h.get? a = some oe ∧ oe.cls = .ref C ∧ oe.dict = some dx ∧ oe.data = .fields vs) := hok a _ he
  exact k.1
theorem err_inst {P : Program} {w : World} {H : Hp} {h : Heap} {a C dx : Addr} {fs : List (Str × V)} (hok : HOk P w H h) (he : H a = some (exh a C dx)) (hd : H dx = some (.xd fs)) : ∃ (oe od : Obj) (mA : Str → Option Value), PySem.W.InstAt h a oe C (some od) ∧ (∀ f, RelO (fs.lookup f) (mA f)) ∧ ∀ f, PySem.W.lookIn f od = some (mA f) := by
  obtain ⟨oe, vs, e, c, d, z⟩ := exh_at hok he
  have hx : ObjOk P w H h dx (.xd fs) := hok dx _ hd
  obtain ⟨mA, hns, hr⟩ := hx
  obtain ⟨od, ho, hl⟩ := lookIn_ns hns
  exact ⟨oe, od, mA, ⟨e, c, by unfold PySem.W.notCls; rw [z] <;> rfl, by rw [d]; exact ho⟩, hr, hl⟩
end DL
/-! DL16: rules for caught exceptions: e.f, isinstance(e, C), try/except, calls within the suite. -/
namespace DL
open PySem L2 PyProof.Rows
variable {cl : Nat → Addr} {E : XK} {X : Cx}
/-! ### e.f -/
def tErrF (K : PySem.W.Frag) (f : Str) (te : TE) : TE := fun σ H Q => te σ H fun x H1 => ∃ (a C dx : Addr) (fs : List (Str × V)) (v : V), x = .ref a ∧ H1 a = some (exh a C dx) ∧ H1 dx = some (.xd fs) ∧ ErrC K C ∧ PySem.W.findIn K (.ref C) f = some none ∧ fs.lookup f = some v ∧ Q v H1
theorem pe_errF {e : Expr} {te : TE} {f : Str} {pos : Pos} (he : PE X e te) (hb : attributeBase e f X.env (eval e X.env) = eval e X.env := by rfl) : PE X (.Attribute e f pos) (tErrF X.K f te) := by
  refine ⟨fun pins s σ H Q I h => attr_of hb (thn (he.run pins s σ H _ I h) fun u s1 ⟨x, H1, I1, rx, a, C, dx, fs, v, ex, ha, hd, T, no, l, q⟩ => ?_)⟩
  subst ex
  obtain rfl : u = Value.ref a := rx
  obtain ⟨oe, od, mA, J, hr, hl⟩ := err_inst I1.hok ha hd
  obtain ⟨z, hz, rz⟩ := RelO.some_of (v := v) (o := mA f) (by rw [← l]; exact hr f)
  exact HandSPX.exc_get I1.kIn J T.ga T.gg T.exC (PySem.W.findObj_own T.hdC no rfl (by rw [hl, hz])) (handed_of rz) ⟨v, H1, I1.tok _, rz, q⟩
def dErrF (cs : List Nat) (f : Str) : D → R D
  | .err c fs => if c ∈ cs then orBad (fs.lookup f) else .bad
  | _ => .bad
theorem lookup_rel {W : Wd} {H : Hp} {S : AS} {f : Str} : ∀ {fv : List (Str × V)} {ds : List (Str × D)} {d : D}, fv.map Prod.fst = ds.map Prod.fst → RepL W H S (fv.map Prod.snd) (ds.map Prod.snd) → ds.lookup f = some d → ∃ v, fv.lookup f = some v ∧ Rep W H S v d
  | [], [], d, _, _, h => by cases h
  | [], _ :: _, d, k, _, h => by cases k
  | _ :: _, [], d, k, _, h => by cases k
  | (g, v) :: fv, (g', e) :: ds, d, k, r, h => by
    have kg : g = g' := (List.cons.inj k).1
    subst kg
    cases r with
    | cons r1 r2 =>
      by_cases q : f = g
      · subst q
        have e1 : List.lookup f ((f, e) :: ds) = some e := by simp [List.lookup]
        rw [e1] at h; cases h
        exact ⟨v, by simp [List.lookup], r1⟩
      · have q' : (f == g) = false := by simpa using q
        have e1 : List.lookup f ((g, e) :: ds) = ds.lookup f := by simp [List.lookup, q']
        rw [e1] at h
        obtain ⟨z, h1, h2⟩ := lookup_rel (List.cons.inj k).2 r2 h
        exact ⟨z, by simp [List.lookup, q']; exact h1, h2⟩
theorem e_errF (cs : List Nat) {e : Expr} {m : M D} {f : Str} {pos : Pos} (hT : ∀ c ∈ cs, ErrC X.K (cl c) ∧ PySem.W.findIn X.K (.ref (cl c)) f = some none) (he : PyE X cl E e m) (hb : attributeBase e f X.env (eval e X.env) = eval e X.env := by rfl) : PyE X cl E (.Attribute e f pos) (mUn (dErrF cs f) m) := by
  obtain ⟨te, h1, h2⟩ := he.out
  refine ⟨_, pe_errF h1 hb, fun T σ H Γ hW c Q h => ?_⟩
  refine h2 T σ H Γ hW c _ (h.bind.imp fun x Γ1 k1 v H1 n1 r1 => ?_)
  obtain ⟨z, hz, k2⟩ := Fin.lift (P := KE T σ H Γ Q) k1 noexc_ne
  have hz := noexc_ok hz
  cases r1 with
  | @err a dx c' fv ds na nd ha hd kk rr =>
    by_cases hc : c' ∈ cs
    · simp only [dErrF, if_pos hc] at hz
      obtain ⟨u, hu, ru⟩ := lookup_rel kk rr (orBad_ok hz)
      obtain ⟨t1, t2⟩ := hT c' hc
      have eW : T.W.cl = cl := by rw [hW]
      rw [eW] at ha
      exact ⟨a, _, dx, fv, u, rfl, ha, hd, t1, t2, hu, k2 u H1 n1 ru⟩
    · simp only [dErrF, if_neg hc] at hz; cases hz
  | _ => cases hz
/-! ### the name of a class; isinstance(e, C) -/
theorem e_cls (c : Nat) {x : Str} {pos : Pos} (hm : X.mg x = some (.ref (cl c))) (hg : Gl X x := by rfl) (hd : (x == ("__debug__" : Str)) = false := by decide) : PyE X cl E (.Name x pos) (ret (.cls c)) :=
  ⟨_, pe_glob hg hm (v := .ref (cl c)) rfl hd, fun T σ H Γ hW cf Q q => q _ H (.refl cf) (by
    have k : Rep T.W H (Sx T.S σ Γ) (.ref (T.W.cl c)) (.cls c) := .cls c
    rw [hW] at k ⊢
    exact k)⟩
def rIsX (K : PySem.W.Frag) : List V → Hp → VK → Prop := fun xs H Q => ∃ (a C D dx : Addr) (fs : List (Str × V)) (b : Bool), xs = [.ref a, .ref D] ∧ H a = some (exh a C dx) ∧ H dx = some (.xd fs) ∧ ErrG K ∧ ErrC K C ∧ PySem.W.kitOne K (.ref C) (.ref D) = some b ∧ Q (.bl b) H
theorem call_isX : CallR X (.builtin "isinstance") (rIsX X.K) := by
  intro pins s σ H xs us Q I r h
  obtain ⟨a, C, D, dx, fs, b, rfl, ha, hd, G, T, hk, q⟩ := h
  cases r with
  | cons r1 rr =>
    cases rr with
    | cons r2 rr =>
      cases rr
      cases r1
      cases r2
      obtain ⟨oe, od, mA, J, _, _⟩ := err_inst I.hok ha hd
      refine PySem.W.kia_one (PySem.W.kitx_exc (od := some od) (ox := oe) T.cls T.ga T.gg T.exC T.cc G.sp G.tk T.ob) I.kIn J hk (fun z => nomatch z) fun tk => ?_
      exact ⟨.bl b, H, I.kept (t' := tk) fun _ _ z => z, rfl, q⟩
/-- tbl: (class of the error, class asked for, the answer) -/
def dIsX (tbl : List (Nat × Nat × Bool)) : List D → R D
  | [.err c _, .cls k] => match tbl.find? fun t => t.1 == c && t.2.1 == k with
    | some t => .ok (.bl t.2.2)
    | none => .bad
  | _ => .bad
theorem b_isX {tbl : List (Nat × Nat × Bool)} (G : ErrG X.K) (hT : ∀ t ∈ tbl, ErrC X.K (cl t.1) ∧ PySem.W.kitOne X.K (.ref (cl t.1)) (.ref (cl t.2.1)) = some t.2.2) {e e2 : Expr} {m : M (List D)} {p pos : Pos} (hm : X.mg "isinstance" = none) (ha : PyA X cl E [e, e2] m) (hg : Gl X "isinstance" := by rfl)
    (he : starEach [e, e2] X.env = (false, eval e X.env) :: starEach [e2] X.env := by rfl) (hpl : (backTo pos (starEach [e2] X.env)).any (·.1) = false := by rfl) : PyE X cl E (.Call (.Name "isinstance" p) [e, e2] [] pos) (mCall (dIsX tbl) m) := by
  obtain ⟨ta, g1, g2⟩ := ha.out
  refine ⟨_, pe_callB call_isX hg hm PyProof.Rows.Boot.«isinstance» g1 (he := he) (hpl := hpl), fun T σ H Γ hW c Q h => ?_⟩
  refine g2 T σ H Γ hW c _ (h.bind.imp fun ds Γ1 k1 vs H1 n1 r1 => ?_)
  obtain ⟨z, hz, k2⟩ := Fin.lift (P := KE T σ H Γ Q) k1 noexc_ne
  have hz := noexc_ok hz
  have two : ∃ x y, ds = [x, y] := by
    match ds, hz with
    | [x, y], _ => exact ⟨x, y, rfl⟩
    | [], hz => cases hz
    | [x], hz => cases x <;> cases hz
    | x :: y :: w :: r, hz => cases x <;> cases y <;> cases hz
  obtain ⟨x, y, rfl⟩ := two
  obtain ⟨v, u, rfl, rx, ry⟩ := r1.two
  have eW : T.W.cl = cl := by rw [hW]
  cases rx with
  | @err a dx c' fv ds na nd ha hd kk rr =>
    cases ry with
    | cls k =>
      simp only [dIsX] at hz
      split at hz
      · rename_i t ht
        cases hz
        have h1 := List.find?_some ht
        simp only [Bool.and_eq_true, beq_iff_eq] at h1
        obtain ⟨t1, t2⟩ := hT t (List.mem_of_find?_eq_some ht)
        rw [h1.1] at t1 t2
        rw [h1.2] at t2
        rw [eW] at ha
        exact ⟨a, _, _, dx, fv, _, by rw [eW], ha, hd, G, t1, t2, k2 _ H1 n1 (.bl _)⟩
      · cases hz
    | _ => cases hz
  | _ => cases hz
/-! ### defs that may be called while an exception is handled -/
structure FnQ (P : Program) (w : World) (K : PySem.W.Frag) (mg : Str → Option Value) (base : Heap) (k : Nat) (f : Addr) (fd : FuncData) (ps : List Str) (sp : Sp) : Prop where
  len : ∀ vs H Q E, sp vs H Q E → vs.length = ps.length
  run : ∀ (A : Around) (outer : List PySem.Env) (s : Shared) (H : Hp) (args : Args) (us : List Value) (vs : List V) (Q : VK) (E : XK), L2H.RoomH k A → Env0 P w K mg base A outer s H → BindsTo s fd args (ps.zip us) → Vals vs us → sp vs H Q E →
    codeAny (model P w) A (.call (.ref f) args) (CR (L2.CX P w) outer P w H s Q E) s
theorem FnQ.ok {P : Program} {w : World} {K : PySem.W.Frag} {mg : Str → Option Value} {base : Heap} {k : Nat} {f : Addr} {fd : FuncData} {ps : List Str} {sp : Sp} (F : FnQ P w K mg base k f fd ps sp) : FnOk P w K mg base (L2.CX P w) k f fd ps sp :=
  ⟨F.len, fun A outer s H args us vs Q E hr => F.run A outer s H args us vs Q E (L2H.roomH_of hr)⟩
theorem FnQ.mono {P : Program} {w : World} {K : PySem.W.Frag} {mg : Str → Option Value} {base : Heap} {j k : Nat} {f : Addr} {fd : FuncData} {ps : List Str} {sp : Sp} (F : FnQ P w K mg base j f fd ps sp) (l : j ≤ k) : FnQ P w K mg base k f fd ps sp :=
  ⟨F.len, fun A outer s H args us vs Q E hr => F.run A outer s H args us vs Q E (hr.mono l)⟩
section
variable {P : Program} {w : World} {K : PySem.W.Frag} {mg : Str → Option Value} {base : Heap}
theorem fnQ_of {x qual : Str} {st : Stmt} {f : Addr} {fd : FuncData} {N ps : List Str} {k : Nat} {sp : Sp} (Fn : Fun K x qual st f fd) (sc : FnScope N ps (defScope st)) (len : ∀ vs H Q E, sp vs H Q E → vs.length = ps.length)
    (hb : ∀ (cdv : Value) (A : Around) (outer : List PySem.Env) (s : Shared) (H : Hp) (vs : List V) (Q : VK) (E : XK) (p : Addr × Obj), L2H.RoomH k (A.deeper (envOfC qual (defScope st) s.heap.objs.size f cdv)) → sp vs H Q E →
      ∃ t, PSs (L2H.cxH (L2.CX P w) P w K mg base N qual (defScope st) f cdv A outer s H E p) (defBody st) t ∧ t { nx := fun _ H' => Q .non H', rt := Q } (L2.start N vs) H) : FnQ P w K mg base (k + 1) f fd ps sp := by
  obtain ⟨oc, od, kV, doc, pm, an, cdv, ct, osl, rfl, lk, hcd⟩ := Fn.ex
  refine ⟨len, fun A outer s H args us vs Q E hr e0 hbd r hsp => ?_⟩
  have hl := len _ _ _ _ hsp
  have hfo := e0.mod.kin _ _ lk
  have kin : K.In s.heap := e0.mod.kin.keeps fun b o e => (e0.bs b o e).1
  have hpin : L2H.PinOk outer H s (f, (⟨oc, od, .func (PySem.W.fnOf x qual (defArgs st) (defBody st) (defScope st) .none kV doc pm an cdv ct), osl⟩ : Obj)) :=
    { get := (e0.bs _ _ hfo).1, free := (e0.bs _ _ hfo).2
      nofs := fun hm => by
        have z := (e0.funs.mem hm).1
        rw [hfo] at z
        cases z
      nocell := fun v z => by
        have z' : Data.func _ = Data.cell v := z
        cases z' }
  have kinds : ∀ y ∈ ps.zip us, (defScope st).names.lookup y.1 = some .local ∨ ((defScope st).names.lookup y.1 = some .cell ∧ ((cellsFrom (s.heap.objs.size + 1) (defScope st).names []).lookup y.1).isSome = true) := fun y hy => by
    rcases sc.par y.1 (List.of_mem_zip hy).1 with q | q
    · exact Or.inl q
    · exact Or.inr ⟨q, PySem.W.cellsFrom_some _ _ _ (.inl q)⟩
  refine codeAny_call_function hr.depth (kin _ _ lk) rfl sc.co sc.gen rfl (PySem.W.codeRec_of kin hcd) (hbd _ _ _ _ ?_)
  refine wpAny_newFunctionEnv_cells sc.kind kinds fun env he s1 z => ?_
  subst he
  refine ⟨(e0.mod.nolimit.keeps fun b o e => (e0.bs b o e).1).keeps z.toInCall.keep, codeAny_func ?_⟩
  obtain ⟨t, ht, hq⟩ := hb cdv A outer s H vs Q E _ (hr.deeper _) hsp
  have I := L2H.inv_startH (CX := L2.CX P w) (qual := qual) (f := f) (cd := cdv) (E := E) sc hpin e0 hl r z
  refine wpAny_mono (ht.run [] s1 (L2.start N vs) H _ I hq) (fun fl s' hs => ?_) fun e s' hs => hs
  cases fl with
  | ret u => obtain ⟨v, _, H', J, rv, q⟩ := hs; exact ⟨v, H', J.os, J.bare, J.base, J.hok, rv, q⟩
  | next => obtain ⟨_, H', J, q⟩ := hs; exact ⟨.non, H', J.os, J.bare, J.base, J.hok, rfl, q⟩
  | brk => obtain ⟨_, _, _, q⟩ := hs; exact q.elim
  | cont => obtain ⟨_, _, _, q⟩ := hs; exact q.elim
/-- THE RULE for a def that may be called while an exception is handled -/
theorem def_okQ {x qual : Str} {st : Stmt} {f : Addr} {fd : FuncData} {N ps : List Str} {k : Nat} {ms : List Bool} {m : SM} (Fn : Fun K x qual st f fd) (sc : FnScope N ps (defScope st)) (hm : ms.length = ps.length)
    (hb : ∀ (cdv : Value) (A : Around) (outer : List PySem.Env) (s : Shared) (H : Hp) (E : XK) (p : Addr × Obj), L2H.RoomH k (A.deeper (envOfC qual (defScope st) s.heap.objs.size f cdv)) → PySs (L2H.cxH (L2.CX P w) P w K mg base N qual (defScope st) f cdv A outer s H E p) cl E (defBody st) m) :
    FnQ P w K mg base (k + 1) f fd ps (callSp ⟨K, cl⟩ ms (runBody N.length ms m)) := by
  have hn : ms.length ≤ N.length := by
    have := congrArg List.length sc.pre
    rw [List.length_take] at this
    omega
  refine fnQ_of Fn sc (fun vs H Q E ⟨S, ds, _, ha, _⟩ => by rw [ha.len.1, hm]) fun cdv A outer s H vs Q E p hr h => ?_
  obtain ⟨t, h1, h2⟩ := (hb cdv A outer s H E p hr).out
  exact ⟨t, h1, body_ok hn h2 h⟩
end
structure FqI (P : Program) (w : World) (K : PySem.W.Frag) (mg : Str → Option Value) (base : Heap) (cl : Nat → Addr) (k : Nat) (x : Str) (ms : List Bool) (F : Fm) : Prop where
  out : ∃ (f : Addr) (fd : FuncData) (ps : List Str), FnQ P w K mg base k f fd ps (callSp ⟨K, cl⟩ ms F) ∧ mg x = some (.ref f) ∧ PySem.W.keepIn K (.ref f) = true ∧ Binds K fd ps []
theorem FqI.toI {P : Program} {w : World} {K : PySem.W.Frag} {mg : Str → Option Value} {base : Heap} {k : Nat} {x : Str} {ms : List Bool} {F : Fm} (h : FqI P w K mg base cl k x ms F) : FnI P w K mg base cl k x ms F := by
  obtain ⟨f, fd, ps, h1, h2⟩ := h.out
  exact ⟨f, fd, ps, h1.ok, h2⟩
theorem pe_callQ {k : Nat} {f : Addr} {fd : FuncData} {ps : List Str} {sp : Sp} {x : Str} {q pos : Pos} {e : Expr} {es : List Expr} {t : TA} (F : FnQ X.prog X.w X.K X.mg X.base k f fd ps sp) (hr : L2H.RoomH k X.A) (hg : Gl X x) (hm : X.mg x = some (.ref f)) (hk : PySem.W.keepIn X.K (.ref f) = true) (hb : Binds X.K fd ps [])
    (hx : Lets X E) (ha : PA X (e :: es) t) (hdb : (x == ("__debug__" : Str)) = false := by decide) (he : starEach (e :: es) X.env = (false, eval e X.env) :: starEach es X.env := by rfl) (hpl : (backTo pos (starEach es X.env)).any (·.1) = false := by rfl) :
    PE X (.Call (.Name x q) (e :: es) [] pos) (tCall sp [] E t) := by
  refine ⟨fun pins s σ H Q I h => wpAny_Call_Name_kw (ld_glob I hg hm ?_ hdb)⟩
  refine PySem.W.callWith_K (h₀ := X.base) I.ok.mod.kin hk (thn (ha.run pos pins s σ H _ I h) fun us s1 hh => ?_) he hpl
  obtain ⟨vs, H1, I1, r, hsp⟩ := hh
  refine ⟨I1.kIn, ?_⟩
  rw [List.append_nil] at hsp
  have b := hb s1 us I1.kIn (by rw [List.append_nil, ← r.length]; exact F.len _ _ _ _ hsp)
  rw [List.append_nil] at b
  refine wpAny_call (codeAny_mono (F.run X.A X.stack s1 H1 ⟨us, []⟩ us vs Q E hr I1.env0 b r hsp) fun rr s' hq => ?_)
  cases rr with
  | error u => exact hx pins σ H1 s1 u s' I1 hq
  | ok fl =>
    cases fl with
    | ret u => exact I1.after hq
    | _ => exact hq.elim
theorem e_callQ {k : Nat} {x : Str} {p pos : Pos} {e : Expr} {es : List Expr} {js : List (Option Nat)} {bs : List Nat} {ms : List Bool} {F : Fm} {m : M (List D)} (Fi : FqI X.prog X.w X.K X.mg X.base cl k x ms F) (hr : L2H.RoomH k X.A) (hx : Lets X E) (ha : PyC X cl E js bs (e :: es) m) (hms : js.map (·.isSome) = ms := by rfl)
    (nt : noTwice js = true := by decide) (hg : Gl X x := by rfl) (hdb : (x == ("__debug__" : Str)) = false := by decide) (he : starEach (e :: es) X.env = (false, eval e X.env) :: starEach es X.env := by rfl) (hpl : (backTo pos (starEach es X.env)).any (·.1) = false := by rfl) :
    PyE X cl E (.Call (.Name x p) (e :: es) [] pos) (mCallF F js bs m) := by
  obtain ⟨f, fd, ps, h1, h2, h3, h4⟩ := Fi.out
  obtain ⟨ta, g1, g2⟩ := ha.out
  subst hms
  exact ⟨_, pe_callQ h1 hr hg h2 h3 h4 hx g1 hdb he hpl, snd_callF nt g2⟩
end DL
/-! DL17: try: .. except C as e: .. -/
namespace DL
open PySem L2 PyProof.Rows
variable {cl : Nat → Addr} {E : XK} {X : Cx}
inductive Tout where
  | nx (Γ : Env)
  | rt (d : D) (Γ : Env)
  | exc (c : Nat) (fs : List (Str × D)) (Γ : Env)
  | bad
abbrev TM := Env → Tout
def FinTb (T : Act) (W : WX) (σ : L2.St) (H : Hp) (Γ : Env) (D : Ends) : Tout → Prop
  | .nx Γ' => ∀ σ' H', Nx T σ H Γ σ' H' Γ' → D.nx σ' H'
  | .rt d Γ' => ∀ v σ' H', Nx T σ H Γ σ' H' Γ' → Rep T.W H' (Sx T.S σ' Γ') v d → D.rt v H'
  | .exc c fs Γ' => ∀ σ' H' dx fv, Nx T σ H Γ σ' H' Γ' → ¬ Sx T.S σ' Γ' dx → H' dx = some (.xd fv) → fv.map Prod.fst = fs.map Prod.fst → RepL T.W H' (Sx T.S σ' Γ') (fv.map Prod.snd) (fs.map Prod.snd) → W (.ref (T.W.cl c)) (some dx) σ' H'
  | .bad => False
theorem FinTb.from {T : Act} {W : WX} {σ σ1 : L2.St} {H H1 : Hp} {Γ Γ1 : Env} {D : Ends} {o : Tout} (h : FinTb T W σ H Γ D o) (n : Nx T σ H Γ σ1 H1 Γ1) : FinTb T W σ1 H1 Γ1 D o := by
  cases o with
  | nx Γ' => exact fun σ' H' m => h σ' H' (n.trans m)
  | rt d Γ' => exact fun v σ' H' m => h v σ' H' (n.trans m)
  | exc c fs Γ' => exact fun σ' H' dx fv m => h σ' H' dx fv (n.trans m)
  | bad => exact h
def SndTb (Wd0 : Wd) (W : WX) (t : TS) (m : TM) : Prop := ∀ T σ H Γ, T.W = Wd0 → Cfg T σ H Γ → ∀ D : Ends, FinTb T W σ H Γ D (m Γ) → t D σ H
structure PyTb (X : Cx) (cl : Nat → Addr) (b : List Stmt) (m : TM) : Prop where
  out : ∀ W : WX, Takes X W → ∃ t, PSs X b t ∧ SndTb ⟨X.K, cl⟩ W t m
structure PyT1 (X : Cx) (cl : Nat → Addr) (b : Stmt) (m : TM) : Prop where
  out : ∀ W : WX, Takes X W → ∃ t, PS X b t ∧ SndTb ⟨X.K, cl⟩ W t m
theorem tb_one {s : Stmt} {m : TM} (h : PyT1 X cl s m) : PyTb X cl [s] m := ⟨fun W tk => by
  obtain ⟨t, h1, h2⟩ := h.out W tk
  exact ⟨t, pss_one h1, h2⟩⟩
theorem tb_nil : PyTb X cl [] (fun Γ => .nx Γ) := ⟨fun W tk => ⟨_, pss_nil, fun T σ H Γ hW c D h => h σ H (.refl c)⟩⟩
def tbSeq (a b : TM) : TM := fun Γ => match a Γ with
  | .nx Γ' => b Γ'
  | o => o
theorem tb_cons {s : Stmt} {r : List Stmt} {a b : TM} (h : PyT1 X cl s a) (g : PyTb X cl r b) : PyTb X cl (s :: r) (tbSeq a b) := ⟨fun W tk => by
  obtain ⟨t, h1, h2⟩ := h.out W tk
  obtain ⟨u, g1, g2⟩ := g.out W tk
  refine ⟨_, pss_cons h1 g1, fun T σ H Γ hW c D k => ?_⟩
  refine h2 T σ H Γ hW c _ ?_
  unfold tbSeq at k
  cases e : a Γ with
  | nx Γ' =>
    simp only [e] at k
    exact fun σ' H' n => g2 T σ' H' Γ' hW n.cfg D (k.from n)
  | rt d Γ' => simp only [e] at k; exact k
  | exc c fs Γ' => simp only [e] at k; exact k
  | bad => simp only [e] at k; exact k⟩
/-- a statement that raises nothing -/
def tbS (m : SM) : TM := fun Γ => match m Γ with
  | .nx Γ' => .nx Γ'
  | .rt d Γ' => .rt d Γ'
  | _ => .bad
theorem tb_s {s : Stmt} {m : SM} (h : PyS X cl E0' s m) : PyT1 X cl s (tbS m) := ⟨fun W tk => by
  obtain ⟨t, h1, h2⟩ := h.out
  refine ⟨t, h1, fun T σ H Γ hW c D k => h2 T σ H Γ hW c D ?_⟩
  unfold tbS at k
  cases e : m Γ with
  | nx Γ' => simp only [e] at k; exact k
  | rt d Γ' => simp only [e] at k; exact k
  | _ => simp only [e] at k; exact k.elim⟩
def tbIf (t : M Bool) (a b : TM) : TM := fun Γ => match t Γ with
  | .ok (k, Γ') => if k = true then a Γ' else b Γ'
  | _ => .bad
theorem tb_if {c : Expr} {a b : List Stmt} {t : M Bool} {m n : TM} {pos : Pos} (hc : PyT X cl E0' c t) (h : PyTb X cl a m) (g : PyTb X cl b n) : PyT1 X cl (.If c a b pos) (tbIf t m n) := ⟨fun W tk => by
  obtain ⟨tc, c1, c2⟩ := hc.out
  obtain ⟨ta, a1, a2⟩ := h.out W tk
  obtain ⟨tb, b1, b2⟩ := g.out W tk
  refine ⟨_, ps_if c1 a1 b1, fun T σ H Γ hW c D k => ?_⟩
  refine c2 T σ H Γ hW c _ ?_
  unfold tbIf at k
  cases e : t Γ with
  | ok p =>
    obtain ⟨q, Γ1⟩ := p
    simp only [e] at k
    intro H1 n
    show ite (q = true) _ _
    cases q with
    | true => rw [if_pos rfl] at k ⊢; exact a2 T σ H1 Γ1 hW n.cfg D (k.from n)
    | false => rw [if_neg Bool.false_ne_true] at k ⊢; exact b2 T σ H1 Γ1 hW n.cfg D (k.from n)
  | _ => simp only [e] at k; exact k.elim⟩
theorem argsR_vals {W : Wd} {H : Hp} {S : AS} : ∀ {vs : List V} {ds : List D} {ms : List Bool}, RepL W H S vs ds → ms.length = ds.length → (∀ m ∈ ms, m = false) → ArgsR W H S ms vs ds
  | [], [], [], _, _, _ => trivial
  | v :: vs, d :: ds, [], _, h, _ => by cases h
  | [], [], _ :: _, _, h, _ => by cases h
  | v :: vs, d :: ds, m :: ms, .cons r rs, h, k => by
    have e : m = false := k m List.mem_cons_self
    subst e
    exact ⟨r, argsR_vals rs (by simpa using h) fun x hx => k x (List.mem_cons_of_mem _ hx)⟩
theorem nown {ms : List Bool} (k : ∀ m ∈ ms, m = false) (vs : List V) (i : Nat) (a : Addr) : ¬ OwnI ms vs i a := fun h => by
  have := k true (List.mem_of_getElem? h.1)
  cases this
/-- a def called by values within a try -/
def callT (F : Fm) (n : Nat) (a : M (List D)) (kd : D → Env → Tout) : TM := fun Γ => match a Γ with
  | .ok (ds, Γ1) => if ds.length = n then (match F ds with
      | .ok r => kd r.d Γ1
      | .exc c fs => .exc c fs Γ1
      | .bad => .bad) else .bad
  | _ => .bad
theorem snd_callT {W0 : Wd} {W : WX} {ms : List Bool} {F : Fm} {ta : TA} {m : M (List D)} (hms : ∀ b ∈ ms, b = false) (ha : SndA W0 E0' ta m) {T : Act} {σ : L2.St} {H : Hp} {Γ : Env} (hW : T.W = W0) (c : Cfg T σ H Γ) {D : Ends} {kd : DL.D → Env → Tout} {Q : VK}
    (h : FinTb T W σ H Γ D (callT F ms.length m kd Γ)) (hk : ∀ d Γ1 v H1, Nx T σ H Γ σ H1 Γ1 → Rep T.W H1 (Sx T.S σ Γ1) v d → FinTb T W σ H Γ D (kd d Γ1) → Q v H1) : tCallS (callSp W0 ms F) (WE W) ta σ H Q := by
  refine ha T σ H Γ hW c _ ?_
  unfold callT at h
  cases e : m Γ with
  | bad => simp only [e] at h; exact h.elim
  | exc cc fs => simp only [e] at h; exact h.elim
  | ok p =>
    obtain ⟨ds, Γ1⟩ := p
    simp only [e] at h
    intro vs H1 n1 r1
    by_cases hl : ds.length = ms.length
    · rw [if_pos hl] at h
      subst hW
      refine ⟨Sx T.S σ Γ1, ds, n1.cfg.sd, argsR_vals r1 hl.symm hms, fun i j a q => absurd q (nown hms _ _ _), ?_⟩
      have kp : ∀ {H' : Hp}, (∀ a o, H1 a = some o → (∀ i, ¬ OwnI ms vs i a) → H' a = some o) → ∀ a o, H1 a = some o → H' a = some o := fun {H'} k a o q => k a o q fun i => nown hms _ _ _
      cases e2 : F ds with
      | bad => simp only [e2] at h; exact h.elim
      | exc cc fs =>
        simp only [e2] at h
        intro dx H' fv k hd hx hk' hr
        have n2 := n1.cfg.more (kp k)
        exact h σ H' dx fv (n1.trans n2) (fun q => n1.cfg.fresh hd q) hx hk' hr
      | ok r =>
        simp only [e2] at h
        show ite (r.fr = true) _ _
        by_cases hf : r.fr = true
        · rw [if_pos hf]
          intro p Hm H' k _ hp ex ow
          have n2 := n1.cfg.more (kp k)
          have n3 := n2.cfg.more ex
          exact hk r.d Γ1 _ H' ((n1.trans n2).trans n3) (ow.rep (fun a q => .inl q) (n2.cfg.fresh hp)) h
        · rw [if_neg hf]
          intro v H' k _ rv
          exact hk r.d Γ1 v H' (n1.trans (n1.cfg.more (kp k))) rv h
    · rw [if_neg hl] at h; exact h.elim
section
variable {k : Nat} {x : Str} {p pos pos2 : Pos} {e : Expr} {es : List Expr} {ms : List Bool} {F : Fm} {m : M (List D)}
/-- name = f(..) -/
theorem tb_asg (i : Nat) {y : Str} {py : Pos} (hN : X.N.Nodup) (Fi : FnI X.prog X.w X.K X.mg X.base cl k x ms F) (hr : Room k X.A) (ha : PyA X cl E0' (e :: es) m) (hms : ∀ b ∈ ms, b = false := by decide) (hi : X.N[i]? = some y := by rfl) (hx : Loc X.env.scope y := by first | exact Or.inl rfl | exact Or.inr rfl)
    (hs : swapsWith (.Call (.Name x p) (e :: es) [] pos) (some (.Name y py)) pos2.line X.env = pure false := by rfl) (hf : X.fn y = true ∨ X.env.scope.names.lookup y = some .local := by first | exact .inl rfl | exact .inr rfl) (hg : Gl X x := by rfl)
    (hdb : (x == ("__debug__" : Str)) = false := by decide) (he : starEach (e :: es) X.env = (false, eval e X.env) :: starEach es X.env := by rfl) (hpl : (backTo pos (starEach es X.env)).any (·.1) = false := by rfl) :
    PyT1 X cl (.Assign [.Name y py] (.Call (.Name x p) (e :: es) [] pos) pos2) (callT F ms.length m fun d Γ => if i < Γ.length then .nx (Γ.set i (.sh d)) else .bad) := ⟨fun W tk => by
  obtain ⟨f, fd, ps, h1, h2, h3, h4⟩ := Fi.out
  obtain ⟨ta, g1, g2⟩ := ha.out
  refine ⟨_, ps_set hN hi hx (pe_callS h1 hr hg h2 h3 h4 (fun σ => passAt tk σ) g1 hdb he hpl) hs hf, fun T σ H Γ hW c D h => ?_⟩
  refine snd_callT hms g2 hW c h fun d Γ1 v H1 n1 r1 k1 => ?_
  by_cases q : i < Γ1.length
  · rw [if_pos q] at k1
    exact k1 _ H1 (n1.trans (n1.cfg.put q r1))
  · rw [if_neg q] at k1; exact k1.elim⟩
/-- f(..) -/
theorem tb_expr (Fi : FnI X.prog X.w X.K X.mg X.base cl k x ms F) (hr : Room k X.A) (ha : PyA X cl E0' (e :: es) m) (hms : ∀ b ∈ ms, b = false := by decide) (hs : swapsWith (.Call (.Name x p) (e :: es) [] pos) none pos2.line X.env = pure false := by rfl) (hg : Gl X x := by rfl)
    (hdb : (x == ("__debug__" : Str)) = false := by decide) (he : starEach (e :: es) X.env = (false, eval e X.env) :: starEach es X.env := by rfl) (hpl : (backTo pos (starEach es X.env)).any (·.1) = false := by rfl) :
    PyT1 X cl (.Expr (.Call (.Name x p) (e :: es) [] pos) pos2) (callT F ms.length m fun _ Γ => .nx Γ) := ⟨fun W tk => by
  obtain ⟨f, fd, ps, h1, h2, h3, h4⟩ := Fi.out
  obtain ⟨ta, g1, g2⟩ := ha.out
  refine ⟨_, ps_expr (pe_callS h1 hr hg h2 h3 h4 (fun σ => passAt tk σ) g1 hdb he hpl) hs, fun T σ H Γ hW c D h => ?_⟩
  exact snd_callT hms g2 hW c h fun d Γ1 v H1 n1 r1 k1 => k1 _ H1 n1⟩
/-- return f(..) -/
theorem tb_ret (Fi : FnI X.prog X.w X.K X.mg X.base cl k x ms F) (hr : Room k X.A) (ha : PyA X cl E0' (e :: es) m) (hms : ∀ b ∈ ms, b = false := by decide) (hg : Gl X x := by rfl)
    (hdb : (x == ("__debug__" : Str)) = false := by decide) (he : starEach (e :: es) X.env = (false, eval e X.env) :: starEach es X.env := by rfl) (hpl : (backTo pos (starEach es X.env)).any (·.1) = false := by rfl) :
    PyT1 X cl (.Return (some (.Call (.Name x p) (e :: es) [] pos)) pos2) (callT F ms.length m fun d Γ => .rt d Γ) := ⟨fun W tk => by
  obtain ⟨f, fd, ps, h1, h2, h3, h4⟩ := Fi.out
  obtain ⟨ta, g1, g2⟩ := ha.out
  refine ⟨_, ps_ret (pe_callS h1 hr hg h2 h3 h4 (fun σ => passAt tk σ) g1 hdb he hpl), fun T σ H Γ hW c D h => ?_⟩
  exact snd_callT hms g2 hW c h fun d Γ1 v H1 n1 r1 k1 => k1 v σ H1 n1 r1⟩
end
/-- a cell for contexts that differ in what no mirror looks at -/
theorem uniSs {ι : Type} {Xf : ι → Cx} {W : Wd} {E : XK} {b : List Stmt} {m : SM} (h : ∀ i, ∃ t, PSs (Xf i) b t ∧ SndS W E t m) : ∃ t, (∀ i, PSs (Xf i) b t) ∧ SndS W E t m :=
  ⟨fun D σ H => ∀ i, Classical.choose (h i) D σ H, fun i => ⟨fun pins s σ H D I k => (Classical.choose_spec (h i)).1.run pins s σ H D I (k i)⟩, fun T σ H Γ hW c D f i => (Classical.choose_spec (h i)).2 T σ H Γ hW c D f⟩
theorem uniTb {ι : Type} {Xf : ι → Cx} {W0 : Wd} {W : WX} {b : List Stmt} {m : TM} (h : ∀ i, ∃ t, PSs (Xf i) b t ∧ SndTb W0 W t m) : ∃ t, (∀ i, PSs (Xf i) b t) ∧ SndTb W0 W t m :=
  ⟨fun D σ H => ∀ i, Classical.choose (h i) D σ H, fun i => ⟨fun pins s σ H D I k => (Classical.choose_spec (h i)).1.run pins s σ H D I (k i)⟩, fun T σ H Γ hW c D f i => (Classical.choose_spec (h i)).2 T σ H Γ hW c D f⟩
/-- tbl: the classes of exceptions and whether the clause takes them -/
def sTry (i : Nat) (tbl : List (Nat × Bool)) (b : TM) (u : SM) : SM := fun Γ => match b Γ with
  | .nx Γ' => .nx Γ'
  | .rt d Γ' => .rt d Γ'
  | .exc c fs Γ' => match tbl.lookup c with
    | some true => if i < Γ'.length then (match u (Γ'.set i (.sh (.err c fs))) with
        | .nx Γ2 => .nx (Γ2.set i .no)
        | .rt d Γ2 => .rt d Γ2
        | _ => .bad) else .bad
    | _ => .bad
  | .bad => .bad
theorem s_try (i : Nat) {tbl : List (Nat × Bool)} {x n : Str} {hc : Value} {body suite : List Stmt} {st : Stmt} {np pos pos' : Pos} {b : TM} {u : SM} (hs : X.stack = X.env :: X.outer) (hf : X.env.frame = some X.env.locals) (hex : X.ex = []) (hN : X.N.Nodup) (tk : Takes X fun cls d _ H => E cls d H) (hn : Names X x hc)
    (ht : ∀ c b, tbl.lookup c = some b → PySem.W.exmOne X.K (.ref (cl c)) hc = some b) (hb : ∀ (pn : List (Addr × Obj)) (xe : Value → Shared → Prop), PyTb (X.tr pn xe) cl body b) (hu : ∀ (a : Addr) (pn : List (Addr × Obj)), PySs (sT X a pn) cl E0' (st :: suite) u)
    (hi : X.N[i]? = some n := by rfl) (hln : X.env.kindOf n = some .local := by rfl) :
    PyS X cl E (.Try body [.ExceptHandler (some (.Name x np)) (some n) (st :: suite) pos'] [] [] pos) (sTry i tbl b u) := by
  obtain ⟨ts, s1, s2⟩ := uniSs (Xf := fun i : Addr × List (Addr × Obj) => sT X i.1 i.2) (W := ⟨X.K, cl⟩) (E := E0') (b := st :: suite) (m := u) fun i => (hu i.1 i.2).out
  have hbu : ∀ W : WX, ∃ t, (∀ i : { q : List (Addr × Obj) × (Value → Shared → Prop) // Takes (X.tr q.1 q.2) W }, PSs (X.tr i.1.1 i.1.2) body t) ∧ SndTb ⟨X.K, cl⟩ W t b := fun W =>
    uniTb (Xf := fun i : { q : List (Addr × Obj) × (Value → Shared → Prop) // Takes (X.tr q.1 q.2) W } => X.tr i.1.1 i.1.2) fun i => (hb i.1.1 i.1.2).out W i.2
  refine ⟨_, ps_trySeen (tb := fun W => Classical.choose (hbu W)) (ts := ts) hs hf hex hN hi hln hn tk (fun W pn xe t => (Classical.choose_spec (hbu W)).1 ⟨(pn, xe), t⟩) fun a pn => s1 (a, pn), fun T σ H Γ hW c D h => ?_⟩
  refine (Classical.choose_spec (hbu _)).2 T σ H Γ hW c D ?_
  unfold sTry at h
  cases e : b Γ with
  | bad => simp only [e] at h; exact h.elim
  | nx Γ' => simp only [e] at h; exact h
  | rt d Γ' => simp only [e] at h; exact h
  | exc cc fs Γ' =>
    simp only [e] at h
    intro σ' H' dx fv n1 hdx hd hk hr
    have eW : T.W.cl = cl := by rw [hW]
    cases et : tbl.lookup cc with
    | none => simp only [et] at h; exact h.elim
    | some q =>
      simp only [et] at h
      cases q with
      | false => exact h.elim
      | true =>
        simp only at h
        refine ⟨true, by rw [eW]; exact ht cc true et, fun _ => ⟨_, dx, rfl, rfl, fun a ha => ?_⟩, fun z => by cases z⟩
        by_cases hl : i < Γ'.length
        · rw [if_pos hl] at h
          have n2 := n1.cfg.more (upd_more ha (o := exh a (T.W.cl cc) dx))
          have ne : dx ≠ a := fun z => by rw [z, ha] at hd; cases hd
          have r : Rep T.W (upd H' a (exh a (T.W.cl cc) dx)) (Sx T.S σ' Γ') (.ref a) (.err cc fs) :=
            .err (n1.cfg.fresh ha) hdx upd_same (by rw [upd_ne ne]; exact hd) hk (hr.move n2.fr)
          have n3 := n2.trans (n2.cfg.put hl r)
          refine s2 T _ _ _ hW n3.cfg _ ?_
          cases e2 : u (Γ'.set i (.sh (.err cc fs))) with
          | nx Γ2 =>
            simp only [e2] at h
            exact fun σ2 H2 n4 => h _ H2 (((n1.trans n3).trans n4).trans n4.cfg.drop)
          | rt d Γ2 =>
            simp only [e2] at h
            exact fun v σ2 H2 n4 rv => h v σ2 H2 ((n1.trans n3).trans n4) rv
          | _ => simp only [e2] at h; exact h.elim
        · rw [if_neg hl] at h; exact h.elim
end DL
/-! DL18: enumerate(x), x a list or a tuple. -/
namespace DL
open PySem L2 PyProof.Rows
/-- what is made of a tuple -/
theorem enumT_new (t : Addr) (items : Array Value) :
    Meets (Builtin.«enumerate.__new__» ⟨[.type "enumerate", .ref t], []⟩) (fun _ R s => s.heap.IsTuple t items ∧ R (.ok (.ret (.ref (s.heap.push { cls := .type "tuple_iterator", data := .fields #[.ref t, .int 0 0] }).objs.size)))
      { s with heap := (s.heap.push { cls := .type "tuple_iterator", data := .fields #[.ref t, .int 0 0] }).push { cls := .type "enumerate", data := .fields #[.none, .bool false, .ref s.heap.objs.size, rawInt 0, .none, .none] } }) :=
  .of_wp fun P w A R s h => by
    obtain ⟨hp, g, d, tk, os⟩ := s
    obtain ⟨ht, h⟩ := h
    have hsub := sub_enumerate
    have q1 : ∀ {A' : Around} {E : Value → Shared → Prop} {Q : Value → Shared → Prop}, Q (.ref hp.objs.size) ⟨hp.push { cls := .type "tuple_iterator", data := .fields #[.ref t, .int 0 0] }, g, d, tk, os⟩ → wpAny (model P w) A' (pyIter (.ref t)) Q E ⟨hp, g, d, tk, os⟩ :=
      fun q => wpAny_pyIter_tuple ht q
    wp_walk using q1
    refine wpAny_stack_any fun u => wpAny_pure ?_
    split
    · rename_i c _ _ _ _ _
      cases (c == Value.type "enumerate") <;> (wp_walk using q1; exact ⟨_, rfl, h⟩)
    · wp_walk using q1; exact ⟨_, rfl, h⟩
theorem call_enumT {P : Program} {w : World} {A : Around} {E : Value → Shared → Prop} {s : Shared} {t : Addr} {items : Array Value} {Q : Value → Shared → Prop} (ht : s.heap.IsTuple t items)
    (h : ∀ h', IsEnum h' (s.heap.objs.size + 1) s.heap.objs.size 0 .none → h'.IsTupleIter s.heap.objs.size t 0 → (∀ b o, s.heap.get? b = some o → h'.get? b = some o) → Q (.ref (s.heap.objs.size + 1)) { s with heap := h' }) : wpAny (model P w) A (call (.type "enumerate") [.ref t]) Q E s := by
  refine callType_new F.called_enumerate (by decide) (F.typeCall_enumerate_1 _) (F.newCall_enumerate_1 _) (fun o => F.args_object_init_2 o _) F.entry_enumerate_new (enumT_new t items) ⟨ht, ?_⟩
  have hz : (s.heap.push { cls := .type "tuple_iterator", data := .fields #[.ref t, .int 0 0] }).objs.size = s.heap.objs.size + 1 := Heap.size_push ..
  have he : IsEnum ((s.heap.push { cls := .type "tuple_iterator", data := .fields #[.ref t, .int 0 0] }).push { cls := .type "enumerate", data := .fields #[.none, .bool false, .ref s.heap.objs.size, rawInt 0, .none, .none] }) (s.heap.objs.size + 1) s.heap.objs.size 0 .none := by
    have k := Heap.get?_push_size (s.heap.push { cls := .type "tuple_iterator", data := .fields #[.ref t, .int 0 0] }) (o := { cls := .type "enumerate", data := .fields #[.none, .bool false, .ref s.heap.objs.size, rawInt 0, .none, .none] }) rfl
    rw [hz] at k
    exact k
  show _ ∧ _
  rw [hz]
  exact ⟨⟨_, he, rfl⟩, h _ he ⟨_, Heap.get?_push_of_some _ (Heap.get?_push_size _ rfl), rfl, rfl⟩ fun b o e => Heap.get?_push_of_some _ (Heap.get?_push_of_some _ e)⟩
/-- the tuple at a, each item in a new pair -/
def IteT (K : PySem.W.Frag) (a : Addr) : It :=
  ⟨fun i H => ∃ (xs : List V) (x : V), SqT K H a xs ∧ xs[i]? = some x, fun i H v H' => ∃ T x, v = .ref T ∧ H T = none ∧ H' = upd H T (.tup [.int (i : Nat), x]) ∧ ∀ xs, SqT K H a xs → xs[i]? = some x, fun i H => ∃ xs : List V, SqT K H a xs ∧ xs.length ≤ i⟩
theorem turn_enumT {P : Program} {w : World} {K : PySem.W.Frag} {elts : List Expr} {kk : Nat} {tpos : Pos} (a e it : Addr) :
    Turn P w K (.Tuple elts kk tpos) (IteT K a) [e, it] e (fun i h => (∃ old, IsEnum h e it ((i : Nat) : Int) old) ∧ h.IsTupleIter it a i ∧ e ≠ it ∧ a ≠ it ∧ e ≠ a) where
  mem := List.mem_cons_self
  obj := fun i h st b hb => by
    obtain ⟨⟨old, he⟩, ⟨o, ho, hc, hd⟩, _⟩ := st
    have e' : b = e ∨ b = it := by simpa using hb
    rcases e' with z | z
    · subst z; exact ⟨_, he, fun v q => nomatch q⟩
    · subst z; exact ⟨o, ho, fun v q => by rw [hd] at q; cases q⟩
  keep := fun i h h' st k => by
    obtain ⟨⟨old, he⟩, hi, hne⟩ := st
    exact ⟨⟨old, k e List.mem_cons_self _ he⟩, hi.at fun o q => k it (by simp) o q, hne⟩
  item := by
    intro X hP hw hK hc i pins s σ H E I hf st hg
    subst hP hw hK
    obtain ⟨⟨old, he⟩, hit, hne, hai, hea⟩ := st
    obtain ⟨xs, x, hq, hx⟩ := hg
    obtain ⟨its, rv, pt, hz⟩ := I.tuple hq
    have pt : s.heap.IsTuple a its.toArray := pt
    obtain ⟨u, hu, ru⟩ := rv.get hx
    have hel : e < s.heap.objs.size := Heap.lt_size he
    have hil : it < s.heap.objs.size := by obtain ⟨_, q, _⟩ := hit; exact Heap.lt_size q
    have hin : i < its.toArray.size := by
      have := (List.getElem?_eq_some_iff.mp hu).1
      simpa using this
    refine wpAny_pyNext_enum_itemD (Draws.tuple (prog := X.prog) (w := X.w) (A := X.A.in1) (I.ok.hd hc) it a hai its.toArray) he ⟨hit, pt⟩ hin hne (by simp; exact ⟨hne, hea⟩) fun y h' tk hP ho st' hT hsz hk => ?_
    have eu : y = u := by
      have hP : its.toArray[i]? = some y := hP
      rw [List.getElem?_toArray, hu] at hP
      cases hP
      rfl
    subst eu
    refine ⟨_, rfl, wpAny_letOwnedTupleGo_enum (s := { s with heap := h', toks := tk + 1 }) ho fun h2 he2 sb => ?_⟩
    have hT2 : h2.get? s.heap.objs.size = some { cls := .type "tuple", data := .seq #[.int i tk, y] } := (sb.2 _ (Nat.ne_of_gt hel)).trans hT
    have new : ObjOk X.prog X.w (upd H s.heap.objs.size (.tup [.int (i : Nat), x])) h2 s.heap.objs.size (.tup [.int (i : Nat), x]) :=
      ⟨by show 2 ≤ sizeLine; decide, [.int i tk, y], .cons ⟨_, rfl⟩ (.cons ru .nil), ⟨_, hT2, rfl, _, rfl⟩⟩
    have I2 : Inv X pins σ (upd H s.heap.objs.size (.tup [.int (i : Nat), x])) { s with heap := h2, toks := tk + 1 } :=
      I.turnedNew (ch := [e, it]) (fun b ob hb q => (sb.2 b (fun z => hb (by simp [z]))).trans (hk b ob (fun z => hb (by simp [z])) (fun z => hb (by simp [z])) q)) hf (Nat.le_refl _) new
    refine ⟨.ref s.heap.objs.size, _, I2, rfl, ⟨_, x, rfl, I.hok.fresh (Nat.le_refl _), rfl, fun ys hy => by rw [I.tuple_inj hy hq]; exact hx⟩, ⟨⟨y, ?_⟩, st'.1.at fun o q => (sb.2 it (Ne.symm hne)).trans q, hne, hai, hea⟩, fun b hb => ?_⟩
    · have e1 : ((i + 1 : Nat) : Int) = (i : Int) + 1 := by omega
      rw [e1]; exact he2
    · have hlt : b < s.heap.objs.size := by
        have e' : b = e ∨ b = it := by simpa using hb
        rcases e' with z | z
        · rw [z]; exact hel
        · rw [z]; exact hil
      rw [upd_ne (Nat.ne_of_lt hlt)]
      exact (hf b hb).1
  done := by
    intro X hP hw hK hc i pins s σ H E I hf st hg
    subst hP hw hK
    obtain ⟨⟨old, he⟩, hit, hne, hai, hea⟩ := st
    obtain ⟨xs, hq, hx⟩ := hg
    obtain ⟨its, rv, pt, hz⟩ := I.tuple hq
    have pt : s.heap.IsTuple a its.toArray := pt
    obtain ⟨f0, f1, f2, f3, f4, f5⟩ := hf it (by simp)
    have hl := rv.length
    have D0 := Draws.tuple (prog := X.prog) (w := X.w) (A := X.A.in1) (I.ok.hd hc) it a hai its.toArray
    have hT : s.TypeIs (.ref e) "enumerate" := ⟨_, he, rfl⟩
    unfold pyNext
    refine wpAny_bind (wpAny_attempt (wpAny_callSpecial?_slot (name := Str.ofString "__next__") hT F.slot_enumerate_next (wpAny_call_entry F.slot_enumerate_next hT F.entry_enumerate_next ?_ (F.args_enumerate_next_1 _))))
    show wpAny _ _ (field (.ref e) 2 >>= _) _ _ _
    refine wpAny_bind (wpAny_field he rfl (x := .ref it) rfl (wpAny_bind (RZ.nextOf_tuple_end (I.ok.hd hc) hit pt (by simp; omega) fun h' z he' hx' => ?_)))
    obtain ⟨o, ho, hc'⟩ := hx'
    refine wpAny_bind (wpAny_isInstance (T := "StopIteration") (b := true) ⟨o, ho, hc'⟩ isSubtype_stop (wpAny_pure ⟨rfl, ?_⟩))
    exact I.turned (t' := s.toks) (fun b o hb q => he' b o hb q) f0 f1 f3 f4 f5
  self := fun A i s Q E st h => by
    obtain ⟨⟨_, he⟩, _⟩ := st
    exact wpAny_pyIter_enum he h
def iEnumT (K : PySem.W.Frag) (ta : TA) : TI := fun σ H R => ta σ H fun vs H1 => ∃ a xs, vs = [.ref a] ∧ SqT K H1 a xs ∧ R (IteT K a) H1
theorem pi_enumT {X : Cx} {e : Expr} {ta : TA} {p pos tpos : Pos} {elts : List Expr} {kk : Nat} (hg : Gl X "enumerate") (hm : X.mg "enumerate" = none) (ha : PA X [e] ta) (hs : starEach [e] X.env = [(false, eval e X.env)] := by rfl) :
    PI X (.Tuple elts kk tpos) (.Call (.Name "enumerate" p) [e] [] pos) (iEnumT X.K ta) := by
  refine ⟨fun pins s σ H R I h => Call_ (ld_blt I hg hm boot_enumerate (callWith_type1 (thn (ha.run pos pins s σ H _ I h) fun us s1 ⟨vs, H1, I1, r1, a, xs, ex, hq, q⟩ => ?_) hs rfl))⟩
  subst ex
  cases r1 with
  | cons r rr =>
    cases rr
    cases r
    obtain ⟨its, rv, pt, hz⟩ := I1.tuple hq
    have pt : s1.heap.IsTuple a its.toArray := pt
    have la : a < s1.heap.objs.size := by obtain ⟨o, q, _⟩ := pt; exact Heap.lt_size q
    refine call_enumT pt fun h' he hit hk => wpAny_pyIter_enum he ?_
    have I2 : Inv X pins σ H1 { s1 with heap := h' } := I1.kept (t' := s1.toks) hk
    refine ⟨s1.heap.objs.size + 1, [s1.heap.objs.size + 1, s1.heap.objs.size], _, _, H1, rfl, I2, turn_enumT a (s1.heap.objs.size + 1) s1.heap.objs.size, ⟨⟨.none, he⟩, hit, Nat.succ_ne_self _, Nat.ne_of_lt la, Nat.ne_of_gt (Nat.lt_succ_of_lt la)⟩, fun b hb => ?_, q⟩
    have e' : b = s1.heap.objs.size + 1 ∨ b = s1.heap.objs.size := by simpa using hb
    have hle : s1.heap.objs.size ≤ b := by
      rcases e' with z | z
      · rw [z]; exact Nat.le_succ _
      · rw [z]; exact Nat.le_refl _
    exact I1.fpOk hle (I1.hok.fresh hle)
/-! ### the mirror -/
variable {cl : Nat → Addr} {E : XK} {X : Cx}
theorem walk_enumT {K : PySem.W.Frag} {a : Addr} {xs : List V} : Walk (IteT K a) xs.length (fun H => SqT K H a xs) (YPair (fun i => some (.int (i : Nat))) (fun i => xs[i]?)) :=
  ⟨fun i _ hi q => ⟨xs, xs[i], q, by simp [hi]⟩, fun _ q => ⟨xs, q, Nat.le_refl _⟩, fun i H v H' _ q ⟨T, x, h1, h2, h3, h4⟩ => ⟨T, .int (i : Nat), x, h1, h2, h3, rfl, h4 xs q⟩⟩
theorem itOk_enumT {W : Wd} {H : Hp} {S : AS} {K : PySem.W.Frag} {a : Addr} {xs : List V} {ds : List D} (h : ∀ S2 H2, Fr S H S2 H2 → SqT K H2 a xs) (r : RepL W H S xs ds) : ItOk W S H (IteT K a) (enumD 0 ds) :=
  ⟨_, _, by rw [enumD_len, ← r.len]; exact walk_enumT (xs := xs), h, fun i S2 H2 x H3 hi f sd y => by
    obtain ⟨Tt, u, w, rfl, hT, rfl, h1, h2⟩ := y
    refine ⟨upd_more hT, fun d hd => ?_⟩
    obtain ⟨e, g1, rfl⟩ := enumD_get 0 ds i d hd
    obtain ⟨v, g2, g3⟩ := r.get g1
    have h2 : xs[i]? = some w := h2
    rw [g2] at h2
    cases h2
    have h1 : some (V.int (i : Nat)) = some u := h1
    cases h1
    rw [show 0 + i = i from Nat.zero_add i]
    exact pair_rep sd hT (.int _) (g3.move f)⟩
def dEnumA : List D → R (List D)
  | [.lst xs] => .ok (enumD 0 xs)
  | [.frl xs] => .ok (enumD 0 xs)
  | [.tup xs] => .ok (enumD 0 xs)
  | _ => .bad
def mEnumA (a : M (List D)) : M (List D) := bnd a fun ds => lift (noexc (dEnumA ds))
/-- enumerate(x), x a list or a tuple -/
theorem i_enumA {e : Expr} {elts : List Expr} {kk : Nat} {m : M (List D)} {p pos tpos : Pos} (hm : X.mg "enumerate" = none) (ha : PyA X cl E [e] m) (hg : Gl X "enumerate" := by rfl) (hs : starEach [e] X.env = [(false, eval e X.env)] := by rfl) :
    PyI X cl E (.Tuple elts kk tpos) (.Call (.Name "enumerate" p) [e] [] pos) (mEnumA m) := by
  obtain ⟨ta, h1, h2⟩ := ha.out
  refine ⟨_, PI.or (pi_enum hg hm h1 hs) (pi_enumT hg hm h1 hs), fun T σ H Γ hW c R h => ?_⟩
  have eK : T.W.K = X.K := by rw [hW]
  cases e0 : m Γ with
  | bad => unfold mEnumA at h; rw [bnd_eq, e0] at h; exact h.elim
  | exc cc fs =>
    unfold mEnumA at h
    rw [bnd_eq, e0] at h
    left
    refine h2 T σ H Γ hW c _ ?_
    rw [e0]
    exact h
  | ok p0 =>
    obtain ⟨ds, Γ1⟩ := p0
    unfold mEnumA at h
    rw [bnd_eq, e0] at h
    have h : Fin T E (KI T σ H Γ R) (lift (noexc (dEnumA ds)) Γ1) := h
    obtain ⟨z, hz, k2⟩ := Fin.lift (P := KI T σ H Γ R) h noexc_ne
    have hz := noexc_ok hz
    have one : ∃ d, ds = [d] := by
      match ds, hz with
      | [d], _ => exact ⟨d, rfl⟩
      | [], hz => cases hz
      | x :: y :: r, hz => cases x <;> cases hz
    obtain ⟨d, rfl⟩ := one
    cases d with
    | lst xs =>
      cases hz
      left
      refine h2 T σ H Γ hW c _ ?_
      rw [e0]
      intro vs H1 n1 r1
      obtain ⟨v, rfl, r⟩ := r1.one
      cases r with
      | lst n hh r => exact ⟨_, _, rfl, .of hh, k2 _ H1 n1 (itOk_enum (fun S2 H2 f => .of (f.ext _ _ hh n)) r)⟩
    | frl xs =>
      cases hz
      left
      refine h2 T σ H Γ hW c _ ?_
      rw [e0]
      intro vs H1 n1 r1
      obtain ⟨v, rfl, r⟩ := r1.one
      cases r with
      | frl hh r => exact ⟨_, _, rfl, eK ▸ hh.sq, k2 _ H1 n1 (itOk_enum (fun S2 H2 f => eK ▸ (hh.move f).sq) r)⟩
    | tup xs =>
      cases hz
      right
      refine h2 T σ H Γ hW c _ ?_
      rw [e0]
      intro vs H1 n1 r1
      obtain ⟨v, rfl, r⟩ := r1.one
      cases r with
      | tup n hh r => exact ⟨_, _, rfl, .of hh, k2 _ H1 n1 (itOk_enumT (fun S2 H2 f => .of (f.ext _ _ hh n)) r)⟩
    | _ => cases hz
end DL
/-! DL19: a list of lists whose rows are changed through another name. -/
namespace DL
open PySem L2 PyProof.Rows
variable {cl : Nat → Addr} {E : XK} {X : Cx}
/-! ### many things set aside -/
def Tgs (T : Act) (N : Addr → Option HO) : Act := { T with S := fun a => T.S a ∨ N a ≠ none, H := fun a => match N a with | some o => some o | none => T.H a }
theorem Tgs_none {T : Act} : Tgs T (fun _ => none) = T := by
  cases T
  simp [Tgs]
theorem Tgs_in {T : Act} {N : Addr → Option HO} {a : Addr} {o : HO} (h : N a = some o) : (Tgs T N).H a = some o := by
  show (match N a with | some o => some o | none => T.H a) = some o
  rw [h]
theorem Tgs_out {T : Act} {N : Addr → Option HO} {a : Addr} (h : N a = none) : (Tgs T N).H a = T.H a := by
  show (match N a with | some o => some o | none => T.H a) = T.H a
  rw [h]
def minus (H : Hp) (N : Addr → Option HO) : Hp := fun a => match N a with | some _ => none | none => H a
theorem minus_in {H : Hp} {N : Addr → Option HO} {a : Addr} (h : N a ≠ none) : minus H N a = none := by
  unfold minus
  cases e : N a with
  | none => exact absurd e h
  | some o => rfl
theorem minus_out {H : Hp} {N : Addr → Option HO} {a : Addr} (h : N a = none) : minus H N a = H a := by
  unfold minus; rw [h]
theorem minus_le {H : Hp} {N : Addr → Option HO} : ∀ a o, minus H N a = some o → H a = some o := fun a o h => by
  cases e : N a with
  | none => rwa [minus_out e] at h
  | some u => rw [minus_in (by rw [e]; intro z; cases z)] at h; cases h
section
variable {T : Act} {σ : L2.St} {H : Hp} {Γ : Env} {N : Addr → Option HO}
theorem own_nN (c : Cfg (Tgs T N) σ H Γ) (nb : ∀ a, N a ≠ none → ¬ T.Bs a) {i : Nat} {q : Addr} (h : Owns σ Γ i q) : N q = none := by
  cases e : N q with
  | none => rfl
  | some o =>
    have ne : N q ≠ none := by rw [e]; intro z; cases z
    obtain ⟨d, hd, _⟩ := c.owns h
    rcases hd with k | k
    · obtain ⟨q', h1, _, h3, _⟩ := c.ow i d k
      rw [h.1] at h1; cases h1
      exact absurd (Or.inr ne) h3
    · obtain ⟨h1, h2, _⟩ := c.bo i d k
      rw [h.1] at h1
      have h1 : q = T.B i := V.ref.inj (Option.some.inj (Option.some.inj h1))
      have h2 : T.Bs (T.B i) := h2
      exact absurd (h1 ▸ h2) (nb q ne)
/-- more is set aside; what is set aside is changed -/
theorem Cfg.reN (c : Cfg (Tgs T N) σ H Γ) (nb : ∀ a, N a ≠ none → ¬ T.Bs a) {N' : Addr → Option HO} {H' : Hp} (nb' : ∀ a, N' a ≠ none → ¬ T.Bs a) (hN : ∀ a, N a ≠ none → N' a ≠ none) (hn : ∀ a, N' a ≠ none → N a = none → H a = none) (hH : ∀ a, H' a = match N' a with | some o => some o | none => H a) :
    Cfg (Tgs T N') σ H' Γ ∧ Fr (Sx (Tgs T N).S σ Γ) H (Sx (Tgs T N').S σ Γ) H' := by
  have out : ∀ a, N' a = none → H' a = H a := fun a h => by rw [hH, h]
  have f : Fr (Sx (Tgs T N).S σ Γ) H (Sx (Tgs T N').S σ Γ) H' := ⟨⟨fun a u h n => by
    cases e : N' a with
    | none => rw [out a e]; exact h
    | some o =>
      have ne : N' a ≠ none := by rw [e]; intro z; cases z
      cases e2 : N a with
      | none => rw [hn a ne e2] at h; cases h
      | some o2 => exact absurd (Or.inl (Or.inr (by rw [e2]; intro z; cases z))) n, fun a q => by
    rcases q with (q | q) | q
    · exact .inl (.inl (.inl q))
    · cases e2 : N a with
      | none => exact .inr (hn a q e2)
      | some o2 => exact .inl (.inl (.inr (by rw [e2]; intro z; cases z)))
    · exact .inl (.inr q)⟩, fun a h => by
    cases e : N' a with
    | none => rw [out a e]; exact h
    | some o => rw [hH, e]; intro z; cases z⟩
  have nOwn : ∀ {i : Nat} {q : Addr}, Owns σ Γ i q → N' q = none := fun {i q} h => by
    cases e : N' q with
    | none => rfl
    | some o =>
      have k := hn q (by rw [e]; intro z; cases z) (own_nN c nb h)
      obtain ⟨u, hu⟩ := c.sdom (own_sx h)
      rw [k] at hu; cases hu
  refine ⟨⟨c.len, fun i d e => ?_, fun i d e => ?_, fun i d e => ?_, c.inj, fun a u h b => ?_, fun a q => ?_, fun a q => f.grow a (c.bs a q), fun a q => ?_⟩, f⟩
  · obtain ⟨v, h1, h2⟩ := c.sh i d e
    exact ⟨v, h1, h2.move f⟩
  · obtain ⟨q, h1, h2, h3, h4⟩ := c.ow i d e
    have o1 : Owns σ Γ i q := ⟨h1, d, by rw [e]; rfl⟩
    have k := nOwn o1
    refine ⟨q, h1, ?_, fun z => ?_, h4.move f fun u h => by rw [out q k]; exact h⟩
    · rw [Tgs_out k]; rw [Tgs_out (own_nN c nb o1)] at h2; exact h2
    · rcases z with z | z
      · exact h3 (.inl z)
      · exact z k
  · obtain ⟨h1, h2, h3⟩ := c.bo i d e
    have k := nOwn (i := i) (q := T.B i) ⟨h1, d, by rw [e]; rfl⟩
    exact ⟨h1, h2, h3.move f fun u h => by
      show H' (T.B i) = _
      rw [out _ k]; exact h⟩
  · cases e : N' a with
    | some o =>
      rw [Tgs_in e] at h
      rw [hH, e]; exact h
    | none =>
      rw [Tgs_out e] at h
      rw [out a e]
      have e2 : N a = none := by
        cases e2 : N a with
        | none => rfl
        | some o => exact absurd e (hN a (by rw [e2]; intro z; cases z))
      exact c.keep a u (by rw [Tgs_out e2]; exact h) b
  · rcases q with q | q
    · exact f.grow a (c.dom a (.inl q))
    · cases e : N' a with
      | none => exact absurd e q
      | some o => rw [hH, e]; intro z; cases z
  · have q : T.Bs a := q
    have k : N' a = none := by
      cases e : N' a with
      | none => rfl
      | some o => exact absurd q (nb' a (by rw [e]; intro z; cases z))
    have k2 : N a = none := by
      cases e : N a with
      | none => rfl
      | some o => exact absurd q (nb a (by rw [e]; intro z; cases z))
    have h := c.bh a q
    rw [Tgs_out k2] at h
    rw [Tgs_out k]; exact h
theorem Cfg.unN (c : Cfg (Tgs T N) σ H Γ) (nb : ∀ a, N a ≠ none → ¬ T.Bs a) (ns : ∀ a, N a ≠ none → ¬ T.S a) (nh : ∀ a, N a ≠ none → T.H a = none) : Cfg T σ (minus H N) Γ := by
  have f : Mv (Sx (Tgs T N).S σ Γ) H (Sx T.S σ Γ) (minus H N) := ⟨fun a u h n => by
    cases e : N a with
    | none => rw [minus_out e]; exact h
    | some o => exact absurd (Or.inl (Or.inr (by rw [e]; intro z; cases z))) n, fun a q => .inl (by
    rcases q with q | q
    · exact .inl (.inl q)
    · exact .inr q)⟩
  have no : ∀ {a : Addr}, (N a ≠ none → False) → N a = none := fun {a} h => by
    cases e : N a with
    | none => rfl
    | some o => exact (h (by rw [e]; intro z; cases z)).elim
  refine ⟨c.len, fun i d e => ?_, fun i d e => ?_, fun i d e => ?_, c.inj, fun a u h b => ?_, fun a q => ?_, fun a q => ?_, fun a q => ?_⟩
  · obtain ⟨v, h1, h2⟩ := c.sh i d e
    exact ⟨v, h1, h2.mv f⟩
  · obtain ⟨q, h1, h2, h3, h4⟩ := c.ow i d e
    have k := own_nN c nb (i := i) (q := q) ⟨h1, d, by rw [e]; rfl⟩
    rw [Tgs_out k] at h2
    exact ⟨q, h1, h2, fun z => h3 (.inl z), h4.mv f fun u h => by rw [minus_out k]; exact h⟩
  · obtain ⟨h1, h2, h3⟩ := c.bo i d e
    have k := own_nN c nb (i := i) (q := T.B i) ⟨h1, d, by rw [e]; rfl⟩
    exact ⟨h1, h2, h3.mv f fun u h => by
      show minus H N (T.B i) = _
      rw [minus_out k]; exact h⟩
  · have k := no fun z => by rw [nh a z] at h; cases h
    rw [minus_out k]
    exact c.keep a u (by rw [Tgs_out k]; exact h) b
  · have k := no fun z => ns a z q
    rw [minus_out k]
    exact c.dom a (.inl q)
  · have k := no fun z => nb a z q
    rw [minus_out k]
    exact c.bs a q
  · have k := no fun z => nb a z q
    have h := c.bh a q
    rw [Tgs_out k] at h
    exact h
end
/-! ### the rows -/
def nestN (p : Addr) (as : List Addr) (rows : List (List Int)) : Addr → Option HO := fun a => if a = p then some (.lst (as.map V.ref)) else ((as.zip rows).lookup a).map fun r => .lst (r.map V.int)
structure NOk (T : Act) (p : Addr) (as : List Addr) (rows : List (List Int)) : Prop where
  len : as.length = rows.length
  nd : as.Nodup
  np : p ∉ as
  nb : ∀ a, a = p ∨ a ∈ as → ¬ T.Bs a
  ns : ∀ a, a = p ∨ a ∈ as → ¬ T.S a
  nh : ∀ a, a = p ∨ a ∈ as → T.H a = none
theorem zl_none {as : List Addr} {rows : List (List Int)} {a : Addr} (h : a ∉ as) : (as.zip rows).lookup a = none := by
  induction as generalizing rows with
  | nil => rfl
  | cons b as ih =>
    cases rows with
    | nil => rfl
    | cons r rows =>
      have n1 : (a == b) = false := by
        simp only [List.mem_cons, not_or] at h
        simpa using h.1
      simp only [List.zip_cons_cons, List.lookup, n1]
      exact ih fun z => h (List.mem_cons_of_mem _ z)
theorem zl_at {as : List Addr} {rows : List (List Int)} {i : Nat} {a : Addr} {r : List Int} (nd : as.Nodup) (ha : as[i]? = some a) (hr : rows[i]? = some r) : (as.zip rows).lookup a = some r := by
  induction as generalizing rows i with
  | nil => simp at ha
  | cons b as ih =>
    cases rows with
    | nil => simp at hr
    | cons q rows =>
      cases i with
      | zero =>
        simp at ha hr
        subst ha hr
        simp [List.lookup]
      | succ i =>
        have ha' : as[i]? = some a := by simpa using ha
        have n1 : (a == b) = false := by
          have k := (List.nodup_cons.mp nd).1
          simp only [beq_eq_false_iff_ne, ne_eq]
          exact fun z => k (z ▸ List.mem_of_getElem? ha')
        simp only [List.zip_cons_cons, List.lookup, n1]
        exact ih (List.nodup_cons.mp nd).2 ha' (by simpa using hr)
theorem nest_dom {p : Addr} {as : List Addr} {rows : List (List Int)} {a : Addr} (h : nestN p as rows a ≠ none) : a = p ∨ a ∈ as := by
  by_cases z : a = p
  · exact .inl z
  · by_cases k : a ∈ as
    · exact .inr k
    · unfold nestN at h
      rw [if_neg z, zl_none k] at h
      exact absurd rfl h
theorem nest_p {p : Addr} {as : List Addr} {rows : List (List Int)} : nestN p as rows p = some (.lst (as.map V.ref)) := if_pos rfl
theorem nest_at {T : Act} {p : Addr} {as : List Addr} {rows : List (List Int)} (k : NOk T p as rows) {i : Nat} {a : Addr} {r : List Int} (ha : as[i]? = some a) (hr : rows[i]? = some r) : nestN p as rows a = some (.lst (r.map V.int)) := by
  have ne : a ≠ p := fun z => k.np (z ▸ List.mem_of_getElem? ha)
  unfold nestN
  rw [if_neg ne, zl_at k.nd ha hr]
  rfl
theorem nest_in {T : Act} {p : Addr} {as : List Addr} {rows : List (List Int)} (k : NOk T p as rows) {a : Addr} (h : a = p ∨ a ∈ as) : nestN p as rows a ≠ none := by
  rcases h with rfl | h
  · rw [nest_p]; intro z; cases z
  · obtain ⟨i, hi, e⟩ := List.mem_iff_getElem.mp h
    have hr : i < rows.length := k.len ▸ hi
    rw [nest_at k (i := i) (r := rows[i]) (by simp [hi, e]) (by simp [hr])]
    intro z; cases z
theorem nest_set {T : Act} {p : Addr} {as : List Addr} {rows : List (List Int)} (k : NOk T p as rows) {i : Nat} {x a : Addr} {r : List Int} (ha : as[i]? = some x) (hi : i < rows.length) : nestN p as (rows.set i r) a = if a = x then some (.lst (r.map V.int)) else nestN p as rows a := by
  have k' : NOk T p as (rows.set i r) := ⟨by rw [List.length_set]; exact k.len, k.nd, k.np, k.nb, k.ns, k.nh⟩
  by_cases z : a = x
  · subst z
    rw [if_pos rfl]
    exact nest_at k' ha (by simp [hi])
  · rw [if_neg z]
    by_cases zp : a = p
    · subst zp; rw [nest_p, nest_p]
    · by_cases m : a ∈ as
      · obtain ⟨j, hj, e⟩ := List.mem_iff_getElem.mp m
        have hr : j < rows.length := k.len ▸ hj
        have hja : as[j]? = some a := by simp [hj, e]
        have ne : i ≠ j := fun q => by
          subst q
          rw [ha] at hja
          cases hja
          exact z rfl
        rw [nest_at k hja (r := rows[j]) (by simp [hr]), nest_at k' hja (r := rows[j]) (by rw [List.getElem?_set_ne ne]; simp [hr])]
      · have q1 : ∀ rs, nestN p as rs a = none := fun rs => by unfold nestN; rw [if_neg zp, zl_none m]; rfl
        rw [q1, q1]
def rowsD (rows : List (List Int)) : D := .lst (rows.map fun r => .lst (r.map D.int))
theorem ints_rep {W : Wd} {H : Hp} {S : AS} : ∀ r : List Int, RepL W H S (r.map V.int) (r.map D.int)
  | [] => .nil
  | _ :: r => .cons (.int _) (ints_rep r)
theorem rep_ints {W : Wd} {H : Hp} {S : AS} : ∀ {xs : List V} {r : List Int}, RepL W H S xs (r.map D.int) → xs = r.map V.int
  | [], [], _ => rfl
  | x :: xs, i :: r, .cons h t => by
    cases h
    rw [rep_ints t]
    rfl
/-- the rows are let go: near is an own list of lists again -/
theorem nest_free {T : Act} {σ : L2.St} {H : Hp} {Γ : Env} {p : Addr} {as : List Addr} {rows : List (List Int)} {n : Nat} (k : NOk T p as rows) (c : Cfg (Tgs T (nestN p as rows)) σ H Γ) (hn : σ[n]? = some (some (.ref p))) {σ0 : L2.St} {H0 : Hp} {Γ0 : Env} (f : Fr (Sx T.S σ0 Γ0) H0 (Sx (Tgs T (nestN p as rows)).S σ Γ) H)
    (h0 : ∀ a, a = p ∨ a ∈ as → H0 a = none) : Nx T σ0 H0 Γ0 σ H (Γ.set n (.ow (rowsD rows))) := by
  have nb : ∀ a, nestN p as rows a ≠ none → ¬ T.Bs a := fun a h => k.nb a (nest_dom h)
  have keep : ∀ a o, nestN p as rows a = some o → H a = some o := fun a o h => c.keep a o (Tgs_in h) (nb a (by rw [h]; intro z; cases z))
  have cu := c.unN nb (fun a h => k.ns a (nest_dom h)) fun a h => k.nh a (nest_dom h)
  have hp : minus H (nestN p as rows) p = none := minus_in (by rw [nest_p]; intro z; cases z)
  have hnl : n < Γ.length := by
    have := (List.getElem?_eq_some_iff.mp hn).1
    rw [← c.len]; exact this
  have inner : ∀ (l : List Addr) (rs : List (List Int)), l.length = rs.length → (∀ (i : Nat) (a : Addr) (r : List Int), l[i]? = some a → rs[i]? = some r → a ∈ as ∧ H a = some (.lst (r.map V.int))) → RepL T.W H (fun a => Sx T.S σ Γ a ∨ a = p) (l.map V.ref) (rs.map fun (r : List Int) => D.lst (r.map D.int)) := fun l => by
    induction l with
    | nil => intro rs hl _; cases rs with
      | nil => exact .nil
      | cons r rs => cases hl
    | cons a l ih =>
      intro rs hl h
      cases rs with
      | nil => cases hl
      | cons r rs =>
        obtain ⟨m, e⟩ := h 0 a r rfl rfl
        refine .cons (.lst (fun z => ?_) e (ints_rep r)) (ih rs (by simpa using hl) fun i b q h1 h2 => h (i + 1) b q (by simpa using h1) (by simpa using h2))
        rcases z with z | z
        · exact cu.fresh (minus_in (nest_in k (.inr m))) z
        · exact k.np (z ▸ m)
  have own : OwnAt T.W H (fun a => Sx T.S σ Γ a ∨ a = p) p (rowsD rows) :=
    ⟨as.map V.ref, keep p _ nest_p, inner as rows k.len fun i a r ha hr => ⟨List.mem_of_getElem? ha, keep a _ (nest_at k ha hr)⟩⟩
  have n1 := cu.put_own (i := n) (p := p) (d := rowsD rows) (H' := H) hnl hp minus_le own
  have es : σ.set n (some (.ref p)) = σ := by
    refine List.ext_getElem? fun j => ?_
    by_cases z : j = n
    · subst z
      rw [hn, List.getElem?_set_self (List.getElem?_eq_some_iff.mp hn).1]
    · rw [List.getElem?_set_ne (Ne.symm z)]
  rw [es] at n1
  refine ⟨n1.cfg, ⟨⟨f.ext, fun a q => ?_⟩, f.grow⟩⟩
  have q1 := n1.fr.sub a q
  rcases q1 with q1 | q1
  · rcases q1 with q1 | q1
    · exact f.sub a (.inl (.inl q1))
    · exact f.sub a (.inr q1)
  · cases e : nestN p as rows a with
    | none =>
      rw [minus_out e] at q1
      refine .inr ?_
      cases e0 : H0 a with
      | none => rfl
      | some u => exact absurd q1 (f.grow a (by rw [e0]; intro z; cases z))
    | some o => exact .inr (h0 a (nest_dom (by rw [e]; intro z; cases z)))
end DL
/-! DL20: statements while the rows are set aside; the list of rows made. -/
namespace DL
open PySem L2 PyProof.Rows
variable {cl : Nat → Addr} {E : XK} {X : Cx}
abbrev NM := List (List Int) → Env → Option (List (List Int) × Env)
structure NCf (T : Act) (p : Addr) (as : List Addr) (n : Nat) (rows : List (List Int)) (σ : L2.St) (H : Hp) (Γ : Env) : Prop where
  cfg : Cfg (Tgs T (nestN p as rows)) σ H Γ
  ok : NOk T p as rows
  at_ : σ[n]? = some (some (.ref p))
abbrev NFr (T : Act) (p : Addr) (as : List Addr) (rows : List (List Int)) (σ : L2.St) (H : Hp) (Γ : Env) (rows' : List (List Int)) (σ' : L2.St) (H' : Hp) (Γ' : Env) : Prop := Fr (Sx (Tgs T (nestN p as rows)).S σ Γ) H (Sx (Tgs T (nestN p as rows')).S σ' Γ') H'
def SndNS (W : Wd) (n : Nat) (t : TS) (m : NM) : Prop := ∀ T σ H Γ p as rows, T.W = W → NCf T p as n rows σ H Γ → ∀ D : Ends, (∃ q, m rows Γ = some q ∧ ∀ σ' H', NCf T p as n q.1 σ' H' q.2 → NFr T p as rows σ H Γ q.1 σ' H' q.2 → D.nx σ' H') → t D σ H
structure PyNs (X : Cx) (cl : Nat → Addr) (n : Nat) (s : Stmt) (m : NM) : Prop where
  out : ∃ t, PS X s t ∧ SndNS ⟨X.K, cl⟩ n t m
structure PyNss (X : Cx) (cl : Nat → Addr) (n : Nat) (s : List Stmt) (m : NM) : Prop where
  out : ∃ t, PSs X s t ∧ SndNS ⟨X.K, cl⟩ n t m
theorem NCf.keep {T : Act} {p : Addr} {as : List Addr} {n : Nat} {rows : List (List Int)} {σ : L2.St} {H : Hp} {Γ : Env} (c : NCf T p as n rows σ H Γ) {a : Addr} {o : HO} (h : nestN p as rows a = some o) : H a = some o :=
  c.cfg.keep a o (Tgs_in h) (c.ok.nb a (nest_dom (by rw [h]; intro z; cases z)))
/-- an ordinary step -/
theorem NCf.step {T : Act} {p : Addr} {as : List Addr} {n : Nat} {rows : List (List Int)} {σ σ' : L2.St} {H H' : Hp} {Γ Γ' : Env} (c : NCf T p as n rows σ H Γ) (k : Nx (Tgs T (nestN p as rows)) σ H Γ σ' H' Γ') (e : σ'[n]? = σ[n]?) : NCf T p as n rows σ' H' Γ' ∧ NFr T p as rows σ H Γ rows σ' H' Γ' := ⟨⟨k.cfg, c.ok, e.trans c.at_⟩, k.fr⟩
theorem fin_ok {α : Type} {T : Act} {P : α → Env → Prop} {r : R (α × Env)} {a : α} {Γ : Env} (h : r = .ok (a, Γ)) (k : P a Γ) : Fin T E0' P r := by
  rw [h]; exact k
def nsSet (i : Nat) (m : M D) : NM := fun rows Γ => match m Γ with
  | .ok (d, Γ1) => if i < Γ1.length then some (rows, Γ1.set i (.sh d)) else none
  | _ => none
theorem ns_set (i : Nat) {n : Nat} {x : Str} {e : Expr} {m : M D} {pos pos' : Pos} (hN : X.N.Nodup) (h : PyE X cl E0' e m) (hin : n ≠ i := by decide) (hi : X.N[i]? = some x := by rfl) (hx : Loc X.env.scope x := by first | exact Or.inl rfl | exact Or.inr rfl) (hs : swapsWith e (some (.Name x pos')) pos.line X.env = pure false := by rfl)
    (hf : X.fn x = true ∨ X.env.scope.names.lookup x = some .local := by first | exact .inl rfl | exact .inr rfl) : PyNs X cl n (.Assign [.Name x pos'] e pos) (nsSet i m) := by
  obtain ⟨te, h1, h2⟩ := h.out
  refine ⟨_, ps_set hN hi hx h1 hs hf, fun T σ H Γ p as rows hW c D ⟨q, hq, k⟩ => ?_⟩
  unfold nsSet at hq
  cases e0 : m Γ with
  | bad => simp only [e0] at hq; cases hq
  | exc cc fs => simp only [e0] at hq; cases hq
  | ok p0 =>
    obtain ⟨d, Γ1⟩ := p0
    simp only [e0] at hq
    by_cases hl : i < Γ1.length
    · rw [if_pos hl] at hq
      cases hq
      refine h2 (Tgs T (nestN p as rows)) σ H Γ hW c.cfg _ (fin_ok e0 fun v H1 n1 r1 => ?_)
      obtain ⟨c2, f2⟩ := c.step (n1.trans (n1.cfg.put hl r1)) (by rw [List.getElem?_set_ne (Ne.symm hin)])
      exact k _ H1 c2 f2
    · rw [if_neg hl] at hq; cases hq
def nsSeq (a b : NM) : NM := fun rows Γ => (a rows Γ).bind fun q => b q.1 q.2
theorem nss_one {n : Nat} {s : Stmt} {m : NM} (h : PyNs X cl n s m) : PyNss X cl n [s] m := by
  obtain ⟨t, h1, h2⟩ := h.out
  exact ⟨_, pss_one h1, h2⟩
theorem snd_nsSeq {W : Wd} {n : Nat} {t u : TS} {a b : NM} (h : SndNS W n t a) (g : SndNS W n u b) : SndNS W n (tSeq t u) (nsSeq a b) := fun T σ H Γ p as rows hW c D ⟨q, hq, k⟩ => by
  unfold nsSeq at hq
  cases e : a rows Γ with
  | none => rw [e] at hq; cases hq
  | some q1 =>
    rw [e] at hq
    have hq : b q1.1 q1.2 = some q := hq
    refine h T σ H Γ p as rows hW c _ ⟨q1, e, fun σ1 H1 c1 f1 => ?_⟩
    exact g T σ1 H1 q1.2 p as q1.1 hW c1 D ⟨q, hq, fun σ2 H2 c2 f2 => k σ2 H2 c2 (f1.trans f2)⟩
theorem nss_cons {n : Nat} {s : Stmt} {r : List Stmt} {a b : NM} (h : PyNs X cl n s a) (g : PyNss X cl n r b) : PyNss X cl n (s :: r) (nsSeq a b) := by
  obtain ⟨t, h1, h2⟩ := h.out
  obtain ⟨u, g1, g2⟩ := g.out
  exact ⟨_, pss_cons h1 g1, snd_nsSeq h2 g2⟩
def nsForL (g : GM) (b : NM) : List D → NM
  | [], rows, Γ => some (rows, Γ)
  | d :: ds, rows, Γ => match g d Γ with
    | .ok Γ1 => (b rows Γ1).bind fun q => nsForL g b ds q.1 q.2
    | _ => none
def nsFor (mi : M (List D)) (g : GM) (b : NM) : NM := fun rows Γ => match mi Γ with
  | .ok (ds, Γ1) => nsForL g b ds rows Γ1
  | _ => none
theorem snd_nsFor {W : Wd} {n : Nat} {js : List Nat} {wi : TI} {g : TG} {tb : TS} {mi : M (List D)} {mg : GM} {b : NM} (hi : SndI W E0' wi mi) (hg : SndG W E0' js g mg) (hb : SndNS W n tb b) (hn : n ∉ js) : SndNS W n (tFor wi g tb) (nsFor mi mg b) := fun T σ H Γ p as rows hW c D ⟨q, hq, k⟩ => by
  unfold nsFor at hq
  cases e0 : mi Γ with
  | bad => simp only [e0] at hq; cases hq
  | exc cc fs => simp only [e0] at hq; cases hq
  | ok p0 =>
    obtain ⟨ds, Γ1⟩ := p0
    simp only [e0] at hq
    refine hi (Tgs T (nestN p as rows)) σ H Γ hW c.cfg _ (fin_ok e0 fun J H1 n1 io => ?_)
    obtain ⟨c1, f1⟩ := c.step n1 rfl
    obtain ⟨G, Y, wk, hG, hY⟩ := io
    refine for_it wk (fun i σ' H' => ∃ rs Γi, NCf T p as n rs σ' H' Γi ∧ NFr T p as rows σ H1 Γ1 rs σ' H' Γi ∧ nsForL mg b (ds.drop i) rs Γi = some q) ⟨rows, Γ1, c1, .refl, hq⟩ (fun i σ' H' _ ⟨rs, Γi, ci, fi, _⟩ => hG _ _ fi) ?_ ?_
    · rintro i x σ' H' H3 hi' ⟨rs, Γi, ci, fi, ki⟩ y
      obtain ⟨ex, hr⟩ := hY i _ _ x H3 hi' fi ci.cfg.sd y
      have n3 := ci.cfg.more ex
      rw [List.drop_eq_getElem_cons hi'] at ki
      have r := hr ds[i] (by simp [hi'])
      unfold nsForL at ki
      refine hg (Tgs T (nestN p as rs)) σ' H3 Γi hW n3.cfg x ds[i] r _ ?_
      cases e : mg ds[i] Γi with
      | bad => simp only [e] at ki; cases ki
      | exc cc fs => simp only [e] at ki; cases ki
      | ok Γ2 =>
        simp only [e] at ki
        refine fun σ2 H2 n2 bt => ?_
        obtain ⟨c2, f2⟩ := ci.step (n3.trans n2) (bt.at_ n hn)
        cases e2 : b rs Γ2 with
        | none => rw [e2] at ki; cases ki
        | some q2 =>
          rw [e2] at ki
          have ki : nsForL mg b (ds.drop (i + 1)) q2.1 q2.2 = some q := ki
          exact hb T σ2 H2 Γ2 p as rs hW c2 _ ⟨q2, e2, fun σ4 H4 c4 f4 => ⟨q2.1, q2.2, c4, (fi.trans f2).trans f4, ki⟩⟩
    · rintro σ' H' ⟨rs, Γi, ci, fi, ki⟩
      rw [List.drop_length] at ki
      cases ki
      exact k σ' H' ci (f1.trans fi)
theorem ns_for {n : Nat} {js : List Nat} {tg iter : Expr} {body : List Stmt} {mi : M (List D)} {g : GM} {b : NM} {pos : Pos} (hp : PassesOwn (model X.prog X.w) X.A X.env X.xe) (hc : X.calm = true) (hi : PyI X cl E0' tg iter mi) (hg : PyG X cl E0' js tg g) (hb : PyNss X cl n body b) (hn : n ∉ js := by decide)
    (hs : ∀ x, foldedSetIterable iter X.env x = pure x := by intro _; rfl) : PyNs X cl n (.For tg iter body [] pos) (nsFor mi g b) := by
  obtain ⟨wi, i1, i2⟩ := hi.out
  obtain ⟨t, g1, g2⟩ := hg.out
  obtain ⟨tb, b1, b2⟩ := hb.out
  exact ⟨_, ps_for hp hc i1 g1 b1 hs, snd_nsFor i2 g2 b2 hn⟩
/-! ### row = near[x]; for ..: if ..: row[k] = row[k] | e -/
def rowT (mt : M Bool) (mk2 me mk : M D) : List Int → Env → Option (List Int × Env) := fun row Γ => match mt Γ with
  | .ok (b, Γ1) => if b = true then (match mk2 Γ1 with
      | .ok (.int k2, Γ2) => match L2.atI row k2 with
        | some v => match me Γ2 with
          | .ok (.int w, Γ3) => match mk Γ3 with
            | .ok (.int k, Γ4) => match L2.ixN row.length k with
              | some j => some (row.set j (Builtin.bitOr v w), Γ4)
              | none => none
            | _ => none
          | _ => none
        | none => none
      | _ => none) else some (row, Γ1)
  | _ => none
def rowL (g : GM) (t : List Int → Env → Option (List Int × Env)) : List D → List Int → Env → Option (List Int × Env)
  | [], row, Γ => some (row, Γ)
  | d :: ds, row, Γ => match g d Γ with
    | .ok Γ1 => (t row Γ1).bind fun q => rowL g t ds q.1 q.2
    | _ => none
def nsRow (r : Nat) (mx : M D) (mi : M (List D)) (g : GM) (t : List Int → Env → Option (List Int × Env)) : NM := fun rows Γ => match mx Γ with
  | .ok (.int x, Γ1) => match L2.ixN rows.length x with
    | some xi => if r < Γ1.length then (match mi (Γ1.set r .no) with
      | .ok (ds, Γ2) => match rows[xi]? with
        | some row => match rowL g t ds row Γ2 with
          | some q => some (rows.set xi q.1, q.2)
          | none => none
        | none => none
      | _ => none) else none
    | none => none
  | _ => none
/-- one row has another content -/
theorem NCf.setRow {T : Act} {p : Addr} {as : List Addr} {n : Nat} {rows : List (List Int)} {σ : L2.St} {H : Hp} {Γ : Env} (c : NCf T p as n rows σ H Γ) {i : Nat} {a : Addr} {r : List Int} (ha : as[i]? = some a) : NCf T p as n (rows.set i r) σ (upd H a (.lst (r.map V.int))) Γ ∧ NFr T p as rows σ H Γ (rows.set i r) σ (upd H a (.lst (r.map V.int))) Γ := by
  have hi : i < rows.length := c.ok.len ▸ (List.getElem?_eq_some_iff.mp ha).1
  have ok' : NOk T p as (rows.set i r) := ⟨by rw [List.length_set]; exact c.ok.len, c.ok.nd, c.ok.np, c.ok.nb, c.ok.ns, c.ok.nh⟩
  have e : ∀ b, nestN p as (rows.set i r) b = if b = a then some (.lst (r.map V.int)) else nestN p as rows b := fun b => nest_set c.ok ha hi
  obtain ⟨c2, f2⟩ := c.cfg.reN (fun b h => c.ok.nb b (nest_dom h)) (N' := nestN p as (rows.set i r)) (H' := upd H a (.lst (r.map V.int))) (fun b h => c.ok.nb b (nest_dom h)) (fun b h => nest_in ok' (nest_dom h)) (fun b h h0 => absurd h0 (nest_in c.ok (nest_dom h))) fun b => by
    rw [e]
    by_cases z : b = a
    · subst z; rw [if_pos rfl, upd_same]
    · rw [if_neg z, upd_ne z]
      cases q : nestN p as rows b with
      | none => rfl
      | some o => exact c.keep q
  exact ⟨⟨c2, ok', c.at_⟩, f2⟩
theorem map_set_int {r : List Int} {j : Nat} {w : Int} : (r.map V.int).set j (V.int w) = (r.set j w).map V.int := by rw [List.map_set]
theorem atI_map {r : List Int} {k v : Int} (h : L2.atI r k = some v) : L2.atI (r.map V.int) k = some (V.int v) := by
  unfold L2.atI at h ⊢
  rw [List.length_map]
  cases e : L2.ixN r.length k with
  | none => rw [e] at h; cases h
  | some j =>
    rw [e] at h
    have h : r[j]? = some v := h
    show (r.map V.int)[j]? = _
    rw [List.getElem?_map, h]
    rfl
theorem nss_row {n r : Nat} {js : List Nat} {xn xr xr2 xr3 : Str} {ex tg iter ct ek2 ee ek : Expr} {mx mk2 me mk : M D} {mi : M (List D)} {mg : GM} {mt : M Bool} {p1 p2 p3 p4 p5 p6 p7 p8 p9 p10 p11 p12 : Pos} (hu : X.A.units + 1 < cLine) (hp : PassesOwn (model X.prog X.w) X.A X.env X.xe) (hc : X.calm = true) (hN : X.N.Nodup)
    (hx : PyE X cl E0' ex mx) (hi : PyI X cl E0' tg iter mi) (hg : PyG X cl E0' js tg mg) (ht : PyT X cl E0' ct mt) (hk2 : PyE X cl E0' ek2 mk2) (he : PyE X cl E0' ee me) (hk : PyE X cl E0' ek mk) (hnr : n ≠ r := by decide) (hn : n ∉ js := by decide) (hr : r ∉ js := by decide)
    (nN : X.N[n]? = some xn := by rfl) (rN : X.N[r]? = some xr := by rfl) (r2N : X.N[r]? = some xr2 := by rfl) (r3N : X.N[r]? = some xr3 := by rfl) (vn : Vis X.env.scope xn := by exact Or.inl rfl) (vr : Vis X.env.scope xr2 := by exact Or.inl rfl) (vr3 : Vis X.env.scope xr3 := by exact Or.inl rfl) (lr : Loc X.env.scope xr := by exact Or.inl rfl)
    (hf : X.fn xr = true ∨ X.env.scope.names.lookup xr = some .local := by exact .inr rfl) (d1 : (xn == ("__debug__" : Str)) = false := by decide) (d2 : (xr2 == ("__debug__" : Str)) = false := by decide) (d3 : (xr3 == ("__debug__" : Str)) = false := by decide) (c1 : (xn == ("__classdict__" : Str)) = false := by decide)
    (c2 : (xr2 == ("__classdict__" : Str)) = false := by decide) (c3 : (xr3 == ("__classdict__" : Str)) = false := by decide) (px : PlainIx ex := by exact fun _ _ => rfl) (pk : PlainIx ek2 := by exact fun _ _ => rfl) (hs : swapsWith (.Subscript (.Name xn p1) ex p2) (some (.Name xr p3)) p4.line X.env = pure false := by rfl)
    (hsi : ∀ x, foldedSetIterable iter X.env x = pure x := by intro _; rfl)
    (ha : ∀ v, assign (.Subscript (.Name xr2 p5) ek p6) X.env v = (do
      let ov ← holding [v] (eval (.Name xr2 p5) X.env)
      let iv ← holding [v, ov] (eval ek X.env)
      standAt p6
      holding [v, ov, iv] (setItem ov iv v)
      release [v, ov, iv] []) := by intro _; rfl)
    (h1 : (assignEach [.Subscript (.Name xr2 p5) ek p6] X.env).map (·.2) = [assign (.Subscript (.Name xr2 p5) ek p6) X.env] := by rfl)
    (hsw : swapsWithSole [.Subscript (.Name xr2 p5) ek p6] (.BinOp (.Subscript (.Name xr3 p7) ek2 p8) .BitOr ee p9) p10.line X.env = pure false := by rfl) (hws : swappedStores [.Subscript (.Name xr2 p5) ek p6] (.BinOp (.Subscript (.Name xr3 p7) ek2 p8) .BitOr ee p9) X.env = pure none := by rfl) :
    PyNss X cl n [.Assign [.Name xr p3] (.Subscript (.Name xn p1) ex p2) p4, .For tg iter [.If ct [.Assign [.Subscript (.Name xr2 p5) ek p6] (.BinOp (.Subscript (.Name xr3 p7) ek2 p8) .BitOr ee p9) p10] [] p11] [] p12] (nsRow r mx mi mg (rowT mt mk2 me mk)) := by
  obtain ⟨tx, x1, x2⟩ := hx.out
  obtain ⟨wi, i1, i2⟩ := hi.out
  obtain ⟨tg', g1, g2⟩ := hg.out
  obtain ⟨tt, t1, t2⟩ := ht.out
  obtain ⟨tk2, k1, k2⟩ := hk2.out
  obtain ⟨te, e1, e2⟩ := he.out
  obtain ⟨tk, s1, s2⟩ := hk.out
  refine ⟨_, pss_cons (ps_set hN rN lr (pe_ix (ix_all hu) (pe_var nN vn d1 c1) x1 px) hs hf) (pss_one (ps_for hp hc i1 g1 (pss_one (ps_if t1 (pss_one (ps_asg (pe_op op_or (pe_ix (ix_all hu) (pe_var r3N vr3 d3 c3) k1 pk) e1) (pg_sub (pe_var r2N vr d2 c2) s1 (set_all hu) ha) hsw hws h1)) pss_nil)) hsi)), ?_⟩
  intro T σ H Γ p as rows hW c D ⟨q, hq, kk⟩
  have eK : ∀ N, (Tgs T N).W.K = X.K := fun N => by show T.W.K = X.K; rw [hW]
  unfold nsRow at hq
  cases m0 : mx Γ with
  | bad => simp only [m0] at hq; cases hq
  | exc cc fs => simp only [m0] at hq; cases hq
  | ok q0 =>
    obtain ⟨dx, Γ1⟩ := q0
    simp only [m0] at hq
    cases dx with
    | int x =>
      simp only at hq
      cases m1 : L2.ixN rows.length x with
      | none => simp only [m1] at hq; cases hq
      | some xi =>
        simp only [m1] at hq
        have hxi : xi < rows.length := (ixN_seq m1).2.1
        have hai : xi < as.length := by rw [c.ok.len]; exact hxi
        -- near[x]
        refine ⟨.ref p, c.at_, x2 (Tgs T (nestN p as rows)) σ H Γ hW c.cfg _ (fin_ok m0 fun v H1 n1 r1 => ?_)⟩
        cases r1
        obtain ⟨c1', f1⟩ := c.step n1 rfl
        have hap : H1 p = some (.lst (as.map V.ref)) := c1'.keep nest_p
        have haix : L2.atI (as.map V.ref) x = some (V.ref as[xi]) := by
          unfold L2.atI
          rw [List.length_map, c.ok.len, m1]
          show (as.map V.ref)[xi]? = _
          rw [List.getElem?_map]
          simp [hai]
        refine .inl (.inl ⟨p, _, x, _, rfl, rfl, .of hap, haix, ?_⟩)
        -- row = ..
        have n2 := c1'.cfg.drop (i := r) (v := some (.ref as[xi]))
        obtain ⟨cA, fA⟩ := c1'.step n2 (by rw [List.getElem?_set_ne (Ne.symm hnr)])
        have f01 := f1.trans fA
        by_cases hrl : r < Γ1.length
        case neg => rw [if_neg hrl] at hq; cases hq
        rw [if_pos hrl] at hq
        have hσr : (σ.set r (some (.ref as[xi])))[r]? = some (some (V.ref as[xi])) := List.getElem?_set_self (by rw [n1.cfg.len]; exact hrl)
        have ha : as[xi]? = some as[xi] := by simp [hai]
        cases m2 : mi (Γ1.set r .no) with
        | bad => simp only [m2] at hq; cases hq
        | exc cc fs => simp only [m2] at hq; cases hq
        | ok q1 =>
          obtain ⟨ds, Γ2⟩ := q1
          simp only [m2] at hq
          have hrow : rows[xi]? = some rows[xi] := by simp [hxi]
          simp only [hrow] at hq
          cases m3 : rowL mg (rowT mt mk2 me mk) ds rows[xi] Γ2 with
          | none => simp only [m3] at hq; cases hq
          | some q2 =>
            simp only [m3] at hq
            cases hq
            refine i2 (Tgs T (nestN p as rows)) _ H1 _ hW cA.cfg _ (fin_ok m2 fun J H2 n3 io => ?_)
            obtain ⟨cB, fB⟩ := cA.step n3 rfl
            obtain ⟨G, Y, wk, hG, hY⟩ := io
            refine for_it wk (fun i σ' H' => ∃ row Γi, NCf T p as n (rows.set xi row) σ' H' Γi ∧ σ'[r]? = some (some (V.ref as[xi])) ∧ NFr T p as rows (σ.set r (some (.ref as[xi]))) H2 Γ2 (rows.set xi row) σ' H' Γi ∧ rowL mg (rowT mt mk2 me mk) (ds.drop i) row Γi = some q2)
              ⟨rows[xi], Γ2, by rw [List.set_getElem_self]; exact cB, hσr, by rw [List.set_getElem_self]; exact .refl, m3⟩ (fun i σ' H' _ ⟨row, Γi, ci, _, fi, _⟩ => hG _ _ fi) ?_ ?_
            · rintro i y' σ' H' H3 hi' ⟨row, Γi, ci, hr1, fi, ki⟩ y
              obtain ⟨ex', hrr⟩ := hY i _ _ y' H3 hi' fi ci.cfg.sd y
              have n4 := ci.cfg.more ex'
              rw [List.drop_eq_getElem_cons hi'] at ki
              have rr := hrr ds[i] (by simp [hi'])
              unfold rowL at ki
              refine g2 (Tgs T (nestN p as (rows.set xi row))) σ' H3 Γi hW n4.cfg y' ds[i] rr _ ?_
              cases m4 : mg ds[i] Γi with
              | bad => simp only [m4] at ki; cases ki
              | exc cc fs => simp only [m4] at ki; cases ki
              | ok Γ3 =>
                simp only [m4] at ki
                refine fun σ2 H4 n5 bt => ?_
                have nn := n4.trans n5
                obtain ⟨cC, fC⟩ := ci.step nn (bt.at_ n hn)
                have hr2 : σ2[r]? = some (some (V.ref as[xi])) := (bt.at_ r hr).trans hr1
                cases m5 : rowT mt mk2 me mk row Γ3 with
                | none => rw [m5] at ki; cases ki
                | some q3 =>
                  rw [m5] at ki
                  have ki : rowL mg (rowT mt mk2 me mk) (ds.drop (i + 1)) q3.1 q3.2 = some q2 := ki
                  unfold rowT at m5
                  cases m6 : mt Γ3 with
                  | bad => simp only [m6] at m5; cases m5
                  | exc cc fs => simp only [m6] at m5; cases m5
                  | ok q4 =>
                    obtain ⟨b, Γ4⟩ := q4
                    simp only [m6] at m5
                    refine t2 (Tgs T (nestN p as (rows.set xi row))) σ2 H4 Γ3 hW cC.cfg _ (fin_ok m6 fun H5 n6 => ?_)
                    obtain ⟨cD, fD⟩ := cC.step n6 rfl
                    show ite (b = true) _ _
                    cases b with
                    | false =>
                      rw [if_neg Bool.false_ne_true] at m5 ⊢
                      cases m5
                      exact ⟨row, Γ4, cD, hr2, (fi.trans fC).trans fD, ki⟩
                    | true =>
                      rw [if_pos rfl] at m5 ⊢
                      cases m7 : mk2 Γ4 with
                      | bad => simp only [m7] at m5; cases m5
                      | exc cc fs => simp only [m7] at m5; cases m5
                      | ok q5 =>
                        obtain ⟨dk2, Γ5⟩ := q5
                        simp only [m7] at m5
                        cases dk2 with
                        | int k2i =>
                          simp only at m5
                          cases m8 : L2.atI row k2i with
                          | none => simp only [m8] at m5; cases m5
                          | some v0 =>
                            simp only [m8] at m5
                            cases m9 : me Γ5 with
                            | bad => simp only [m9] at m5; cases m5
                            | exc cc fs => simp only [m9] at m5; cases m5
                            | ok q6 =>
                              obtain ⟨dw, Γ6⟩ := q6
                              simp only [m9] at m5
                              cases dw with
                              | int w0 =>
                                simp only at m5
                                cases m10 : mk Γ6 with
                                | bad => simp only [m10] at m5; cases m5
                                | exc cc fs => simp only [m10] at m5; cases m5
                                | ok q7 =>
                                  obtain ⟨dk, Γ7⟩ := q7
                                  simp only [m10] at m5
                                  cases dk with
                                  | int k0 =>
                                    simp only at m5
                                    cases m11 : L2.ixN row.length k0 with
                                    | none => simp only [m11] at m5; cases m5
                                    | some j0 =>
                                      simp only [m11] at m5
                                      cases m5
                                      have hxs : xi < (rows.set xi row).length := by rw [List.length_set]; exact hxi
                                      have cell : ∀ {σ' H' Γ'}, NCf T p as n (rows.set xi row) σ' H' Γ' → H' as[xi] = some (.lst (row.map V.int)) := fun {σ' H' Γ'} cc => cc.keep (nest_at cc.ok ha (by simp [hxi]))
                                      refine ⟨_, hr2, k2 (Tgs T (nestN p as (rows.set xi row))) σ2 H5 Γ4 hW cD.cfg _ (fin_ok m7 fun u H6 n7 r7 => ?_)⟩
                                      cases r7
                                      obtain ⟨cE, fE⟩ := cD.step n7 rfl
                                      refine .inl (.inl ⟨as[xi], _, k2i, .int v0, rfl, rfl, .of (cell cE), atI_map m8, ?_⟩)
                                      refine e2 (Tgs T (nestN p as (rows.set xi row))) σ2 H6 Γ5 hW cE.cfg _ (fin_ok m9 fun u H7 n8 r8 => ?_)
                                      cases r8
                                      obtain ⟨cF, fF⟩ := cE.step n8 rfl
                                      refine ⟨v0, w0, rfl, rfl, ?_⟩
                                      refine ⟨_, hr2, s2 (Tgs T (nestN p as (rows.set xi row))) σ2 H7 Γ6 hW cF.cfg _ (fin_ok m10 fun u H8 n9 r9 => ?_)⟩
                                      cases r9
                                      obtain ⟨cG, fG⟩ := cF.step n9 rfl
                                      refine .inl ⟨as[xi], _, k0, j0, rfl, rfl, cell cG, by rw [List.length_map]; exact m11, ?_⟩
                                      obtain ⟨cH, fH⟩ := cG.setRow (r := row.set j0 (Builtin.bitOr v0 w0)) ha
                                      rw [List.set_set] at cH fH
                                      rw [map_set_int]
                                      exact ⟨row.set j0 (Builtin.bitOr v0 w0), Γ7, cH, hr2, (((((fi.trans fC).trans fD).trans fE).trans fF).trans fG).trans fH, ki⟩
                                  | _ => simp only at m5; cases m5
                              | _ => simp only at m5; cases m5
                        | _ => simp only at m5; cases m5
            · rintro σ' H' ⟨row, Γi, ci, _, fi, ki⟩
              rw [List.drop_length] at ki
              cases ki
              exact kk σ' H' ci ((f01.trans fB).trans fi)
    | _ => simp only at hq; cases hq
end DL
/-! DL21: near = [[..] for ..], then statements that change its rows, then it is an own thing. -/
namespace DL
open PySem L2 PyProof.Rows
variable {cl : Nat → Addr} {E : XK} {X : Cx}
/-- statements while the rows are set aside, told from an earlier state -/
def SndNest (W : Wd) (E : XK) (n : Nat) (t : TS) (m : List (List Int) → SM) : Prop := ∀ T σ H Γ p as rows σ0 H0 Γ0, T.W = W → NCf T p as n rows σ H Γ → Fr (Sx T.S σ0 Γ0) H0 (Sx (Tgs T (nestN p as rows)).S σ Γ) H → (∀ a, a = p ∨ a ∈ as → H0 a = none) → ∀ D : Ends, FinS T E σ0 H0 Γ0 D (m rows Γ) → t D σ H
structure PyNest (X : Cx) (cl : Nat → Addr) (E : XK) (n : Nat) (s : List Stmt) (m : List (List Int) → SM) : Prop where
  out : ∃ t, PSs X s t ∧ SndNest ⟨X.K, cl⟩ E n t m
def nestCons (a : NM) (b : List (List Int) → SM) : List (List Int) → SM := fun rows Γ => match a rows Γ with
  | some q => b q.1 q.2
  | none => .bad
theorem nest_cons {n : Nat} {s : Stmt} {r : List Stmt} {a : NM} {b : List (List Int) → SM} (h : PyNs X cl n s a) (g : PyNest X cl E n r b) : PyNest X cl E n (s :: r) (nestCons a b) := by
  obtain ⟨t, h1, h2⟩ := h.out
  obtain ⟨u, g1, g2⟩ := g.out
  refine ⟨_, pss_cons h1 g1, fun T σ H Γ p as rows σ0 H0 Γ0 hW c f h0 D k => ?_⟩
  unfold nestCons at k
  cases e : a rows Γ with
  | none => simp only [e] at k; exact k.elim
  | some q =>
    simp only [e] at k
    exact h2 T σ H Γ p as rows hW c _ ⟨q, e, fun σ1 H1 c1 f1 => g2 T σ1 H1 q.2 p as q.1 σ0 H0 Γ0 hW c1 (f.trans f1) h0 D k⟩
def nestEnd (n : Nat) (m : SM) : List (List Int) → SM := fun rows Γ => m (Γ.set n (.ow (rowsD rows)))
theorem nest_end {n : Nat} {r : List Stmt} {m : SM} (h : PySs X cl E r m) : PyNest X cl E n r (nestEnd n m) := by
  obtain ⟨t, h1, h2⟩ := h.out
  refine ⟨t, h1, fun T σ H Γ p as rows σ0 H0 Γ0 hW c f h0 D k => ?_⟩
  have nx := nest_free c.ok c.cfg c.at_ f h0
  exact h2 T σ H _ hW nx.cfg D (k.from nx)
/-- a list of ints -/
def toInts : D → Option (List Int)
  | .lst xs => intsD xs
  | _ => none
theorem intsD_eq : ∀ {xs : List D} {r : List Int}, intsD xs = some r → xs = r.map D.int
  | [], r, h => by cases h; rfl
  | x :: xs, r, h => by
    cases x <;> try (simp [intsD] at h; done)
    rename_i i
    simp only [intsD] at h
    cases e : intsD xs with
    | none => rw [e] at h; cases h
    | some q =>
      rw [e] at h
      cases h
      rw [intsD_eq e]
      rfl
/-- the rows of [[..] for g in ..] -/
def nestL (vs : List Nat) (g : GM) (t : M Bool) (e : M D) : List D → Env → Option (List (List Int) × Env)
  | [], Γ => some ([], Γ)
  | d :: ds, Γ => match g d Γ with
    | .ok Γa => match t Γa with
      | .ok (b, Γb) => if b = true then (match e Γb with
          | .ok (y, Γc) => match toInts y with
            | some r => (nestL vs g t e ds (wipeE Γc vs)).bind fun q => some (r :: q.1, q.2)
            | none => none
          | _ => none)
        else nestL vs g t e ds (wipeE Γb vs)
      | _ => none
    | _ => none
def sNest (n : Nat) (vs : List Nat) (it : M (List D)) (g : GM) (t : M Bool) (e : M D) (rest : List (List Int) → SM) : SM := fun Γ => match it Γ with
  | .ok (ds, Γ1) => match nestL vs g t e ds (wipeE Γ1 vs) with
    | some q => if q.1.length ≤ big ∧ n < Γ1.length then rest q.1 (q.2.set n .no) else .bad
    | none => .bad
  | _ => .bad
theorem wipeE_len {Γ : Env} : ∀ {vs : List Nat}, (wipeE Γ vs).length = Γ.length
  | [] => rfl
  | v :: vs => by
    show ((wipeE Γ vs).set v .no).length = _
    rw [List.length_set, wipeE_len]
theorem nest_app {T : Act} {p : Addr} {as : List Addr} {rows : List (List Int)} (k : NOk T p as rows) {q : Addr} {r : List Int} (hq : q ≠ p) (hm : q ∉ as) (a : Addr) : nestN p (as ++ [q]) (rows ++ [r]) a = if a = p then some (.lst ((as ++ [q]).map V.ref)) else if a = q then some (.lst (r.map V.int)) else nestN p as rows a := by
  by_cases z : a = p
  · subst z; rw [if_pos rfl, nest_p]
  · rw [if_neg z]
    have app : ∀ (l : List Addr) (rs : List (List Int)), l.length = rs.length → q ∉ l → ((l ++ [q]).zip (rs ++ [r])).lookup a = if a = q then some r else (l.zip rs).lookup a := fun l => by
      induction l with
      | nil =>
        intro rs hl _
        cases rs with
        | cons _ _ => cases hl
        | nil =>
          by_cases y : a = q
          · subst y; simp [List.lookup]
          · have y' : (a == q) = false := by simpa using y
            rw [if_neg y]
            simp [List.lookup, y']
      | cons b l ih =>
        intro rs hl nq
        cases rs with
        | nil => cases hl
        | cons r0 rs =>
          have ih' := ih rs (by simpa using hl) fun z => nq (List.mem_cons_of_mem _ z)
          by_cases y : a = b
          · have nb : a ≠ q := fun z => nq (by rw [← z, y]; exact List.mem_cons_self)
            subst y
            rw [if_neg nb]
            simp [List.lookup]
          · have y' : (a == b) = false := by simpa using y
            simp only [List.cons_append, List.zip_cons_cons, List.lookup, y']
            exact ih'
    unfold nestN
    rw [if_neg z, if_neg z, app as rows k.len hm]
    by_cases y : a = q
    · rw [if_pos y, if_pos y]; rfl
    · rw [if_neg y, if_neg y]
theorem snd_nest {W : Wd} {n : Nat} {vs js : List Nat} {wi : TI} {g : TG} {tt : TT} {te : TE} {u : TS} {mi : M (List D)} {mg : GM} {mt : M Bool} {me : M D} {rest : List (List Int) → SM} (hi : SndI W E wi mi) (hg : SndG W E0' js g mg) (ht : SndT W E0' tt mt) (he : SndN W E0' te me) (hj : ∀ j ∈ js, j ∈ vs)
    (hu : SndNest W E n u rest) : SndS W E (tSeq (tAsg (tLc wi g tt te vs) (gName n)) u) (sNest n vs mi mg mt me rest) := fun T σ H Γ hW c Dn h => by
  unfold sNest at h
  show wi σ H _
  cases e0 : mi Γ with
  | bad => simp only [e0] at h; exact h.elim
  | exc cc fs => simp only [e0] at h; exact h.elim
  | ok p0 =>
    obtain ⟨ds, Γ1⟩ := p0
    simp only [e0] at h
    cases e1 : nestL vs mg mt me ds (wipeE Γ1 vs) with
    | none => simp only [e1] at h; exact h.elim
    | some qq =>
      obtain ⟨zs, Γz⟩ := qq
      simp only [e1] at h
      by_cases hb : zs.length ≤ big ∧ n < Γ1.length
      case neg => rw [if_neg hb] at h; exact h.elim
      rw [if_pos hb] at h
      refine hi T σ H Γ hW c _ ?_
      rw [e0]
      intro J H1 n1 io
      obtain ⟨G, Y, wk, hG, hY⟩ := io
      intro Dl hD
      have nB : ¬ T.Bs Dl := fun q => n1.cfg.bs Dl q hD
      have nS : ¬ T.S Dl := fun q => n1.cfg.dom Dl q hD
      have nH : T.H Dl = none := n1.cfg.entry hD
      have nw := n1.cfg.wipe vs
      have ok0 : NOk T Dl [] [] := by
        refine ⟨rfl, List.nodup_nil, fun z => (nomatch z), fun a z => ?_, fun a z => ?_, fun a z => ?_⟩
        · rcases z with rfl | z
          · exact nB
          · cases z
        · rcases z with rfl | z
          · exact nS
          · cases z
        · rcases z with rfl | z
          · exact nH
          · cases z
      have nn0 : ∀ a, nestN Dl [] [] a = if a = Dl then some (.lst []) else none := fun a => rfl
      have start : Cfg (Tgs T (nestN Dl [] [])) (L2.wipe σ vs) (upd H1 Dl (.lst [])) (wipeE Γ1 vs) ∧ Fr (Sx T.S (L2.wipe σ vs) (wipeE Γ1 vs)) H1 (Sx (Tgs T (nestN Dl [] [])).S (L2.wipe σ vs) (wipeE Γ1 vs)) (upd H1 Dl (.lst [])) := by
        have c0 : Cfg (Tgs T (fun _ => none)) (L2.wipe σ vs) H1 (wipeE Γ1 vs) := by rw [Tgs_none]; exact nw.cfg
        have k := c0.reN (fun a z => absurd rfl z) (N' := nestN Dl [] []) (H' := upd H1 Dl (.lst [])) (fun a z => ok0.nb a (nest_dom z)) (fun a z => absurd rfl z) (fun a z _ => by
          rcases nest_dom z with rfl | z
          · exact hD
          · cases z) fun a => by
            rw [nn0]
            by_cases z : a = Dl
            · subst z; rw [if_pos rfl, upd_same]
            · rw [if_neg z, upd_ne z]
        rw [Tgs_none] at k
        exact k
      refine lc_it wk (fun i H' => ∃ Γi as ys rs, Cfg (Tgs T (nestN Dl as ys)) (L2.wipe σ vs) H' Γi ∧ NOk T Dl as ys ∧ (∀ a ∈ as, H1 a = none) ∧ Fr (Sx T.S σ Γ1) H1 (Sx (Tgs T (nestN Dl as ys)).S (L2.wipe σ vs) Γi) H' ∧ (∀ (j : Nat), j ∈ vs → ∀ (s : Sl), Γi[j]? = some s → s = Sl.no) ∧ Γi.length = Γ1.length ∧ nestL vs mg mt me (ds.drop i) Γi = some (rs, Γz) ∧ zs = ys ++ rs) ?_ ?_ ?_ ?_
      · exact ⟨wipeE Γ1 vs, [], [], zs, start.1, ok0, fun a z => (nomatch z), nw.fr.trans start.2, fun j hj s e => wipeE_no hj e, wipeE_len, e1, rfl⟩
      · rintro i H' _ ⟨Γi, as, ys, rs, ci, ok, hf, fi, _⟩
        exact hG _ _ fi
      · rintro i x H' H3 hi' ⟨Γi, as, ys, rs, ci, ok, hf, fi, wi', hlen, rem, ez⟩ y
        obtain ⟨ex, hr⟩ := hY i _ _ x H3 hi' fi ci.sd y
        have n3 := ci.more ex
        rw [List.drop_eq_getElem_cons hi'] at rem
        have r := hr ds[i] (by simp [hi'])
        have hW' : (Tgs T (nestN Dl as ys)).W = W := hW
        unfold nestL at rem
        refine hg (Tgs T (nestN Dl as ys)) (L2.wipe σ vs) H3 Γi hW' n3.cfg x ds[i] r _ ?_
        cases e2 : mg ds[i] Γi with
        | bad => simp only [e2] at rem; cases rem
        | exc cc fs => simp only [e2] at rem; cases rem
        | ok Γa =>
          simp only [e2] at rem
          refine fun σ2 H2 n2 bt => ?_
          have w2 : L2.wipe σ2 vs = L2.wipe σ vs := by rw [wipe_eq bt hj, wipe_wipe]
          refine ⟨w2, ht (Tgs T (nestN Dl as ys)) σ2 H2 Γa hW' n2.cfg _ ?_⟩
          cases e3 : mt Γa with
          | bad => simp only [e3] at rem; cases rem
          | exc cc fs => simp only [e3] at rem; cases rem
          | ok pb =>
            obtain ⟨b, Γb⟩ := pb
            simp only [e3] at rem
            refine fun H4 n4 => ?_
            show ite (b = true) _ _
            have nn := n3.trans (n2.trans n4)
            cases b with
            | false =>
              rw [if_neg Bool.false_ne_true] at rem ⊢
              have n5 := nn.trans (nn.cfg.wipe vs)
              rw [w2] at n5
              refine ⟨wipeE Γb vs, as, ys, rs, n5.cfg, ok, hf, fi.trans n5.fr, fun j hj s e => wipeE_no hj e, ?_, rem, ez⟩
              rw [← n5.cfg.len, ci.len, hlen]
            | true =>
              rw [if_pos rfl] at rem ⊢
              refine he (Tgs T (nestN Dl as ys)) σ2 H4 Γb hW' n4.cfg _ ?_
              cases e4 : me Γb with
              | bad => simp only [e4] at rem; cases rem
              | exc cc fs => simp only [e4] at rem; cases rem
              | ok py =>
                obtain ⟨yv, Γc⟩ := py
                simp only [e4] at rem
                cases e5 : toInts yv with
                | none => simp only [e5] at rem; cases rem
                | some row =>
                  simp only [e5] at rem
                  cases e6 : nestL vs mg mt me (ds.drop (i + 1)) (wipeE Γc vs) with
                  | none => rw [e6] at rem; cases rem
                  | some q3 =>
                    obtain ⟨q1, q2⟩ := q3
                    rw [e6] at rem
                    cases rem
                    intro q Hm H5 n5 hq exq ow
                    have keepm : ∀ {H' : Hp} {Γ' : Env} {σ' : L2.St}, Cfg (Tgs T (nestN Dl as ys)) σ' H' Γ' → ∀ {a : Addr} {o : HO}, nestN Dl as ys a = some o → H' a = some o := fun {H' Γ' σ'} cc {a o} z => cc.keep a o (Tgs_in z) (ok.nb a (nest_dom (by rw [z]; intro y; cases y)))
                    have hDm : Hm Dl = some (.lst (as.map V.ref)) := keepm n5.cfg nest_p
                    have qD : q ≠ Dl := fun z => by rw [z, hDm] at hq; cases hq
                    have qas : q ∉ as := fun z => by
                      obtain ⟨j, hj', ej⟩ := List.mem_iff_getElem.mp z
                      have hjr : j < ys.length := ok.len ▸ hj'
                      rw [keepm n5.cfg (nest_at ok (i := j) (a := q) (r := ys[j]) (by simp [hj', ej]) (by simp [hjr]))] at hq
                      cases hq
                    have hq5 : H5 q = some (.lst (row.map V.int)) := by
                      cases yv <;> try (cases e5; done)
                      rename_i xs0
                      obtain ⟨xs, h1, h2⟩ := ow
                      rw [intsD_eq e5] at h2
                      rw [h1, rep_ints h2]
                    have nT : T.H q = none := by
                      have k := n5.cfg.entry hq
                      have nn : nestN Dl as ys q = none := by
                        cases z : nestN Dl as ys q with
                        | none => rfl
                        | some o => rw [keepm n5.cfg z] at hq; cases hq
                      rw [Tgs_out nn] at k
                      exact k
                    have nTS : ¬ T.S q := fun z => n5.cfg.dom q (.inl z) hq
                    have nTB : ¬ T.Bs q := fun z => n5.cfg.bs q z hq
                    have ok2 : NOk T Dl (as ++ [q]) (ys ++ [row]) := ⟨by simp [ok.len], by
                      rw [List.nodup_append]
                      exact ⟨ok.nd, by simp, fun a ha b hb' => by
                        simp at hb'
                        subst hb'
                        exact fun z => qas (z ▸ ha)⟩, fun z => by
                      rcases List.mem_append.mp z with z | z
                      · exact ok.np z
                      · simp at z; exact qD z.symm, fun a z => by
                      rcases z with z | z
                      · exact ok.nb a (.inl z)
                      · rcases List.mem_append.mp z with z | z
                        · exact ok.nb a (.inr z)
                        · simp at z; rw [z]; exact nTB, fun a z => by
                      rcases z with z | z
                      · exact ok.ns a (.inl z)
                      · rcases List.mem_append.mp z with z | z
                        · exact ok.ns a (.inr z)
                        · simp at z; rw [z]; exact nTS, fun a z => by
                      rcases z with z | z
                      · exact ok.nh a (.inl z)
                      · rcases List.mem_append.mp z with z | z
                        · exact ok.nh a (.inr z)
                        · simp at z; rw [z]; exact nT⟩
                    have exd' : ∀ a o, Hm a = some o → delH H5 q a = some o := fun a o z => by
                      rw [delH_ne (ne_of_none z hq)]; exact exq a o z
                    have n6 := n5.cfg.more exd'
                    have hD5 : H5 Dl = some (.lst (as.map V.ref)) := exq _ _ hDm
                    obtain ⟨c7, f7⟩ := n6.cfg.reN (fun a z => ok.nb a (nest_dom z)) (N' := nestN Dl (as ++ [q]) (ys ++ [row])) (H' := upd H5 Dl (.lst ((as ++ [q]).map V.ref))) (fun a z => ok2.nb a (nest_dom z)) (fun a z => nest_in ok2 (by
                      rcases nest_dom z with z | z
                      · exact .inl z
                      · exact .inr (List.mem_append_left _ z))) (fun a z z0 => by
                      rcases nest_dom z with z | z
                      · rw [z, nest_p] at z0; cases z0
                      · rcases List.mem_append.mp z with z | z
                        · exact absurd z0 (nest_in ok (.inr z))
                        · simp at z; rw [z]; exact delH_same) fun a => by
                        rw [nest_app ok qD qas]
                        by_cases z : a = Dl
                        · subst z; rw [if_pos rfl, upd_same]
                        · rw [if_neg z, upd_ne z]
                          by_cases z2 : a = q
                          · subst z2; rw [if_pos rfl]; exact hq5
                          · rw [if_neg z2]
                            cases z3 : nestN Dl as ys a with
                            | none => show H5 a = delH H5 q a; rw [delH_ne z2]
                            | some o => exact exq _ _ (keepm n5.cfg z3)
                    have n8 := c7.wipe vs
                    rw [w2] at n8
                    have lenb : (as.map V.ref).length < sizeLine := by
                      refine big_lt ?_
                      have := hb.1
                      rw [ez] at this
                      simp only [List.length_append, List.length_cons, List.length_map] at this ⊢
                      rw [ok.len]
                      omega
                    have fq : H1 q = none := by
                      cases z : H1 q with
                      | none => rfl
                      | some u =>
                        have g1 := fi.grow q (by rw [z]; intro y; cases y)
                        have g2 := (nn.fr.trans n5.fr).grow q g1
                        exact absurd hq g2
                    have fA : Fr (Sx T.S σ Γ1) H1 (Sx (Tgs T (nestN Dl (as ++ [q]) (ys ++ [row]))).S (L2.wipe σ vs) (wipeE Γc vs)) (upd H5 Dl (.lst ((as ++ [q]).map V.ref))) :=
                      (((fi.trans (nn.trans n5).fr).trans n6.fr).trans f7).trans n8.fr
                    refine ⟨as.map V.ref, hD5, lenb, wipeE Γc vs, as ++ [q], ys ++ [row], q1, ?_, ok2, ?_, ?_, fun j hj s e => wipeE_no hj e, ?_, e6, by rw [ez]; simp⟩
                    · have e9 : (as ++ [q]).map V.ref = as.map V.ref ++ [V.ref q] := by simp
                      rw [e9] at n8
                      exact n8.cfg
                    · intro a ha
                      rcases List.mem_append.mp ha with z | z
                      · exact hf a z
                      · simp at z; rw [z]; exact fq
                    · have e9 : (as ++ [q]).map V.ref = as.map V.ref ++ [V.ref q] := by simp
                      rw [e9] at fA
                      exact fA
                    · rw [← n8.cfg.len, wipe_length, ← wipe_length σ vs, ci.len, hlen]
      · rintro H' ⟨Γi, as, ys, rs, ci, ok, hf, fi, wi', hlen, rem, ez⟩
        rw [List.drop_length] at rem
        cases rem
        rw [List.append_nil] at ez
        subst ez
        have hln : n < Γz.length := by rw [hlen]; exact hb.2
        obtain ⟨cs, sx⟩ := ci.slots (σ' := σ) (by rw [wipe_length]) fun (j : Nat) (s : Sl) e => by
          by_cases hj : j ∈ vs
          · exact .inl (wi' j hj s e)
          · exact .inr (wipe_at hj).symm
        have nd := cs.drop (i := n) (v := some (.ref Dl))
        have at_ : (σ.set n (some (V.ref Dl)))[n]? = some (some (V.ref Dl)) := List.getElem?_set_self (by rw [cs.len]; exact hln)
        have fr : Fr (Sx T.S σ Γ1) H1 (Sx (Tgs T (nestN Dl as zs)).S (σ.set n (some (V.ref Dl))) (Γz.set n .no)) H' := (fi.trans (.weak fun a q => (sx a).mp q)).trans nd.fr
        refine hu T (σ.set n (some (V.ref Dl))) H' _ Dl as zs σ H1 Γ1 hW ⟨nd.cfg, ok, at_⟩ fr (fun a z => ?_) Dn (h.from n1)
        rcases z with z | z
        · rw [z]; exact hD
        · exact hf a z
end DL
/-! DL22: {k: v, ..}; the rule for a list of rows; small things for printed proofs. -/
namespace DL
open PySem L2 PyProof.Rows
variable {cl : Nat → Addr} {E : XK} {X : Cx}
theorem ss_nest (n : Nat) {own : List (Str × Nat)} {js : List Nat} {y : Str} {py spos : Pos} {elt tg iter : Expr} {ifs : List Expr} {scope : Scope} {pos : Pos} {r : List Stmt} {mi : M (List D)} {mg : GM} {mt : M Bool} {me : M D} {rest : List (List Int) → SM} (hc : X.calm = true) (hN : X.N.Nodup) (hi : PyI X cl E tg iter mi)
    (ok : BlkOk X.N X.env.scope scope own) (hg : ∀ i, PyG (Bk X scope i) cl E0' js tg mg) (ht : ∀ i, PyTs (Bk X scope i) cl E0' ifs mt) (he : ∀ i, PyN (Bk X scope i) cl E0' elt me) (hr : PyNest X cl E n r rest) (hj : ∀ j ∈ js, j ∈ own.map (·.2) := by decide) (hy : X.N[n]? = some y := by rfl)
    (hyl : X.env.scope.names.lookup y = some .local := by rfl) (hsw : swapsWith (.ListComp elt [⟨tg, iter, ifs, 0⟩] scope pos) (some (.Name y py)) spos.line X.env = pure true := by rfl) (hs : ∀ x, foldedSetIterable iter X.env x = pure x := by intro _; rfl) :
    PySs X cl E (.Assign [.Name y py] (.ListComp elt [⟨tg, iter, ifs, 0⟩] scope pos) spos :: r) (sNest n (own.map (·.2)) mi mg mt me rest) := by
  obtain ⟨wi, i1, i2⟩ := hi.out
  obtain ⟨g, g1, g2⟩ := uniG (Xf := Bk X scope) (W := ⟨X.K, cl⟩) fun i => (hg i).out
  obtain ⟨t, t1, t2⟩ := uniT (Xf := Bk X scope) (W := ⟨X.K, cl⟩) fun i => (ht i).out
  obtain ⟨u, u1, u2⟩ := hr.out
  have uniN : ∃ te, (∀ i, PE (Bk X scope i) elt te) ∧ SndN ⟨X.K, cl⟩ E0' te me :=
    ⟨fun σ H Q => ∀ i, Classical.choose (he i).out σ H Q, fun i => ⟨fun pins s σ H Q I k => (Classical.choose_spec (he i).out).1.run pins s σ H Q I (k i)⟩, fun T σ H Γ hW c Q f i => (Classical.choose_spec (he i).out).2 T σ H Γ hW c Q f⟩
  obtain ⟨te, e1, e2⟩ := uniN
  exact ⟨_, pss_cons (ps_setLc hc hN hy hyl hsw i1 ok (fun s H C c fp => g1 ⟨s, H, C, c, fp⟩) (fun s H C c fp => t1 ⟨s, H, C, c, fp⟩) (fun s H C c fp => e1 ⟨s, H, C, c, fp⟩) hs) u1, snd_nest i2 g2 t2 e2 hj u2⟩
/-! ### {k: v, ..} -/
abbrev KP (T : Act) (σ : L2.St) (H : Hp) (Γ : Env) (Q : List (V × V) → Hp → Prop) : List (D × D) → Env → Prop := fun ds Γ' => ∀ ps H', Nx T σ H Γ σ H' Γ' → RepL T.W H' (Sx T.S σ Γ') (ps.map Prod.fst) (ds.map Prod.fst) → RepL T.W H' (Sx T.S σ Γ') (ps.map Prod.snd) (ds.map Prod.snd) → Q ps H'
def SndPs (W : Wd) (E : XK) (trs : List (TE × TE)) (m : M (List (D × D))) : Prop := ∀ T σ H Γ, T.W = W → Cfg T σ H Γ → ∀ Q, Fin T E (KP T σ H Γ Q) (m Γ) → tPairs trs σ H Q
structure PyPs (X : Cx) (cl : Nat → Addr) (E : XK) (pos : Pos) (ks : List (Option Expr)) (vs : List Expr) (m : M (List (D × D))) : Prop where
  out : ∃ trs, PPs X pos ks vs trs ∧ SndPs ⟨X.K, cl⟩ E trs m
def mPs0 : M (List (D × D)) := ret []
def mPs (k v : M D) (r : M (List (D × D))) : M (List (D × D)) := bnd k fun x => bnd v fun y => bnd r fun l => ret ((x, y) :: l)
theorem p_nil {pos : Pos} : PyPs X cl E pos [] [] mPs0 := ⟨_, pps_nil, fun T σ H Γ hW c Q q => q [] H (.refl c) .nil .nil⟩
theorem p_cons {pos : Pos} {k v : Expr} {ks : List (Option Expr)} {vs : List Expr} {mk mv : M D} {r : M (List (D × D))} (hk : PyE X cl E k mk) (hv : PyE X cl E v mv) (hr : PyPs X cl E pos ks vs r) : PyPs X cl E pos (some k :: ks) (v :: vs) (mPs mk mv r) := by
  obtain ⟨tk, k1, k2⟩ := hk.out
  obtain ⟨tv, v1, v2⟩ := hv.out
  obtain ⟨tr, r1, r2⟩ := hr.out
  refine ⟨_, pps_cons k1 v1 r1, fun T σ H Γ hW c Q q => ?_⟩
  refine k2 T σ H Γ hW c _ (q.bind.imp fun dk Γ1 q1 x H1 n1 s1 => ?_)
  refine v2 T σ H1 Γ1 hW n1.cfg _ (q1.bind.imp fun dv Γ2 q2 y H2 n2 s2 => ?_)
  refine r2 T σ H2 Γ2 hW n2.cfg _ (q2.bind.imp fun l Γ3 q3 ps H3 n3 s3 s4 => ?_)
  exact q3 _ H3 (n1.trans (n2.trans n3)) (.cons ((s1.move n2.fr).move n3.fr) s3) (.cons (s2.move n3.fr) s4)
def keysP : List (D × D) → Option (List (Key × D))
  | [] => some []
  | (k, v) :: r => match keyD k, keysP r with
    | some k, some l => some ((k, v) :: l)
    | _, _ => none
def dDict (ps : List (D × D)) : R D := if ps.length ≤ 15 then (match keysP ps with
  | some l => .ok (.dK (l.foldl (fun acc kv => dPut acc kv.1 kv.2) []))
  | none => .bad) else .bad
theorem keysP_rel {W : Wd} {H : Hp} {S : AS} : ∀ {ps : List (V × V)} {ds : List (D × D)} {l : List (Key × D)}, RepL W H S (ps.map Prod.fst) (ds.map Prod.fst) → RepL W H S (ps.map Prod.snd) (ds.map Prod.snd) → keysP ds = some l →
    ∃ kvs : List (Key × V), ps = kvs.map (fun kv => (kV kv.1, kv.2)) ∧ kvs.map Prod.fst = l.map Prod.fst ∧ RepL W H S (kvs.map Prod.snd) (l.map Prod.snd)
  | [], [], l, _, _, h => by cases h; exact ⟨[], rfl, rfl, .nil⟩
  | (x, y) :: ps, (k, v) :: ds, l, .cons r1 rs1, .cons r2 rs2, h => by
    simp only [keysP] at h
    cases e1 : keyD k with
    | none => simp only [e1] at h; cases h
    | some kk =>
      cases e2 : keysP ds with
      | none => simp only [e1, e2] at h; cases h
      | some l' =>
        simp only [e1, e2] at h
        cases h
        obtain ⟨kvs, a, b, c⟩ := keysP_rel rs1 rs2 e2
        refine ⟨(kk, y) :: kvs, ?_, ?_, .cons r2 c⟩
        · have ex : x = kV kk := r1.key e1
          rw [ex, a]; rfl
        · simp only [List.map_cons, b]
theorem merge_rel {W : Wd} {H : Hp} {S : AS} : ∀ {kvs : List (Key × V)} {l : List (Key × D)} {acc : List (Key × V)} {ad : List (Key × D)}, kvs.map Prod.fst = l.map Prod.fst → RepL W H S (kvs.map Prod.snd) (l.map Prod.snd) → acc.map Prod.fst = ad.map Prod.fst → RepL W H S (acc.map Prod.snd) (ad.map Prod.snd) →
    (mergeK acc kvs).map Prod.fst = (l.foldl (fun acc kv => dPut acc kv.1 kv.2) ad).map Prod.fst ∧ RepL W H S ((mergeK acc kvs).map Prod.snd) ((l.foldl (fun acc kv => dPut acc kv.1 kv.2) ad).map Prod.snd)
  | [], [], acc, ad, _, _, h, r => ⟨h, r⟩
  | [], _ :: _, acc, ad, k, _, _, _ => by cases k
  | _ :: _, [], acc, ad, k, _, _, _ => by cases k
  | (k, y) :: kvs, (k', v) :: l, acc, ad, hk, hr, h, r => by
    have e : k = k' := (List.cons.inj hk).1
    subst e
    cases hr with
    | cons r1 r2 =>
      obtain ⟨p1, p2⟩ := put_rel (k := k) r1 h r
      exact merge_rel (kvs := kvs) (l := l) (acc := putK acc k y) (ad := dPut ad k v) (List.cons.inj hk).2 r2 p1 p2
def mDict (m : M (List (D × D))) : M D := bnd m fun l => lift (noexc (dDict l))
theorem n_dict {pos : Pos} {ks : List (Option Expr)} {vs : List Expr} {m : M (List (D × D))} (h : PyPs X cl E pos ks vs m) (hall : ks.all (·.isSome) = true := by rfl) (hl : ks.length = vs.length := by rfl) (h0 : ks ≠ [] := by exact fun z => nomatch z) (h15 : ks.length ≤ 15 := by decide) : PyN X cl E (.Dict ks vs pos) (mDict m) := by
  obtain ⟨trs, a1, a2⟩ := h.out
  refine ⟨_, pe_disp a1 hall hl h0 h15, fun T σ H Γ hW c Q q => ?_⟩
  intro p hp
  have nT : T.H p = none := c.entry hp
  have nS : ¬ T.S p := fun z => c.dom p z hp
  have nB : ¬ T.Bs p := fun z => c.bs p z hp
  refine a2 (Tg T p (.dK [])) σ _ Γ hW (c.guard hp) _ (q.bind.tg nT fun ds Γ1 k1 ps H1 n1 s1 s2 => ?_)
  have hp1 : H1 p = some (.dK []) := n1.cfg.keep p _ (by show (if p = p then some (HO.dK []) else T.H p) = _; rw [if_pos rfl]) nB
  obtain ⟨z, hz, k2⟩ := Fin.lift (P := KN T σ H Γ Q) k1 noexc_ne
  have hz := noexc_ok hz
  unfold dDict at hz
  by_cases hlen : ds.length ≤ 15
  · rw [if_pos hlen] at hz
    cases e : keysP ds with
    | none => simp only [e] at hz; cases hz
    | some l =>
      simp only [e] at hz
      cases hz
      obtain ⟨kvs, e1, e2, e3⟩ := keysP_rel s1 s2 e
      have el : kvs.length ≤ 15 := by
        have q1 := s1.len
        rw [e1] at q1
        simp only [List.length_map] at q1
        omega
      refine ⟨hp1, kvs, e1, el, ?_⟩
      have cu := n1.cfg.unguard nB nS nT
      obtain ⟨m1, m2⟩ := merge_rel (acc := []) (ad := []) e2 e3 rfl .nil
      have nd : Nx T σ H Γ σ (delH H1 p) Γ1 := ⟨cu, ⟨⟨fun a u h n => ?_, fun a z => ?_⟩, fun a z => ?_⟩⟩
      · refine k2 p (delH H1 p) _ nd delH_same (fun a u h => ?_) ⟨_, upd_same, m1, m2.mv ⟨fun a u h n => ?_, fun a z => .inl ?_⟩⟩
        · have na : a ≠ p := fun z => by rw [z, delH_same] at h; cases h
          rw [upd_ne na]
          exact delH_le a u h
        · have na : a ≠ p := fun z => n (.inl (.inr z))
          rw [upd_ne na]; exact h
        · rcases z with (z | z) | z
          · exact .inl (.inl z)
          · exact .inr z
          · exact .inl (.inr z)
      · have na : a ≠ p := ne_of_none h hp
        rw [delH_ne na]
        refine n1.fr.ext a u (by rw [upd_ne na]; exact h) fun z => n ?_
        rcases z with (z | z) | z
        · exact .inl z
        · exact absurd z na
        · exact .inr z
      · have k := n1.fr.sub a (by
          rcases z with z | z
          · exact .inl (.inl z)
          · exact .inr z)
        rcases k with ((k | k) | k) | k
        · exact .inl (.inl k)
        · exact .inr (k ▸ hp)
        · exact .inl (.inr k)
        · by_cases na : a = p
          · exact .inr (na ▸ hp)
          · rw [upd_ne na] at k; exact .inr k
      · have na : a ≠ p := fun y => z (y ▸ hp)
        rw [delH_ne na]
        exact n1.fr.grow a (by rw [upd_ne na]; exact z)
  · rw [if_neg hlen] at hz; cases hz
/-! ### for printed proofs -/
theorem huQ {A : Around} {k : Nat} (hr : L2H.RoomH k A) : A.units + 64 < cLine := by have := hr.un; omega
theorem huQ1 {A : Around} {k : Nat} (hr : L2H.RoomH k A) : A.units + 1 < cLine := by have := hr.un; omega
theorem mkQ {A : Around} {k : Nat} (hr : Room k A) (h : Option Value) : L2H.RoomH k (A.mark h) := ⟨hr.dp, hr.un⟩
end DL
/-! DL23: zip of two lists or two tuples; zip of three lists. -/
namespace DL
open PySem L2 PyProof.Rows
variable {cl : Nat → Addr} {E : XK} {X : Cx}
theorem walk_zipT {K : PySem.W.Frag} {a b : Addr} {xs ys : List V} {n : Nat} (hn : n = min xs.length ys.length) : Walk (RZ.ItzT K a b) n (fun H => SqT K H a xs ∧ SqT K H b ys) (YPair (fun i => xs[i]?) (fun i => ys[i]?)) := by
  subst hn
  refine ⟨fun i _ hi q => ?_, fun _ q => ⟨xs, ys, q.1, q.2, by omega⟩, fun i H v H' _ q ⟨T, x, z, h1, h2, h3, h4, h5⟩ => ⟨T, x, z, h1, h2, h3, h4 xs q.1, h5 ys q.2⟩⟩
  have h1 : i < xs.length := by omega
  have h2 : i < ys.length := by omega
  exact ⟨xs, ys, xs[i], ys[i], q.1, q.2, by simp [h1], by simp [h2]⟩
theorem itOk_zipT {W : Wd} {H : Hp} {S : AS} {K : PySem.W.Frag} {a b : Addr} {xs ys : List V} {ds es : List D} (h : ∀ S2 H2, Fr S H S2 H2 → SqT K H2 a xs) (g : ∀ S2 H2, Fr S H S2 H2 → SqT K H2 b ys) (r : RepL W H S xs ds) (q : RepL W H S ys es) : ItOk W S H (RZ.ItzT K a b) (zipD ds es) :=
  ⟨_, _, walk_zipT (by rw [zipD_len, r.len, q.len]), fun S2 H2 f => ⟨h S2 H2 f, g S2 H2 f⟩, fun i S2 H2 x H3 hi f sd y => by
    obtain ⟨Tt, u, w, rfl, hT, rfl, h1, h2⟩ := y
    refine ⟨upd_more hT, fun d hd => ?_⟩
    obtain ⟨e1, e2, g1, g2, rfl⟩ := zipD_get _ _ _ _ hd
    obtain ⟨v1, a1, a2⟩ := r.get g1
    obtain ⟨v2, b1, b2⟩ := q.get g2
    have h1 : xs[i]? = some u := h1
    have h2 : ys[i]? = some w := h2
    rw [a1] at h1
    rw [b1] at h2
    cases h1
    cases h2
    exact pair_rep sd hT (a2.move f) (b2.move f)⟩
def dZipA : List D → R (List D)
  | [.lst xs, .lst ys] => .ok (zipD xs ys)
  | [.tup xs, .tup ys] => .ok (zipD xs ys)
  | _ => .bad
def mZipA (a : M (List D)) : M (List D) := bnd a fun ds => lift (noexc (dZipA ds))
theorem dZipA_of {ds z : List D} (h : dZipA ds = .ok z) : ∃ xs ys, (ds = [.lst xs, .lst ys] ∨ ds = [.tup xs, .tup ys]) ∧ z = zipD xs ys := by
  unfold dZipA at h
  split at h
  · cases h; exact ⟨_, _, .inl rfl, rfl⟩
  · cases h; exact ⟨_, _, .inr rfl, rfl⟩
  · cases h
theorem i_zipA {e e2 : Expr} {elts : List Expr} {kk : Nat} {m : M (List D)} {p pos tpos : Pos} (hm : X.mg "zip" = none) (ha : PyA X cl E [e, e2] m) (hg : Gl X "zip" := by rfl) (hs : starEach [e, e2] X.env = (false, eval e X.env) :: starEach [e2] X.env := by rfl)
    (hpl : (backTo pos (starEach [e2] X.env)).any (·.1) = false := by rfl) : PyI X cl E (.Tuple elts kk tpos) (.Call (.Name "zip" p) [e, e2] [] pos) (mZipA m) := by
  obtain ⟨ta, h1, h2⟩ := ha.out
  refine ⟨_, RZ.pi_zipA hg hm h1 hs hpl, fun T σ H Γ hW c R h => ?_⟩
  refine h2 T σ H Γ hW c _ (h.bind.imp fun ds Γ1 k1 vs H1 n1 r1 => ?_)
  obtain ⟨z, hz, k2⟩ := Fin.lift (P := KI T σ H Γ R) k1 noexc_ne
  obtain ⟨xs, ys, q, rfl⟩ := dZipA_of (noexc_ok hz)
  rcases q with rfl | rfl
  · obtain ⟨v, u, rfl, rx, ry⟩ := r1.two
    cases rx with
    | lst n hh r => cases ry with
      | lst n' hh' r' => exact ⟨_, _, _, _, rfl, .inl ⟨.of hh, .of hh', k2 _ H1 n1 (itOk_zip (fun S2 H2 f => .of (f.ext _ _ hh n)) (fun S2 H2 f => .of (f.ext _ _ hh' n')) r r')⟩⟩
  · obtain ⟨v, u, rfl, rx, ry⟩ := r1.two
    cases rx with
    | tup n hh r => cases ry with
      | tup n' hh' r' => exact ⟨_, _, _, _, rfl, .inr ⟨.of hh, .of hh', k2 _ H1 n1 (itOk_zipT (fun S2 H2 f => .of (f.ext _ _ hh n)) (fun S2 H2 f => .of (f.ext _ _ hh' n')) r r')⟩⟩
/-! ### zip(a, b, c) -/
def Itz3 (K : PySem.W.Frag) (a b c : Addr) : It :=
  ⟨fun i H => ∃ xs ys us : List V, SqL K H a xs ∧ SqL K H b ys ∧ SqL K H c us ∧ i < min (min xs.length ys.length) us.length,
    fun i H v H' => ∃ T x y u, v = .ref T ∧ H T = none ∧ H' = upd H T (.tup [x, y, u]) ∧ (∀ xs, SqL K H a xs → xs[i]? = some x) ∧ (∀ ys, SqL K H b ys → ys[i]? = some y) ∧ ∀ us, SqL K H c us → us[i]? = some u,
    fun i H => ∃ xs ys us : List V, SqL K H a xs ∧ SqL K H b ys ∧ SqL K H c us ∧ i = min (min xs.length ys.length) us.length⟩
theorem tupOf3_at {h h' : Heap} {t : Addr} {x y z : Value} (k : ∀ o, h.get? t = some o → h'.get? t = some o) (q : IsTupOf3 h t x y z) : IsTupOf3 h' t x y z := k _ q
theorem turn_zip3 {P : Program} {w : World} {K : PySem.W.Frag} {elts : List Expr} {kk : Nat} {tpos : Pos} {a b c z TI TO i1 i2 i3 : Addr} (S : ZipSep3 z TI TO i1 i2 i3 [i1, a] [i2, b] [i3, c]) (na : a ≠ i1) (nb : b ≠ i2) (nc : c ≠ i3) :
    Turn P w K (.Tuple elts kk tpos) (Itz3 K a b c) [z, TI, TO, i1, i2, i3] z (fun i h => IsZip h z TI TO .none ∧ IsTupOf3 h TI (.ref i1) (.ref i2) (.ref i3) ∧ (∃ x y u, IsTupOf3 h TO x y u) ∧ h.IsListIter i1 a i ∧ h.IsListIter i2 b i ∧ h.IsListIter i3 c i) where
  mem := List.mem_cons_self
  obj := fun i h st q hq => by
    obtain ⟨hz, hTI, ⟨x, y, u, hTO⟩, ⟨o1, e1, _, d1⟩, ⟨o2, e2, _, d2⟩, ⟨o3, e3, _, d3⟩⟩ := st
    have e' : q = z ∨ q = TI ∨ q = TO ∨ q = i1 ∨ q = i2 ∨ q = i3 := by simpa using hq
    rcases e' with r | r | r | r | r | r
    · subst r; exact ⟨_, hz, fun v k => nomatch k⟩
    · subst r; exact ⟨_, hTI, fun v k => nomatch k⟩
    · subst r; exact ⟨_, hTO, fun v k => nomatch k⟩
    · subst r; exact ⟨o1, e1, fun v k => by rw [d1] at k; cases k⟩
    · subst r; exact ⟨o2, e2, fun v k => by rw [d2] at k; cases k⟩
    · subst r; exact ⟨o3, e3, fun v k => by rw [d3] at k; cases k⟩
  keep := fun i h h' st k => by
    obtain ⟨hz, hTI, ⟨x, y, u, hTO⟩, l1, l2, l3⟩ := st
    exact ⟨k z (by simp) _ hz, k TI (by simp) _ hTI, ⟨x, y, u, k TO (by simp) _ hTO⟩, l1.at fun o e => k i1 (by simp) o e, l2.at fun o e => k i2 (by simp) o e, l3.at fun o e => k i3 (by simp) o e⟩
  item := by
    intro X hP hw hK hc i pins s σ H E I hf st hg
    subst hP hw hK
    obtain ⟨hz, hTI, ⟨x0, y0, u0, hTO⟩, l1, l2, l3⟩ := st
    obtain ⟨xs, ys, us, qx, qy, qu, hi⟩ := hg
    obtain ⟨s1, r1, p1, _⟩ := I.list qx
    obtain ⟨s2, r2, p2, _⟩ := I.list qy
    obtain ⟨s3, r3, p3, _⟩ := I.list qu
    have e1 := r1.length
    have e2 := r2.length
    have e3 := r3.length
    have W := WalksT.zipD3 (prog := X.prog) (w := X.w) (A := X.A) S (Draws.list (A := X.A.in1) (I.ok.hd hc) i1 a na s1.toArray) (Draws.list (A := X.A.in1) (I.ok.hd hc) i2 b nb s2.toArray) (Draws.list (A := X.A.in1) (I.ok.hd hc) i3 c nc s3.toArray)
    refine W.item i s _ E (by simp only [List.size_toArray]; omega) ⟨hz, hTI, ⟨x0, y0, u0, hTO⟩, ⟨l1, p1.isList⟩, ⟨l2, p2.isList⟩, ⟨l3, p3.isList⟩⟩ fun T vals h' tk hP hle hT hM hk => ?_
    obtain ⟨v1, v2, v3, g1, g2, g3, rfl⟩ := hP
    refine ⟨_, rfl, W.go elts kk tpos i T { s with heap := h', toks := tk } _ E hM fun h'' hS hk' => ?_⟩
    obtain ⟨hz', hTI', hTO', ⟨l1', _⟩, ⟨l2', _⟩, ⟨l3', _⟩⟩ := hS
    have nT := W.apart i T h' hM
    have get : ∀ {xs : List V} {its : List Value} {v : Value}, Vals xs its → its.toArray[i]? = some v → ∃ x, xs[i]? = some x ∧ RelV x v := fun {xs its v} r g => by
      rw [List.getElem?_toArray] at g
      have hlt := (List.getElem?_eq_some_iff.mp g).1
      have hl := r.length
      have hx : xs[i]? = some (xs[i]'(by omega)) := by simp
      obtain ⟨u, hu, ru⟩ := r.get hx
      rw [g] at hu
      cases hu
      exact ⟨_, hx, ru⟩
    obtain ⟨x, hx, rx⟩ := get r1 g1
    obtain ⟨y, hy, ry⟩ := get r2 g2
    obtain ⟨u, hu, ru⟩ := get r3 g3
    obtain ⟨oT, hoT, hcT, nn, hdT⟩ := hT
    have new : ObjOk X.prog X.w (upd H T (.tup [x, y, u])) h'' T (.tup [x, y, u]) :=
      ⟨by show 3 ≤ sizeLine; decide, [v1, v2, v3], .cons rx (.cons ry (.cons ru .nil)), ⟨oT, hk' T oT nT hoT, hcT, nn, hdT⟩⟩
    have sub : ∀ q, q ∉ [z, TI, TO, i1, i2, i3] → q ∉ [z, TO, i1, i2, i3] := fun q h k => h (by
      simp only [List.mem_cons] at k ⊢
      rcases k with k | k | k | k | k | k
      · exact .inl k
      · exact .inr (.inr (.inl k))
      · exact .inr (.inr (.inr (.inl k)))
      · exact .inr (.inr (.inr (.inr (.inl k))))
      · exact .inr (.inr (.inr (.inr (.inr (.inl k)))))
      · cases k)
    have I1 : Inv X pins σ (upd H T (.tup [x, y, u])) { s with heap := h'', toks := tk } := I.turnedNew (ch := [z, TI, TO, i1, i2, i3]) (fun q o hq e => hk' q o (sub q hq) (hk q o (sub q hq) e)) hf hle new
    refine ⟨.ref T, _, I1, rfl, ⟨T, x, y, u, rfl, I.hok.fresh hle, rfl, fun l hl => by rw [I.list_inj hl qx]; exact hx, fun l hl => by rw [I.list_inj hl qy]; exact hy, fun l hl => by rw [I.list_inj hl qu]; exact hu⟩, ⟨hz', hTI', hTO', l1', l2', l3'⟩, fun q hq => ?_⟩
    have ne : q ≠ T := fun e => by
      obtain ⟨o, ho, _⟩ := (show ∃ o, s.heap.get? q = some o ∧ True from by
        have e' : q = z ∨ q = TI ∨ q = TO ∨ q = i1 ∨ q = i2 ∨ q = i3 := by simpa using hq
        rcases e' with r | r | r | r | r | r
        · rw [r]; exact ⟨_, hz, trivial⟩
        · rw [r]; exact ⟨_, hTI, trivial⟩
        · rw [r]; exact ⟨_, hTO, trivial⟩
        · rw [r]; obtain ⟨o, ho, _⟩ := l1; exact ⟨o, ho, trivial⟩
        · rw [r]; obtain ⟨o, ho, _⟩ := l2; exact ⟨o, ho, trivial⟩
        · rw [r]; obtain ⟨o, ho, _⟩ := l3; exact ⟨o, ho, trivial⟩)
      have k := Heap.lt_size ho
      rw [e] at k
      exact absurd (Nat.lt_of_lt_of_le k hle) (Nat.lt_irrefl _)
    rw [upd_ne ne]
    exact (hf q hq).1
  done := by
    intro X hP hw hK hc i pins s σ H E I hf st hg
    subst hP hw hK
    obtain ⟨hz, hTI, ⟨x0, y0, u0, hTO⟩, l1, l2, l3⟩ := st
    obtain ⟨xs, ys, us, qx, qy, qu, hi⟩ := hg
    obtain ⟨s1, r1, p1, _⟩ := I.list qx
    obtain ⟨s2, r2, p2, _⟩ := I.list qy
    obtain ⟨s3, r3, p3, _⟩ := I.list qu
    have e1 := r1.length
    have e2 := r2.length
    have e3 := r3.length
    have W := WalksT.zipD3 (prog := X.prog) (w := X.w) (A := X.A) S (Draws.list (A := X.A.in1) (I.ok.hd hc) i1 a na s1.toArray) (Draws.list (A := X.A.in1) (I.ok.hd hc) i2 b nb s2.toArray) (Draws.list (A := X.A.in1) (I.ok.hd hc) i3 c nc s3.toArray)
    have en : i = min (min s1.toArray.size s2.toArray.size) s3.toArray.size := by simp only [List.size_toArray]; omega
    rw [en] at l1 l2 l3
    refine W.done s _ E ⟨hz, hTI, ⟨x0, y0, u0, hTO⟩, ⟨l1, p1.isList⟩, ⟨l2, p2.isList⟩, ⟨l3, p3.isList⟩⟩ fun h' tk hk => ⟨rfl, I.turnedL (t' := tk) (ch := [z, TI, TO, i1, i2, i3]) (fun q o hq e => hk q o (fun k => hq (by
      simp only [List.mem_cons] at k ⊢
      rcases k with k | k | k | k | k | k
      · exact .inl k
      · exact .inr (.inr (.inl k))
      · exact .inr (.inr (.inr (.inl k)))
      · exact .inr (.inr (.inr (.inr (.inl k))))
      · exact .inr (.inr (.inr (.inr (.inr (.inl k)))))
      · cases k)) e) hf⟩
  self := fun A i s Q E st h => wpAny_pyIter_zip st.1 h
def iZip3 (K : PySem.W.Frag) (ta : TA) : TI := fun σ H R => ta σ H fun vs H1 => ∃ a b c xs ys us, vs = [.ref a, .ref b, .ref c] ∧ SqL K H1 a xs ∧ SqL K H1 b ys ∧ SqL K H1 c us ∧ R (Itz3 K a b c) H1
theorem pi_zip3 {e e2 e3 : Expr} {ta : TA} {p pos tpos : Pos} {elts : List Expr} {kk : Nat} (hg : Gl X "zip") (hm : X.mg "zip" = none) (ha : PA X [e, e2, e3] ta) (hs : starEach [e, e2, e3] X.env = (false, eval e X.env) :: starEach [e2, e3] X.env := by rfl)
    (hpl : (backTo pos (starEach [e2, e3] X.env)).any (·.1) = false := by rfl) : PI X (.Tuple elts kk tpos) (.Call (.Name "zip" p) [e, e2, e3] [] pos) (iZip3 X.K ta) := by
  refine ⟨fun pins s σ H R I h => Call_ (ld_blt I hg hm boot_zip (callWith_type1 (thn (ha.run pos pins s σ H _ I h) fun us s1 ⟨vs, H1, I1, r1, a, b, c, xs, ys, zs, ex, qx, qy, qz, q⟩ => ?_) hs hpl))⟩
  subst ex
  cases r1 with
  | cons ra rr => cases rr with
    | cons rb rr => cases rr with
      | cons rc rr =>
        cases rr
        cases ra
        cases rb
        cases rc
        obtain ⟨t1, r1, p1, _⟩ := I1.list qx
        obtain ⟨t2, r2, p2, _⟩ := I1.list qy
        obtain ⟨t3, r3, p3, _⟩ := I1.list qz
        have la := p1.lt
        have lb := p2.lt
        have lc := p3.lt
        refine zip_begins3 (begins_list a t1.toArray) (begins_list b t2.toArray) (begins_list c t3.toArray) p1.isList p2.isList p3.isList fun h' hz hTI hTO g1 g2 g3 hsz hk => wpAny_pyIter_zip hz ?_
        have I2 : Inv X pins σ H1 { s1 with heap := h' } := I1.kept (t' := s1.toks) hk
        have S : ZipSep3 (s1.heap.objs.size + 5) (s1.heap.objs.size + 3) (s1.heap.objs.size + 4) s1.heap.objs.size (s1.heap.objs.size + 1) (s1.heap.objs.size + 2) [s1.heap.objs.size, a] [s1.heap.objs.size + 1, b] [s1.heap.objs.size + 2, c] := by
          generalize hN : s1.heap.objs.size = N at la lb lc ⊢
          have la : @LT.lt Nat _ a N := la
          have lb : @LT.lt Nat _ b N := lb
          have lc : @LT.lt Nat _ c N := lc
          have nm : ∀ {x p q : Nat}, x ≠ p → x ≠ q → x ∉ [p, q] := fun {x p q} h1 h2 k => by
            rcases List.mem_cons.mp k with k | k
            · exact h1 k
            · exact h2 (List.mem_singleton.mp k)
          exact { TIz := fun k => absurd (show @Eq Nat (N + 3) (N + 5) from k) (by omega)
                  TOz := fun k => absurd (show @Eq Nat (N + 4) (N + 5) from k) (by omega)
                  TITO := fun k => absurd (show @Eq Nat (N + 3) (N + 4) from k) (by omega)
                  TIi1 := fun k => absurd (show @Eq Nat (N + 3) (N) from k) (by omega)
                  mem1 := List.mem_cons_self
                  zf1 := nm (x := N + 5) (p := N) (q := a) (by omega) (by omega)
                  Tf1 := nm (x := N + 4) (p := N) (q := a) (by omega) (by omega)
                  TIi2 := fun k => absurd (show @Eq Nat (N + 3) (N + 1) from k) (by omega)
                  mem2 := List.mem_cons_self
                  zf2 := nm (x := N + 5) (p := N + 1) (q := b) (by omega) (by omega)
                  Tf2 := nm (x := N + 4) (p := N + 1) (q := b) (by omega) (by omega)
                  TIi3 := fun k => absurd (show @Eq Nat (N + 3) (N + 2) from k) (by omega)
                  mem3 := List.mem_cons_self
                  zf3 := nm (x := N + 5) (p := N + 2) (q := c) (by omega) (by omega)
                  Tf3 := nm (x := N + 4) (p := N + 2) (q := c) (by omega) (by omega)
                  sep1_2 := nm (x := N) (p := N + 1) (q := b) (by omega) (by omega)
                  sep1_3 := nm (x := N) (p := N + 2) (q := c) (by omega) (by omega)
                  sep2_1 := nm (x := N + 1) (p := N) (q := a) (by omega) (by omega)
                  sep2_3 := nm (x := N + 1) (p := N + 2) (q := c) (by omega) (by omega)
                  sep3_1 := nm (x := N + 2) (p := N) (q := a) (by omega) (by omega)
                  sep3_2 := nm (x := N + 2) (p := N + 1) (q := b) (by omega) (by omega) }
        refine ⟨s1.heap.objs.size + 5, [s1.heap.objs.size + 5, s1.heap.objs.size + 3, s1.heap.objs.size + 4, s1.heap.objs.size, s1.heap.objs.size + 1, s1.heap.objs.size + 2], _, _, H1, rfl, I2,
          turn_zip3 S (Nat.ne_of_lt la) (Nat.ne_of_lt (Nat.lt_of_lt_of_le lb (Nat.le_add_right _ _))) (Nat.ne_of_lt (Nat.lt_of_lt_of_le lc (Nat.le_add_right _ _))), ⟨hz, hTI, ⟨_, _, _, hTO⟩, ⟨_, g1, rfl, rfl⟩, ⟨_, g2, rfl, rfl⟩, ⟨_, g3, rfl, rfl⟩⟩, fun d hd => ?_, q⟩
        have hle : s1.heap.objs.size ≤ d := by
          have e' : d = s1.heap.objs.size + 5 ∨ d = s1.heap.objs.size + 3 ∨ d = s1.heap.objs.size + 4 ∨ d = s1.heap.objs.size ∨ d = s1.heap.objs.size + 1 ∨ d = s1.heap.objs.size + 2 := by simpa using hd
          rcases e' with r | r | r | r | r | r <;> rw [r] <;> first | exact Nat.le_refl _ | exact Nat.le_add_right _ _
        exact I1.fpOk hle (I1.hok.fresh hle)
def zipD3 : List D → List D → List D → List D
  | a :: as, b :: bs, c :: cs => .tup [a, b, c] :: zipD3 as bs cs
  | _, _, _ => []
theorem zipD3_len : ∀ (as bs cs : List D), (zipD3 as bs cs).length = min (min as.length bs.length) cs.length
  | [], _, _ => by simp [zipD3]
  | _ :: _, [], _ => by simp [zipD3]
  | _ :: _, _ :: _, [] => by simp [zipD3]
  | _ :: as, _ :: bs, _ :: cs => by
    simp only [zipD3, List.length_cons, zipD3_len as bs cs]
    omega
theorem zipD3_get : ∀ (as bs cs : List D) (i : Nat) (z : D), (zipD3 as bs cs)[i]? = some z → ∃ a b c, as[i]? = some a ∧ bs[i]? = some b ∧ cs[i]? = some c ∧ z = .tup [a, b, c]
  | [], _, _, i, z, h => by simp [zipD3] at h
  | _ :: _, [], _, i, z, h => by simp [zipD3] at h
  | _ :: _, _ :: _, [], i, z, h => by simp [zipD3] at h
  | a :: as, b :: bs, c :: cs, 0, z, h => by simp [zipD3] at h; exact ⟨a, b, c, rfl, rfl, rfl, h.symm⟩
  | a :: as, b :: bs, c :: cs, i + 1, z, h => by
    obtain ⟨x, y, u, h1, h2, h3, h4⟩ := zipD3_get as bs cs i z (by simpa [zipD3] using h)
    exact ⟨x, y, u, by simpa using h1, by simpa using h2, by simpa using h3, h4⟩
def Y3 (xs ys us : List V) : Nat → Hp → V → Hp → Prop := fun i H v H' => ∃ T x y u, v = .ref T ∧ H T = none ∧ H' = upd H T (.tup [x, y, u]) ∧ xs[i]? = some x ∧ ys[i]? = some y ∧ us[i]? = some u
theorem itOk_zip3 {W : Wd} {H : Hp} {S : AS} {K : PySem.W.Frag} {a b c : Addr} {xs ys us : List V} {ds es fs : List D} (h : ∀ S2 H2, Fr S H S2 H2 → SqL K H2 a xs ∧ SqL K H2 b ys ∧ SqL K H2 c us) (r : RepL W H S xs ds) (q : RepL W H S ys es) (t : RepL W H S us fs) : ItOk W S H (Itz3 K a b c) (zipD3 ds es fs) := by
  have wk : Walk (Itz3 K a b c) (zipD3 ds es fs).length (fun H => SqL K H a xs ∧ SqL K H b ys ∧ SqL K H c us) (Y3 xs ys us) := by
    rw [zipD3_len, ← r.len, ← q.len, ← t.len]
    exact ⟨fun i _ hi q => ⟨xs, ys, us, q.1, q.2.1, q.2.2, hi⟩, fun _ q => ⟨xs, ys, us, q.1, q.2.1, q.2.2, rfl⟩, fun i H v H' _ q ⟨T, x, y, u, h1, h2, h3, h4, h5, h6⟩ => ⟨T, x, y, u, h1, h2, h3, h4 xs q.1, h5 ys q.2.1, h6 us q.2.2⟩⟩
  refine ⟨_, _, wk, h, fun i S2 H2 x H3 hi f sd y => ?_⟩
  obtain ⟨Tt, v1, v2, v3, rfl, hT, rfl, h1, h2, h3⟩ := y
  refine ⟨upd_more hT, fun d hd => ?_⟩
  obtain ⟨e1, e2, e3, g1, g2, g3, rfl⟩ := zipD3_get _ _ _ _ _ hd
  obtain ⟨w1, a1, a2⟩ := r.get g1
  obtain ⟨w2, b1, b2⟩ := q.get g2
  obtain ⟨w3, c1, c2⟩ := t.get g3
  rw [a1] at h1
  rw [b1] at h2
  rw [c1] at h3
  cases h1
  cases h2
  cases h3
  exact rep_newT sd hT (.cons (a2.move f) (.cons (b2.move f) (.cons (c2.move f) .nil)))
def dZip3 : List D → R (List D)
  | [.lst xs, .lst ys, .lst us] => .ok (zipD3 xs ys us)
  | _ => .bad
theorem dZip3_of {ds z : List D} (h : dZip3 ds = .ok z) : ∃ xs ys us, ds = [.lst xs, .lst ys, .lst us] ∧ z = zipD3 xs ys us := by
  unfold dZip3 at h
  split at h
  · cases h; exact ⟨_, _, _, rfl, rfl⟩
  · cases h
def mZip3 (a : M (List D)) : M (List D) := bnd a fun ds => lift (noexc (dZip3 ds))
theorem i_zip3 {e e2 e3 : Expr} {elts : List Expr} {kk : Nat} {m : M (List D)} {p pos tpos : Pos} (hm : X.mg "zip" = none) (ha : PyA X cl E [e, e2, e3] m) (hg : Gl X "zip" := by rfl) (hs : starEach [e, e2, e3] X.env = (false, eval e X.env) :: starEach [e2, e3] X.env := by rfl)
    (hpl : (backTo pos (starEach [e2, e3] X.env)).any (·.1) = false := by rfl) : PyI X cl E (.Tuple elts kk tpos) (.Call (.Name "zip" p) [e, e2, e3] [] pos) (mZip3 m) := by
  obtain ⟨ta, h1, h2⟩ := ha.out
  refine ⟨_, pi_zip3 hg hm h1 hs hpl, fun T σ H Γ hW c R h => ?_⟩
  refine h2 T σ H Γ hW c _ (h.bind.imp fun ds Γ1 k1 vs H1 n1 r1 => ?_)
  obtain ⟨z, hz, k2⟩ := Fin.lift (P := KI T σ H Γ R) k1 noexc_ne
  have hz := noexc_ok hz
  obtain ⟨xs, ys, us, rfl, rfl⟩ := dZip3_of hz
  obtain ⟨v, r2, rfl, ra, r1⟩ : ∃ v r2, vs = v :: r2 ∧ Rep T.W H1 (Sx T.S σ Γ1) v (.lst xs) ∧ RepL T.W H1 (Sx T.S σ Γ1) r2 [.lst ys, .lst us] := by
    cases r1 with
    | cons a b => exact ⟨_, _, rfl, a, b⟩
  obtain ⟨u, t, rfl, rb, rc⟩ := r1.two
  cases ra with
  | lst n1' g1 w1 => cases rb with
    | lst n2' g2 w2 => cases rc with
      | lst n3' g3 w3 => exact ⟨_, _, _, _, _, _, rfl, .of g1, .of g2, .of g3, k2 _ H1 n1 (itOk_zip3 (fun S2 H2 f => ⟨.of (f.ext _ _ g1 n1'), .of (f.ext _ _ g2 n2'), .of (f.ext _ _ g3 n3')⟩) w1 w2 w3)⟩
end DL
/-! DL24: the end of a printed proof. -/
namespace DL
open PySem L2 PyProof.Rows
theorem kit_same {K : PySem.W.Frag} {C : Addr} : PySem.W.kitOne K (.ref C) (.ref C) = some true := by
  unfold PySem.W.kitOne
  rw [if_pos (by simp)]
theorem kit_cls_of {K : PySem.W.Frag} {C D : Addr} {b : Bool} (iD : PySem.W.isClsIn K D = true) (tD : PySem.W.typeIn K (.ref D) = some (.type "type")) (h : PySem.W.subIn K (.ref C) (.ref D) = some b) : PySem.W.kitCls K (.ref C) (.ref D) = some b := by
  have e : ((PySem.W.clsIn K D).isSome && PySem.W.typeIn K (.ref D) == some (.type "type")) = true := by
    have iD' : (PySem.W.clsIn K D).isSome = true := iD
    rw [iD', tD] <;> rfl
  show (if ((PySem.W.clsIn K D).isSome && PySem.W.typeIn K (.ref D) == some (.type "type")) = true then PySem.W.subIn K (.ref C) (.ref D) else none) = some b
  rw [if_pos e]
  exact h
theorem kit_mk {K : PySem.W.Frag} {C D : Addr} {b : Bool} (iD : PySem.W.isClsIn K D = true) (tD : PySem.W.typeIn K (.ref D) = some (.type "type")) (h : PySem.W.subIn K (.ref C) (.ref D) = some b) (hb : b = false → PySem.W.subIn K (.ref C) (.ref C) = some true) : PySem.W.kitOne K (.ref C) (.ref D) = some b := by
  by_cases e : C = D
  · subst e
    cases b with
    | true => exact kit_same
    | false =>
      have k := hb rfl
      rw [h] at k
      cases k
  · have ne : ¬ ((Value.ref C == Value.ref D) = true) := fun k => e (Value.ref.inj (beq_iff_eq.mp k))
    unfold PySem.W.kitOne
    rw [if_neg ne]
    exact kit_cls_of iD tD h
theorem exm_mk {K : PySem.W.Frag} {C D : Addr} {b : Bool} (xD : PySem.W.subIn K (.ref D) (.type "BaseException") = some true) (iD : PySem.W.isClsIn K D = true) (tD : PySem.W.typeIn K (.ref D) = some (.type "type")) (h : PySem.W.subIn K (.ref C) (.ref D) = some b) : PySem.W.exmOne K (.ref C) (.ref D) = some b := by
  have e : (PySem.W.subIn K (.ref D) (.type "BaseException") == some true) = true := by rw [xD] <;> rfl
  show (if (PySem.W.subIn K (.ref D) (.type "BaseException") == some true) = true then PySem.W.kitCls K (.ref C) (.ref D) else none) = some b
  rw [if_pos e]
  exact kit_cls_of iD tD h
/-- the law's own promise -/
def spLaw (K : PySem.W.Frag) : Sp := fun vs H Q _ => ∃ (a : Addr) (ns : List Int), vs = [.ref a] ∧ SqL K H a (ns.map V.int) ∧ ns.length ≤ 63 ∧ ∀ H', Q (.bl true) H'
theorem law_sp {K : PySem.W.Frag} {cl : Nat → Addr} {F : Fm} (h : ∀ ns : List Int, ns.length ≤ 63 → ∃ fr outs, F [.frl (ns.map D.int)] = .ok ⟨fr, .bl true, outs⟩) : ∀ vs H Q E, spLaw K vs H Q E → callSp ⟨K, cl⟩ [false] F vs H Q E := fun vs H Q E ⟨a, ns, e, hs, hl, q⟩ => by
  subst e
  obtain ⟨fr, outs, hF⟩ := h ns hl
  refine ⟨fun _ => False, [.frl (ns.map D.int)], fun a k => k.elim, ⟨.frl ?_ (ints_rep ns), trivial⟩, fun i j a k => ?_, ?_⟩
  · rcases hs with k | k
    · exact .inl ⟨fun z => z, k⟩
    · exact .inr k
  · have := k.1
    cases i <;> simp at this
  · rw [hF]
    show ite (fr = true) _ _
    cases fr with
    | true => rw [if_pos rfl]; exact fun p Hm H' _ _ _ _ o => o.elim
    | false =>
      rw [if_neg Bool.false_ne_true]
      intro v H' _ _ r
      cases r
      exact q H'
theorem cx_none {P : Program} {w : World} {H : Hp} {s : Shared} {e : Value} {s' : Shared} (h : L2.CX P w [] H s (fun _ _ _ => False) e s') : False := by
  obtain ⟨_, _, _, _, _, _, _, _, _, _, _, _, z⟩ := h
  exact z
theorem law_walk {l : PySem.W.OpenLaw} {q : Program} {loose : List Str} {XP : (Str → Option Value) → Heap → Prop} {YP : World → Heap → Prop} {d : DefRec} {K : Params → PySem.W.Frag} {k : Nat} (hn : l.most = some 63) (hdf : d.params.defaults = []) (hr : Room k callerA)
    (hY : ∀ (w : World) (h : Heap), YP w h → (K w.params).In h)
    (F : ∀ (w : World) (mg : Str → Option Value) (fa : Addr) (h : Heap), (K w.params).In h → h.Ns mainGlobals mg → mg d.name = some (.ref fa) →
      ∃ fd : FuncData, (∀ (s : Shared) (u : Value), BindsTo s fd ⟨[u], []⟩ [("script", u)]) ∧ ∀ base : Heap, (K w.params).In base → base.Ns mainGlobals mg → FnOk l.prog w (K w.params) mg base (L2.CX l.prog w) k fa fd ["script"] (spLaw (K w.params))) :
    PySem.W.WalkO q loose XP YP l.row.toRowW d [] (fun f vs => PySem.call f vs) :=
  L2.walk_of (n := 63) (k := k) (x := "script") (CX := fun w => L2.CX l.prog w) (sp := fun w => spLaw (K w.params)) hn (by decide) hdf hr hY F (fun _ _ a ns hl _ hS => ⟨a, ns, rfl, hS, hl, fun _ => rfl⟩) fun _ _ _ _ _ z => cx_none z
/-- the def that calls itself, where it is not called -/
theorem fn_bad {P : Program} {w : World} {K : PySem.W.Frag} {mg : Str → Option Value} {base : Heap} {cl : Nat → Addr} {f : Addr} {fd : FuncData} {ps : List Str} {ms : List Bool} (hl : ms.length = ps.length) : FnOk P w K mg base (L2.CX P w) 0 f fd ps (callSp ⟨K, cl⟩ ms fun _ => .bad) :=
  ⟨fun vs H Q E ⟨S, ds, _, ha, _⟩ => by rw [ha.len.1, hl], fun A outer s H args us vs Q E hr e0 hb r ⟨S, ds, _, _, _, z⟩ => z.elim⟩
end DL
/-! DL25: loops and comprehensions of mirrors, for the mathematics. -/
namespace DL
open PySem L2
inductive All2 (R : D → D → Prop) : List D → List D → Prop
  | nil : All2 R [] []
  | cons {d y : D} {ds ys : List D} : R d y → All2 R ds ys → All2 R (d :: ds) (y :: ys)
theorem All2.len {R : D → D → Prop} : ∀ {ds ys : List D}, All2 R ds ys → ys.length = ds.length
  | _, _, .nil => rfl
  | _, _, .cons _ h => congrArg (· + 1) h.len
theorem p62 : (2 : Int) ^ 62 = 4611686018427387904 := by rfl
theorem range1_ok {j : Int} (h0 : 0 ≤ j) (h : j < 4611686018427387904) : dRange1 [D.int j] = .ok (rangeD 0 j.toNat) := by
  unfold dRange1
  dsimp only
  rw [if_pos]
  simp only [decide_eq_true_eq]
  omega
theorem range2_ok {i j : Int} (h0 : 0 ≤ i) (h1 : i < 4611686018427387904) (h2 : 0 ≤ j) (h : j < 4611686018427387904) : dRange2 [D.int i, D.int j] = .ok (rangeD i (j - i).toNat) := by
  unfold dRange2
  dsimp only
  rw [if_pos]
  simp only [Bool.and_eq_true, decide_eq_true_eq]
  omega
/-- a for whose turns all end in the next one -/
theorem forL_inv {g : GM} {body : SM} (P : Nat → Env → Prop) {ds : List D} {Γ : Env} (h0 : P 0 Γ) (hs : ∀ (i : Nat) (d : D) (Γ : Env), ds[i]? = some d → P i Γ → ∃ Γ1 Γ2, g d Γ = .ok Γ1 ∧ body Γ1 = .nx Γ2 ∧ P (i + 1) Γ2) : ∃ Γ', forL g body ds Γ = .nx Γ' ∧ P ds.length Γ' := by
  induction ds generalizing P Γ with
  | nil => exact ⟨Γ, rfl, h0⟩
  | cons d ds ih =>
    obtain ⟨Γ1, Γ2, e1, e2, h1⟩ := hs 0 d Γ rfl h0
    obtain ⟨Γ', e3, h3⟩ := ih (fun i => P (i + 1)) h1 fun i x Γ hx hp => hs (i + 1) x Γ (by simpa using hx) hp
    refine ⟨Γ', ?_, h3⟩
    unfold forL
    simp only [e1, e2]
    exact e3
/-- a for that may be left by a return: while p doesn't hold the turn goes on -/
theorem forL_ret {g : GM} {body : SM} (P : Nat → Env → Prop) (Q : Out → Prop) {ds : List D} {Γ : Env} (h0 : P 0 Γ) (hs : ∀ (i : Nat) (d : D) (Γ : Env), ds[i]? = some d → P i Γ → ∃ Γ1, g d Γ = .ok Γ1 ∧ ((∃ Γ2, body Γ1 = .nx Γ2 ∧ P (i + 1) Γ2) ∨ ∃ x Γ2, body Γ1 = .rt x Γ2 ∧ Q (.rt x Γ2)))
    (hd : ∀ Γ', P ds.length Γ' → Q (.nx Γ')) : Q (forL g body ds Γ) := by
  induction ds generalizing P Γ with
  | nil => exact hd Γ h0
  | cons d ds ih =>
    obtain ⟨Γ1, e1, h⟩ := hs 0 d Γ rfl h0
    unfold forL
    simp only [e1]
    rcases h with ⟨Γ2, e2, h1⟩ | ⟨x, Γ2, e2, q⟩
    · simp only [e2]
      exact ih (fun i => P (i + 1)) h1 (fun i x Γ hx hp => hs (i + 1) x Γ (by simpa using hx) hp) hd
    · simp only [e2]
      exact q
/-- a comprehension without tests: f of each -/
theorem lcL_map {vs : List Nat} {g : GM} {t : M Bool} {e : M D} {Γ : Env} (f : D → D) : ∀ {ds : List D}, (∀ d ∈ ds, ∃ Γa Γb Γc, g d Γ = .ok Γa ∧ t Γa = .ok (true, Γb) ∧ e Γb = .ok (f d, Γc) ∧ wipeE Γc vs = Γ) → lcL vs g t e ds Γ = .ok (ds.map f, Γ)
  | [], _ => rfl
  | d :: ds, h => by
    obtain ⟨Γa, Γb, Γc, h1, h2, h3, h4⟩ := h d List.mem_cons_self
    unfold lcL
    simp only [h1, h2, h3, if_true, h4, lcL_map f fun x hx => h x (List.mem_cons_of_mem _ hx), R.bind, List.map_cons]
/-- .. with a test -/
theorem lcL_filter {vs : List Nat} {g : GM} {t : M Bool} {e : M D} {Γ : Env} (p : D → Bool) (f : D → D) : ∀ {ds : List D}, (∀ d ∈ ds, ∃ Γa Γb, g d Γ = .ok Γa ∧ t Γa = .ok (p d, Γb) ∧ (p d = true → ∃ Γc, e Γb = .ok (f d, Γc) ∧ wipeE Γc vs = Γ) ∧ (p d = false → wipeE Γb vs = Γ)) → lcL vs g t e ds Γ = .ok ((ds.filter p).map f, Γ)
  | [], _ => rfl
  | d :: ds, h => by
    obtain ⟨Γa, Γb, h1, h2, h3, h4⟩ := h d List.mem_cons_self
    have ih := lcL_filter p f (ds := ds) fun x hx => h x (List.mem_cons_of_mem _ hx)
    unfold lcL
    cases hp : p d with
    | true =>
      obtain ⟨Γc, h5, h6⟩ := h3 hp
      simp only [h1, h2, hp, if_true, h5, h6, ih, R.bind, List.filter_cons_of_pos hp, List.map_cons]
    | false =>
      have hf : ¬ p d = true := by rw [hp]; exact Bool.false_ne_true
      simp only [h1, h2, hp, Bool.false_eq_true, if_false, h4 hp, ih, List.filter_cons_of_neg hf]
/-- a comprehension whose turns change the state: P tells the state, R the item -/
theorem lcL_inv {vs : List Nat} {g : GM} {t : M Bool} {e : M D} (P : Env → Prop) (Rl : D → D → Prop) : ∀ {ds : List D} {Γ : Env}, P Γ → (∀ d ∈ ds, ∀ Γ, P Γ → ∃ Γa Γb Γc y, g d Γ = .ok Γa ∧ t Γa = .ok (true, Γb) ∧ e Γb = .ok (y, Γc) ∧ Rl d y ∧ P (wipeE Γc vs)) →
    ∃ ys Γ', lcL vs g t e ds Γ = .ok (ys, Γ') ∧ P Γ' ∧ All2 Rl ds ys
  | [], Γ, h0, _ => ⟨[], Γ, rfl, h0, .nil⟩
  | d :: ds, Γ, h0, h => by
    obtain ⟨Γa, Γb, Γc, y, h1, h2, h3, h4, h5⟩ := h d List.mem_cons_self Γ h0
    obtain ⟨ys, Γ', e1, p1, r1⟩ := lcL_inv P Rl h5 fun x hx => h x (List.mem_cons_of_mem _ hx)
    refine ⟨y :: ys, Γ', ?_, p1, .cons h4 r1⟩
    unfold lcL
    simp only [h1, h2, h3, if_true, e1, R.bind]
end DL
/-! DL26: one step of a mirror at a time, for the mathematics. -/
namespace DL
open PySem L2
theorem run_nx {n : Nat} {ms : List Bool} {m : SM} {ds o : List D} {Γ : Env} (h : m (env0 n ms ds) = .nx Γ) (ho : outsE ms Γ = some o) : runBody n ms m ds = .ok ⟨false, .non, o⟩ := by
  unfold runBody
  simp only [h, ho]
theorem run_rt {n : Nat} {ms : List Bool} {m : SM} {ds o : List D} {d : D} {Γ : Env} (h : m (env0 n ms ds) = .rt d Γ) (ho : outsE ms Γ = some o) : runBody n ms m ds = .ok ⟨false, d, o⟩ := by
  unfold runBody
  simp only [h, ho]
theorem run_rn {n : Nat} {ms : List Bool} {m : SM} {ds o : List D} {d : D} {Γ : Env} (h : m (env0 n ms ds) = .rn d Γ) (ho : outsE ms Γ = some o) : runBody n ms m ds = .ok ⟨true, d, o⟩ := by
  unfold runBody
  simp only [h, ho]
theorem run_exc {n : Nat} {ms : List Bool} {m : SM} {ds : List D} {c : Nat} {fs : List (Str × D)} (h : m (env0 n ms ds) = .exc c fs) : runBody n ms m ds = .exc c fs := by
  unfold runBody
  simp only [h]
theorem seq_nx {a b : SM} {Γ Γ' : Env} {o : Out} (h : a Γ = .nx Γ') (k : b Γ' = o) : sSeq a b Γ = o := by
  unfold sSeq
  simp only [h, k]
theorem seq_rt {a b : SM} {Γ Γ' : Env} {d : D} (h : a Γ = .rt d Γ') : sSeq a b Γ = .rt d Γ' := by
  unfold sSeq
  simp only [h]
theorem seq_rn {a b : SM} {Γ Γ' : Env} {d : D} (h : a Γ = .rn d Γ') : sSeq a b Γ = .rn d Γ' := by
  unfold sSeq
  simp only [h]
theorem seq_exc {a b : SM} {Γ : Env} {c : Nat} {fs : List (Str × D)} (h : a Γ = .exc c fs) : sSeq a b Γ = .exc c fs := by
  unfold sSeq
  simp only [h]
theorem asg_nx {m : M D} {g : GM} {Γ Γ1 Γ2 : Env} {d : D} (h : m Γ = .ok (d, Γ1)) (k : g d Γ1 = .ok Γ2) : sAsg m g Γ = .nx Γ2 := by
  unfold sAsg ofM
  simp only [h, k, ofG]
theorem expr_nx {m : M D} {Γ Γ1 : Env} {d : D} (h : m Γ = .ok (d, Γ1)) : sExpr m Γ = .nx Γ1 := by
  unfold sExpr ofM
  simp only [h]
theorem expr_exc {m : M D} {Γ : Env} {c : Nat} {fs : List (Str × D)} (h : m Γ = .exc c fs) : sExpr m Γ = .exc c fs := by
  unfold sExpr ofM
  simp only [h]
theorem for_eq {it : M (List D)} {g : GM} {body : SM} {Γ Γ1 : Env} {ds : List D} {o : Out} (h : it Γ = .ok (ds, Γ1)) (k : forL g body ds Γ1 = o) : sFor it g body Γ = o := by
  unfold sFor ofM
  simp only [h, k]
theorem ret_rt {m : M D} {Γ Γ1 : Env} {d : D} (h : m Γ = .ok (d, Γ1)) : sRet m Γ = .rt d Γ1 := by
  unfold sRet ofM
  simp only [h]
theorem retN_rn {m : M D} {Γ Γ1 : Env} {d : D} (h : m Γ = .ok (d, Γ1)) : sRetN m Γ = .rn d Γ1 := by
  unfold sRetN ofM
  simp only [h]
theorem if_t {t : M Bool} {a b : SM} {Γ Γ1 : Env} {o : Out} (h : t Γ = .ok (true, Γ1)) (k : a Γ1 = o) : sIf t a b Γ = o := by
  unfold sIf ofM
  simp only [h, if_true, k]
theorem if_f {t : M Bool} {a b : SM} {Γ Γ1 : Env} {o : Out} (h : t Γ = .ok (false, Γ1)) (k : b Γ1 = o) : sIf t a b Γ = o := by
  unfold sIf ofM
  simp only [h, Bool.false_eq_true, if_false, k]
theorem range1_m {a : M (List D)} {Γ Γ1 : Env} {j : Int} (h : a Γ = .ok ([D.int j], Γ1)) (h0 : 0 ≤ j) (h1 : j < 4611686018427387904) : mRange1 a Γ = .ok (rangeD 0 j.toNat, Γ1) := by
  unfold mRange1 bnd
  simp only [h, R.bind, lift, range1_ok h0 h1]
theorem range2_m {a : M (List D)} {Γ Γ1 : Env} {i j : Int} (h : a Γ = .ok ([D.int i, D.int j], Γ1)) (h0 : 0 ≤ i) (h1 : i < 4611686018427387904) (h2 : 0 ≤ j) (h3 : j < 4611686018427387904) : mRange2 a Γ = .ok (rangeD i (j - i).toNat, Γ1) := by
  unfold mRange2 bnd
  simp only [h, R.bind, lift, range2_ok h0 h1 h2 h3]
theorem lc_m {vs : List Nat} {it : M (List D)} {g : GM} {t : M Bool} {e : M D} {Γ Γ1 Γ2 : Env} {ds ys : List D} (h : it Γ = .ok (ds, Γ1)) (k : lcL vs g t e ds (wipeE Γ1 vs) = .ok (ys, Γ2)) (hb : ys.length ≤ big) : mLc vs it g t e Γ = .ok (.lst ys, Γ2) := by
  unfold mLc
  simp only [h, R.bind, k, if_pos hb]
theorem callB_m {f : List D → R D} {a : M (List D)} {Γ Γ1 : Env} {ds : List D} {z : D} (h : a Γ = .ok (ds, Γ1)) (k : f ds = .ok z) (hz : hard z = true) : mCallB f a Γ = .ok (z, Γ1) := by
  unfold mCallB bnd
  simp only [h, R.bind, lift, k, hardR, hz, if_true]
theorem call_m {f : List D → R D} {a : M (List D)} {Γ Γ1 : Env} {ds : List D} {z : D} (h : a Γ = .ok (ds, Γ1)) (k : f ds = .ok z) : mCall f a Γ = .ok (z, Γ1) := by
  unfold mCall bnd
  simp only [h, R.bind, lift, k, noexc]
theorem op_m {f : D → D → R D} {a b : M D} {Γ Γ1 Γ2 : Env} {x y z : D} (h : a Γ = .ok (x, Γ1)) (g : b Γ1 = .ok (y, Γ2)) (k : f x y = .ok z) : mOp f a b Γ = .ok (z, Γ2) := by
  unfold mOp bnd
  simp only [h, R.bind, g, lift, k, noexc]
theorem lst_le {xs : List D} (h : xs.length ≤ 16777216) : dLst xs = .ok (.lst xs) := by
  unfold dLst
  exact if_pos h
theorem tup_le {xs : List D} (h : xs.length ≤ 16777216) : dTup xs = .ok (.tup xs) := by
  unfold dTup
  exact if_pos h
theorem addL_le {xs ys : List D} (h : xs.length + ys.length ≤ 16777216) : dAddL (.lst xs) (.lst ys) = .ok (.lst (xs ++ ys)) := by
  unfold dAddL
  exact if_pos h
theorem lt_big {n : Nat} (h : n < 1000000) : n < big := by unfold big; omega
theorem le_big {n : Nat} (h : n < 1000000) : n ≤ big := by unfold big; omega
theorem callF_m {F : Fm} {js : List (Option Nat)} {a : M (List D)} {Γ Γ1 : Env} {ds : List D} {r : Rv} (h : a Γ = .ok (ds, Γ1)) (k : F ds = .ok r) : mCallF F js [] a Γ = .ok (r.d, setOuts js r.outs Γ1) := by
  unfold mCallF
  simp only [h, R.bind, k, true_or, if_true]
theorem callN_m {F : Fm} {js : List (Option Nat)} {a : M (List D)} {Γ Γ1 : Env} {ds o : List D} {d : D} (h : a Γ = .ok (ds, Γ1)) (k : F ds = .ok ⟨true, d, o⟩) : mCallN F js a Γ = .ok (d, setOuts js o Γ1) := by
  unfold mCallN
  simp only [h, R.bind, k, if_true]
/-- a comprehension over the images of a plain list -/
theorem lcL_fm {α : Type} {vs : List Nat} {g : GM} {t : M Bool} {e : M D} {Γ : Env} (c : α → D) (p : α → Bool) (f : α → D) : ∀ {L : List α}, (∀ a ∈ L, ∃ Γa Γb, g (c a) Γ = .ok Γa ∧ t Γa = .ok (p a, Γb) ∧ (p a = true → ∃ Γc, e Γb = .ok (f a, Γc) ∧ wipeE Γc vs = Γ) ∧ (p a = false → wipeE Γb vs = Γ)) → lcL vs g t e (L.map c) Γ = .ok ((L.filter p).map f, Γ)
  | [], _ => rfl
  | a :: L, h => by
    obtain ⟨Γa, Γb, h1, h2, h3, h4⟩ := h a List.mem_cons_self
    have ih := lcL_fm c p f (L := L) fun x hx => h x (List.mem_cons_of_mem _ hx)
    rw [List.map_cons]
    unfold lcL
    cases hp : p a with
    | true =>
      obtain ⟨Γc, h5, h6⟩ := h3 hp
      simp only [h1, h2, hp, if_true, h5, h6, ih, R.bind, List.filter_cons_of_pos hp, List.map_cons]
    | false =>
      have hf : ¬ p a = true := by rw [hp]; exact Bool.false_ne_true
      simp only [h1, h2, hp, Bool.false_eq_true, if_false, h4 hp, ih, List.filter_cons_of_neg hf]
theorem lcL_mm {α : Type} {vs : List Nat} {g : GM} {e : M D} {Γ : Env} (c : α → D) (f : α → D) {L : List α} (h : ∀ a ∈ L, ∃ Γa Γc, g (c a) Γ = .ok Γa ∧ e Γa = .ok (f a, Γc) ∧ wipeE Γc vs = Γ) : lcL vs g (ret true) e (L.map c) Γ = .ok (L.map f, Γ) := by
  have := lcL_fm (vs := vs) (g := g) (t := ret true) (e := e) (Γ := Γ) c (fun _ => true) f (L := L) fun a ha => by
    obtain ⟨Γa, Γc, h1, h2, h3⟩ := h a ha
    exact ⟨Γa, Γa, h1, rfl, fun _ => ⟨Γc, h2, h3⟩, fun h => by cases h⟩
  rw [this]
  congr 3
  exact List.filter_eq_self.mpr fun _ _ => rfl
/-- a for over the images of a plain list, as a fold of plain states -/
theorem forL_rel {α σ : Type} {g : GM} {body : SM} (c : α → D) (step : σ → α → σ) (P : σ → Env → Prop) : ∀ {L : List α} {s : σ} {Γ : Env}, P s Γ → (∀ a ∈ L, ∀ s Γ, P s Γ → ∃ Γ1 Γ2, g (c a) Γ = .ok Γ1 ∧ body Γ1 = .nx Γ2 ∧ P (step s a) Γ2) → ∃ Γ', forL g body (L.map c) Γ = .nx Γ' ∧ P (L.foldl step s) Γ'
  | [], s, Γ, h0, _ => ⟨Γ, rfl, h0⟩
  | a :: L, s, Γ, h0, h => by
    obtain ⟨Γ1, Γ2, h1, h2, h3⟩ := h a List.mem_cons_self s Γ h0
    obtain ⟨Γ', e, h4⟩ := forL_rel c step P h3 fun x hx => h x (List.mem_cons_of_mem _ hx)
    refine ⟨Γ', ?_, h4⟩
    rw [List.map_cons]
    unfold forL
    simp only [h1, h2]
    exact e
theorem tIf_t {α : Type} {t : M Bool} {a b : M α} {Γ Γ1 : Env} {r : R (α × Env)} (h : t Γ = .ok (true, Γ1)) (k : a Γ1 = r) : mIf t a b Γ = r := by
  unfold mIf bnd
  simp only [h, R.bind, if_true, k]
theorem tIf_f {α : Type} {t : M Bool} {a b : M α} {Γ Γ1 : Env} {r : R (α × Env)} (h : t Γ = .ok (false, Γ1)) (k : b Γ1 = r) : mIf t a b Γ = r := by
  unfold mIf bnd
  simp only [h, R.bind, Bool.false_eq_true, if_false, k]
theorem rangeD_eq (lo : Int) (n : Nat) : rangeD lo n = (List.range n).map fun i => D.int (lo + (i : Nat)) := rfl
end DL
/-! DL27: natural numbers in the mirrors. -/
namespace DL
open PySem L2
/-- the k-th of a list, 0 beyond it -/
def nth (L : List Nat) (k : Nat) : Nat := L.getD k 0
theorem nth_eq {L : List Nat} {k : Nat} (h : k < L.length) : nth L k = L[k] := by
  unfold nth
  rw [List.getD_eq_getElem?_getD, List.getElem?_eq_getElem h]
  rfl
theorem nth_get {L : List Nat} {k : Nat} (h : k < L.length) : L[k]? = some (nth L k) := by
  rw [nth_eq h, List.getElem?_eq_getElem h]
def nI (k : Nat) : D := .int (k : Int)
def nLs (L : List Nat) : List D := L.map nI
@[simp] theorem nLs_len (L : List Nat) : (nLs L).length = L.length := by simp [nLs]
theorem nLs_app (L M : List Nat) : nLs (L ++ M) = nLs L ++ nLs M := by simp [nLs]
@[simp] theorem nLs_one (z : Nat) : nLs [z] = [nI z] := rfl
@[simp] theorem nLs_nil : nLs [] = [] := rfl
theorem lit0 : D.int 0 = nI 0 := rfl
theorem lit1 : D.int 1 = nI 1 := rfl
theorem lit2 : D.int 2 = nI 2 := rfl
theorem lit10 : D.int 10 = nI 10 := rfl
theorem p64 : (2 : Int) ^ 64 = 18446744073709551616 := by rfl
theorem add_n (a b : Nat) : dAdd (nI a) (nI b) = .ok (nI (a + b)) := rfl
theorem sub_n {a b : Nat} (h : b ≤ a) : dSub (nI a) (nI b) = .ok (nI (a - b)) := by
  unfold dSub onI nI
  simp only [if_true]
  congr 2
  omega
theorem cMul_n {a : Nat} (b : Int) (h : a ≤ 1000000) : cMul (a : Int) b = true := by
  unfold cMul
  simp only [Bool.or_eq_true, decide_eq_true_eq]
  left
  omega
theorem mul_n {a b : Nat} (h : a ≤ 1000000) : dMul (nI a) (nI b) = .ok (nI (a * b)) := by
  unfold dMul onI nI
  simp only [cMul_n (b : Int) h, if_true]
  rfl
theorem fdiv_n {a b : Nat} (h0 : 0 < b) (h : b ≤ 1000000) : dFdiv (nI a) (nI b) = .ok (nI (a / b)) := by
  unfold dFdiv onI nI
  have : (decide (0 < (b : Int)) && decide ((b : Int).natAbs < 1073741824)) = true := by
    simp only [Bool.and_eq_true, decide_eq_true_eq]
    omega
  simp only [this, if_true]
  rfl
theorem mod_n {a b : Nat} (h0 : 0 < b) : dMod (nI a) (nI b) = .ok (nI (a % b)) := by
  unfold dMod onI nI
  have : decide (0 < (b : Int)) = true := by
    simp only [decide_eq_true_eq]
    omega
  simp only [this, if_true]
  rfl
theorem lt_n (a b : Nat) : dLt (nI a) (nI b) = .ok (.bl (decide (a < b))) := by
  unfold dLt onI nI
  simp only [if_true, Int.ofNat_lt]
theorem le_n (a b : Nat) : dLe (nI a) (nI b) = .ok (.bl (decide (a ≤ b))) := by
  unfold dLe onI nI
  simp only [if_true, Int.ofNat_le]
theorem gt_n (a b : Nat) : dGt (nI a) (nI b) = .ok (.bl (decide (b < a))) := by
  unfold dGt onI nI
  simp only [if_true, Int.ofNat_lt]
theorem ge_n (a b : Nat) : dGe (nI a) (nI b) = .ok (.bl (decide (b ≤ a))) := by
  unfold dGe onI nI
  simp only [if_true, Int.ofNat_le]
theorem eq_i (a b : Int) : dEq (.int a) (.int b) = .ok (.bl (decide (a = b))) := by
  have h : ∀ i : Int, SeqAt.shaped (.int i) = true := fun i => rfl
  unfold dEq dCmp
  simp only [toPd, h, Bool.and_self, if_true]
  rfl
theorem ne_i (a b : Int) : dNe (.int a) (.int b) = .ok (.bl (!decide (a = b))) := by
  have h : ∀ i : Int, SeqAt.shaped (.int i) = true := fun i => rfl
  unfold dNe dCmp
  simp only [toPd, h, Bool.and_self, if_true]
  rfl
theorem eq_n (a b : Nat) : dEq (nI a) (nI b) = .ok (.bl (decide (a = b))) := by
  unfold nI
  rw [eq_i]
  simp only [Int.ofNat_inj]
theorem ne_n (a b : Nat) : dNe (nI a) (nI b) = .ok (.bl (!decide (a = b))) := by
  unfold nI
  rw [ne_i]
  simp only [Int.ofNat_inj]
theorem at_n {L : List Nat} {k : Nat} (h : k < L.length) : atI (nLs L) ((k : Nat) : Int) = some (nI (nth L k)) := by
  unfold atI ixN
  rw [nLs_len, if_pos (by omega), if_pos (by omega)]
  show (nLs L)[((k : Nat) : Int).toNat]? = _
  rw [Int.toNat_natCast, nLs, List.getElem?_map, nth_get h]
  rfl
theorem at_l {L : List Nat} (h : 0 < L.length) : atI (nLs L) (-1) = some (nI (nth L (L.length - 1))) := by
  unfold atI ixN
  rw [nLs_len, if_neg (by omega), if_pos (by omega)]
  have e : (-1 + (L.length : Int)).toNat = L.length - 1 := by omega
  show (nLs L)[(-1 + (L.length : Int)).toNat]? = _
  rw [e, nLs, List.getElem?_map, nth_get (by omega)]
  rfl
theorem at_d {L : List D} {k : Nat} (h : k < L.length) : atI L ((k : Nat) : Int) = some L[k] := by
  unfold atI ixN
  rw [if_pos (by omega), if_pos (by omega)]
  show L[((k : Nat) : Int).toNat]? = _
  rw [Int.toNat_natCast, List.getElem?_eq_getElem h]
theorem ix_n {L : List Nat} {k : Nat} (h : k < L.length) : dIx (.lst (nLs L)) (nI k) = .ok (nI (nth L k)) := by
  unfold nI
  show orBad (atI (nLs L) (k : Int)) = _
  rw [at_n h]
  rfl
theorem ix_l {L : List Nat} (h : 0 < L.length) : dIx (.lst (nLs L)) (.int (-1)) = .ok (nI (nth L (L.length - 1))) := by
  show orBad (atI (nLs L) (-1)) = _
  rw [at_l h]
  rfl
theorem ix_d {L : List D} {k : Nat} (h : k < L.length) : dIx (.lst L) (nI k) = .ok L[k] := by
  unfold nI
  show orBad (atI L (k : Int)) = _
  rw [at_d h]
  rfl
theorem ix_m {α : Type} {f : α → D} {L : List α} {k : Nat} {a : α} (h : L[k]? = some a) : dIx (.lst (L.map f)) (nI k) = .ok (f a) := by
  obtain ⟨h1, rfl⟩ := List.getElem?_eq_some_iff.mp h
  rw [ix_d (by simpa using h1), List.getElem_map]
theorem set_n {L : List D} {k : Nat} {d : D} (h : k < L.length) : dSetIx (.lst L) (nI k) d = .ok (.lst (L.set k d)) := by
  have e : ixN L.length (k : Int) = some k := by
    unfold ixN
    rw [if_pos (by omega), if_pos (by omega)]
    simp
  unfold nI dSetIx
  simp only [e]
theorem nLs_set (L : List Nat) (k x : Nat) : (nLs L).set k (nI x) = nLs (L.set k x) := by
  unfold nLs
  rw [List.map_set]
theorem max_n (a b : Nat) : dMax [nI a, nI b] = .ok (nI (max a b)) := by
  unfold nI
  show R.ok (D.int (if (b : Int) > (a : Int) then (b : Int) else (a : Int))) = _
  congr 2
  split <;> omega
theorem min_n (a b : Nat) : dMin [nI a, nI b] = .ok (nI (min a b)) := by
  unfold nI
  show R.ok (D.int (if (b : Int) < (a : Int) then (b : Int) else (a : Int))) = _
  congr 2
  split <;> omega
theorem ints_n : ∀ (L : List Nat), intsD (nLs L) = some (L.map fun (k : Nat) => (k : Int))
  | [] => rfl
  | k :: L => by
    show (intsD (nLs L)).map ((k : Int) :: ·) = _
    rw [ints_n L]
    rfl
theorem sum_c : ∀ (L : List Nat), (L.map fun (k : Nat) => (k : Int)).sum = ((L.sum : Nat) : Int)
  | [] => rfl
  | k :: L => by
    rw [List.map_cons, List.sum_cons, List.sum_cons, sum_c L]
    omega
theorem sum_n (L : List Nat) : dSum [.lst (nLs L)] = .ok (nI L.sum) := by
  unfold dSum
  simp only [ints_n, sum_c]
  rfl
theorem len_n (xs : List D) : dLen [.lst xs] = .ok (nI xs.length) := rfl
theorem len_t (xs : List D) : dLen [.tup xs] = .ok (nI xs.length) := rfl
theorem hard_n (k : Nat) : hard (nI k) = true := rfl
theorem range_n (n : Nat) : rangeD 0 n = (List.range n).map nI := by
  unfold rangeD
  refine List.map_congr_left fun i _ => ?_
  unfold nI
  rw [Int.zero_add]
theorem range1_n {n : Nat} (h : n ≤ 1000000) : dRange1 [nI n] = .ok ((List.range n).map nI) := by
  unfold nI
  rw [range1_ok (by omega) (by omega), Int.toNat_natCast, range_n]
  rfl
theorem range2_n {a b : Nat} (h : b ≤ 1000000) (h2 : a ≤ 1000000) : dRange2 [nI a, nI b] = .ok ((List.range (b - a)).map fun i => nI (a + i)) := by
  unfold nI
  rw [range2_ok (by omega) (by omega) (by omega) (by omega)]
  have e : ((b : Int) - (a : Int)).toNat = b - a := by omega
  rw [e]
  unfold rangeD
  rfl
theorem rep_n {k n : Nat} (h : n ≤ 1000000) : dRep (.lst [nI k]) (nI n) = .ok (.lst (nLs (List.replicate n k))) := by
  unfold dRep nI
  dsimp only
  rw [if_pos]
  · rw [Int.toNat_natCast, List.flatten_replicate_singleton]
    unfold nLs
    rw [List.map_replicate]
    rfl
  · rw [Int.toNat_natCast]
    simp only [Bool.and_eq_true, decide_eq_true_eq, List.length_singleton]
    refine ⟨by omega, ?_⟩
    unfold big
    omega
theorem or_n (a b : Nat) : dOr (nI a) (nI b) = .ok (nI (a ||| b)) := by
  unfold dOr onI nI
  simp only [if_true]
  rw [bitOr_nn (by omega) (by omega)]
  rfl
theorem shl_n {a b : Nat} (ha : a ≤ 1000000) (hb : b ≤ 1000000) : dShl (nI a) (nI b) = .ok (nI (a * 2 ^ b)) := by
  have c : cPow (a : Int) (b : Int) = true := by
    unfold cPow
    simp only [Bool.and_eq_true, decide_eq_true_eq]
    refine ⟨⟨by omega, by omega⟩, ?_⟩
    have : (2 : Nat) ^ 64 = 18446744073709551616 := by rfl
    rw [this]
    omega
  unfold dShl onI nI
  simp only [c, if_true]
  rw [Int.toNat_natCast]
  congr 2
theorem cons_m {a : M D} {r : M (List D)} {Γ Γ1 Γ2 : Env} {x : D} {xs : List D} (h : a Γ = .ok (x, Γ1)) (g : r Γ1 = .ok (xs, Γ2)) : mCons a r Γ = .ok (x :: xs, Γ2) := by
  unfold mCons bnd
  simp only [h, R.bind, g]
  rfl
theorem ps_m {k v : M D} {r : M (List (D × D))} {Γ Γ1 Γ2 Γ3 : Env} {x y : D} {l : List (D × D)} (h : k Γ = .ok (x, Γ1)) (g : v Γ1 = .ok (y, Γ2)) (i : r Γ2 = .ok (l, Γ3)) : mPs k v r Γ = .ok ((x, y) :: l, Γ3) := by
  unfold mPs bnd
  simp only [h, R.bind, g, i]
  rfl
theorem dict_m {m : M (List (D × D))} {Γ Γ1 : Env} {l : List (D × D)} {d : D} (h : m Γ = .ok (l, Γ1)) (g : dDict l = .ok d) : mDict m Γ = .ok (d, Γ1) := by
  unfold mDict bnd
  simp only [h, R.bind, lift, g, noexc]
theorem toB_ok (b : Bool) : toB (.bl b) = .ok b := rfl
end DL
namespace K13
open PySem L2 DL PyProof.Rows
def top (i : Nat) : Stmt := PySem.Challenge.pw_fewbeside_k13_rows_of_two_places.main.body.getD i (.Pass ⟨0, 0, 0, 0⟩)
def isTbl : List (Nat × Nat × Bool) := [(0, 0, true), (0, 1, false), (1, 0, false), (1, 1, true)]
def tryTbl_BesideError : List (Nat × Bool) := [(0, true), (1, true)]
structure Tx (K : PySem.W.Frag) (mg : Str → Option Value) (cl : Nat → Addr) : Prop where
  abs_ : mg "abs" = none
  all_ : mg "all" = none
  bool_ : mg "bool" = none
  dict_ : mg "dict" = none
  enumerate_ : mg "enumerate" = none
  int_ : mg "int" = none
  isinstance_ : mg "isinstance" = none
  len_ : mg "len" = none
  list_ : mg "list" = none
  max_ : mg "max" = none
  min_ : mg "min" = none
  range_ : mg "range" = none
  str_ : mg "str" = none
  sum_ : mg "sum" = none
  tuple_ : mg "tuple" = none
  zip_ : mg "zip" = none
  g_SEARCH : ∃ t, mg "SEARCH" = some (.int 8 t)
  c_TooMany : mg "TooMany" = some (.ref (cl 0))
  c_BadStair : mg "BadStair" = some (.ref (cl 1))
  m_BesideError : mg "BesideError" = some (.ref (cl 2))
  f_kind : ∀ c ∈ ([1] : List Nat), ErrC K (cl c) ∧ PySem.W.findIn K (.ref (cl c)) "kind" = some none
  f_place : ∀ c ∈ ([1] : List Nat), ErrC K (cl c) ∧ PySem.W.findIn K (.ref (cl c)) "place" = some none
  f_what : ∀ c ∈ ([0] : List Nat), ErrC K (cl c) ∧ PySem.W.findIn K (.ref (cl c)) "what" = some none
  eg : ErrG K
  it : ∀ t ∈ isTbl, ErrC K (cl t.1) ∧ PySem.W.kitOne K (.ref (cl t.1)) (.ref (cl t.2.1)) = some t.2.2
  x_BesideError : ∀ c b, tryTbl_BesideError.lookup c = some b → PySem.W.exmOne K (.ref (cl c)) (.ref (cl 2)) = some b
section
variable {P : Program} {w : World} {K : PySem.W.Frag} {mg : Str → Option Value} {base : Heap} {cl : Nat → Addr}
/-! ### check_many -/
abbrev s_check_many : Stmt := top 6
abbrev N_check_many : List Str := ["many", "most", "what"]
theorem sc_check_many : FnScope N_check_many ["many", "most", "what"] (defScope s_check_many) := ⟨rfl, rfl, rfl, by decide +kernel, rfl, by decide +kernel, by decide +kernel⟩
def m_check_many : SM :=
  (sIf (mT (mOp dGt (mVar 0) (mVar 1))) (sRaise 0 ["what"] (mCons (mVar 2) mNil)) sNil)
def F_check_many : Fm := runBody N_check_many.length [false, false, false] m_check_many
theorem ok_check_many {f : Addr} {fd : FuncData} (Fn : Fun K "check_many" "check_many" s_check_many f fd) (T : Tx K mg cl) (x_TooMany : ExI P w K mg base cl 1 "TooMany" 0 ["what"]) : FnOk P w K mg base (L2.CX P w) 3 f fd ["many", "most", "what"] (callSp ⟨K, cl⟩ [false, false, false] F_check_many) :=
  def_ok (k := 2) (N := N_check_many) (m := m_check_many) Fn sc_check_many rfl fun cdv A outer s H E hr =>
  (ss_one (s_if (t_cmp o_gt (e_var 0) (e_var 1)) (ss_one (s_raise x_TooMany (hr.mono (by decide)) rfl (takes_of rfl rfl rfl rfl) (a_cons (e_var 2) a_nil))) ss_nil))
/-! ### is_integer -/
abbrev s_is_integer : Stmt := top 8
abbrev N_is_integer : List Str := ["value"]
theorem sc_is_integer : FnScope N_is_integer ["value"] (defScope s_is_integer) := ⟨rfl, rfl, rfl, by decide +kernel, rfl, by decide +kernel, by decide +kernel⟩
def m_is_integer : SM :=
  (sRet (mAndV (mCallB dIsi (mCons (mVar 0) (mCons (ret (.ty "int")) mNil))) (mNotV (mCallB dIsi (mCons (mVar 0) (mCons (ret (.ty "bool")) mNil))))))
def F_is_integer : Fm := runBody N_is_integer.length [false] m_is_integer
theorem ok_is_integer {f : Addr} {fd : FuncData} (Fn : Fun K "is_integer" "is_integer" s_is_integer f fd) (T : Tx K mg cl) : FnOk P w K mg base (L2.CX P w) 1 f fd ["value"] (callSp ⟨K, cl⟩ [false] F_is_integer) :=
  def_ok (k := 0) (N := N_is_integer) (m := m_is_integer) Fn sc_is_integer rfl fun cdv A outer s H E hr =>
  (ss_one (s_ret (e_and (e_callB b_isi T.isinstance_ (b_cons (e_var 0) (b_cons (e_ty "int" T.int_) b_nil))) (e_bool1 (e_not (e_callB b_isi T.isinstance_ (b_cons (e_var 0) (b_cons (e_ty "bool" T.bool_) b_nil))))))))
/-! ### stair_fault -/
abbrev s_stair_fault : Stmt := top 9
abbrev N_stair_fault : List Str := ["row", "length", "last", "s", "reach"]
theorem sc_stair_fault : FnScope N_stair_fault ["row", "length"] (defScope s_stair_fault) := ⟨rfl, rfl, rfl, by decide +kernel, rfl, by decide +kernel, by decide +kernel⟩
def b0_stair_fault : SM :=
  (sSeq (sIf (mOr (mNot (mTru (mCallF F_is_integer [none] [] (mCons (mVar 4) mNil)))) (mOr (mT (mOp dLt (mVar 4) (mVar 3))) (mOr (mT (mOp dLt (mVar 4) (mVar 2))) (mOr (mT (mOp dGe (mVar 4) (mVar 1))) (mAnd (mT (mOp dEq (mVar 3) (ret (.int 0)))) (mT (mOp dNe (mVar 4) (ret (.int 0))))))))) (sRet (mVar 3)) sNil) (sAsg (mVar 4) (gSet 2)))
def m_stair_fault : SM :=
  (sSeq (sIf (mOr (mNot (mTru (mCallB dIsi (mCons (mVar 0) (mCons (mTup (mCons (ret (.ty "list")) (mCons (ret (.ty "tuple")) mNil))) mNil))))) (mOr (mT (mOp dLt (mCallB dLen (mCons (mVar 0) mNil)) (ret (.int 2)))) (mT (mOp dNe (mCallB dLen (mCons (mVar 0) mNil)) (mVar 1))))) (sRet (ret (.int 0))) sNil) (sSeq (sAsg (ret (.int 0)) (gSet 2)) (sSeq (sFor (mEnumA (mCons (mVar 0) mNil)) (gUn 2 (gsCons (gSet 3) (gsCons (gSet 4) gsNil))) b0_stair_fault) (sRet (ret .non)))))
def F_stair_fault : Fm := runBody N_stair_fault.length [false, false] m_stair_fault
theorem ok_stair_fault {f : Addr} {fd : FuncData} (Fn : Fun K "stair_fault" "stair_fault" s_stair_fault f fd) (T : Tx K mg cl) (h_is_integer : FnI P w K mg base cl 1 "is_integer" [false] F_is_integer) : FnOk P w K mg base (L2.CX P w) 2 f fd ["row", "length"] (callSp ⟨K, cl⟩ [false, false] F_stair_fault) :=
  def_ok (k := 1) (N := N_stair_fault) (m := m_stair_fault) Fn sc_stair_fault rfl fun cdv A outer s H E hr =>
  (ss_cons (s_if (t_w (w_or (t_not (t_tru (e_callB b_isi T.isinstance_ (b_cons (e_var 0) (b_cons (e_tup (a_cons (e_ty "list" T.list_) (a_cons (e_ty "tuple" T.tuple_) a_nil))) b_nil))))) (w_or (t_cmp o_lt (e_callB b_len T.len_ (b_cons (e_var 0) b_nil)) e_int) (w_or1 (t_cmp (o_ne hr.units) (e_callB b_len T.len_ (b_cons (e_var 0) b_nil)) (e_var 1)))))) (ss_one (s_ret e_int)) ss_nil)
  (ss_cons (s_set 2 sc_stair_fault.nd e_int)
  (ss_cons (s_for (passes_of rfl) rfl (i_enumA T.enumerate_ (a_cons (e_var 0) a_nil)) (g_un rfl (gs_cons (g_name 3 sc_stair_fault.nd) (gs_cons (g_name 4 sc_stair_fault.nd) gs_nil))) (ss_cons (s_if (t_w (w_or (t_not (t_tru (e_call (h_is_integer.mono (by decide)) hr (lets_of rfl rfl rfl rfl) (c_val (e_var 4) c_nil)))) (w_or (t_cmp o_lt (e_var 4) (e_var 3)) (w_or (t_cmp o_lt (e_var 4) (e_var 2)) (w_or (t_cmp o_ge (e_var 4) (e_var 1)) (w_or1 (t_w (w_and (t_cmp (o_eq hr.units) (e_var 3) e_int) (w_and1 (t_cmp (o_ne hr.units) (e_var 4) e_int)))))))))) (ss_one (s_ret (e_var 3))) ss_nil)
  (ss_one (s_set 2 sc_stair_fault.nd (e_var 4)))))
  (ss_one (s_ret e_non)))))
/-! ### row_length -/
abbrev s_row_length : Stmt := top 10
abbrev N_row_length : List Str := ["row"]
theorem sc_row_length : FnScope N_row_length ["row"] (defScope s_row_length) := ⟨rfl, rfl, rfl, by decide +kernel, rfl, by decide +kernel, by decide +kernel⟩
def m_row_length : SM :=
  (sRet (mIf (mTru (mCallB dIsi (mCons (mVar 0) (mCons (mTup (mCons (ret (.ty "list")) (mCons (ret (.ty "tuple")) mNil))) mNil)))) (mCallB dLen (mCons (mVar 0) mNil)) (ret (.int 0))))
def F_row_length : Fm := runBody N_row_length.length [false] m_row_length
theorem ok_row_length {f : Addr} {fd : FuncData} (Fn : Fun K "row_length" "row_length" s_row_length f fd) (T : Tx K mg cl) : FnOk P w K mg base (L2.CX P w) 1 f fd ["row"] (callSp ⟨K, cl⟩ [false] F_row_length) :=
  def_ok (k := 0) (N := N_row_length) (m := m_row_length) Fn sc_row_length rfl fun cdv A outer s H E hr =>
  (ss_one (s_ret (e_if (t_tru (e_callB b_isi T.isinstance_ (b_cons (e_var 0) (b_cons (e_tup (a_cons (e_ty "list" T.list_) (a_cons (e_ty "tuple" T.tuple_) a_nil))) b_nil)))) (e_callB b_len T.len_ (b_cons (e_var 0) b_nil)) e_int)))
/-! ### check_stair -/
abbrev s_check_stair : Stmt := top 11
abbrev N_check_stair : List Str := ["name", "row", "fault"]
theorem sc_check_stair : FnScope N_check_stair ["name", "row"] (defScope s_check_stair) := ⟨rfl, rfl, rfl, by decide +kernel, rfl, by decide +kernel, by decide +kernel⟩
def m_check_stair : SM :=
  (sSeq (sAsg (mCallF F_stair_fault [none, none] [] (mCons (mVar 1) (mCons (mCallF F_row_length [none] [] (mCons (mVar 1) mNil)) mNil))) (gSet 2)) (sIf (mT (mOp dIsNot (mVar 2) (ret .non))) (sRaise 1 ["kind", "place"] (mCons (mVar 0) (mCons (mVar 2) mNil))) sNil))
def F_check_stair : Fm := runBody N_check_stair.length [false, false] m_check_stair
theorem ok_check_stair {f : Addr} {fd : FuncData} (Fn : Fun K "check_stair" "check_stair" s_check_stair f fd) (T : Tx K mg cl) (h_stair_fault : FnI P w K mg base cl 2 "stair_fault" [false, false] F_stair_fault) (h_row_length : FnI P w K mg base cl 1 "row_length" [false] F_row_length) (x_BadStair : ExI P w K mg base cl 1 "BadStair" 1 ["kind", "place"]) : FnOk P w K mg base (L2.CX P w) 3 f fd ["name", "row"] (callSp ⟨K, cl⟩ [false, false] F_check_stair) :=
  def_ok (k := 2) (N := N_check_stair) (m := m_check_stair) Fn sc_check_stair rfl fun cdv A outer s H E hr =>
  (ss_cons (s_set 2 sc_check_stair.nd (e_call (h_stair_fault.mono (by decide)) hr (lets_of rfl rfl rfl rfl) (c_val (e_var 1) (c_val (e_call (h_row_length.mono (by decide)) hr (lets_of rfl rfl rfl rfl) (c_val (e_var 1) c_nil)) c_nil))))
  (ss_one (s_if (t_cmp o_isnot (e_var 2) e_non) (ss_one (s_raise x_BadStair (hr.mono (by decide)) rfl (takes_of rfl rfl rfl rfl) (a_cons (e_var 0) (a_cons (e_var 2) a_nil)))) ss_nil)))
/-! ### falling_rows -/
abbrev s_falling_rows : Stmt := top 14
abbrev N_falling_rows : List Str := ["floors", "most", "rows", "q", "row", "z"]
theorem sc_falling_rows : FnScope N_falling_rows ["floors", "most"] (defScope s_falling_rows) := ⟨rfl, rfl, rfl, by decide +kernel, rfl, by decide +kernel, by decide +kernel⟩
def b0_falling_rows : SM :=
  (sAsg (mLc2 [4, 5] (mSeq (mVar 2)) (gSet 4) (ret true) (mRange1 (mCons (mOp dAdd (mIf (mT (mOp dNe (mVar 4) (mLst mNil))) (mOp dIx (mVar 4) (mUn dNeg (ret (.int 1)))) (mVar 1)) (ret (.int 1))) mNil)) [5] (gSet 5) (ret true) (mOp dAddL (mVar 4) (mLst (mCons (mVar 5) mNil)))) (gSet 2))
def m_falling_rows : SM :=
  (sSeq (sAsg (mLst (mCons (mLst mNil) mNil)) (gSet 2)) (sSeq (sFor (mRange1 (mCons (mVar 0) mNil)) (gSet 3) b0_falling_rows) (sRet (mVar 2))))
def F_falling_rows : Fm := runBody N_falling_rows.length [false, false] m_falling_rows
theorem ok_falling_rows {f : Addr} {fd : FuncData} (Fn : Fun K "falling_rows" "falling_rows" s_falling_rows f fd) (T : Tx K mg cl) : FnOk P w K mg base (L2.CX P w) 1 f fd ["floors", "most"] (callSp ⟨K, cl⟩ [false, false] F_falling_rows) :=
  def_ok (k := 0) (N := N_falling_rows) (m := m_falling_rows) Fn sc_falling_rows rfl fun cdv A outer s H E hr =>
  (ss_cons (s_set 2 sc_falling_rows.nd ((n_lst (a_cons ((n_lst a_nil)).e a_nil))).e)
  (ss_cons (s_for (passes_of rfl) rfl (i_range1 T.range_ (b_cons (e_var 0) b_nil)) (g_name 3 sc_falling_rows.nd) (ss_one (s_setLc2 2 [5] rfl sc_falling_rows.nd (i_seq (e_var 2)) (blkOk_by (own := [("row", 4), ("z", 5)]) (by rfl)) (fun _ => (g_name 4 sc_falling_rows.nd)) (fun _ => ts_nil) (fun _ => (i_range1 T.range_ (b_cons (e_binE o_add (e_if (t_cmp (o_ne hr.units) (e_var 4) ((n_lst a_nil)).e) (e_ix (hu_of hr) (e_var 4) (e_neg e_int)) (e_var 1)) e_int) b_nil))) (fun _ => (g_name 5 sc_falling_rows.nd)) (fun _ => ts_nil) (fun _ => ((n_cat (e_var 4) ((n_lst (a_cons (e_var 5) a_nil))).e)).e))))
  (ss_one (s_ret (e_var 2)))))
/-! ### two_places -/
abbrev s_two_places : Stmt := top 13
abbrev N_two_places : List Str := ["one", "other", "floors", "wide", "below", "least", "row", "reach", "q", "p", "s"]
theorem sc_two_places : FnScope N_two_places ["one", "other"] (defScope s_two_places) := ⟨rfl, rfl, rfl, by decide +kernel, rfl, by decide +kernel, by decide +kernel⟩
def e0_two_places : M D :=
  (mCallB dMin (mCons (mLc [9] (mRange2 (mCons (ret (.int 1)) (mCons (mOp dAdd (mVar 2) (ret (.int 1))) mNil))) (gSet 9) (mT (mOp dGe (mOp dIx (mVar 0) (mVar 9)) (mVar 8))) (mVar 9)) mNil))
def e1_two_places : M D :=
  (mCallB dMax (mCons (mOp dIx (mVar 1) (mOp dIx (mVar 6) (mVar 8))) (mCons (mOp dIx (mVar 6) (mOp dSub (mOp dIx (mVar 4) (mVar 8)) (ret (.int 1)))) mNil)))
def b2_two_places : SM :=
  (sSeq (sAsg (mCallB dSum (mCons (mLc [8] (mRange1 (mCons (mVar 2) mNil)) (gSet 8) (ret true) e1_two_places) mNil)) (gSet 7)) (sAsg (mCallB dMin (mCons (mIxB 5 (mCallB dSum (mCons (mVar 6) mNil))) (mCons (mVar 7) mNil))) (gSetIx 5 (mCallB dSum (mCons (mVar 6) mNil)))))
def m_two_places : SM :=
  (sSeq (sExpr (mCallF F_check_many [none, none, none] [] (mCons (mOp dSub (mCallB dMax (mCons (mCallF F_row_length [none] [] (mCons (mVar 0) mNil)) (mCons (mCallF F_row_length [none] [] (mCons (mVar 1) mNil)) mNil))) (ret (.int 1))) (mCons (ret (.int 8)) (mCons (ret (.str "search")) mNil))))) (sSeq (sExpr (mCallF F_check_stair [none, none] [] (mCons (ret (.int 1)) (mCons (mVar 0) mNil)))) (sSeq (sExpr (mCallF F_check_stair [none, none] [] (mCons (ret (.int 2)) (mCons (mVar 1) mNil)))) (sSeq (sAsg (mOp dSub (mCallB dLen (mCons (mVar 0) mNil)) (ret (.int 1))) (gSet 2)) (sSeq (sAsg (mOp dSub (mCallB dLen (mCons (mVar 1) mNil)) (ret (.int 1))) (gSet 3)) (sSeq (sAsg (mLc [8] (mRange2 (mCons (ret (.int 1)) (mCons (mOp dAdd (mVar 2) (ret (.int 1))) mNil))) (gSet 8) (ret true) e0_two_places) (gSet 4)) (sSeq (sAsg (mLc [10] (mRange1 (mCons (mOp dAdd (mOp dMul (mVar 2) (mVar 3)) (ret (.int 1))) mNil)) (gSet 10) (ret true) (mOp dMul (mVar 2) (mVar 3))) (gOwn 5)) (sSeq (sFor (mSeq (mCallF F_falling_rows [none, none] [] (mCons (mVar 2) (mCons (mVar 3) mNil)))) (gSet 6) b2_two_places) (sRetOwn 5)))))))))
def F_two_places : Fm := runBody N_two_places.length [false, false] m_two_places
theorem ok_two_places {f : Addr} {fd : FuncData} (Fn : Fun K "two_places" "two_places" s_two_places f fd) (T : Tx K mg cl) (h_check_many : FnI P w K mg base cl 3 "check_many" [false, false, false] F_check_many) (h_row_length : FnI P w K mg base cl 1 "row_length" [false] F_row_length) (h_check_stair : FnI P w K mg base cl 3 "check_stair" [false, false] F_check_stair) (h_falling_rows : FnI P w K mg base cl 1 "falling_rows" [false, false] F_falling_rows) : FnOk P w K mg base (L2.CX P w) 4 f fd ["one", "other"] (callSp ⟨K, cl⟩ [false, false] F_two_places) :=
  def_ok (k := 3) (N := N_two_places) (m := m_two_places) Fn sc_two_places rfl fun cdv A outer s H E hr =>
  (ss_cons (s_expr (e_call (h_check_many.mono (by decide)) hr (lets_of rfl rfl rfl rfl) (c_val (e_binE o_sub (e_callB (b_max rfl) T.max_ (b_cons (e_call (h_row_length.mono (by decide)) hr (lets_of rfl rfl rfl rfl) (c_val (e_var 0) c_nil)) (b_cons (e_call (h_row_length.mono (by decide)) hr (lets_of rfl rfl rfl rfl) (c_val (e_var 1) c_nil)) b_nil))) e_int) (c_val (e_globI rfl T.g_SEARCH.choose_spec) (c_val e_str c_nil)))))
  (ss_cons (s_expr (e_call (h_check_stair.mono (by decide)) hr (lets_of rfl rfl rfl rfl) (c_val e_int (c_val (e_var 0) c_nil))))
  (ss_cons (s_expr (e_call (h_check_stair.mono (by decide)) hr (lets_of rfl rfl rfl rfl) (c_val e_int (c_val (e_var 1) c_nil))))
  (ss_cons (s_set 2 sc_two_places.nd (e_binE o_sub (e_callB b_len T.len_ (b_cons (e_var 0) b_nil)) e_int))
  (ss_cons (s_set 3 sc_two_places.nd (e_binE o_sub (e_callB b_len T.len_ (b_cons (e_var 1) b_nil)) e_int))
  (ss_cons (s_set 4 sc_two_places.nd ((n_lc rfl sc_two_places.nd (i_range2 T.range_ (b_cons e_int (b_cons (e_binE o_add (e_var 2) e_int) b_nil))) (blkOk_by (own := [("q", 8)]) (by rfl)) (fun _ => (g_name 8 sc_two_places.nd)) (fun _ => ts_nil) (fun _ => (e_callB (b_min rfl) T.min_ (b_cons ((n_lc rfl sc_two_places.nd (i_range2 T.range_ (b_cons e_int (b_cons (e_binE o_add (e_var 2) e_int) b_nil))) (blkOk_by (own := [("p", 9)]) (by rfl)) (fun _ => (g_name 9 sc_two_places.nd)) (fun _ => (ts_one (t_cmp o_ge (e_ix (hu_of hr) (e_var 0) (e_var 9)) (e_var 8)))) (fun _ => (e_var 9)))).e b_nil))))).e)
  (ss_cons (s_setLcN 5 rfl sc_two_places.nd (i_range1 T.range_ (b_cons (e_binE o_add (e_binE o_mul (e_var 2) (e_var 3)) e_int) b_nil)) (blkOk_by (own := [("s", 10)]) (by rfl)) (fun _ => (g_name 10 sc_two_places.nd)) (fun _ => ts_nil) (fun _ => (e_binE o_mul (e_var 2) (e_var 3))))
  (ss_cons (s_for (passes_of rfl) rfl (i_seq (e_call (h_falling_rows.mono (by decide)) hr (lets_of rfl rfl rfl rfl) (c_val (e_var 2) (c_val (e_var 3) c_nil)))) (g_name 6 sc_two_places.nd) (ss_cons (s_set 7 sc_two_places.nd (e_callB (b_sum rfl) T.sum_ (b_cons ((n_lc rfl sc_two_places.nd (i_range1 T.range_ (b_cons (e_var 2) b_nil)) (blkOk_by (own := [("q", 8)]) (by rfl)) (fun _ => (g_name 8 sc_two_places.nd)) (fun _ => ts_nil) (fun _ => (e_callB (b_max rfl) T.max_ (b_cons (e_ix (hu_of hr) (e_var 1) (e_ix (hu_of hr) (e_var 6) (e_var 8))) (b_cons (e_ix (hu_of hr) (e_var 6) (e_binE o_sub (e_ix (hu_of hr) (e_var 4) (e_var 8)) e_int)) b_nil)))))).e b_nil)))
  (ss_one (s_asg (e_callB (b_min rfl) T.min_ (b_cons (e_ixB 5 (hu_of hr) (e_callB (b_sum rfl) T.sum_ (b_cons (e_var 6) b_nil))) (b_cons (e_var 7) b_nil))) (g_setIx 5 (hu_of hr) (e_callB (b_sum rfl) T.sum_ (b_cons (e_var 6) b_nil)))))))
  (ss_one (s_retOwn 5))))))))))
/-! ### _law_source -/
abbrev s__law_source : Stmt := top 16
abbrev N__law_source : List Str := ["script", "at", "cells", "mix", "x", "own"]
theorem sc__law_source : FnScope N__law_source ["script", "at"] (defScope s__law_source) := ⟨rfl, rfl, rfl, by decide +kernel, rfl, by decide +kernel, by decide +kernel⟩
def b0__law_source : SM :=
  (sIf (mT (mChain dLt dLt (mUn dNeg (mOp dPow (ret (.int 10)) (ret (.int 18)))) (mVar 4) (mOp dPow (ret (.int 10)) (ret (.int 18))))) (sAsg (mOp dMod (mOp dAdd (mOp dAdd (mOp dMul (mVar 3) (ret (.int 48271))) (mOp dMod (mVar 4) (ret (.int 2147483629)))) (ret (.int 12345))) (ret (.int 2147483647))) (gSet 3)) sNil)
def m__law_source : SM :=
  (sSeq (sAsg (mLc [4] (mSeq (mSlice dCutL (mVar 0) (ret none) (mPart (ret (.int 63))))) (gSet 4) (ret true) (mCallB dInt (mCons (mVar 4) mNil))) (gSet 2)) (sSeq (sAsg (mOp dAdd (ret (.int 1201)) (mOp dMul (mVar 1) (ret (.int 7919)))) (gSet 3)) (sSeq (sFor (mSeq (mVar 2)) (gSet 4) b0__law_source) (sSeq (sAsg (mIf (mTru (mVar 2)) (mCallB dAbs (mCons (mOp dIx (mVar 2) (mOp dMod (mVar 1) (mCallB dLen (mCons (mVar 2) mNil)))) mNil)) (ret (.int 0))) (gSet 5)) (sRetN (mLst (mCons (mIf (mT (mOp dGe (mVar 5) (mOp dPow (ret (.int 10)) (ret (.int 18))))) (mOp dMod (mVar 5) (mOp dPow (mOp dPow (ret (.int 10)) (ret (.int 60))) (ret (.int 8)))) (ret (.int 0))) (mCons (mVar 3) (mCons (mOp dAdd (mVar 1) (ret (.int 1))) mNil)))))))))
def F__law_source : Fm := runBody N__law_source.length [false, false] m__law_source
theorem ok__law_source {f : Addr} {fd : FuncData} (Fn : Fun K "_law_source" "_law_source" s__law_source f fd) (T : Tx K mg cl) : FnOk P w K mg base (L2.CX P w) 1 f fd ["script", "at"] (callSp ⟨K, cl⟩ [false, false] F__law_source) :=
  def_ok (k := 0) (N := N__law_source) (m := m__law_source) Fn sc__law_source rfl fun cdv A outer s H E hr =>
  (ss_cons (s_setLc 2 rfl sc__law_source.nd (i_seq ((n_sliceL (e_var 0) o_none (o_some e_int))).e) (blkOk_by (own := [("x", 4)]) (by rfl)) (fun _ => (g_name 4 sc__law_source.nd)) (fun _ => ts_nil) (fun _ => (e_callTyB b_int T.int_ (b_cons (e_var 4) b_nil))))
  (ss_cons (s_set 3 sc__law_source.nd (e_binE o_add e_int (e_binE o_mul (e_var 1) e_int)))
  (ss_cons (s_for (passes_of rfl) rfl (i_seq (e_var 2)) (g_name 4 sc__law_source.nd) (ss_one (s_if (t_chain o_lt o_lt (e_neg (e_binE o_pow e_int e_int)) (e_var 4) (e_binE o_pow e_int e_int)) (ss_one (s_set 3 sc__law_source.nd (e_binE o_mod (e_binE o_add (e_binE o_add (e_binE o_mul (e_var 3) e_int) (e_binE o_mod (e_var 4) e_int)) e_int) e_int))) ss_nil)))
  (ss_cons (s_set 5 sc__law_source.nd (e_if (t_tru (e_var 2)) (e_callB b_abs T.abs_ (b_cons (e_ix (hu_of hr) (e_var 2) (e_binE o_mod (e_var 1) (e_callB b_len T.len_ (b_cons (e_var 2) b_nil)))) b_nil)) e_int))
  (ss_one (s_retN (n_lst (a_cons (e_if (t_cmp o_ge (e_var 5) (e_binE o_pow e_int e_int)) (e_binE o_mod (e_var 5) (e_binE o_pow (e_binE o_pow e_int e_int) e_int)) e_int) (a_cons (e_var 3) (a_cons (e_binE o_add (e_var 1) e_int) a_nil))))))))))
/-! ### _law_pick -/
abbrev s__law_pick : Stmt := top 17
abbrev N__law_pick : List Str := ["s", "many", "mixed", "digit"]
theorem sc__law_pick : FnScope N__law_pick ["s", "many"] (defScope s__law_pick) := ⟨rfl, rfl, rfl, by decide +kernel, rfl, by decide +kernel, by decide +kernel⟩
def m__law_pick : SM :=
  (sSeq (sAsg (mTup (mCons (mOp dMod (mOp dAdd (mOp dMul (mCallB dInt (mCons (mIxB 0 (ret (.int 1))) mNil)) (ret (.int 48271))) (ret (.int 11))) (ret (.int 2147483647))) (mCons (mOp dAdd (mIxB 0 (ret (.int 2))) (ret (.int 1))) mNil))) (gUn 2 (gsCons (gSetIx 0 (ret (.int 1))) (gsCons (gSetIx 0 (ret (.int 2))) gsNil)))) (sSeq (sAsg (mOp dMod (mOp dAdd (mOp dAdd (mOp dMul (mOp dFdiv (mCallB dInt (mCons (mIxB 0 (ret (.int 1))) mNil)) (ret (.int 7))) (ret (.int 69621))) (mOp dMul (mCallB dInt (mCons (mIxB 0 (ret (.int 2))) mNil)) (ret (.int 16807)))) (mOp dMod (mCallB dInt (mCons (mIxB 0 (ret (.int 1))) mNil)) (ret (.int 127)))) (ret (.int 2147483629))) (gSet 2)) (sSeq (sAsg (mCallB dMax (mCons (ret (.int 1)) (mCons (mVar 1) mNil))) (gSet 1)) (sSeq (sAsg (mOp dMod (mCallB dInt (mCons (mIxB 0 (ret (.int 0))) mNil)) (mVar 1)) (gSet 3)) (sSeq (sAsg (mOp dFdiv (mIxB 0 (ret (.int 0))) (mVar 1)) (gSetIx 0 (ret (.int 0)))) (sRet (mOp dMod (mOp dAdd (mVar 2) (mVar 3)) (mVar 1))))))))
def F__law_pick : Fm := runBody N__law_pick.length [true, false] m__law_pick
theorem ok__law_pick {f : Addr} {fd : FuncData} (Fn : Fun K "_law_pick" "_law_pick" s__law_pick f fd) (T : Tx K mg cl) : FnOk P w K mg base (L2.CX P w) 1 f fd ["s", "many"] (callSp ⟨K, cl⟩ [true, false] F__law_pick) :=
  def_ok (k := 0) (N := N__law_pick) (m := m__law_pick) Fn sc__law_pick rfl fun cdv A outer s H E hr =>
  (ss_cons (s_asg (e_tup (a_cons (e_binE o_mod (e_binE o_add (e_binE o_mul (e_callTyB b_int T.int_ (b_cons (e_ixB 0 (hu_of hr) e_int) b_nil)) e_int) e_int) e_int) (a_cons (e_binE o_add (e_ixB 0 (hu_of hr) e_int) e_int) a_nil))) (g_un rfl (gs_cons (g_setIx 0 (hu_of hr) e_int) (gs_cons (g_setIx 0 (hu_of hr) e_int) gs_nil))))
  (ss_cons (s_set 2 sc__law_pick.nd (e_binE o_mod (e_binE o_add (e_binE o_add (e_binE o_mul (e_binE o_fdiv (e_callTyB b_int T.int_ (b_cons (e_ixB 0 (hu_of hr) e_int) b_nil)) e_int) e_int) (e_binE o_mul (e_callTyB b_int T.int_ (b_cons (e_ixB 0 (hu_of hr) e_int) b_nil)) e_int)) (e_binE o_mod (e_callTyB b_int T.int_ (b_cons (e_ixB 0 (hu_of hr) e_int) b_nil)) e_int)) e_int))
  (ss_cons (s_set 1 sc__law_pick.nd (e_callB (b_max rfl) T.max_ (b_cons e_int (b_cons (e_var 1) b_nil))))
  (ss_cons (s_set 3 sc__law_pick.nd (e_binE o_mod (e_callTyB b_int T.int_ (b_cons (e_ixB 0 (hu_of hr) e_int) b_nil)) (e_var 1)))
  (ss_cons (s_asg (e_binE o_fdiv (e_ixB 0 (hu_of hr) e_int) (e_var 1)) (g_setIx 0 (hu_of hr) e_int))
  (ss_one (s_ret (e_binE o_mod (e_binE o_add (e_var 2) (e_var 3)) (e_var 1)))))))))
/-! ### _law_one -/
abbrev s__law_one : Stmt := top 18
abbrev N__law_one : List Str := ["s", "things"]
theorem sc__law_one : FnScope N__law_one ["s", "things"] (defScope s__law_one) := ⟨rfl, rfl, rfl, by decide +kernel, rfl, by decide +kernel, by decide +kernel⟩
def m__law_one : SM :=
  (sRet (mOp dIx (mVar 1) (mCallF F__law_pick [some 0, none] [] (mOwnA 0 (mCons (mCallB dLen (mCons (mVar 1) mNil)) mNil)))))
def F__law_one : Fm := runBody N__law_one.length [true, false] m__law_one
theorem ok__law_one {f : Addr} {fd : FuncData} (Fn : Fun K "_law_one" "_law_one" s__law_one f fd) (T : Tx K mg cl) (h__law_pick : FnI P w K mg base cl 1 "_law_pick" [true, false] F__law_pick) : FnOk P w K mg base (L2.CX P w) 2 f fd ["s", "things"] (callSp ⟨K, cl⟩ [true, false] F__law_one) :=
  def_ok (k := 1) (N := N__law_one) (m := m__law_one) Fn sc__law_one rfl fun cdv A outer s H E hr =>
  (ss_one (s_ret (e_ix (hu_of hr) (e_var 1) (e_call (h__law_pick.mono (by decide)) hr (lets_of rfl rfl rfl rfl) (c_own 0 (c_val (e_callB b_len T.len_ (b_cons (e_var 1) b_nil)) c_nil))))))
/-! ### _law_draw_stair -/
abbrev s__law_draw_stair : Stmt := top 19
abbrev N__law_draw_stair : List Str := ["s", "n", "stair", "k", "low"]
theorem sc__law_draw_stair : FnScope N__law_draw_stair ["s", "n"] (defScope s__law_draw_stair) := ⟨rfl, rfl, rfl, by decide +kernel, rfl, by decide +kernel, by decide +kernel⟩
def b0__law_draw_stair : SM :=
  (sSeq (sAsg (mCallB dMax (mCons (mOp dAdd (mVar 3) (ret (.int 1))) (mCons (mIxB 2 (mUn dNeg (ret (.int 1)))) mNil))) (gSet 4)) (sApp 2 (mCallB dMin (mCons (mVar 1) (mCons (mOp dAdd (mVar 4) (mCallF F__law_one [some 0, none] [] (mOwnA 0 (mCons (mLst (mCons (ret (.int 0)) (mCons (ret (.int 0)) (mCons (ret (.int 1)) (mCons (ret (.int 1)) (mCons (ret (.int 2)) (mCons (ret (.int 3)) mNil))))))) mNil)))) mNil)))))
def m__law_draw_stair : SM :=
  (sSeq (sAsg (mLst (mCons (ret (.int 0)) mNil)) (gOwn 2)) (sSeq (sFor (mRange1 (mCons (mVar 1) mNil)) (gSet 3) b0__law_draw_stair) (sRetOwn 2)))
def F__law_draw_stair : Fm := runBody N__law_draw_stair.length [true, false] m__law_draw_stair
theorem ok__law_draw_stair {f : Addr} {fd : FuncData} (Fn : Fun K "_law_draw_stair" "_law_draw_stair" s__law_draw_stair f fd) (T : Tx K mg cl) (h__law_one : FnI P w K mg base cl 2 "_law_one" [true, false] F__law_one) : FnOk P w K mg base (L2.CX P w) 3 f fd ["s", "n"] (callSp ⟨K, cl⟩ [true, false] F__law_draw_stair) :=
  def_ok (k := 2) (N := N__law_draw_stair) (m := m__law_draw_stair) Fn sc__law_draw_stair rfl fun cdv A outer s H E hr =>
  (ss_cons (s_setN 2 sc__law_draw_stair.nd (n_lst (a_cons e_int a_nil)))
  (ss_cons (s_for (passes_of rfl) rfl (i_range1 T.range_ (b_cons (e_var 1) b_nil)) (g_name 3 sc__law_draw_stair.nd) (ss_cons (s_set 4 sc__law_draw_stair.nd (e_callB (b_max rfl) T.max_ (b_cons (e_binE o_add (e_var 3) e_int) (b_cons (e_ixB 2 (hu_of hr) (e_neg e_int)) b_nil))))
  (ss_one (s_app 2 (e_callB (b_min rfl) T.min_ (b_cons (e_var 1) (b_cons (e_binE o_add (e_var 4) (e_call (h__law_one.mono (by decide)) hr (lets_of rfl rfl rfl rfl) (c_own 0 (c_val ((n_lst (a_cons e_int (a_cons e_int (a_cons e_int (a_cons e_int (a_cons e_int (a_cons e_int a_nil)))))))).e c_nil)))) b_nil))) (fun h => pe_bm PySem.F.plainAttrs_list PySem.F.slot_list_append PySem.F.type_list_append mt_append (pv 2) (pa_cons h pa_nil))))))
  (ss_one (s_retOwn 2))))
/-! ### _law_place_pairs -/
abbrev s__law_place_pairs : Stmt := top 20
abbrev N__law_place_pairs : List Str := ["stair", "n", "k"]
theorem sc__law_place_pairs : FnScope N__law_place_pairs ["stair"] (defScope s__law_place_pairs) := ⟨rfl, rfl, rfl, by decide +kernel, rfl, by decide +kernel, by decide +kernel⟩
def e0__law_place_pairs : M D :=
  (mTup (mCons (mOp dFdiv (mVar 2) (mVar 1)) (mCons (mOp dMod (mVar 2) (mVar 1)) mNil)))
def m__law_place_pairs : SM :=
  (sSeq (sAsg (mOp dSub (mCallB dLen (mCons (mVar 0) mNil)) (ret (.int 1))) (gSet 1)) (sRetN (mLc [2] (mRange1 (mCons (mOp dMul (mVar 1) (mVar 1)) mNil)) (gSet 2) (mAnd (mT (mOp dNe (mOp dFdiv (mVar 2) (mVar 1)) (mOp dMod (mVar 2) (mVar 1)))) (mT (mOp dLt (mOp dMod (mVar 2) (mVar 1)) (mOp dIx (mVar 0) (mOp dAdd (mOp dFdiv (mVar 2) (mVar 1)) (ret (.int 1))))))) e0__law_place_pairs)))
def F__law_place_pairs : Fm := runBody N__law_place_pairs.length [false] m__law_place_pairs
theorem ok__law_place_pairs {f : Addr} {fd : FuncData} (Fn : Fun K "_law_place_pairs" "_law_place_pairs" s__law_place_pairs f fd) (T : Tx K mg cl) : FnOk P w K mg base (L2.CX P w) 1 f fd ["stair"] (callSp ⟨K, cl⟩ [false] F__law_place_pairs) :=
  def_ok (k := 0) (N := N__law_place_pairs) (m := m__law_place_pairs) Fn sc__law_place_pairs rfl fun cdv A outer s H E hr =>
  (ss_cons (s_set 1 sc__law_place_pairs.nd (e_binE o_sub (e_callB b_len T.len_ (b_cons (e_var 0) b_nil)) e_int))
  (ss_one (s_retN (n_lc rfl sc__law_place_pairs.nd (i_range1 T.range_ (b_cons (e_binE o_mul (e_var 1) (e_var 1)) b_nil)) (blkOk_by (own := [("k", 2)]) (by rfl)) (fun _ => (g_name 2 sc__law_place_pairs.nd)) (fun _ => (ts_one (t_w (w_and (t_cmp (o_ne hr.units) (e_binE o_fdiv (e_var 2) (e_var 1)) (e_binE o_mod (e_var 2) (e_var 1))) (w_and1 (t_cmp o_lt (e_binE o_mod (e_var 2) (e_var 1)) (e_ix (hu_of hr) (e_var 0) (e_binE o_add (e_binE o_fdiv (e_var 2) (e_var 1)) e_int)))))))) (fun _ => (e_tup (a_cons (e_binE o_fdiv (e_var 2) (e_var 1)) (a_cons (e_binE o_mod (e_var 2) (e_var 1)) a_nil))))))))
/-! ### _law_plain_w -/
abbrev s__law_plain_w : Stmt := top 21
abbrev N__law_plain_w : List Str := ["n", "doors", "k"]
theorem sc__law_plain_w : FnScope N__law_plain_w ["n", "doors"] (defScope s__law_plain_w) := ⟨rfl, rfl, rfl, by decide +kernel, rfl, by decide +kernel, by decide +kernel⟩
def e0__law_plain_w : M D :=
  (mCallB dStr (mCons (mOp dAdd (mVar 2) (ret (.int 1))) mNil))
def m__law_plain_w : SM :=
  (sRetN (mDict (mPs (ret (.str "rooms")) (mLc [2] (mRange1 (mCons (mVar 0) mNil)) (gSet 2) (ret true) e0__law_plain_w) (mPs (ret (.str "beds")) (mOp dRep (mLst (mCons (ret (.int 1)) mNil)) (mVar 0)) (mPs (ret (.str "doors")) (mVar 1) mPs0)))))
def F__law_plain_w : Fm := runBody N__law_plain_w.length [false, false] m__law_plain_w
theorem ok__law_plain_w {f : Addr} {fd : FuncData} (Fn : Fun K "_law_plain_w" "_law_plain_w" s__law_plain_w f fd) (T : Tx K mg cl) : FnOk P w K mg base (L2.CX P w) 1 f fd ["n", "doors"] (callSp ⟨K, cl⟩ [false, false] F__law_plain_w) :=
  def_ok (k := 0) (N := N__law_plain_w) (m := m__law_plain_w) Fn sc__law_plain_w rfl fun cdv A outer s H E hr =>
  (ss_one (s_retN (n_dict (p_cons e_str ((n_lc rfl sc__law_plain_w.nd (i_range1 T.range_ (b_cons (e_var 0) b_nil)) (blkOk_by (own := [("k", 2)]) (by rfl)) (fun _ => (g_name 2 sc__law_plain_w.nd)) (fun _ => ts_nil) (fun _ => (e_callTyB b_str T.str_ (b_cons (e_binE o_add (e_var 2) e_int) b_nil))))).e (p_cons e_str ((n_rep ((n_lst (a_cons e_int a_nil))).e (e_var 0))).e (p_cons e_str (e_var 1) p_nil))))))
/-! ### _law_place_w -/
abbrev s__law_place_w : Stmt := top 22
abbrev N__law_place_w : List Str := ["stairs", "x"]
theorem sc__law_place_w : FnScope N__law_place_w ["stairs"] (defScope s__law_place_w) := ⟨rfl, rfl, rfl, by decide +kernel, rfl, by decide +kernel, by decide +kernel⟩
def e0__law_place_w : M D :=
  (mCallF F__law_place_pairs [none] [] (mCons (mVar 1) mNil))
def m__law_place_w : SM :=
  (sRetN (mCallN F__law_plain_w [none, none] (mCons (mOp dSub (mCallB dLen (mCons (mOp dIx (mVar 0) (ret (.int 0))) mNil)) (ret (.int 1))) (mCons (mLc [1] (mSeq (mVar 0)) (gSet 1) (ret true) e0__law_place_w) mNil))))
def F__law_place_w : Fm := runBody N__law_place_w.length [false] m__law_place_w
theorem ok__law_place_w {f : Addr} {fd : FuncData} (Fn : Fun K "_law_place_w" "_law_place_w" s__law_place_w f fd) (T : Tx K mg cl) (h__law_plain_w : FnI P w K mg base cl 1 "_law_plain_w" [false, false] F__law_plain_w) (h__law_place_pairs : FnI P w K mg base cl 1 "_law_place_pairs" [false] F__law_place_pairs) : FnOk P w K mg base (L2.CX P w) 2 f fd ["stairs"] (callSp ⟨K, cl⟩ [false] F__law_place_w) :=
  def_ok (k := 1) (N := N__law_place_w) (m := m__law_place_w) Fn sc__law_place_w rfl fun cdv A outer s H E hr =>
  (ss_one (s_retN (n_call (h__law_plain_w.mono (by decide)) hr (lets_of rfl rfl rfl rfl) (c_val (e_binE o_sub (e_callB b_len T.len_ (b_cons (e_ix (hu_of hr) (e_var 0) e_int) b_nil)) e_int) (c_val ((n_lc rfl sc__law_place_w.nd (i_seq (e_var 0)) (blkOk_by (own := [("x", 1)]) (by rfl)) (fun _ => (g_name 1 sc__law_place_w.nd)) (fun _ => ts_nil) (fun _ => (e_call (h__law_place_pairs.mono (by decide)) hr lets0 (c_val (e_var 1) c_nil))))).e c_nil)))))
/-! ### _law_layout -/
abbrev s__law_layout : Stmt := top 23
abbrev N__law_layout : List Str := ["h", "words", "beds", "places", "many", "w", "n", "near", "stride", "t", "x", "i", "j", "row", "k"]
theorem sc__law_layout : FnScope N__law_layout ["h"] (defScope s__law_layout) := ⟨rfl, rfl, rfl, by decide +kernel, rfl, by decide +kernel, by decide +kernel⟩
def e0__law_layout : M D :=
  (mOp dAdd (mOp dIx (mVar 1) (mOp dFdiv (mVar 14) (mVar 6))) (mTup (mCons (mOp dIx (mOp dIx (mVar 5) (ret (.str "rooms"))) (mOp dMod (mVar 14) (mVar 6))) mNil)))
def e1__law_layout : M D :=
  (mOp dMul (mOp dIx (mVar 2) (mOp dFdiv (mVar 14) (mVar 6))) (mOp dIx (mOp dIx (mVar 5) (ret (.str "beds"))) (mOp dMod (mVar 14) (mVar 6))))
def e2__law_layout : M D :=
  (mOp dAddL (mOp dIx (mVar 3) (mOp dFdiv (mVar 14) (mVar 6))) (mLst (mCons (mOp dMod (mVar 14) (mVar 6)) mNil)))
def b3__law_layout : SM :=
  (sSeq (sAsg (mCallB dLen (mCons (mOp dIx (mVar 5) (ret (.str "rooms"))) mNil)) (gSet 6)) (sSeq (sAsg (mLc [14] (mRange1 (mCons (mOp dMul (mCallB dLen (mCons (mVar 1) mNil)) (mVar 6)) mNil)) (gSet 14) (ret true) e0__law_layout) (gSet 1)) (sSeq (sAsg (mLc [14] (mRange1 (mCons (mCallB dLen (mCons (mVar 1) mNil)) mNil)) (gSet 14) (ret true) e1__law_layout) (gSet 2)) (sAsg (mLc [14] (mRange1 (mCons (mCallB dLen (mCons (mVar 1) mNil)) mNil)) (gSet 14) (ret true) e2__law_layout) (gSet 3)))))
def e4__law_layout : M D :=
  (mLc [14] (mRange1 (mCons (mCallB dLen (mCons (mVar 1) mNil)) mNil)) (gSet 14) (ret true) (mOp dShl (ret (.int 1)) (mVar 14)))
def m__law_layout : SM :=
  (sSeq (sAsg (mTup (mCons (mLst (mCons (mTup mNil) mNil)) (mCons (mLst (mCons (ret (.int 1)) mNil)) (mCons (mLst (mCons (mLst mNil) mNil)) (mCons (mCallB dLen (mCons (mOp dIx (mVar 0) (ret (.str "kinds"))) mNil)) mNil))))) (gUn 4 (gsCons (gSet 1) (gsCons (gSet 2) (gsCons (gSet 3) (gsCons (gSet 4) gsNil)))))) (sSeq (sFor (mSeq (mOp dIx (mVar 0) (ret (.str "webs")))) (gSet 5) b3__law_layout) (sNest 7 [10] (mRange1 (mCons (mVar 4) mNil)) (gSet 10) (ret true) e4__law_layout (nestCons (nsSet 8 (mCallB dLen (mCons (mVar 1) mNil))) (nestCons (nsFor (mRange1 (mCons (mCallB dLen (mCons (mOp dIx (mVar 0) (ret (.str "webs"))) mNil)) mNil)) (gSet 9) (nsSeq (nsSet 8 (mOp dFdiv (mVar 8) (mCallB dLen (mCons (mOp dIx (mOp dIx (mOp dIx (mVar 0) (ret (.str "webs"))) (mVar 9)) (ret (.str "rooms"))) mNil)))) (nsFor (mRange1 (mCons (mVar 4) mNil)) (gSet 10) (nsFor (mSeq (mOp dIx (mOp dIx (mOp dIx (mOp dIx (mVar 0) (ret (.str "webs"))) (mVar 9)) (ret (.str "doors"))) (mVar 10))) (gUn 2 (gsCons (gSet 11) (gsCons (gSet 12) gsNil))) (nsRow 13 (mVar 10) (mRange1 (mCons (mCallB dLen (mCons (mVar 1) mNil)) mNil)) (gSet 14) (rowT (mT (mOp dEq (mOp dIx (mOp dIx (mVar 3) (mVar 14)) (mVar 9)) (mVar 11))) (mVar 14) (mOp dShl (ret (.int 1)) (mOp dAdd (mVar 14) (mOp dMul (mOp dSub (mVar 12) (mVar 11)) (mVar 8)))) (mVar 14))))))) (nestEnd 7 (sRetN (mDict (mPs (ret (.str "kinds")) (mCall dList (mCons (mOp dIx (mVar 0) (ret (.str "kinds"))) mNil)) (mPs (ret (.str "prices")) (mCall dList (mCons (mOp dIx (mVar 0) (ret (.str "prices"))) mNil)) (mPs (ret (.str "words")) (mVar 1) (mPs (ret (.str "beds")) (mVar 2) (mPs (ret (.str "near")) (mVar 7) mPs0)))))))))))))
def F__law_layout : Fm := runBody N__law_layout.length [false] m__law_layout
theorem ok__law_layout {f : Addr} {fd : FuncData} (Fn : Fun K "_law_layout" "_law_layout" s__law_layout f fd) (T : Tx K mg cl) : FnOk P w K mg base (L2.CX P w) 1 f fd ["h"] (callSp ⟨K, cl⟩ [false] F__law_layout) :=
  def_ok (k := 0) (N := N__law_layout) (m := m__law_layout) Fn sc__law_layout rfl fun cdv A outer s H E hr =>
  (ss_cons (s_asg (e_tup (a_cons ((n_lst (a_cons (e_tup a_nil) a_nil))).e (a_cons ((n_lst (a_cons e_int a_nil))).e (a_cons ((n_lst (a_cons ((n_lst a_nil)).e a_nil))).e (a_cons (e_callB b_len T.len_ (b_cons (e_ix (hu_of hr) (e_var 0) e_str) b_nil)) a_nil))))) (g_un rfl (gs_cons (g_name 1 sc__law_layout.nd) (gs_cons (g_name 2 sc__law_layout.nd) (gs_cons (g_name 3 sc__law_layout.nd) (gs_cons (g_name 4 sc__law_layout.nd) gs_nil))))))
  (ss_cons (s_for (passes_of rfl) rfl (i_seq (e_ix (hu_of hr) (e_var 0) e_str)) (g_name 5 sc__law_layout.nd) (ss_cons (s_set 6 sc__law_layout.nd (e_callB b_len T.len_ (b_cons (e_ix (hu_of hr) (e_var 5) e_str) b_nil)))
  (ss_cons (s_set 1 sc__law_layout.nd ((n_lc rfl sc__law_layout.nd (i_range1 T.range_ (b_cons (e_binE o_mul (e_callB b_len T.len_ (b_cons (e_var 1) b_nil)) (e_var 6)) b_nil)) (blkOk_by (own := [("k", 14)]) (by rfl)) (fun _ => (g_name 14 sc__law_layout.nd)) (fun _ => ts_nil) (fun _ => (e_binE o_add (e_ix (hu_of hr) (e_var 1) (e_binE o_fdiv (e_var 14) (e_var 6))) (e_tup (a_cons (e_ix (hu_of hr) (e_ix (hu_of hr) (e_var 5) e_str) (e_binE o_mod (e_var 14) (e_var 6))) a_nil)))))).e)
  (ss_cons (s_set 2 sc__law_layout.nd ((n_lc rfl sc__law_layout.nd (i_range1 T.range_ (b_cons (e_callB b_len T.len_ (b_cons (e_var 1) b_nil)) b_nil)) (blkOk_by (own := [("k", 14)]) (by rfl)) (fun _ => (g_name 14 sc__law_layout.nd)) (fun _ => ts_nil) (fun _ => (e_binE o_mul (e_ix (hu_of hr) (e_var 2) (e_binE o_fdiv (e_var 14) (e_var 6))) (e_ix (hu_of hr) (e_ix (hu_of hr) (e_var 5) e_str) (e_binE o_mod (e_var 14) (e_var 6))))))).e)
  (ss_one (s_set 3 sc__law_layout.nd ((n_lc rfl sc__law_layout.nd (i_range1 T.range_ (b_cons (e_callB b_len T.len_ (b_cons (e_var 1) b_nil)) b_nil)) (blkOk_by (own := [("k", 14)]) (by rfl)) (fun _ => (g_name 14 sc__law_layout.nd)) (fun _ => ts_nil) (fun _ => ((n_cat (e_ix (hu_of hr) (e_var 3) (e_binE o_fdiv (e_var 14) (e_var 6))) ((n_lst (a_cons (e_binE o_mod (e_var 14) (e_var 6)) a_nil))).e)).e))).e))))))
  (ss_nest 7 rfl sc__law_layout.nd (i_range1 T.range_ (b_cons (e_var 4) b_nil)) (blkOk_by (own := [("x", 10)]) (by rfl)) (fun _ => (g_name 10 sc__law_layout.nd)) (fun _ => ts_nil) (fun _ => (n_lc rfl sc__law_layout.nd (i_range1 T.range_ (b_cons (e_callB b_len T.len_ (b_cons (e_var 1) b_nil)) b_nil)) (blkOk_by (own := [("k", 14)]) (by rfl)) (fun _ => (g_name 14 sc__law_layout.nd)) (fun _ => ts_nil) (fun _ => (e_binE o_shl e_int (e_var 14))))) (nest_cons (ns_set 8 sc__law_layout.nd (e_callB b_len T.len_ (b_cons (e_var 1) b_nil)))
  (nest_cons (ns_for (passes_of rfl) rfl (i_range1 T.range_ (b_cons (e_callB b_len T.len_ (b_cons (e_ix (hu_of hr) (e_var 0) e_str) b_nil)) b_nil)) (g_name 9 sc__law_layout.nd) (nss_cons (ns_set 8 sc__law_layout.nd (e_binE o_fdiv (e_var 8) (e_callB b_len T.len_ (b_cons (e_ix (hu_of hr) (e_ix (hu_of hr) (e_ix (hu_of hr) (e_var 0) e_str) (e_var 9)) e_str) b_nil)))) (nss_one (ns_for (passes_of rfl) rfl (i_range1 T.range_ (b_cons (e_var 4) b_nil)) (g_name 10 sc__law_layout.nd) (nss_one (ns_for (passes_of rfl) rfl (i_seq (e_ix (hu_of hr) (e_ix (hu_of hr) (e_ix (hu_of hr) (e_ix (hu_of hr) (e_var 0) e_str) (e_var 9)) e_str) (e_var 10))) (g_un rfl (gs_cons (g_name 11 sc__law_layout.nd) (gs_cons (g_name 12 sc__law_layout.nd) gs_nil))) (nss_row (r := 13) (hu_of hr) (passes_of rfl) rfl sc__law_layout.nd (e_var 10) (i_range1 T.range_ (b_cons (e_callB b_len T.len_ (b_cons (e_var 1) b_nil)) b_nil)) (g_name 14 sc__law_layout.nd) (t_cmp (o_eq hr.units) (e_ix (hu_of hr) (e_ix (hu_of hr) (e_var 3) (e_var 14)) (e_var 9)) (e_var 11)) (e_var 14) (e_binE o_shl e_int (e_binE o_add (e_var 14) (e_binE o_mul (e_binE o_sub (e_var 12) (e_var 11)) (e_var 8)))) (e_var 14))))))))
  (nest_end (ss_one (s_retN (n_dict (p_cons e_str ((n_callTy b_list T.list_ (a_cons (e_ix (hu_of hr) (e_var 0) e_str) a_nil))).e (p_cons e_str ((n_callTy b_list T.list_ (a_cons (e_ix (hu_of hr) (e_var 0) e_str) a_nil))).e (p_cons e_str (e_var 1) (p_cons e_str (e_var 2) (p_cons e_str (e_var 7) p_nil))))))))))))))
/-! ### _law_lots -/
abbrev s__law_lots : Stmt := top 24
abbrev N__law_lots : List Str := ["u", "n", "size", "step", "i", "border", "k", "x", "b", "t", "z"]
theorem sc__law_lots : FnScope N__law_lots ["u"] (defScope s__law_lots) := ⟨rfl, rfl, rfl, by decide +kernel, rfl, by decide +kernel, by decide +kernel⟩
def e0__law_lots : M D :=
  (mOp dAdd (mVar 7) (mOp dIx (mOp dIx (mVar 0) (ret (.str "beds"))) (mVar 4)))
def e1__law_lots : M D :=
  (mOp dOr (mVar 7) (mOp dIx (mOp dIx (mOp dIx (mVar 0) (ret (.str "near"))) (mVar 6)) (mVar 4)))
def e2__law_lots : M D :=
  (mOp dAddL (mOp dIx (mVar 3) (mVar 6)) (mLc [7] (mSeq (mOp dIx (mVar 3) (mVar 6))) (gSet 7) (ret true) e1__law_lots))
def b3__law_lots : SM :=
  (sSeq (sAsg (mOp dAddL (mVar 2) (mLc [7] (mSeq (mVar 2)) (gSet 7) (ret true) e0__law_lots)) (gSet 2)) (sAsg (mLc [6] (mRange1 (mCons (mCallB dLen (mCons (mVar 3) mNil)) mNil)) (gSet 6) (ret true) e2__law_lots) (gSet 3)))
def e4__law_lots : M D :=
  (mOp dAdd (mVar 8) (mOp dMul (mOp dIx (mOp dIx (mVar 0) (ret (.str "prices"))) (mVar 6)) (mOp dSub (mOp dIx (mVar 2) (mVar 9)) (mVar 10))))
def b5__law_lots : SM :=
  (sAsg (mLc [8, 9, 10] (mZip3 (mCons (mVar 5) (mCons (mOp dIx (mVar 3) (mVar 6)) (mCons (mVar 2) mNil)))) (gUn 3 (gsCons (gSet 8) (gsCons (gSet 9) (gsCons (gSet 10) gsNil)))) (ret true) e4__law_lots) (gSet 5))
def m__law_lots : SM :=
  (sSeq (sAsg (mTup (mCons (mCallB dLen (mCons (mOp dIx (mVar 0) (ret (.str "beds"))) mNil)) (mCons (mLst (mCons (ret (.int 0)) mNil)) mNil))) (gUn 2 (gsCons (gSet 1) (gsCons (gSet 2) gsNil)))) (sSeq (sAsg (mLc [7] (mSeq (mOp dIx (mVar 0) (ret (.str "near")))) (gSet 7) (ret true) (mLst (mCons (ret (.int 0)) mNil))) (gSet 3)) (sSeq (sFor (mRange1 (mCons (mVar 1) mNil)) (gSet 4) b3__law_lots) (sSeq (sAsg (mOp dRep (mLst (mCons (ret (.int 0)) mNil)) (mCallB dLen (mCons (mVar 2) mNil))) (gSet 5)) (sSeq (sFor (mRange1 (mCons (mCallB dLen (mCons (mVar 3) mNil)) mNil)) (gSet 6) b5__law_lots) (sRetN (mDict (mPs (ret (.str "n")) (mVar 1) (mPs (ret (.str "beds")) (mCall dList (mCons (mOp dIx (mVar 0) (ret (.str "beds"))) mNil)) (mPs (ret (.str "prices")) (mCall dList (mCons (mOp dIx (mVar 0) (ret (.str "prices"))) mNil)) (mPs (ret (.str "size")) (mVar 2) (mPs (ret (.str "step")) (mVar 3) (mPs (ret (.str "border")) (mVar 5) mPs0)))))))))))))
def F__law_lots : Fm := runBody N__law_lots.length [false] m__law_lots
theorem ok__law_lots {f : Addr} {fd : FuncData} (Fn : Fun K "_law_lots" "_law_lots" s__law_lots f fd) (T : Tx K mg cl) : FnOk P w K mg base (L2.CX P w) 1 f fd ["u"] (callSp ⟨K, cl⟩ [false] F__law_lots) :=
  def_ok (k := 0) (N := N__law_lots) (m := m__law_lots) Fn sc__law_lots rfl fun cdv A outer s H E hr =>
  (ss_cons (s_asg (e_tup (a_cons (e_callB b_len T.len_ (b_cons (e_ix (hu_of hr) (e_var 0) e_str) b_nil)) (a_cons ((n_lst (a_cons e_int a_nil))).e a_nil))) (g_un rfl (gs_cons (g_name 1 sc__law_lots.nd) (gs_cons (g_name 2 sc__law_lots.nd) gs_nil))))
  (ss_cons (s_set 3 sc__law_lots.nd ((n_lc rfl sc__law_lots.nd (i_seq (e_ix (hu_of hr) (e_var 0) e_str)) (blkOk_by (own := [("x", 7)]) (by rfl)) (fun _ => (g_name 7 sc__law_lots.nd)) (fun _ => ts_nil) (fun _ => ((n_lst (a_cons e_int a_nil))).e))).e)
  (ss_cons (s_for (passes_of rfl) rfl (i_range1 T.range_ (b_cons (e_var 1) b_nil)) (g_name 4 sc__law_lots.nd) (ss_cons (s_set 2 sc__law_lots.nd ((n_cat (e_var 2) ((n_lc rfl sc__law_lots.nd (i_seq (e_var 2)) (blkOk_by (own := [("x", 7)]) (by rfl)) (fun _ => (g_name 7 sc__law_lots.nd)) (fun _ => ts_nil) (fun _ => (e_binE o_add (e_var 7) (e_ix (hu_of hr) (e_ix (hu_of hr) (e_var 0) e_str) (e_var 4)))))).e)).e)
  (ss_one (s_set 3 sc__law_lots.nd ((n_lc rfl sc__law_lots.nd (i_range1 T.range_ (b_cons (e_callB b_len T.len_ (b_cons (e_var 3) b_nil)) b_nil)) (blkOk_by (own := [("k", 6)]) (by rfl)) (fun _ => (g_name 6 sc__law_lots.nd)) (fun _ => ts_nil) (fun _ => ((n_cat (e_ix (hu_of hr) (e_var 3) (e_var 6)) ((n_lc rfl sc__law_lots.nd (i_seq (e_ix (hu_of hr) (e_var 3) (e_var 6))) (blkOk_by (own := [("x", 7)]) (by rfl)) (fun _ => (g_name 7 sc__law_lots.nd)) (fun _ => ts_nil) (fun _ => (e_binE o_or (e_var 7) (e_ix (hu_of hr) (e_ix (hu_of hr) (e_ix (hu_of hr) (e_var 0) e_str) (e_var 6)) (e_var 4)))))).e)).e))).e))))
  (ss_cons (s_set 5 sc__law_lots.nd ((n_rep ((n_lst (a_cons e_int a_nil))).e (e_callB b_len T.len_ (b_cons (e_var 2) b_nil)))).e)
  (ss_cons (s_for (passes_of rfl) rfl (i_range1 T.range_ (b_cons (e_callB b_len T.len_ (b_cons (e_var 3) b_nil)) b_nil)) (g_name 6 sc__law_lots.nd) (ss_one (s_setLc 5 rfl sc__law_lots.nd (i_zip3 T.zip_ (a_cons (e_var 5) (a_cons (e_ix (hu_of hr) (e_var 3) (e_var 6)) (a_cons (e_var 2) a_nil)))) (blkOk_by (own := [("b", 8), ("t", 9), ("z", 10)]) (by rfl)) (fun _ => (g_un rfl (gs_cons (g_name 8 sc__law_lots.nd) (gs_cons (g_name 9 sc__law_lots.nd) (gs_cons (g_name 10 sc__law_lots.nd) gs_nil))))) (fun _ => ts_nil) (fun _ => (e_binE o_add (e_var 8) (e_binE o_mul (e_ix (hu_of hr) (e_ix (hu_of hr) (e_var 0) e_str) (e_var 6)) (e_binE o_sub (e_ix (hu_of hr) (e_var 2) (e_var 9)) (e_var 10))))))))
  (ss_one (s_retN (n_dict (p_cons e_str (e_var 1) (p_cons e_str ((n_callTy b_list T.list_ (a_cons (e_ix (hu_of hr) (e_var 0) e_str) a_nil))).e (p_cons e_str ((n_callTy b_list T.list_ (a_cons (e_ix (hu_of hr) (e_var 0) e_str) a_nil))).e (p_cons e_str (e_var 2) (p_cons e_str (e_var 3) (p_cons e_str (e_var 5) p_nil))))))))))))))
/-! ### _law_lots_of -/
abbrev s__law_lots_of : Stmt := top 25
abbrev N__law_lots_of : List Str := ["h", "u"]
theorem sc__law_lots_of : FnScope N__law_lots_of ["h"] (defScope s__law_lots_of) := ⟨rfl, rfl, rfl, by decide +kernel, rfl, by decide +kernel, by decide +kernel⟩
def m__law_lots_of : SM :=
  (sSeq (sAsg (mCallF F__law_layout [none] [] (mCons (mVar 0) mNil)) (gSet 1)) (sRet (mTup (mCons (mVar 1) (mCons (mCallF F__law_lots [none] [] (mCons (mVar 1) mNil)) mNil)))))
def F__law_lots_of : Fm := runBody N__law_lots_of.length [false] m__law_lots_of
theorem ok__law_lots_of {f : Addr} {fd : FuncData} (Fn : Fun K "_law_lots_of" "_law_lots_of" s__law_lots_of f fd) (T : Tx K mg cl) (h__law_layout : FnI P w K mg base cl 1 "_law_layout" [false] F__law_layout) (h__law_lots : FnI P w K mg base cl 1 "_law_lots" [false] F__law_lots) : FnOk P w K mg base (L2.CX P w) 2 f fd ["h"] (callSp ⟨K, cl⟩ [false] F__law_lots_of) :=
  def_ok (k := 1) (N := N__law_lots_of) (m := m__law_lots_of) Fn sc__law_lots_of rfl fun cdv A outer s H E hr =>
  (ss_cons (s_set 1 sc__law_lots_of.nd (e_call (h__law_layout.mono (by decide)) hr (lets_of rfl rfl rfl rfl) (c_val (e_var 0) c_nil)))
  (ss_one (s_ret (e_tup (a_cons (e_var 1) (a_cons (e_call (h__law_lots.mono (by decide)) hr (lets_of rfl rfl rfl rfl) (c_val (e_var 1) c_nil)) a_nil))))))
/-! ### _law_stair -/
abbrev s__law_stair : Stmt := top 26
abbrev N__law_stair : List Str := ["a", "k", "best", "x", "z"]
theorem sc__law_stair : FnScope N__law_stair ["a", "k"] (defScope s__law_stair) := ⟨rfl, rfl, rfl, by decide +kernel, rfl, by decide +kernel, by decide +kernel⟩
def b0__law_stair : SM :=
  (sAsg (mCallB dMin (mCons (mIxB 2 (mVar 4)) (mCons (mOp dIx (mOp dIx (mVar 0) (ret (.str "size"))) (mVar 3)) mNil))) (gSetIx 2 (mVar 4)))
def m__law_stair : SM :=
  (sSeq (sAsg (mOp dRep (mLst (mCons (mOp dIx (mVar 0) (ret (.str "n"))) mNil)) (mOp dAdd (mOp dIx (mVar 0) (ret (.str "n"))) (ret (.int 1)))) (gOwn 2)) (sSeq (sFor (mZipA (mCons (mOp dIx (mOp dIx (mVar 0) (ret (.str "step"))) (mVar 1)) (mCons (mOp dIx (mVar 0) (ret (.str "size"))) mNil))) (gUn 2 (gsCons (gSet 3) (gsCons (gSet 4) gsNil))) b0__law_stair) (sRetOwn 2)))
def F__law_stair : Fm := runBody N__law_stair.length [false, false] m__law_stair
theorem ok__law_stair {f : Addr} {fd : FuncData} (Fn : Fun K "_law_stair" "_law_stair" s__law_stair f fd) (T : Tx K mg cl) : FnOk P w K mg base (L2.CX P w) 1 f fd ["a", "k"] (callSp ⟨K, cl⟩ [false, false] F__law_stair) :=
  def_ok (k := 0) (N := N__law_stair) (m := m__law_stair) Fn sc__law_stair rfl fun cdv A outer s H E hr =>
  (ss_cons (s_setN 2 sc__law_stair.nd (n_rep ((n_lst (a_cons (e_ix (hu_of hr) (e_var 0) e_str) a_nil))).e (e_binE o_add (e_ix (hu_of hr) (e_var 0) e_str) e_int)))
  (ss_cons (s_for (passes_of rfl) rfl (i_zipA T.zip_ (a_cons (e_ix (hu_of hr) (e_ix (hu_of hr) (e_var 0) e_str) (e_var 1)) (a_cons (e_ix (hu_of hr) (e_var 0) e_str) a_nil))) (g_un rfl (gs_cons (g_name 3 sc__law_stair.nd) (gs_cons (g_name 4 sc__law_stair.nd) gs_nil))) (ss_one (s_asg (e_callB (b_min rfl) T.min_ (b_cons (e_ixB 2 (hu_of hr) (e_var 4)) (b_cons (e_ix (hu_of hr) (e_ix (hu_of hr) (e_var 0) e_str) (e_var 3)) b_nil))) (g_setIx 2 (hu_of hr) (e_var 4)))))
  (ss_one (s_retOwn 2))))
/-! ### _law_same -/
abbrev s__law_same : Stmt := top 27
abbrev N__law_same : List Str := ["one", "due", "x", "y"]
theorem sc__law_same : FnScope N__law_same ["one", "due"] (defScope s__law_same) := ⟨rfl, rfl, rfl, by decide +kernel, rfl, by decide +kernel, by decide +kernel⟩
def m__law_same (Fr : Fm) : SM :=
  (sSeq (sIf (mT (mOp dIs (mVar 1) (ret .non))) (sRet (mOp dIs (mVar 0) (ret .non))) sNil) (sSeq (sIf (mTru (mCallB dIsi (mCons (mVar 1) (mCons (ret (.ty "bool")) mNil)))) (sRet (mAndV (mCallB dIsi (mCons (mVar 0) (mCons (ret (.ty "bool")) mNil))) (mOp dEq (mVar 0) (mVar 1)))) sNil) (sSeq (sIf (mTru (mCallB dIsi (mCons (mVar 1) (mCons (ret (.ty "int")) mNil)))) (sRet (mAndV (mCallB dIsi (mCons (mVar 0) (mCons (ret (.ty "int")) mNil))) (mAndV (mNotV (mCallB dIsi (mCons (mVar 0) (mCons (ret (.ty "bool")) mNil)))) (mOp dEq (mVar 0) (mVar 1))))) sNil) (sSeq (sIf (mTru (mCallB dIsi (mCons (mVar 1) (mCons (ret (.ty "str")) mNil)))) (sRet (mAndV (mCallB dIsi (mCons (mVar 0) (mCons (ret (.ty "str")) mNil))) (mOp dEq (mVar 0) (mVar 1)))) sNil) (sSeq (sIf (mTru (mCallB dIsi (mCons (mVar 1) (mCons (ret (.ty "dict")) mNil)))) sDead sNil) (sSeq (sIf (mOr (mAnd (mTru (mCallB dIsi (mCons (mVar 1) (mCons (ret (.ty "list")) mNil)))) (mNot (mTru (mCallB dIsi (mCons (mVar 0) (mCons (ret (.ty "list")) mNil)))))) (mAnd (mTru (mCallB dIsi (mCons (mVar 1) (mCons (ret (.ty "tuple")) mNil)))) (mNot (mTru (mCallB dIsi (mCons (mVar 0) (mCons (ret (.ty "tuple")) mNil))))))) (sRet (ret (.bl false))) sNil) (sRet (mAndV (mOp dEq (mCallB dLen (mCons (mVar 0) mNil)) (mCallB dLen (mCons (mVar 1) mNil))) (mCallB dAll (mCons (mLc [2, 3] (mZipA (mCons (mVar 0) (mCons (mVar 1) mNil))) (gUn 2 (gsCons (gSet 2) (gsCons (gSet 3) gsNil))) (ret true) (mCallF Fr [none, none] [] (mCons (mVar 2) (mCons (mVar 3) mNil)))) mNil))))))))))
def F__law_same : Nat → Fm
  | 0 => fun _ => .bad
  | n + 1 => runBody N__law_same.length [false, false] (m__law_same (F__law_same n))
theorem ok__law_same {f : Addr} {fd : FuncData} {k : Nat} {Fr : Fm} (Fn : Fun K "_law_same" "_law_same" s__law_same f fd) (T : Tx K mg cl) (hrec : FnI P w K mg base cl k "_law_same" [false, false] Fr) : FnOk P w K mg base (L2.CX P w) (k + 1) f fd ["one", "due"] (callSp ⟨K, cl⟩ [false, false] (runBody N__law_same.length [false, false] (m__law_same Fr))) :=
  def_ok (k := k) (N := N__law_same) (m := m__law_same Fr) Fn sc__law_same rfl fun cdv A outer s H E hr =>
  (ss_cons (s_if (t_cmp o_is (e_var 1) e_non) (ss_one (s_ret (e_cmp o_is (e_var 0) e_non))) ss_nil)
  (ss_cons (s_if (t_tru (e_callB b_isi T.isinstance_ (b_cons (e_var 1) (b_cons (e_ty "bool" T.bool_) b_nil)))) (ss_one (s_ret (e_and (e_callB b_isi T.isinstance_ (b_cons (e_var 0) (b_cons (e_ty "bool" T.bool_) b_nil))) (e_bool1 (e_cmp (o_eq hr.units) (e_var 0) (e_var 1)))))) ss_nil)
  (ss_cons (s_if (t_tru (e_callB b_isi T.isinstance_ (b_cons (e_var 1) (b_cons (e_ty "int" T.int_) b_nil)))) (ss_one (s_ret (e_and (e_callB b_isi T.isinstance_ (b_cons (e_var 0) (b_cons (e_ty "int" T.int_) b_nil))) (e_and (e_not (e_callB b_isi T.isinstance_ (b_cons (e_var 0) (b_cons (e_ty "bool" T.bool_) b_nil)))) (e_bool1 (e_cmp (o_eq hr.units) (e_var 0) (e_var 1))))))) ss_nil)
  (ss_cons (s_if (t_tru (e_callB b_isi T.isinstance_ (b_cons (e_var 1) (b_cons (e_ty "str" T.str_) b_nil)))) (ss_one (s_ret (e_and (e_callB b_isi T.isinstance_ (b_cons (e_var 0) (b_cons (e_ty "str" T.str_) b_nil))) (e_bool1 (e_cmp (o_eq hr.units) (e_var 0) (e_var 1)))))) ss_nil)
  (ss_cons (s_if (t_tru (e_callB b_isi T.isinstance_ (b_cons (e_var 1) (b_cons (e_ty "dict" T.dict_) b_nil)))) ss_dead ss_nil)
  (ss_cons (s_if (t_w (w_or (t_w (w_and (t_tru (e_callB b_isi T.isinstance_ (b_cons (e_var 1) (b_cons (e_ty "list" T.list_) b_nil)))) (w_and1 (t_not (t_tru (e_callB b_isi T.isinstance_ (b_cons (e_var 0) (b_cons (e_ty "list" T.list_) b_nil)))))))) (w_or1 (t_w (w_and (t_tru (e_callB b_isi T.isinstance_ (b_cons (e_var 1) (b_cons (e_ty "tuple" T.tuple_) b_nil)))) (w_and1 (t_not (t_tru (e_callB b_isi T.isinstance_ (b_cons (e_var 0) (b_cons (e_ty "tuple" T.tuple_) b_nil))))))))))) (ss_one (s_ret e_bl)) ss_nil)
  (ss_one (s_ret (e_and (e_cmp (o_eq hr.units) (e_callB b_len T.len_ (b_cons (e_var 0) b_nil)) (e_callB b_len T.len_ (b_cons (e_var 1) b_nil))) (e_bool1 (e_callB (b_all rfl) T.all_ (b_cons ((n_lc rfl sc__law_same.nd (i_zipA T.zip_ (a_cons (e_var 0) (a_cons (e_var 1) a_nil))) (blkOk_by (own := [("x", 2), ("y", 3)]) (by rfl)) (fun _ => (g_un rfl (gs_cons (g_name 2 sc__law_same.nd) (gs_cons (g_name 3 sc__law_same.nd) gs_nil)))) (fun _ => ts_nil) (fun _ => (e_call hrec hr lets0 (c_val (e_var 2) (c_val (e_var 3) c_nil)))))).e b_nil))))))))))))
/-! ### _law_fault -/
abbrev s__law_fault : Stmt := top 28
abbrev N__law_fault : List Str := ["error"]
theorem sc__law_fault : FnScope N__law_fault ["error"] (defScope s__law_fault) := ⟨rfl, rfl, rfl, by decide +kernel, rfl, by decide +kernel, by decide +kernel⟩
def m__law_fault : SM :=
  (sSeq (sIf (mTru (mCall (dIsX isTbl) (mCons (mVar 0) (mCons (ret (.cls 0)) mNil)))) (sRet (mTup (mCons (ret (.str "TooMany")) (mCons (mUn (dErrF [0] "what") (mVar 0)) mNil)))) sNil) (sSeq (sIf (mTru (mCall (dIsX isTbl) (mCons (mVar 0) (mCons (ret (.cls 1)) mNil)))) (sRet (mTup (mCons (ret (.str "BadStair")) (mCons (mUn (dErrF [1] "kind") (mVar 0)) (mCons (mUn (dErrF [1] "place") (mVar 0)) mNil))))) sNil) (sRet (mTup (mCons (ret (.str "other")) mNil)))))
def F__law_fault : Fm := runBody N__law_fault.length [false] m__law_fault
theorem ok__law_fault {f : Addr} {fd : FuncData} (Fn : Fun K "_law_fault" "_law_fault" s__law_fault f fd) (T : Tx K mg cl) : FnQ P w K mg base 1 f fd ["error"] (callSp ⟨K, cl⟩ [false] F__law_fault) :=
  def_okQ (k := 0) (N := N__law_fault) (m := m__law_fault) Fn sc__law_fault rfl fun cdv A outer s H E p hr =>
  (ss_cons (s_if (t_tru (b_isX T.eg T.it T.isinstance_ (a_cons (e_var 0) (a_cons (e_cls 0 T.c_TooMany) a_nil)))) (ss_one (s_ret (e_tup (a_cons e_str (a_cons (e_errF [0] T.f_what (e_var 0)) a_nil))))) ss_nil)
  (ss_cons (s_if (t_tru (b_isX T.eg T.it T.isinstance_ (a_cons (e_var 0) (a_cons (e_cls 1 T.c_BadStair) a_nil)))) (ss_one (s_ret (e_tup (a_cons e_str (a_cons (e_errF [1] T.f_kind (e_var 0)) (a_cons (e_errF [1] T.f_place (e_var 0)) a_nil)))))) ss_nil)
  (ss_one (s_ret (e_tup (a_cons e_str a_nil))))))
/-! ### _law_b_falling -/
abbrev s__law_b_falling : Stmt := top 29
abbrev N__law_b_falling : List Str := ["many", "most", "rows", "k", "more", "row", "z"]
theorem sc__law_b_falling : FnScope N__law_b_falling ["many", "most"] (defScope s__law_b_falling) := ⟨rfl, rfl, rfl, by decide +kernel, rfl, by decide +kernel, by decide +kernel⟩
def b0__law_b_falling : SM :=
  (sApp 4 (mOp dAddL (mVar 5) (mLst (mCons (mVar 6) mNil))))
def b1__law_b_falling : SM :=
  (sFor (mRange1 (mCons (mOp dAdd (mIf (mTru (mVar 5)) (mOp dIx (mVar 5) (mUn dNeg (ret (.int 1)))) (mVar 1)) (ret (.int 1))) mNil)) (gSet 6) b0__law_b_falling)
def b2__law_b_falling : SM :=
  (sSeq (sAsg (mLst mNil) (gOwn 4)) (sSeq (sFor (mSeq (mVar 2)) (gSet 5) b1__law_b_falling) (sAsg (mVar 4) (gSet 2))))
def m__law_b_falling : SM :=
  (sSeq (sAsg (mLst (mCons (mLst mNil) mNil)) (gSet 2)) (sSeq (sFor (mRange1 (mCons (mVar 0) mNil)) (gSet 3) b2__law_b_falling) (sRet (mVar 2))))
def F__law_b_falling : Fm := runBody N__law_b_falling.length [false, false] m__law_b_falling
theorem ok__law_b_falling {f : Addr} {fd : FuncData} (Fn : Fun K "_law_b_falling" "_law_b_falling" s__law_b_falling f fd) (T : Tx K mg cl) : FnOk P w K mg base (L2.CX P w) 1 f fd ["many", "most"] (callSp ⟨K, cl⟩ [false, false] F__law_b_falling) :=
  def_ok (k := 0) (N := N__law_b_falling) (m := m__law_b_falling) Fn sc__law_b_falling rfl fun cdv A outer s H E hr =>
  (ss_cons (s_set 2 sc__law_b_falling.nd ((n_lst (a_cons ((n_lst a_nil)).e a_nil))).e)
  (ss_cons (s_for (passes_of rfl) rfl (i_range1 T.range_ (b_cons (e_var 0) b_nil)) (g_name 3 sc__law_b_falling.nd) (ss_cons (s_setN 4 sc__law_b_falling.nd (n_lst a_nil))
  (ss_cons (s_for (passes_of rfl) rfl (i_seq (e_var 2)) (g_name 5 sc__law_b_falling.nd) (ss_one (s_for (passes_of rfl) rfl (i_range1 T.range_ (b_cons (e_binE o_add (e_if (t_tru (e_var 5)) (e_ix (hu_of hr) (e_var 5) (e_neg e_int)) (e_var 1)) e_int) b_nil)) (g_name 6 sc__law_b_falling.nd) (ss_one (s_app 4 ((n_cat (e_var 5) ((n_lst (a_cons (e_var 6) a_nil))).e)).e (fun h => pe_bm PySem.F.plainAttrs_list PySem.F.slot_list_append PySem.F.type_list_append mt_append (pv 4) (pa_cons h pa_nil)))))))
  (ss_one (s_set 2 sc__law_b_falling.nd (e_var 4))))))
  (ss_one (s_ret (e_var 2)))))
/-! ### _law_b_two_told -/
abbrev s__law_b_two_told : Stmt := top 30
abbrev N__law_b_two_told : List Str := ["one", "other", "told", "raised"]
theorem sc__law_b_two_told : FnScope N__law_b_two_told ["one", "other"] (defScope s__law_b_two_told) := ⟨rfl, rfl, rfl, by decide +kernel, rfl, by decide +kernel, by decide +kernel⟩
def m__law_b_two_told : SM :=
  (sSeq (sAsg (ret .non) (gSet 2)) (sSeq (sTry 3 tryTbl_BesideError (callT F_two_places [false, false].length (mCons (mVar 0) (mCons (mVar 1) mNil)) fun d Γ => if 2 < Γ.length then .nx (Γ.set 2 (.sh d)) else .bad) (sRet (mCallF F__law_fault [none] [] (mCons (mVar 3) mNil)))) (sRet (mVar 2))))
def F__law_b_two_told : Fm := runBody N__law_b_two_told.length [false, false] m__law_b_two_told
theorem ok__law_b_two_told {f : Addr} {fd : FuncData} (Fn : Fun K "_law_b_two_told" "_law_b_two_told" s__law_b_two_told f fd) (T : Tx K mg cl) (h_two_places : FnI P w K mg base cl 4 "two_places" [false, false] F_two_places) (h__law_fault : FqI P w K mg base cl 1 "_law_fault" [false] F__law_fault) : FnOk P w K mg base (L2.CX P w) 5 f fd ["one", "other"] (callSp ⟨K, cl⟩ [false, false] F__law_b_two_told) :=
  def_ok (k := 4) (N := N__law_b_two_told) (m := m__law_b_two_told) Fn sc__law_b_two_told rfl fun cdv A outer s H E hr =>
  (ss_cons (s_set 2 sc__law_b_two_told.nd e_non)
  (ss_cons (by refine s_try 3 rfl rfl rfl sc__law_b_two_told.nd (takes_of rfl rfl rfl rfl) ⟨rfl, by decide, Or.inl T.m_BesideError⟩ T.x_BesideError (fun _ _ => ?_) (fun _ _ => ?_); exact (tb_one (tb_asg 2 sc__law_b_two_told.nd (h_two_places.mono (by decide)) hr (a_cons (e_var 0) (a_cons (e_var 1) a_nil)))); exact (ss_one (s_ret (e_callQ h__law_fault (mkQ (hr.mono (by decide)) _) lets0 (c_val (e_var 3) c_nil)))))
  (ss_one (s_ret (e_var 2)))))
/-! ### _law_b_two_due -/
abbrev s__law_b_two_due : Stmt := top 31
abbrev N__law_b_two_due : List Str := ["one", "other", "many", "most", "a", "first", "best", "row", "reach", "q", "c", "p"]
theorem sc__law_b_two_due : FnScope N__law_b_two_due ["one", "other"] (defScope s__law_b_two_due) := ⟨rfl, rfl, rfl, by decide +kernel, rfl, by decide +kernel, by decide +kernel⟩
def e0__law_b_two_due : M D :=
  (mOp dSub (mOp dIx (mLc [11] (mRange2 (mCons (ret (.int 1)) (mCons (mOp dAdd (mVar 2) (ret (.int 1))) mNil))) (gSet 11) (mT (mOp dGe (mOp dIx (mVar 0) (mVar 11)) (mVar 9))) (mVar 11)) (ret (.int 0))) (ret (.int 1)))
def b1__law_b_two_due : SM :=
  (sAsg (mOp dAdd (mVar 8) (mCallB dMax (mCons (mOp dIx (mVar 1) (mOp dIx (mVar 7) (mVar 9))) (mCons (mOp dIx (mVar 7) (mOp dIx (mVar 5) (mVar 9))) mNil)))) (gSet 8))
def b2__law_b_two_due : SM :=
  (sSeq (sAsg (ret (.int 0)) (gSet 8)) (sSeq (sFor (mRange1 (mCons (mVar 2) mNil)) (gSet 9) b1__law_b_two_due) (sSeq (sAsg (mCallB dSum (mCons (mVar 7) mNil)) (gSet 10)) (sAsg (mCallB dMin (mCons (mIxB 6 (mVar 10)) (mCons (mVar 8) mNil))) (gSetIx 6 (mVar 10))))))
def m__law_b_two_due : SM :=
  (sSeq (sAsg (mTup (mCons (mOp dSub (mCallB dLen (mCons (mVar 0) mNil)) (ret (.int 1))) (mCons (mOp dSub (mCallB dLen (mCons (mVar 1) mNil)) (ret (.int 1))) mNil))) (gUn 2 (gsCons (gSet 2) (gsCons (gSet 3) gsNil)))) (sSeq (sIf (mT (mOp dLt (mOp dMul (mVar 2) (mVar 3)) (ret (.int 10)))) (sSeq (sAsg (mOp dIx (mCallF F__law_lots_of [none] [] (mCons (mDict (mPs (ret (.str "kinds")) (mLst (mCons (ret (.str "k")) mNil)) (mPs (ret (.str "prices")) (mLst (mCons (ret (.int 1)) mNil)) (mPs (ret (.str "webs")) (mLst (mCons (mCallF F__law_place_w [none] [] (mCons (mLst (mCons (mVar 0) mNil)) mNil)) (mCons (mCallF F__law_place_w [none] [] (mCons (mLst (mCons (mVar 1) mNil)) mNil)) mNil))) mPs0)))) mNil)) (ret (.int 1))) (gSet 4)) (sRetN (mCallN F__law_stair [none, none] (mCons (mVar 4) (mCons (ret (.int 0)) mNil))))) sNil) (sSeq (sAsg (mLc [9] (mRange2 (mCons (ret (.int 1)) (mCons (mOp dAdd (mVar 2) (ret (.int 1))) mNil))) (gSet 9) (ret true) e0__law_b_two_due) (gSet 5)) (sSeq (sAsg (mLc [10] (mRange1 (mCons (mOp dAdd (mOp dMul (mVar 2) (mVar 3)) (ret (.int 1))) mNil)) (gSet 10) (ret true) (mOp dMul (mVar 2) (mVar 3))) (gOwn 6)) (sSeq (sFor (mSeq (mCallF F__law_b_falling [none, none] [] (mCons (mVar 2) (mCons (mVar 3) mNil)))) (gSet 7) b2__law_b_two_due) (sRetOwn 6))))))
def F__law_b_two_due : Fm := runBody N__law_b_two_due.length [false, false] m__law_b_two_due
theorem ok__law_b_two_due {f : Addr} {fd : FuncData} (Fn : Fun K "_law_b_two_due" "_law_b_two_due" s__law_b_two_due f fd) (T : Tx K mg cl) (h__law_lots_of : FnI P w K mg base cl 2 "_law_lots_of" [false] F__law_lots_of) (h__law_place_w : FnI P w K mg base cl 2 "_law_place_w" [false] F__law_place_w) (h__law_stair : FnI P w K mg base cl 1 "_law_stair" [false, false] F__law_stair) (h__law_b_falling : FnI P w K mg base cl 1 "_law_b_falling" [false, false] F__law_b_falling) : FnOk P w K mg base (L2.CX P w) 3 f fd ["one", "other"] (callSp ⟨K, cl⟩ [false, false] F__law_b_two_due) :=
  def_ok (k := 2) (N := N__law_b_two_due) (m := m__law_b_two_due) Fn sc__law_b_two_due rfl fun cdv A outer s H E hr =>
  (ss_cons (s_asg (e_tup (a_cons (e_binE o_sub (e_callB b_len T.len_ (b_cons (e_var 0) b_nil)) e_int) (a_cons (e_binE o_sub (e_callB b_len T.len_ (b_cons (e_var 1) b_nil)) e_int) a_nil))) (g_un rfl (gs_cons (g_name 2 sc__law_b_two_due.nd) (gs_cons (g_name 3 sc__law_b_two_due.nd) gs_nil))))
  (ss_cons (s_if (t_cmp o_lt (e_binE o_mul (e_var 2) (e_var 3)) e_int) (ss_cons (s_set 4 sc__law_b_two_due.nd (e_ix (hu_of hr) (e_call (h__law_lots_of.mono (by decide)) hr (lets_of rfl rfl rfl rfl) (c_val ((n_dict (p_cons e_str ((n_lst (a_cons e_str a_nil))).e (p_cons e_str ((n_lst (a_cons e_int a_nil))).e (p_cons e_str ((n_lst (a_cons (e_call (h__law_place_w.mono (by decide)) hr (lets_of rfl rfl rfl rfl) (c_val ((n_lst (a_cons (e_var 0) a_nil))).e c_nil)) (a_cons (e_call (h__law_place_w.mono (by decide)) hr (lets_of rfl rfl rfl rfl) (c_val ((n_lst (a_cons (e_var 1) a_nil))).e c_nil)) a_nil)))).e p_nil))))).e c_nil)) e_int))
  (ss_one (s_retN (n_call (h__law_stair.mono (by decide)) hr (lets_of rfl rfl rfl rfl) (c_val (e_var 4) (c_val e_int c_nil)))))) ss_nil)
  (ss_cons (s_setLc 5 rfl sc__law_b_two_due.nd (i_range2 T.range_ (b_cons e_int (b_cons (e_binE o_add (e_var 2) e_int) b_nil))) (blkOk_by (own := [("q", 9)]) (by rfl)) (fun _ => (g_name 9 sc__law_b_two_due.nd)) (fun _ => ts_nil) (fun _ => (e_binE o_sub (e_ix (hu_of hr) ((n_lc rfl sc__law_b_two_due.nd (i_range2 T.range_ (b_cons e_int (b_cons (e_binE o_add (e_var 2) e_int) b_nil))) (blkOk_by (own := [("p", 11)]) (by rfl)) (fun _ => (g_name 11 sc__law_b_two_due.nd)) (fun _ => (ts_one (t_cmp o_ge (e_ix (hu_of hr) (e_var 0) (e_var 11)) (e_var 9)))) (fun _ => (e_var 11)))).e e_int) e_int)))
  (ss_cons (s_setLcN 6 rfl sc__law_b_two_due.nd (i_range1 T.range_ (b_cons (e_binE o_add (e_binE o_mul (e_var 2) (e_var 3)) e_int) b_nil)) (blkOk_by (own := [("c", 10)]) (by rfl)) (fun _ => (g_name 10 sc__law_b_two_due.nd)) (fun _ => ts_nil) (fun _ => (e_binE o_mul (e_var 2) (e_var 3))))
  (ss_cons (s_for (passes_of rfl) rfl (i_seq (e_call (h__law_b_falling.mono (by decide)) hr (lets_of rfl rfl rfl rfl) (c_val (e_var 2) (c_val (e_var 3) c_nil)))) (g_name 7 sc__law_b_two_due.nd) (ss_cons (s_set 8 sc__law_b_two_due.nd e_int)
  (ss_cons (s_for (passes_of rfl) rfl (i_range1 T.range_ (b_cons (e_var 2) b_nil)) (g_name 9 sc__law_b_two_due.nd) (ss_one (s_set 8 sc__law_b_two_due.nd (e_binE o_add (e_var 8) (e_callB (b_max rfl) T.max_ (b_cons (e_ix (hu_of hr) (e_var 1) (e_ix (hu_of hr) (e_var 7) (e_var 9))) (b_cons (e_ix (hu_of hr) (e_var 7) (e_ix (hu_of hr) (e_var 5) (e_var 9))) b_nil)))))))
  (ss_cons (s_set 10 sc__law_b_two_due.nd (e_callB (b_sum rfl) T.sum_ (b_cons (e_var 7) b_nil)))
  (ss_one (s_asg (e_callB (b_min rfl) T.min_ (b_cons (e_ixB 6 (hu_of hr) (e_var 10)) (b_cons (e_var 8) b_nil))) (g_setIx 6 (hu_of hr) (e_var 10))))))))
  (ss_one (s_retOwn 6)))))))
/-! ### _law_b_two_right -/
abbrev s__law_b_two_right : Stmt := top 32
abbrev N__law_b_two_right : List Str := ["one", "other", "due", "x", "y", "told"]
theorem sc__law_b_two_right : FnScope N__law_b_two_right ["one", "other"] (defScope s__law_b_two_right) := ⟨rfl, rfl, rfl, by decide +kernel, rfl, by decide +kernel, by decide +kernel⟩
def m__law_b_two_right : SM :=
  (sSeq (sPar [(2, false), (3, false), (4, false)] (mCons (mCallF F__law_b_two_due [none, none] [] (mCons (mVar 0) (mCons (mVar 1) mNil))) (mCons (mCall dList (mCons (mVar 0) mNil)) (mCons (mCall dList (mCons (mVar 1) mNil)) mNil)))) (sSeq (sAsg (mCallN F_two_places [none, none] (mCons (mVar 3) (mCons (mVar 4) mNil))) (gOwn 5)) (sSeq (sIf (mOr (mNot (mTru (mCallF (F__law_same 2) [none, none] [5] (mOwnA 5 (mCons (mVar 2) mNil))))) (mOr (mT (mOp dNe (mVar 3) (mVar 0))) (mT (mOp dNe (mVar 4) (mVar 1))))) (sRet (ret (.bl false))) sNil) (sSeq (sAsg (mOp dSub (ret (.int 0)) (ret (.int 1))) (gSetIx 5 (ret (.int 0)))) (sRet (mCallF (F__law_same 2) [none, none] [] (mCons (mCallF F_two_places [none, none] [] (mCons (mCall dTuple (mCons (mVar 1) mNil)) (mCons (mCall dTuple (mCons (mVar 0) mNil)) mNil))) (mCons (mVar 2) mNil))))))))
def F__law_b_two_right : Fm := runBody N__law_b_two_right.length [false, false] m__law_b_two_right
theorem ok__law_b_two_right {f : Addr} {fd : FuncData} (Fn : Fun K "_law_b_two_right" "_law_b_two_right" s__law_b_two_right f fd) (T : Tx K mg cl) (h__law_b_two_due : FnI P w K mg base cl 3 "_law_b_two_due" [false, false] F__law_b_two_due) (h_two_places : FnI P w K mg base cl 4 "two_places" [false, false] F_two_places) (h__law_same : FnI P w K mg base cl 2 "_law_same" [false, false] (F__law_same 2)) : FnOk P w K mg base (L2.CX P w) 5 f fd ["one", "other"] (callSp ⟨K, cl⟩ [false, false] F__law_b_two_right) :=
  def_ok (k := 4) (N := N__law_b_two_right) (m := m__law_b_two_right) Fn sc__law_b_two_right rfl fun cdv A outer s H E hr =>
  (ss_cons (s_par3 rfl sc__law_b_two_right.nd (l_val 2 (e_call (h__law_b_two_due.mono (by decide)) hr (lets_of rfl rfl rfl rfl) (c_val (e_var 0) (c_val (e_var 1) c_nil))) (l_val 3 ((n_callTy b_list T.list_ (a_cons (e_var 0) a_nil))).e (l_val 4 ((n_callTy b_list T.list_ (a_cons (e_var 1) a_nil))).e l_nil))))
  (ss_cons (s_setN 5 sc__law_b_two_right.nd (n_call (h_two_places.mono (by decide)) hr (lets_of rfl rfl rfl rfl) (c_val (e_var 3) (c_val (e_var 4) c_nil))))
  (ss_cons (s_if (t_w (w_or (t_not (t_tru (e_call (h__law_same.mono (by decide)) hr (lets_of rfl rfl rfl rfl) (c_bor 5 (c_val (e_var 2) c_nil))))) (w_or (t_cmp (o_ne hr.units) (e_var 3) (e_var 0)) (w_or1 (t_cmp (o_ne hr.units) (e_var 4) (e_var 1)))))) (ss_one (s_ret e_bl)) ss_nil)
  (ss_cons (s_asg (e_binE o_sub e_int e_int) (g_setIx 5 (hu_of hr) e_int))
  (ss_one (s_ret (e_call (h__law_same.mono (by decide)) hr (lets_of rfl rfl rfl rfl) (c_val (e_call (h_two_places.mono (by decide)) hr (lets_of rfl rfl rfl rfl) (c_val (e_callTy b_tuple T.tuple_ (a_cons (e_var 1) a_nil)) (c_val (e_callTy b_tuple T.tuple_ (a_cons (e_var 0) a_nil)) c_nil))) (c_val (e_var 2) c_nil)))))))))
/-! ### _law_b_wrong -/
abbrev s__law_b_wrong : Stmt := top 33
abbrev N__law_b_wrong : List Str := ["row", "s"]
theorem sc__law_b_wrong : FnScope N__law_b_wrong ["row"] (defScope s__law_b_wrong) := ⟨rfl, rfl, rfl, by decide +kernel, rfl, by decide +kernel, by decide +kernel⟩
def b0__law_b_wrong : SM :=
  (sSeq (sIf (mOr (mNot (mTru (mCallB dIsi (mCons (mOp dIx (mVar 0) (mVar 1)) (mCons (ret (.ty "int")) mNil))))) (mTru (mCallB dIsi (mCons (mOp dIx (mVar 0) (mVar 1)) (mCons (ret (.ty "bool")) mNil))))) (sRet (mVar 1)) sNil) (sIf (mOr (mAnd (mT (mOp dEq (mVar 1) (ret (.int 0)))) (mT (mOp dNe (mOp dIx (mVar 0) (mVar 1)) (ret (.int 0))))) (mOr (mT (mOp dLt (mOp dIx (mVar 0) (mVar 1)) (mVar 1))) (mOr (mT (mOp dGt (mOp dIx (mVar 0) (mVar 1)) (mOp dSub (mCallB dLen (mCons (mVar 0) mNil)) (ret (.int 1))))) (mAnd (mT (mOp dGt (mVar 1) (ret (.int 0)))) (mT (mOp dLt (mOp dIx (mVar 0) (mVar 1)) (mOp dIx (mVar 0) (mOp dSub (mVar 1) (ret (.int 1)))))))))) (sRet (mVar 1)) sNil))
def m__law_b_wrong : SM :=
  (sSeq (sIf (mOr (mNot (mTru (mCallB dIsi (mCons (mVar 0) (mCons (ret (.ty "list")) mNil))))) (mT (mOp dLt (mCallB dLen (mCons (mVar 0) mNil)) (ret (.int 2))))) (sRet (ret (.int 0))) sNil) (sSeq (sFor (mRange1 (mCons (mCallB dLen (mCons (mVar 0) mNil)) mNil)) (gSet 1) b0__law_b_wrong) (sRet (ret .non))))
def F__law_b_wrong : Fm := runBody N__law_b_wrong.length [false] m__law_b_wrong
theorem ok__law_b_wrong {f : Addr} {fd : FuncData} (Fn : Fun K "_law_b_wrong" "_law_b_wrong" s__law_b_wrong f fd) (T : Tx K mg cl) : FnOk P w K mg base (L2.CX P w) 1 f fd ["row"] (callSp ⟨K, cl⟩ [false] F__law_b_wrong) :=
  def_ok (k := 0) (N := N__law_b_wrong) (m := m__law_b_wrong) Fn sc__law_b_wrong rfl fun cdv A outer s H E hr =>
  (ss_cons (s_if (t_w (w_or (t_not (t_tru (e_callB b_isi T.isinstance_ (b_cons (e_var 0) (b_cons (e_ty "list" T.list_) b_nil))))) (w_or1 (t_cmp o_lt (e_callB b_len T.len_ (b_cons (e_var 0) b_nil)) e_int)))) (ss_one (s_ret e_int)) ss_nil)
  (ss_cons (s_for (passes_of rfl) rfl (i_range1 T.range_ (b_cons (e_callB b_len T.len_ (b_cons (e_var 0) b_nil)) b_nil)) (g_name 1 sc__law_b_wrong.nd) (ss_cons (s_if (t_w (w_or (t_not (t_tru (e_callB b_isi T.isinstance_ (b_cons (e_ix (hu_of hr) (e_var 0) (e_var 1)) (b_cons (e_ty "int" T.int_) b_nil))))) (w_or1 (t_tru (e_callB b_isi T.isinstance_ (b_cons (e_ix (hu_of hr) (e_var 0) (e_var 1)) (b_cons (e_ty "bool" T.bool_) b_nil))))))) (ss_one (s_ret (e_var 1))) ss_nil)
  (ss_one (s_if (t_w (w_or (t_w (w_and (t_cmp (o_eq hr.units) (e_var 1) e_int) (w_and1 (t_cmp (o_ne hr.units) (e_ix (hu_of hr) (e_var 0) (e_var 1)) e_int)))) (w_or (t_cmp o_lt (e_ix (hu_of hr) (e_var 0) (e_var 1)) (e_var 1)) (w_or (t_cmp o_gt (e_ix (hu_of hr) (e_var 0) (e_var 1)) (e_binE o_sub (e_callB b_len T.len_ (b_cons (e_var 0) b_nil)) e_int)) (w_or1 (t_w (w_and (t_cmp o_gt (e_var 1) e_int) (w_and1 (t_cmp o_lt (e_ix (hu_of hr) (e_var 0) (e_var 1)) (e_ix (hu_of hr) (e_var 0) (e_binE o_sub (e_var 1) e_int))))))))))) (ss_one (s_ret (e_var 1))) ss_nil))))
  (ss_one (s_ret e_non))))
/-! ### _law_b_spoilt -/
abbrev s__law_b_spoilt : Stmt := top 34
abbrev N__law_b_spoilt : List Str := ["s", "row", "at", "way"]
theorem sc__law_b_spoilt : FnScope N__law_b_spoilt ["s", "row"] (defScope s__law_b_spoilt) := ⟨rfl, rfl, rfl, by decide +kernel, rfl, by decide +kernel, by decide +kernel⟩
def m__law_b_spoilt : SM :=
  (sSeq (sPar [(1, true), (2, false), (3, false)] (mCons (mCall dList (mCons (mVar 1) mNil)) (mCons (mCallF F__law_pick [some 0, none] [] (mOwnA 0 (mCons (mCallB dLen (mCons (mVar 1) mNil)) mNil))) (mCons (mCallF F__law_pick [some 0, none] [] (mOwnA 0 (mCons (ret (.int 7)) mNil))) mNil)))) (sSeq (sIf (mT (mOp dEq (mVar 3) (ret (.int 0)))) (sAsg (mOp dSub (mVar 2) (ret (.int 1))) (gSetIx 1 (mVar 2))) sNil) (sSeq (sIf (mT (mOp dEq (mVar 3) (ret (.int 1)))) (sAsg (mOp dAdd (mCallB dLen (mOwnA 1 mNil)) (mCallF F__law_pick [some 0, none] [] (mOwnA 0 (mCons (mOp dPow (ret (.int 10)) (ret (.int 9))) mNil)))) (gSetIx 1 (mVar 2))) sNil) (sSeq (sIf (mT (mOp dEq (mVar 3) (ret (.int 2)))) (sAsg (mCallF F__law_one [some 0, none] [] (mOwnA 0 (mCons (mLst (mCons (ret (.bl true)) (mCons (ret (.str "2")) (mCons (ret .non) mNil)))) mNil))) (gSetIx 1 (mVar 2))) sNil) (sSeq (sIf (mT (mOp dEq (mVar 3) (ret (.int 3)))) (sRetN (mSlice dCutL (mVar 1) (ret none) (mPart (mCallF F__law_pick [some 0, none] [] (mOwnA 0 (mCons (ret (.int 2)) mNil)))))) sNil) (sSeq (sIf (mT (mOp dEq (mVar 3) (ret (.int 4)))) (sRet (mCallF F__law_one [some 0, none] [] (mOwnA 0 (mCons (mLst (mCons (ret .non) (mCons (ret (.int 5)) mNil))) mNil)))) sNil) (sSeq (sIf (mT (mOp dEq (mVar 3) (ret (.int 5)))) (sAsg (mOp dSub (mIxB 1 (mVar 2)) (ret (.int 1))) (gSetIx 1 (mVar 2))) sNil) (sRetOwn 1))))))))
def F__law_b_spoilt : Fm := runBody N__law_b_spoilt.length [true, false] m__law_b_spoilt
theorem ok__law_b_spoilt {f : Addr} {fd : FuncData} (Fn : Fun K "_law_b_spoilt" "_law_b_spoilt" s__law_b_spoilt f fd) (T : Tx K mg cl) (h__law_pick : FnI P w K mg base cl 1 "_law_pick" [true, false] F__law_pick) (h__law_one : FnI P w K mg base cl 2 "_law_one" [true, false] F__law_one) : FnOk P w K mg base (L2.CX P w) 3 f fd ["s", "row"] (callSp ⟨K, cl⟩ [true, false] F__law_b_spoilt) :=
  def_ok (k := 2) (N := N__law_b_spoilt) (m := m__law_b_spoilt) Fn sc__law_b_spoilt rfl fun cdv A outer s H E hr =>
  (ss_cons (s_par3 rfl sc__law_b_spoilt.nd (l_new 1 (n_callTy b_list T.list_ (a_cons (e_var 1) a_nil)) (l_val 2 (e_call (h__law_pick.mono (by decide)) hr (lets_of rfl rfl rfl rfl) (c_own 0 (c_val (e_callB b_len T.len_ (b_cons (e_var 1) b_nil)) c_nil))) (l_val 3 (e_call (h__law_pick.mono (by decide)) hr (lets_of rfl rfl rfl rfl) (c_own 0 (c_val e_int c_nil))) l_nil))))
  (ss_cons (s_if (t_cmp (o_eq hr.units) (e_var 3) e_int) (ss_one (s_asg (e_binE o_sub (e_var 2) e_int) (g_setIx 1 (hu_of hr) (e_var 2)))) ss_nil)
  (ss_cons (s_if (t_cmp (o_eq hr.units) (e_var 3) e_int) (ss_one (s_asg (e_binE o_add (e_callB b_len T.len_ (b_own 1 b_nil)) (e_call (h__law_pick.mono (by decide)) hr (lets_of rfl rfl rfl rfl) (c_own 0 (c_val (e_binE o_pow e_int e_int) c_nil)))) (g_setIx 1 (hu_of hr) (e_var 2)))) ss_nil)
  (ss_cons (s_if (t_cmp (o_eq hr.units) (e_var 3) e_int) (ss_one (s_asg (e_call (h__law_one.mono (by decide)) hr (lets_of rfl rfl rfl rfl) (c_own 0 (c_val ((n_lst (a_cons e_bl (a_cons e_str (a_cons e_non a_nil))))).e c_nil))) (g_setIx 1 (hu_of hr) (e_var 2)))) ss_nil)
  (ss_cons (s_if (t_cmp (o_eq hr.units) (e_var 3) e_int) (ss_one (s_retN (n_sliceL (e_var 1) o_none (o_some (e_call (h__law_pick.mono (by decide)) hr (lets_of rfl rfl rfl rfl) (c_own 0 (c_val e_int c_nil))))))) ss_nil)
  (ss_cons (s_if (t_cmp (o_eq hr.units) (e_var 3) e_int) (ss_one (s_ret (e_call (h__law_one.mono (by decide)) hr (lets_of rfl rfl rfl rfl) (c_own 0 (c_val ((n_lst (a_cons e_non (a_cons e_int a_nil)))).e c_nil))))) ss_nil)
  (ss_cons (s_if (t_cmp (o_eq hr.units) (e_var 3) e_int) (ss_one (s_asg (e_binE o_sub (e_ixB 1 (hu_of hr) (e_var 2)) e_int) (g_setIx 1 (hu_of hr) (e_var 2)))) ss_nil)
  (ss_one (s_retOwn 1)))))))))
/-! ### law -/
abbrev s_law : Stmt := top 35
abbrev N_law : List Str := ["script", "rows", "t", "s", "wide", "m", "n", "one", "other", "turn", "due", "long", "short", "row", "k"]
theorem sc_law : FnScope N_law ["script"] (defScope s_law) := ⟨rfl, rfl, rfl, by decide +kernel, rfl, by decide +kernel, by decide +kernel⟩
def b0_law : SM :=
  (sSeq (sAsg (mCallN F__law_source [none, none] (mCons (mVar 0) (mCons (mVar 2) mNil))) (gOwn 3)) (sSeq (sAsg (mAndV (mOp dEq (mCallF F__law_pick [some 3, none] [] (mOwnA 3 (mCons (ret (.int 16)) mNil))) (ret (.int 0))) (mOp dEq (mVar 2) (ret (.int 0)))) (gSet 4)) (sSeq (sAsg (mIf (mTru (mVar 4)) (mTup (mCons (mOp dAdd (ret (.int 7)) (mCallF F__law_pick [some 3, none] [] (mOwnA 3 (mCons (ret (.int 2)) mNil)))) (mCons (ret (.int 8)) mNil))) (mTup (mCons (mOp dAdd (ret (.int 1)) (mCallF F__law_pick [some 3, none] [] (mOwnA 3 (mCons (ret (.int 6)) mNil)))) (mCons (mOp dAdd (ret (.int 1)) (mCallF F__law_pick [some 3, none] [] (mOwnA 3 (mCons (ret (.int 6)) mNil)))) mNil)))) (gUn 2 (gsCons (gSet 5) (gsCons (gSet 6) gsNil)))) (sSeq (sPar [(7, false), (8, false)] (mCons (mCallF F__law_draw_stair [some 3, none] [] (mOwnA 3 (mCons (mVar 5) mNil))) (mCons (mCallF F__law_draw_stair [some 3, none] [] (mOwnA 3 (mCons (mVar 6) mNil))) mNil))) (sApp 1 (mTup (mCons (mVar 7) (mCons (mIf (mAnd (mT (mOp dEq (mCallF F__law_pick [some 3, none] [] (mOwnA 3 (mCons (ret (.int 6)) mNil))) (ret (.int 0)))) (mNot (mTru (mVar 4)))) (mCall dList (mCons (mVar 7) mNil)) (mVar 8)) mNil))))))))
def b1_law : SM :=
  (sIf (mNot (mTru (mCallF F__law_b_two_right [none, none] [] (mCons (mVar 7) (mCons (mVar 8) mNil))))) (sRet (ret (.bl false))) sNil)
def e2_law : M D :=
  (mIf (mT (mOp dGt (mCallF F__law_pick [some 3, none] [] (mOwnA 3 (mCons (ret (.int 3)) mNil))) (ret (.int 0)))) (mCallF F__law_b_spoilt [some 3, none] [] (mOwnA 3 (mCons (mVar 13) mNil))) (mCall dList (mCons (mVar 13) mNil)))
def e3_law : M D :=
  (mTup (mCons (mOp dAdd (mVar 14) (ret (.int 1))) (mCons (mCallF F__law_b_wrong [none] [] (mCons (mVar 13) mNil)) mNil)))
def b4_law : SM :=
  (sSeq (sAsg (mLc [13] (mSeq (mOp dIx (mVar 1) (ret (.int 1)))) (gSet 13) (ret true) e2_law) (gUn 2 (gsCons (gSet 7) (gsCons (gSet 8) gsNil)))) (sSeq (sAsg (mLc [14, 13] (mEnumA (mCons (mLst (mCons (mVar 7) (mCons (mVar 8) mNil))) mNil)) (gUn 2 (gsCons (gSet 14) (gsCons (gSet 13) gsNil))) (mT (mOp dIsNot (mCallF F__law_b_wrong [none] [] (mCons (mVar 13) mNil)) (ret .non))) e3_law) (gSet 10)) (sIf (mAnd (mTru (mVar 10)) (mNot (mTru (mCallF (F__law_same 2) [none, none] [] (mCons (mCallF F__law_b_two_told [none, none] [] (mCons (mVar 7) (mCons (mVar 8) mNil))) (mCons (mTup (mCons (ret (.str "BadStair")) (mCons (mOp dIx (mOp dIx (mVar 10) (ret (.int 0))) (ret (.int 0))) (mCons (mOp dIx (mOp dIx (mVar 10) (ret (.int 0))) (ret (.int 1))) mNil)))) mNil)))))) (sRet (ret (.bl false))) sNil)))
def e5_law : M D :=
  (mOp dAdd (ret (.int 3)) (mCallF F__law_pick [some 3, none] [] (mOwnA 3 (mCons (ret (.int 40)) mNil))))
def b6_law : SM :=
  (sIf (mNot (mTru (mCallF (F__law_same 2) [none, none] [] (mCons (mCallF F__law_b_two_told [none, none] [] (mCons (mVar 7) (mCons (mVar 8) mNil))) (mCons (mTup (mCons (ret (.str "TooMany")) (mCons (ret (.str "search")) mNil))) mNil))))) (sRet (ret (.bl false))) sNil)
def m_law : SM :=
  (sSeq (sAsg (mLst mNil) (gOwn 1)) (sSeq (sFor (mRange1 (mCons (ret (.int 2)) mNil)) (gSet 2) b0_law) (sSeq (sFor (mSeq (mOp dAddL (mVar 1) (mIf (mT (mOp dGt (mCallB dLen (mCons (mOp dIx (mOp dIx (mVar 1) (ret (.int 0))) (ret (.int 1))) mNil)) (ret (.int 8)))) (mLst (mCons (mOp dIx (mVar 1) (ret (.int 1))) mNil)) (mLst (mCons (mOp dIx (mVar 1) (ret (.int 0))) mNil))))) (gUn 2 (gsCons (gSet 7) (gsCons (gSet 8) gsNil))) b1_law) (sSeq (sAsg (mCallN F__law_source [none, none] (mCons (mVar 0) (mCons (ret (.int 2)) mNil))) (gOwn 3)) (sSeq (sFor (mRange1 (mCons (ret (.int 6)) mNil)) (gSet 9) b4_law) (sSeq (sAsg (mIf (mT (mOp dEq (mCallF F__law_pick [some 3, none] [] (mOwnA 3 (mCons (ret (.int 2)) mNil))) (ret (.int 0)))) (bnd (ret (.int 10)) fun x => lift (noexc (dListRg [x]))) (mOp dAddL (mOp dAddL (mLst (mCons (ret (.int 0)) mNil)) (mLc [14] (mRange1 (mCons (mOp dAdd (ret (.int 8)) (mCallF F__law_pick [some 3, none] [] (mOwnA 3 (mCons (ret (.int 60)) mNil)))) mNil)) (gSet 14) (ret true) e5_law)) (mLst (mCons (ret (.int 2)) mNil)))) (gSet 11)) (sSeq (sAsg (mCallF F__law_b_spoilt [some 3, none] [] (mOwnA 3 (mCons (mOp dIx (mOp dIx (mVar 1) (ret (.int 1))) (ret (.int 0))) mNil))) (gSet 12)) (sSeq (sFor (mSeq (mLst (mCons (mTup (mCons (mVar 11) (mCons (mVar 12) mNil))) (mCons (mTup (mCons (mVar 12) (mCons (mVar 11) mNil))) (mCons (mTup (mCons (mVar 11) (mCons (mVar 11) mNil))) mNil))))) (gUn 2 (gsCons (gSet 7) (gsCons (gSet 8) gsNil))) b6_law) (sRet (ret (.bl true)))))))))))
def F_law : Fm := runBody N_law.length [false] m_law
theorem ok_law {f : Addr} {fd : FuncData} (Fn : Fun K "law" "law" s_law f fd) (T : Tx K mg cl) (h__law_source : FnI P w K mg base cl 1 "_law_source" [false, false] F__law_source) (h__law_pick : FnI P w K mg base cl 1 "_law_pick" [true, false] F__law_pick) (h__law_draw_stair : FnI P w K mg base cl 3 "_law_draw_stair" [true, false] F__law_draw_stair) (h__law_b_two_right : FnI P w K mg base cl 5 "_law_b_two_right" [false, false] F__law_b_two_right) (h__law_b_spoilt : FnI P w K mg base cl 3 "_law_b_spoilt" [true, false] F__law_b_spoilt) (h__law_b_wrong : FnI P w K mg base cl 1 "_law_b_wrong" [false] F__law_b_wrong) (h__law_same : FnI P w K mg base cl 2 "_law_same" [false, false] (F__law_same 2)) (h__law_b_two_told : FnI P w K mg base cl 5 "_law_b_two_told" [false, false] F__law_b_two_told) : FnOk P w K mg base (L2.CX P w) 6 f fd ["script"] (callSp ⟨K, cl⟩ [false] F_law) :=
  def_ok (k := 5) (N := N_law) (m := m_law) Fn sc_law rfl fun cdv A outer s H E hr =>
  (ss_cons (s_setN 1 sc_law.nd (n_lst a_nil))
  (ss_cons (s_for (passes_of rfl) rfl (i_range1 T.range_ (b_cons e_int b_nil)) (g_name 2 sc_law.nd) (ss_cons (s_setN 3 sc_law.nd (n_call (h__law_source.mono (by decide)) hr (lets_of rfl rfl rfl rfl) (c_val (e_var 0) (c_val (e_var 2) c_nil))))
  (ss_cons (s_set 4 sc_law.nd (e_and (e_cmp (o_eq hr.units) (e_call (h__law_pick.mono (by decide)) hr (lets_of rfl rfl rfl rfl) (c_own 3 (c_val e_int c_nil))) e_int) (e_bool1 (e_cmp (o_eq hr.units) (e_var 2) e_int))))
  (ss_cons (s_asg (e_if (t_tru (e_var 4)) (e_tup (a_cons (e_binE o_add e_int (e_call (h__law_pick.mono (by decide)) hr (lets_of rfl rfl rfl rfl) (c_own 3 (c_val e_int c_nil)))) (a_cons e_int a_nil))) (e_tup (a_cons (e_binE o_add e_int (e_call (h__law_pick.mono (by decide)) hr (lets_of rfl rfl rfl rfl) (c_own 3 (c_val e_int c_nil)))) (a_cons (e_binE o_add e_int (e_call (h__law_pick.mono (by decide)) hr (lets_of rfl rfl rfl rfl) (c_own 3 (c_val e_int c_nil)))) a_nil)))) (g_un rfl (gs_cons (g_name 5 sc_law.nd) (gs_cons (g_name 6 sc_law.nd) gs_nil))))
  (ss_cons (s_par2 rfl sc_law.nd (l_val 7 (e_call (h__law_draw_stair.mono (by decide)) hr (lets_of rfl rfl rfl rfl) (c_own 3 (c_val (e_var 5) c_nil))) (l_val 8 (e_call (h__law_draw_stair.mono (by decide)) hr (lets_of rfl rfl rfl rfl) (c_own 3 (c_val (e_var 6) c_nil))) l_nil)))
  (ss_one (s_app 1 (e_tup (a_cons (e_var 7) (a_cons (e_if (t_w (w_and (t_cmp (o_eq hr.units) (e_call (h__law_pick.mono (by decide)) hr (lets_of rfl rfl rfl rfl) (c_own 3 (c_val e_int c_nil))) e_int) (w_and1 (t_not (t_tru (e_var 4)))))) ((n_callTy b_list T.list_ (a_cons (e_var 7) a_nil))).e (e_var 8)) a_nil))) (fun h => pe_bm PySem.F.plainAttrs_list PySem.F.slot_list_append PySem.F.type_list_append mt_append (pv 1) (pa_cons h pa_nil)))))))))
  (ss_cons (s_for (passes_of rfl) rfl (i_seq ((n_cat (e_var 1) (e_if (t_cmp o_gt (e_callB b_len T.len_ (b_cons (e_ix (hu_of hr) (e_ix (hu_of hr) (e_var 1) e_int) e_int) b_nil)) e_int) ((n_lst (a_cons (e_ix (hu_of hr) (e_var 1) e_int) a_nil))).e ((n_lst (a_cons (e_ix (hu_of hr) (e_var 1) e_int) a_nil))).e))).e) (g_un rfl (gs_cons (g_name 7 sc_law.nd) (gs_cons (g_name 8 sc_law.nd) gs_nil))) (ss_one (s_if (t_not (t_tru (e_call (h__law_b_two_right.mono (by decide)) hr (lets_of rfl rfl rfl rfl) (c_val (e_var 7) (c_val (e_var 8) c_nil))))) (ss_one (s_ret e_bl)) ss_nil)))
  (ss_cons (s_setN 3 sc_law.nd (n_call (h__law_source.mono (by decide)) hr (lets_of rfl rfl rfl rfl) (c_val (e_var 0) (c_val e_int c_nil))))
  (ss_cons (s_for (passes_of rfl) rfl (i_range1 T.range_ (b_cons e_int b_nil)) (g_name 9 sc_law.nd) (ss_cons (s_asg ((n_lc rfl sc_law.nd (i_seq (e_ix (hu_of hr) (e_var 1) e_int)) (blkOk_by (own := [("row", 13)]) (by rfl)) (fun _ => (g_name 13 sc_law.nd)) (fun _ => ts_nil) (fun _ => (e_if (t_cmp o_gt (e_call (h__law_pick.mono (by decide)) hr lets0 (c_own 3 (c_val e_int c_nil))) e_int) (e_call (h__law_b_spoilt.mono (by decide)) hr lets0 (c_own 3 (c_val (e_var 13) c_nil))) ((n_callTy b_list T.list_ (a_cons (e_var 13) a_nil))).e)))).e (g_un rfl (gs_cons (g_name 7 sc_law.nd) (gs_cons (g_name 8 sc_law.nd) gs_nil))))
  (ss_cons (s_setLc 10 rfl sc_law.nd (i_enumA T.enumerate_ (a_cons ((n_lst (a_cons (e_var 7) (a_cons (e_var 8) a_nil)))).e a_nil)) (blkOk_by (own := [("k", 14), ("row", 13)]) (by rfl)) (fun _ => (g_un rfl (gs_cons (g_name 14 sc_law.nd) (gs_cons (g_name 13 sc_law.nd) gs_nil)))) (fun _ => (ts_one (t_cmp o_isnot (e_call (h__law_b_wrong.mono (by decide)) hr lets0 (c_val (e_var 13) c_nil)) e_non))) (fun _ => (e_tup (a_cons (e_binE o_add (e_var 14) e_int) (a_cons (e_call (h__law_b_wrong.mono (by decide)) hr lets0 (c_val (e_var 13) c_nil)) a_nil)))))
  (ss_one (s_if (t_w (w_and (t_tru (e_var 10)) (w_and1 (t_not (t_tru (e_call (h__law_same.mono (by decide)) hr (lets_of rfl rfl rfl rfl) (c_val (e_call (h__law_b_two_told.mono (by decide)) hr (lets_of rfl rfl rfl rfl) (c_val (e_var 7) (c_val (e_var 8) c_nil))) (c_val (e_tup (a_cons e_str (a_cons (e_ix (hu_of hr) (e_ix (hu_of hr) (e_var 10) e_int) e_int) (a_cons (e_ix (hu_of hr) (e_ix (hu_of hr) (e_var 10) e_int) e_int) a_nil)))) c_nil)))))))) (ss_one (s_ret e_bl)) ss_nil)))))
  (ss_cons (s_set 11 sc_law.nd (e_if (t_cmp (o_eq hr.units) (e_call (h__law_pick.mono (by decide)) hr (lets_of rfl rfl rfl rfl) (c_own 3 (c_val e_int c_nil))) e_int) ((n_listRg rfl T.list_ T.range_ e_int)).e ((n_cat ((n_cat ((n_lst (a_cons e_int a_nil))).e ((n_lc rfl sc_law.nd (i_range1 T.range_ (b_cons (e_binE o_add e_int (e_call (h__law_pick.mono (by decide)) hr (lets_of rfl rfl rfl rfl) (c_own 3 (c_val e_int c_nil)))) b_nil)) (blkOk_by (own := [("k", 14)]) (by rfl)) (fun _ => (g_name 14 sc_law.nd)) (fun _ => ts_nil) (fun _ => (e_binE o_add e_int (e_call (h__law_pick.mono (by decide)) hr lets0 (c_own 3 (c_val e_int c_nil))))))).e)).e ((n_lst (a_cons e_int a_nil))).e)).e))
  (ss_cons (s_set 12 sc_law.nd (e_call (h__law_b_spoilt.mono (by decide)) hr (lets_of rfl rfl rfl rfl) (c_own 3 (c_val (e_ix (hu_of hr) (e_ix (hu_of hr) (e_var 1) e_int) e_int) c_nil))))
  (ss_cons (s_for (passes_of rfl) rfl (i_seq ((n_lst (a_cons (e_tup (a_cons (e_var 11) (a_cons (e_var 12) a_nil))) (a_cons (e_tup (a_cons (e_var 12) (a_cons (e_var 11) a_nil))) (a_cons (e_tup (a_cons (e_var 11) (a_cons (e_var 11) a_nil))) a_nil))))).e) (g_un rfl (gs_cons (g_name 7 sc_law.nd) (gs_cons (g_name 8 sc_law.nd) gs_nil))) (ss_one (s_if (t_not (t_tru (e_call (h__law_same.mono (by decide)) hr (lets_of rfl rfl rfl rfl) (c_val (e_call (h__law_b_two_told.mono (by decide)) hr (lets_of rfl rfl rfl rfl) (c_val (e_var 7) (c_val (e_var 8) c_nil))) (c_val (e_tup (a_cons e_str (a_cons e_str a_nil))) c_nil))))) (ss_one (s_ret e_bl)) ss_nil)))
  (ss_one (s_ret e_bl))))))))))
end
end K13
/-! K13P: plain laws of rows and stairs, no program in sight. -/
namespace K13
open DL
/-- the sum of f below n -/
def Sm (f : Nat → Nat) : Nat → Nat
  | 0 => 0
  | n + 1 => Sm f n + f n
theorem Sm_congr {f g : Nat → Nat} : ∀ {n : Nat}, (∀ k, k < n → f k = g k) → Sm f n = Sm g n
  | 0, _ => rfl
  | n + 1, h => by
    unfold Sm
    rw [Sm_congr fun k hk => h k (by omega), h n (by omega)]
theorem Sm_zero : ∀ (n : Nat), Sm (fun _ => 0) n = 0
  | 0 => rfl
  | n + 1 => by unfold Sm; rw [Sm_zero n]
theorem Sm_add {f g : Nat → Nat} : ∀ (n : Nat), Sm (fun k => f k + g k) n = Sm f n + Sm g n
  | 0 => rfl
  | n + 1 => by
    unfold Sm
    rw [Sm_add n]
    omega
theorem Sm_swap (f : Nat → Nat → Nat) (n : Nat) : ∀ (m : Nat), Sm (fun q => Sm (fun z => f q z) n) m = Sm (fun z => Sm (fun q => f q z) m) n
  | 0 => by
    show 0 = Sm (fun z => 0) n
    rw [Sm_zero]
  | m + 1 => by
    show Sm (fun q => Sm (fun z => f q z) n) m + Sm (fun z => f m z) n = Sm (fun z => Sm (fun q => f q z) m + f m z) n
    rw [Sm_swap f n m, Sm_add]
theorem Sm_list (f : Nat → Nat) : ∀ (n : Nat), ((List.range n).map f).sum = Sm f n
  | 0 => rfl
  | n + 1 => by
    rw [List.range_succ, List.map_append, List.sum_append, Sm_list f n]
    simp [Sm]
theorem nth_append_left {L M : List Nat} {k : Nat} (h : k < L.length) : nth (L ++ M) k = nth L k := by
  unfold nth
  rw [List.getD_eq_getElem?_getD, List.getD_eq_getElem?_getD, List.getElem?_append_left h]
theorem nth_append_last {L : List Nat} {z : Nat} : nth (L ++ [z]) L.length = z := by
  unfold nth
  rw [List.getD_eq_getElem?_getD, List.getElem?_append_right (Nat.le_refl _)]
  simp
theorem nth_range {f : Nat → Nat} {n k : Nat} (h : k < n) : nth ((List.range n).map f) k = f k := by
  rw [nth_eq (by simpa using h)]
  simp
theorem sum_nth : ∀ {n : Nat} {L : List Nat}, L.length = n → L.sum = Sm (nth L) n := by
  intro n L h
  have e : L = (List.range n).map (nth L) := by
    apply List.ext_getElem
    · simp [h]
    · intro i h1 h2
      simp
      rw [nth_eq h1]
  calc L.sum = ((List.range n).map (nth L)).sum := by rw [← e]
    _ = _ := Sm_list _ _
theorem ext_nth {L M : List Nat} (h : L.length = M.length) (g : ∀ k, k < L.length → nth L k = nth M k) : L = M := by
  apply List.ext_getElem h
  intro i h1 h2
  have := g i h1
  rw [nth_eq h1, nth_eq h2] at this
  exact this
abbrev ind (p : Prop) [Decidable p] : Nat := if p then 1 else 0
theorem Sm_down (p : Nat → Prop) [DecidablePred p] (hd : ∀ i j, i ≤ j → p j → p i) (q : Nat) : ∀ (m : Nat), q < Sm (fun k => ind (p k)) m ↔ q < m ∧ p q
  | 0 => by simp [Sm]
  | m + 1 => by
    have all : ∀ k, (∀ i, i < k → p i) → Sm (fun k => ind (p k)) k = k := fun k h => by
      rw [Sm_congr (g := fun _ => 1) fun i hi => if_pos (h i hi)]
      induction k with
      | zero => rfl
      | succ k ih => unfold Sm; rw [ih fun i hi => h i (by omega)]
    show q < Sm (fun k => ind (p k)) m + ind (p m) ↔ _
    by_cases h : p m
    · have e : Sm (fun k => ind (p k)) m = m := all m fun i hi => hd i m (by omega) h
      rw [e]
      show q < m + (if p m then 1 else 0) ↔ _
      rw [if_pos h]
      exact ⟨fun hq => ⟨hq, hd q m (by omega) h⟩, fun hq => hq.1⟩
    · show q < Sm (fun k => ind (p k)) m + (if p m then 1 else 0) ↔ _
      rw [if_neg h, Nat.add_zero, Sm_down p hd q m]
      refine ⟨fun hq => ⟨by omega, hq.2⟩, fun hq => ⟨?_, hq.2⟩⟩
      by_cases hm : q = m
      · subst hm; exact absurd hq.2 h
      · omega
theorem Sm_lt (a n : Nat) (h : a ≤ n) : Sm (fun z => ind (z < a)) n = a := by
  have key := Sm_down (fun z => z < a) (fun i j h1 h2 => by omega)
  apply Nat.le_antisymm
  · by_cases hc : a < Sm (fun z => ind (z < a)) n
    · exact absurd ((key a n).1 hc).2 (by omega)
    · omega
  · by_cases h0 : a = 0
    · omega
    · have := (key (a - 1) n).2 ⟨by omega, by omega⟩
      omega
theorem Sm_le {p : Nat → Prop} [DecidablePred p] : ∀ (m : Nat), Sm (fun k => ind (p k)) m ≤ m
  | 0 => Nat.le_refl _
  | m + 1 => by
    have := Sm_le (p := p) m
    show Sm (fun k => ind (p k)) m + (if p m then 1 else 0) ≤ m + 1
    split <;> omega
theorem Sm_mono {p q : Nat → Prop} [DecidablePred p] [DecidablePred q] (h : ∀ k, p k → q k) : ∀ (m : Nat), Sm (fun k => ind (p k)) m ≤ Sm (fun k => ind (q k)) m
  | 0 => Nat.le_refl _
  | m + 1 => by
    have := Sm_mono h m
    show Sm (fun k => ind (p k)) m + (if p m then 1 else 0) ≤ Sm (fun k => ind (q k)) m + (if q m then 1 else 0)
    by_cases hp : p m
    · rw [if_pos hp, if_pos (h m hp)]; omega
    · rw [if_neg hp]; split <;> omega
/-! stairs -/
structure Sr (n : Nat) (L : List Nat) : Prop where
  len : L.length = n + 1
  zero : nth L 0 = 0
  up : ∀ k, k < n → nth L k ≤ nth L (k + 1)
  low : ∀ k, k ≤ n → k ≤ nth L k
  top : ∀ k, k ≤ n → nth L k ≤ n
theorem Sr.mono {n : Nat} {L : List Nat} (h : Sr n L) (i : Nat) : ∀ (d : Nat), i + d ≤ n → nth L i ≤ nth L (i + d)
  | 0, _ => Nat.le_refl _
  | d + 1, hd => Nat.le_trans (h.mono i d (by omega)) (h.up (i + d) (by omega))
/-! rows that never rise -/
structure Fall (n m : Nat) (r : List Nat) : Prop where
  len : r.length = m
  top : ∀ k, k < m → nth r k ≤ n
  down : ∀ k, k + 1 < m → nth r (k + 1) ≤ nth r k
theorem Fall.mono {n m : Nat} {r : List Nat} (h : Fall n m r) (i : Nat) : ∀ (d : Nat), i + d < m → nth r (i + d) ≤ nth r i
  | 0, _ => Nat.le_refl _
  | d + 1, hd => Nat.le_trans (h.down (i + d) (by omega)) (h.mono i d (by omega))
def lastOr (r : List Nat) (n : Nat) : Nat := r.getLast?.getD n
def rowsN (n : Nat) : Nat → List (List Nat)
  | 0 => [[]]
  | k + 1 => (rowsN n k).flatMap fun r => (List.range (lastOr r n + 1)).map fun z => r ++ [z]
theorem lastOr_nil (n : Nat) : lastOr [] n = n := rfl
theorem lastOr_pos {r : List Nat} {k n : Nat} (h : r.length = k + 1) : lastOr r n = nth r k := by
  unfold lastOr nth
  rw [List.getLast?_eq_getElem?, List.getD_eq_getElem?_getD, h, Nat.add_sub_cancel]
  rw [List.getElem?_eq_getElem (by omega)]
  rfl
theorem nth_out {L : List Nat} {k : Nat} (h : L.length ≤ k) : nth L k = 0 := by
  unfold nth
  rw [List.getD_eq_getElem?_getD, List.getElem?_eq_none h]
  rfl
theorem mem_rows (n : Nat) : ∀ {m : Nat} {r : List Nat}, r ∈ rowsN n m ↔ Fall n m r
  | 0, r => by
    unfold rowsN
    rw [List.mem_singleton]
    refine ⟨fun h => by subst h; exact ⟨rfl, fun k hk => by omega, fun k hk => by omega⟩, fun h => List.length_eq_zero_iff.mp h.len⟩
  | m + 1, r => by
    unfold rowsN
    rw [List.mem_flatMap]
    constructor
    · rintro ⟨s, hs, hr⟩
      have hf := (mem_rows n).1 hs
      rw [List.mem_map] at hr
      obtain ⟨z, hz, rfl⟩ := hr
      rw [List.mem_range] at hz
      have hzn : z ≤ n ∧ ∀ k, k + 1 = m → z ≤ nth s k := by
        cases m with
        | zero =>
          have : s = [] := List.length_eq_zero_iff.mp hf.len
          subst this
          rw [lastOr_nil] at hz
          exact ⟨by omega, fun k hk => by omega⟩
        | succ m =>
          rw [lastOr_pos hf.len] at hz
          have := hf.top m (by omega)
          exact ⟨by omega, fun k hk => by have : k = m := by omega
                                          subst this; omega⟩
      refine ⟨by simp [hf.len], fun k hk => ?_, fun k hk => ?_⟩
      · by_cases h : k < m
        · rw [nth_append_left (by rw [hf.len]; exact h)]; exact hf.top k h
        · have : k = s.length := by rw [hf.len]; omega
          subst this
          rw [nth_append_last]; exact hzn.1
      · by_cases h : k + 1 < m
        · rw [nth_append_left (by rw [hf.len]; exact h), nth_append_left (by rw [hf.len]; omega)]; exact hf.down k h
        · have e : k + 1 = s.length := by rw [hf.len]; omega
          rw [e, nth_append_last, nth_append_left (by omega)]
          exact hzn.2 k (by omega)
    · intro h
      have hl := h.len
      have hne : r ≠ [] := by intro h0; subst h0; simp at hl
      refine ⟨r.take m, ?_, ?_⟩
      · rw [mem_rows n]
        have ht : ∀ k, k < m → nth (r.take m) k = nth r k := fun k hk => by
          unfold nth
          rw [List.getD_eq_getElem?_getD, List.getD_eq_getElem?_getD, List.getElem?_take_of_lt hk]
        refine ⟨by simp [hl], fun k hk => by rw [ht k hk]; exact h.top k (by omega), fun k hk => by rw [ht k (by omega), ht (k + 1) hk]; exact h.down k (by omega)⟩
      · rw [List.mem_map]
        refine ⟨nth r m, ?_, ?_⟩
        · rw [List.mem_range]
          cases m with
          | zero =>
            have : r.take 0 = [] := rfl
            rw [this, lastOr_nil]
            have := h.top 0 (by omega)
            omega
          | succ m =>
            rw [lastOr_pos (k := m) (by simp [hl])]
            have ht : nth (r.take (m + 1)) m = nth r m := by
              unfold nth
              rw [List.getD_eq_getElem?_getD, List.getD_eq_getElem?_getD, List.getElem?_take_of_lt (by omega)]
            rw [ht]
            have := h.down m (by omega)
            omega
        · rw [nth_eq (by omega)]
          have := List.take_append_getElem (l := r) (i := m) (by omega)
          rw [this, List.take_of_length_le (by omega)]
end K13
/-! K13P2: the reach of a row of two places, its least by sums, and the exchange of the two. -/
namespace K13
open DL
/-- the first p with one(p + 1) above q -/
def fi (one : List Nat) (m q : Nat) : Nat := ((List.range m).find? fun p => decide (q + 1 ≤ nth one (p + 1))).getD 0
def reachN (one other : List Nat) (m : Nat) (row : List Nat) : Nat := Sm (fun q => max (nth other (nth row q)) (nth row (fi one m q))) m
theorem fi_ok {m : Nat} {one : List Nat} (h : Sr m one) {q : Nat} (hq : q < m) : fi one m q < m ∧ q + 1 ≤ nth one (fi one m q + 1) ∧ ∀ p, p < m → q + 1 ≤ nth one (p + 1) → fi one m q ≤ p := by
  unfold fi
  cases e : (List.range m).find? fun p => decide (q + 1 ≤ nth one (p + 1)) with
  | none =>
    rw [List.find?_eq_none] at e
    have := e (m - 1) (by simp; omega)
    have h2 := h.low m (Nat.le_refl _)
    simp at this
    rw [Nat.sub_add_cancel (by omega)] at this
    omega
  | some p =>
    have h1 := List.find?_some e
    have h2 := List.mem_of_find?_eq_some e
    simp at h1 h2
    refine ⟨h2, h1, fun p' hp' hq' => ?_⟩
    show p ≤ p'
    rw [List.find?_range_eq_some] at e
    obtain ⟨_, _, e3⟩ := e
    by_cases hc : p' < p
    · have := e3 p' hc
      simp at this
      omega
    · omega
def conj (m n : Nat) (r : List Nat) : List Nat := (List.range n).map fun z => Sm (fun q => ind (z < nth r q)) m
theorem nth_conj {m n z : Nat} {r : List Nat} (h : z < n) : nth (conj m n r) z = Sm (fun q => ind (z < nth r q)) m := nth_range h
/-- beyond its end a row holds 0, so it never rises there either -/
theorem Fall.all {n m : Nat} {r : List Nat} (h : Fall n m r) (i j : Nat) (hij : i ≤ j) : nth r j ≤ nth r i := by
  by_cases hj : j < m
  · have := h.mono i (j - i) (by omega)
    rwa [show i + (j - i) = j by omega] at this
  · rw [nth_out (by rw [h.len]; omega)]; omega
theorem conj_iff {n m : Nat} {r : List Nat} (h : Fall n m r) {q z : Nat} (hz : z < n) : q < nth (conj m n r) z ↔ q < m ∧ z < nth r q := by
  rw [nth_conj hz, Sm_down (fun q => z < nth r q) (fun i j hij hp => by have := h.all i j hij; omega)]
theorem conj_fall {n m : Nat} {r : List Nat} (h : Fall n m r) : Fall m n (conj m n r) := by
  refine ⟨by simp [conj], fun z hz => ?_, fun z hz => ?_⟩
  · rw [nth_conj hz]; exact Sm_le m
  · rw [nth_conj hz, nth_conj (by omega)]
    exact Sm_mono (fun k hk => by omega) m
theorem conj_sum {n m : Nat} {r : List Nat} (h : Fall n m r) : (conj m n r).sum = r.sum := by
  unfold conj
  rw [Sm_list, ← Sm_swap (fun q z => ind (z < nth r q)), sum_nth h.len]
  exact Sm_congr fun q hq => Sm_lt _ _ (h.top q hq)
theorem conj_conj {n m : Nat} {r : List Nat} (h : Fall n m r) {q : Nat} (hq : q < m) : nth (conj n m (conj m n r)) q = nth r q := by
  rw [nth_conj hq]
  rw [Sm_congr (g := fun z => ind (z < nth r q)) fun z hz => ?_]
  · exact Sm_lt _ _ (h.top q hq)
  · show (if _ then 1 else 0) = (if _ then 1 else 0)
    by_cases hc : z < nth r q
    · rw [if_pos hc, if_pos ((conj_iff h hz).2 ⟨hq, hc⟩)]
    · rw [if_neg hc, if_neg fun hx => hc ((conj_iff h hz).1 hx).2]
theorem max_cnt (a b n : Nat) (ha : a ≤ n) (hb : b ≤ n) : max a b = Sm (fun z => ind (z < a ∨ z < b)) n := by
  rw [Sm_congr (g := fun z => ind (z < max a b)) fun z hz => ?_]
  · exact (Sm_lt _ _ (by omega)).symm
  · show (if _ then 1 else 0) = (if _ then 1 else 0)
    by_cases hc : z < a ∨ z < b
    · rw [if_pos hc, if_pos (by omega)]
    · rw [if_neg hc, if_neg (by omega)]
theorem reach_cnt {n m : Nat} {one other r : List Nat} (h1 : Sr m one) (h2 : Sr n other) (h : Fall n m r) : reachN one other m r = Sm (fun q => Sm (fun z => ind (z < nth other (nth r q) ∨ q < nth one (nth (conj m n r) z))) n) m := by
  unfold reachN
  refine Sm_congr fun q hq => ?_
  obtain ⟨f1, f2, f3⟩ := fi_ok h1 hq
  rw [max_cnt _ _ n (h2.top _ (h.top q hq)) (h.top _ f1)]
  refine Sm_congr fun z hz => ?_
  have hc : z < nth r (fi one m q) ↔ q < nth one (nth (conj m n r) z) := by
    have hi := conj_iff h hz (q := fi one m q)
    have ht := (conj_fall h).top z hz
    constructor
    · intro hx
      have hlt := hi.2 ⟨f1, hx⟩
      have := h1.mono (fi one m q + 1) (nth (conj m n r) z - (fi one m q + 1)) (by omega)
      rw [show fi one m q + 1 + (nth (conj m n r) z - (fi one m q + 1)) = nth (conj m n r) z by omega] at this
      omega
    · intro hx
      by_cases h0 : nth (conj m n r) z = 0
      · rw [h0, h1.zero] at hx; omega
      · have := f3 (nth (conj m n r) z - 1) (by omega) (by rw [Nat.sub_add_cancel (by omega)]; omega)
        exact (hi.1 (by omega)).2
  show (if _ then 1 else 0) = (if _ then 1 else 0)
  by_cases hx : z < nth other (nth r q) ∨ z < nth r (fi one m q)
  · rw [if_pos hx, if_pos (hx.imp id hc.1)]
  · rw [if_neg hx, if_neg fun hy => hx (hy.imp id hc.2)]
theorem reach_conj {n m : Nat} {one other r : List Nat} (h1 : Sr m one) (h2 : Sr n other) (h : Fall n m r) : reachN other one n (conj m n r) = reachN one other m r := by
  rw [reach_cnt h1 h2 h, reach_cnt h2 h1 (conj_fall h), Sm_swap]
  refine Sm_congr fun q hq => Sm_congr fun z hz => ?_
  rw [conj_conj h hq]
  show (if _ then 1 else 0) = (if _ then 1 else 0)
  by_cases hx : z < nth other (nth r q) ∨ q < nth one (nth (conj m n r) z)
  · rw [if_pos hx, if_pos hx.symm]
  · rw [if_neg hx, if_neg fun hy => hx hy.symm]
/-! the least by sums -/
def stepN (one other : List Nat) (m : Nat) (best : List Nat) (r : List Nat) : List Nat := best.set r.sum (min (nth best r.sum) (reachN one other m r))
def tp (m n : Nat) (one other : List Nat) : List Nat := (rowsN n m).foldl (stepN one other m) (List.replicate (m * n + 1) (m * n))
structure IB (N : Nat) (P : Nat → Nat → Prop) (best : List Nat) : Prop where
  len : best.length = N + 1
  top : ∀ c, c ≤ N → nth best c ≤ N
  low : ∀ c, c ≤ N → ∀ r, P c r → nth best c ≤ r
  hit : ∀ c, c ≤ N → nth best c = N ∨ P c (nth best c)
theorem nth_set {L : List Nat} {i k x : Nat} (h : i < L.length) : nth (L.set i x) k = if k = i then x else nth L k := by
  unfold nth
  rw [List.getD_eq_getElem?_getD, List.getD_eq_getElem?_getD]
  by_cases hk : k = i
  · subst hk
    rw [if_pos rfl, List.getElem?_set_self h]
    rfl
  · rw [if_neg hk, List.getElem?_set_ne (by omega)]
theorem IB.step {N : Nat} {P : Nat → Nat → Prop} {best : List Nat} (h : IB N P best) {c0 r0 : Nat} (hc : c0 ≤ N) : IB N (fun c r => P c r ∨ (c = c0 ∧ r = r0)) (best.set c0 (min (nth best c0) r0)) := by
  have hl : c0 < best.length := by rw [h.len]; omega
  refine ⟨by simp [h.len], fun c hcN => ?_, fun c hcN r hr => ?_, fun c hcN => ?_⟩
  · rw [nth_set hl]
    split
    · have := h.top c0 hc; omega
    · exact h.top c hcN
  · rw [nth_set hl]
    split
    · rename_i e
      subst e
      rcases hr with hr | ⟨_, rfl⟩
      · have := h.low c hcN r hr; omega
      · omega
    · rename_i e
      rcases hr with hr | ⟨e', _⟩
      · exact h.low c hcN r hr
      · exact absurd e' e
  · rw [nth_set hl]
    split
    · rename_i e
      subst e
      by_cases hm : nth best c ≤ r0
      · rw [Nat.min_eq_left hm]
        rcases h.hit c hcN with h' | h'
        · exact .inl h'
        · exact .inr (.inl h')
      · rw [Nat.min_eq_right (by omega)]
        exact .inr (.inr ⟨rfl, rfl⟩)
    · rcases h.hit c hcN with h' | h'
      · exact .inl h'
      · exact .inr (.inl h')
theorem IB.imp {N : Nat} {P Q : Nat → Nat → Prop} {best : List Nat} (h : IB N P best) (hi : ∀ c r, P c r ↔ Q c r) : IB N Q best :=
  ⟨h.len, h.top, fun c hc r hr => h.low c hc r ((hi c r).2 hr), fun c hc => (h.hit c hc).imp id fun x => (hi _ _).1 x⟩
theorem IB.uniq {N : Nat} {P : Nat → Nat → Prop} {b1 b2 : List Nat} (h1 : IB N P b1) (h2 : IB N P b2) : b1 = b2 := by
  refine ext_nth (by rw [h1.len, h2.len]) fun c hc => ?_
  rw [h1.len] at hc
  apply Nat.le_antisymm
  · rcases h2.hit c (by omega) with h | h
    · rw [h]; exact h1.top c (by omega)
    · exact h1.low c (by omega) _ h
  · rcases h1.hit c (by omega) with h | h
    · rw [h]; exact h2.top c (by omega)
    · exact h2.low c (by omega) _ h
theorem IB.fold {N : Nat} {one other : List Nat} {m : Nat} : ∀ {rs : List (List Nat)} {P : Nat → Nat → Prop} {best : List Nat}, (∀ r ∈ rs, r.sum ≤ N) → IB N P best → IB N (fun c x => P c x ∨ ∃ r ∈ rs, r.sum = c ∧ reachN one other m r = x) (rs.foldl (stepN one other m) best)
  | [], P, best, _, h => h.imp fun c r => by simp
  | r :: rs, P, best, hr, h => by
    refine (IB.fold (fun r h => hr r (List.mem_cons_of_mem _ h)) (h.step (c0 := r.sum) (r0 := reachN one other m r) (hr r List.mem_cons_self))).imp fun c x => ?_
    constructor
    · rintro ((h | ⟨e1, e2⟩) | ⟨s, hs, e1, e2⟩)
      · exact .inl h
      · exact .inr ⟨r, List.mem_cons_self, e1.symm, e2.symm⟩
      · exact .inr ⟨s, List.mem_cons_of_mem _ hs, e1, e2⟩
    · rintro (h | ⟨s, hs, e1, e2⟩)
      · exact .inl (.inl h)
      · rcases List.mem_cons.mp hs with rfl | hs
        · exact .inl (.inr ⟨e1.symm, e2.symm⟩)
        · exact .inr ⟨s, hs, e1, e2⟩
theorem Sm_top {f : Nat → Nat} {n : Nat} : ∀ {m : Nat}, (∀ k, k < m → f k ≤ n) → Sm f m ≤ m * n
  | 0, _ => Nat.zero_le _
  | m + 1, h => by
    have h1 := Sm_top (f := f) (n := n) (m := m) fun k hk => h k (by omega)
    have h2 := h m (by omega)
    show Sm f m + f m ≤ (m + 1) * n
    rw [Nat.succ_mul]
    omega
theorem Fall.sum {n m : Nat} {r : List Nat} (h : Fall n m r) : r.sum ≤ m * n := by
  rw [sum_nth h.len]
  exact Sm_top h.top
theorem tp_ib (m n : Nat) (one other : List Nat) : IB (m * n) (fun c x => ∃ r, Fall n m r ∧ r.sum = c ∧ reachN one other m r = x) (tp m n one other) := by
  have h0 : IB (m * n) (fun _ _ => False) (List.replicate (m * n + 1) (m * n)) := by
    have e : ∀ c, c ≤ m * n → nth (List.replicate (m * n + 1) (m * n)) c = m * n := fun c hc => by
      rw [nth_eq (by simp; omega)]
      simp
    exact ⟨by simp, fun c hc => by rw [e c hc]; omega, fun c hc r hr => hr.elim, fun c hc => .inl (e c hc)⟩
  refine (IB.fold (one := one) (other := other) (m := m) (rs := rowsN n m) (fun r hr => ((mem_rows n).1 hr).sum) h0).imp fun c x => ?_
  constructor
  · rintro (h | ⟨r, hr, h⟩)
    · exact h.elim
    · exact ⟨r, (mem_rows n).1 hr, h⟩
  · rintro ⟨r, hr, h⟩
    exact .inr ⟨r, (mem_rows n).2 hr, h⟩
theorem tp_swap {m n : Nat} {one other : List Nat} (h1 : Sr m one) (h2 : Sr n other) : tp n m other one = tp m n one other := by
  have a := tp_ib m n one other
  have b := tp_ib n m other one
  rw [Nat.mul_comm n m] at b
  refine (b.imp fun c x => ?_).uniq a
  constructor
  · rintro ⟨r, hr, e1, e2⟩
    exact ⟨_, conj_fall hr, by rw [conj_sum hr, e1], by rw [reach_conj h2 h1 hr, e2]⟩
  · rintro ⟨r, hr, e1, e2⟩
    exact ⟨_, conj_fall hr, by rw [conj_sum hr, e1], by rw [reach_conj h1 h2 hr, e2]⟩
theorem tp_len (m n : Nat) (one other : List Nat) : (tp m n one other).length = m * n + 1 := (tp_ib m n one other).len
end K13
namespace K13
open L2 DL
/-- the law's own state: three whole numbers -/
abbrev sD (a b c : Int) : D := .lst [.int a, .int b, .int c]
def mx (n : Int) : Int := if 1 < n then n else 1
theorem mx_pos (n : Int) : 0 < mx n := by unfold mx; split <;> omega
def pickB (b : Int) : Int := (b * 48271 + 11) % 2147483647
def pickR (a b c many : Int) : Int := ((pickB b / 7 * 69621 + (c + 1) * 16807 + pickB b % 127) % 2147483629 + a % mx many) % mx many
theorem pick_eq (a b c many : Int) (h : many < 1073741824) : F__law_pick [sD a b c, .int many] = .ok ⟨false, .int (pickR a b c many), [sD (a / mx many) (pickB b) (c + 1), .non]⟩ := by
  have h0 : 0 < (if 1 < many then many else 1 : Int) := by split <;> omega
  have h1 : (if 1 < many then many else 1 : Int).natAbs < 1073741824 := by split <;> omega
  simp [F__law_pick, runBody, env0, m__law_pick, sSeq, sAsg, ofM, ofG, mTup, mCons, mNil, bnd, DL.ret, lift, R.bind, mOp, mCallB, mIxB, ownAt, dIx, noexc, hardR, hard, dInt, onI, dAdd, dMul, dMod, cMul, dTup, gUn, gsCons, gsNil, gSetIx, dSetIx, setOwn, Sl.with, atI, ixN, orBad, mVar, gSet, dMax, intsD, dFdiv, sRet, outsE, big, h0, h1, mx, pickR, pickB]
theorem pick_ok (a b c many : Int) (h : many < 1073741824) : ∃ r a' b' c', F__law_pick [sD a b c, .int many] = .ok ⟨false, .int r, [sD a' b' c', .non]⟩ ∧ 0 ≤ r ∧ r < mx many :=
  ⟨_, _, _, _, pick_eq a b c many h, Int.emod_nonneg _ (by have := mx_pos many; omega), Int.emod_lt_of_pos _ (mx_pos many)⟩
theorem one_ok (a b c : Int) (xs : List D) (h0 : 0 < xs.length) (h : xs.length < 1073741824) : ∃ r a' b' c', F__law_one [sD a b c, .lst xs] = .ok ⟨false, r, [sD a' b' c', .non]⟩ ∧ r ∈ xs := by
  obtain ⟨r, a', b', c', e, h1, h2⟩ := pick_ok a b c (xs.length : Nat) (by omega)
  have hm : mx (xs.length : Nat) = (xs.length : Nat) := by unfold mx; split <;> omega
  rw [hm] at h2
  have hr : r.toNat < xs.length := by omega
  refine ⟨xs[r.toNat], a', b', c', ?_, List.getElem_mem hr⟩
  have hat : atI xs r = some xs[r.toNat] := by
    unfold atI ixN
    rw [if_pos h1, if_pos h2]
    show xs[r.toNat]? = _
    rw [List.getElem?_eq_getElem hr]
  simp [F__law_one, runBody, env0, m__law_one, sRet, ofM, mOp, bnd, mVar, R.bind, mCallF, mOwnA, ownAt, mCons, mNil, mCallB, dLen, hardR, hard, DL.ret, lift, e, setOuts, setOwn, Sl.with, noexc, dIx, hat, orBad, outsE]
end K13
namespace K13
open L2 DL
theorem range_get {lo : Int} {n i : Nat} {d : D} (h : (rangeD lo n)[i]? = some d) : i < n ∧ d = .int (lo + (i : Nat)) := by
  unfold rangeD at h
  rw [List.getElem?_map] at h
  by_cases hi : i < n
  · rw [List.getElem?_range hi] at h
    cases h
    exact ⟨hi, rfl⟩
  · rw [List.getElem?_eq_none (by simpa using hi)] at h
    cases h
theorem draw_turn (a b c : Int) (n i : Nat) (L : List Nat) (s3 s4 : Sl) (hL : L.length = i + 1) (hi : i < n) (hn : n ≤ 100) : ∃ a' b' c' m s3' s4', b0__law_draw_stair [.bo (sD a b c), .sh (.int n), .ow (.lst (nLs L)), .sh (.int (0 + (i : Nat))), s4] = .nx [.bo (sD a' b' c'), .sh (.int n), .ow (.lst (nLs (L ++ [min n (max (i + 1) (nth L i) + m)]))), s3', s4'] := by
  obtain ⟨r, a', b', c', e, hr⟩ := one_ok a b c [.int 0, .int 0, .int 1, .int 1, .int 2, .int 3] (by decide) (by decide)
  obtain ⟨m, rfl⟩ : ∃ m : Nat, r = .int m := by
    simp only [List.mem_cons, List.not_mem_nil, or_false] at hr
    rcases hr with h | h | h | h | h | h
    · exact ⟨0, h⟩
    · exact ⟨0, h⟩
    · exact ⟨1, h⟩
    · exact ⟨1, h⟩
    · exact ⟨2, h⟩
    · exact ⟨3, h⟩
  refine ⟨a', b', c', m, .sh (.int (0 + (i : Nat))), .sh (.int (max ((i : Int) + 1) (nth L i : Nat))), ?_⟩
  have hl := at_l (L := L) (by omega)
  rw [hL, Nat.add_sub_cancel] at hl
  have hb : L.length < big := lt_big (by omega)
  have e1 : ∀ x y : Int, (if x < y then y else x) = max x y := fun x y => by split <;> omega
  have e2 : ∀ x y : Int, (if y < x then y else x) = min x y := fun x y => by split <;> omega
  have e3 : dLst [.int 0, .int 0, .int 1, .int 1, .int 2, .int 3] = .ok (.lst [.int 0, .int 0, .int 1, .int 1, .int 2, .int 3]) := lst_le (by decide)
  simp [b0__law_draw_stair, sSeq, sAsg, ofM, ofG, mCons, mNil, bnd, DL.ret, lift, R.bind, mOp, mCallB, mIxB, ownAt, dIx, noexc, hardR, hard, onI, dAdd, setOwn, Sl.with, mVar, gSet, dMax, dMin, mUn, dNeg, hl, orBad, sApp, mCallF, mOwnA, mLst, e3, e, setOuts, hb, e1, e2, nLs_app, nLs_one, nI]
  omega
theorem draw_loop (a b c : Int) (n : Nat) (hn : n ≤ 100) : ∃ s3 s4 L a' b' c', forL (gSet 3) b0__law_draw_stair (rangeD 0 n) [.bo (sD a b c), .sh (.int n), .ow (.lst (nLs [0])), .no, .no] = .nx [.bo (sD a' b' c'), .sh (.int n), .ow (.lst (nLs L)), s3, s4] ∧ Sr n L := by
  have hlen : (rangeD 0 n).length = n := by unfold rangeD; rw [List.length_map, List.length_range]
  obtain ⟨Γ', e, s3, s4, a', b', c', L, rfl, h1, h2, h3, h4, h5⟩ := forL_inv (g := gSet 3) (body := b0__law_draw_stair) (ds := rangeD 0 n) (Γ := [.bo (sD a b c), .sh (.int n), .ow (.lst (nLs [0])), .no, .no])
    (fun i Γ => ∃ s3 s4 a' b' c' L, Γ = [.bo (sD a' b' c'), .sh (.int n), .ow (.lst (nLs L)), s3, s4] ∧ L.length = i + 1 ∧ nth L 0 = 0 ∧ (∀ k, k < i → nth L k ≤ nth L (k + 1)) ∧ (∀ k, k ≤ i → k ≤ n → k ≤ nth L k) ∧ (∀ k, k ≤ i → nth L k ≤ n)) ⟨.no, .no, a, b, c, [0], rfl, rfl, rfl, fun k h => by omega, fun k h _ => by omega, fun k h => by
        have : k = 0 := by omega
        subst this
        exact Nat.zero_le _⟩ fun i d Γ hd ⟨s3, s4, a', b', c', L, hΓ, hL, h0, hu, hlo, ht⟩ => by
      subst hΓ
      obtain ⟨hi, rfl⟩ := range_get hd
      obtain ⟨a2, b2, c2, m, t3, t4, e⟩ := draw_turn a' b' c' n i L s3 s4 hL hi hn
      have key : ∀ k, k ≤ i → nth (L ++ [min n (max (i + 1) (nth L i) + m)]) k = nth L k := fun k hk => nth_append_left (by omega)
      have last : nth (L ++ [min n (max (i + 1) (nth L i) + m)]) (i + 1) = min n (max (i + 1) (nth L i) + m) := by
        rw [← hL]; exact nth_append_last
      refine ⟨_, _, rfl, e, t3, t4, a2, b2, c2, _, rfl, by simp [hL], ?_, fun k hk => ?_, fun k hk hkn => ?_, fun k hk => ?_⟩
      · rw [key 0 (by omega), h0]
      · by_cases h : k < i
        · rw [key k (by omega), key (k + 1) (by omega)]; exact hu k h
        · have : k = i := by omega
          subst this
          rw [key k (by omega), last]
          have := ht k (by omega)
          omega
      · by_cases h : k ≤ i
        · rw [key k h]; exact hlo k h hkn
        · have : k = i + 1 := by omega
          subst this
          rw [last]; omega
      · by_cases h : k ≤ i
        · rw [key k h]; exact ht k h
        · have : k = i + 1 := by omega
          subst this
          rw [last]; omega
  rw [hlen] at h1 h3 h4 h5
  exact ⟨s3, s4, L, a', b', c', e, h1, h2, h3, fun k hk => h4 k hk hk, h5⟩
theorem draw_ok (a b c : Int) (n : Nat) (hn : n ≤ 100) : ∃ L a' b' c', F__law_draw_stair [sD a b c, .int n] = .ok ⟨true, .lst (nLs L), [sD a' b' c', .non]⟩ ∧ Sr n L := by
  obtain ⟨s3, s4, L, a', b', c', e, h1⟩ := draw_loop a b c n hn
  refine ⟨L, a', b', c', ?_, h1⟩
  have hr : mRange1 (mCons (mVar 1) mNil) [.bo (sD a b c), .sh (.int n), .ow (.lst (nLs [0])), .no, .no] = .ok (rangeD 0 n, [.bo (sD a b c), .sh (.int n), .ow (.lst (nLs [0])), .no, .no]) := by
    have := range1_m (a := mCons (mVar 1) mNil) (Γ := [.bo (sD a b c), .sh (.int n), .ow (.lst (nLs [0])), .no, .no]) (j := n) rfl (by omega) (by omega)
    rwa [Int.toNat_natCast] at this
  refine run_rn (Γ := [.bo (sD a' b' c'), .sh (.int n), .no, s3, s4]) (seq_nx (asg_nx (d := .lst (nLs [0])) (Γ1 := [.bo (sD a b c), .sh (.int n), .no, .no, .no]) rfl rfl) (seq_nx (for_eq hr e) rfl)) rfl
end K13
namespace K13
open L2 DL
/-! the own layout of two places -/
def pairsN (L : List Nat) (n : Nat) : List (Nat × Nat) := ((List.range (n * n)).filter fun k => !decide (k / n = k % n) && decide (k % n < nth L (k / n + 1))).map fun k => (k / n, k % n)
def prD (p : Nat × Nat) : D := .tup [nI p.1, nI p.2]
theorem mul9 {m n a b : Nat} (h1 : m ≤ a) (h2 : n ≤ b) : m * n ≤ a * b := Nat.mul_le_mul h1 h2
theorem tup2 (a b : D) : dTup [a, b] = .ok (.tup [a, b]) := tup_le (by show 2 ≤ 16777216; omega)
theorem pairs_ok (L : List Nat) (n : Nat) (hL : L.length = n + 1) (hn : n ≤ 100) (h0 : 0 < n) : F__law_place_pairs [.lst (nLs L)] = .ok ⟨true, .lst ((pairsN L n).map prD), [.non]⟩ := by
  have hm : n * n ≤ 100 * 100 := mul9 hn hn
  have key := lcL_fm (vs := [2]) (g := gSet 2) (t := (mAnd (mT (mOp dNe (mOp dFdiv (mVar 2) (mVar 1)) (mOp dMod (mVar 2) (mVar 1)))) (mT (mOp dLt (mOp dMod (mVar 2) (mVar 1)) (mOp dIx (mVar 0) (mOp dAdd (mOp dFdiv (mVar 2) (mVar 1)) (ret (.int 1)))))))) (e := e0__law_place_pairs) (Γ := [.sh (.lst (nLs L)), .sh (nI n), .no]) nI (fun k => !decide (k / n = k % n) && decide (k % n < nth L (k / n + 1))) (fun k => prD (k / n, k % n)) (L := List.range (n * n)) fun k hk => by
      rw [List.mem_range] at hk
      have hq : k / n < n := Nat.div_lt_of_lt_mul hk
      refine ⟨[.sh (.lst (nLs L)), .sh (nI n), .sh (nI k)], [.sh (.lst (nLs L)), .sh (nI n), .sh (nI k)], rfl, ?_, fun _ => ⟨[.sh (.lst (nLs L)), .sh (nI n), .sh (nI k)], ?_, rfl⟩, fun _ => rfl⟩
      · have t1 : mT (mOp dNe (mOp dFdiv (mVar 2) (mVar 1)) (mOp dMod (mVar 2) (mVar 1))) [.sh (.lst (nLs L)), .sh (nI n), .sh (nI k)] = .ok (!decide (k / n = k % n), [.sh (.lst (nLs L)), .sh (nI n), .sh (nI k)]) := by
          simp (disch := omega) only [mOp, mCallB, mCall, mUn, mT, mAnd, mOr, mNot, mTru, mIf, mCons, mNil, mTup, mLst, mIxB, mSeq, seqD, mRange1, mRange2, ownAt, bnd, mVar, DL.ret, lift, R.bind, noexc, hardR, hard, hardL, toB, orBad, Sl.with, List.getElem?_cons_zero, List.getElem?_cons_succ, List.length_cons, List.length_nil, List.set_cons_zero, List.set_cons_succ, wipeE_cons, wipeE_nil, if_true, Bool.false_eq_true, if_false, Bool.and_self, Bool.and_true, Bool.true_and, hard_n, lit0, lit1, lit2, lit10, add_n, max_n, min_n, lt_n, le_n, gt_n, ge_n, eq_n, ne_n, len_n, len_t, sum_n, or_n, sub_n, mul_n, fdiv_n, mod_n, ix_n, range1_n, range2_n, nLs_len]
        have t2 : (mT (mOp dLt (mOp dMod (mVar 2) (mVar 1)) (mOp dIx (mVar 0) (mOp dAdd (mOp dFdiv (mVar 2) (mVar 1)) (ret (.int 1)))))) [.sh (.lst (nLs L)), .sh (nI n), .sh (nI k)] = .ok (decide (k % n < nth L (k / n + 1)), [.sh (.lst (nLs L)), .sh (nI n), .sh (nI k)]) := by
          simp (disch := omega) only [mOp, mCallB, mCall, mUn, mT, mAnd, mOr, mNot, mTru, mIf, mCons, mNil, mTup, mLst, mIxB, mSeq, seqD, mRange1, mRange2, ownAt, bnd, mVar, DL.ret, lift, R.bind, noexc, hardR, hard, hardL, toB, orBad, Sl.with, List.getElem?_cons_zero, List.getElem?_cons_succ, List.length_cons, List.length_nil, List.set_cons_zero, List.set_cons_succ, wipeE_cons, wipeE_nil, if_true, Bool.false_eq_true, if_false, Bool.and_self, Bool.and_true, Bool.true_and, hard_n, lit0, lit1, lit2, lit10, add_n, max_n, min_n, lt_n, le_n, gt_n, ge_n, eq_n, ne_n, len_n, len_t, sum_n, or_n, sub_n, mul_n, fdiv_n, mod_n, ix_n, range1_n, range2_n, nLs_len]
        unfold mAnd
        simp only [bnd, t1, R.bind]
        cases !decide (k / n = k % n)
        · rfl
        · simp only [if_true, t2, Bool.true_and]
      · simp (disch := omega) only [e0__law_place_pairs, tup2, mOp, mCallB, mCall, mUn, mT, mAnd, mOr, mNot, mTru, mIf, mCons, mNil, mTup, mLst, mIxB, mSeq, seqD, mRange1, mRange2, ownAt, bnd, mVar, DL.ret, lift, R.bind, noexc, hardR, hard, hardL, toB, orBad, Sl.with, List.getElem?_cons_zero, List.getElem?_cons_succ, List.length_cons, List.length_nil, List.set_cons_zero, List.set_cons_succ, wipeE_cons, wipeE_nil, if_true, Bool.false_eq_true, if_false, Bool.and_self, Bool.and_true, Bool.true_and, hard_n, lit0, lit1, lit2, lit10, add_n, max_n, min_n, lt_n, le_n, gt_n, ge_n, eq_n, ne_n, len_n, len_t, sum_n, or_n, sub_n, mul_n, fdiv_n, mod_n, ix_n, range1_n, range2_n, nLs_len]
        rfl
  have hl : ((List.map (fun k => prD (k / n, k % n)) (List.filter (fun k => !decide (k / n = k % n) && decide (k % n < nth L (k / n + 1))) (List.range (n * n)))).length) ≤ n * n := by
    rw [List.length_map]
    exact Nat.le_trans (List.length_filter_le _ _) (by rw [List.length_range]; omega)
  refine (run_rn (Γ := [.sh (.lst (nLs L)), .sh (nI n), .no]) (seq_nx (Γ' := [.sh (.lst (nLs L)), .sh (nI n), .no]) (asg_nx (d := nI n) (Γ1 := [.sh (.lst (nLs L)), .no, .no]) ?_ rfl) (retN_rn (lc_m (ds := (List.range (n * n)).map nI) (Γ1 := [.sh (.lst (nLs L)), .sh (nI n), .no]) ?_ key (le_big (by omega))))) rfl).trans ?_
  · have e : (env0 N__law_place_pairs.length [false] [D.lst (nLs L)] : Env) = [Sl.sh (.lst (nLs L)), Sl.no, Sl.no] := rfl
    rw [e]
    simp (disch := omega) only [mOp, mCallB, mCall, mUn, mT, mAnd, mOr, mNot, mTru, mIf, mCons, mNil, mTup, mLst, mIxB, mSeq, seqD, mRange1, mRange2, ownAt, bnd, mVar, DL.ret, lift, R.bind, noexc, hardR, hard, hardL, toB, orBad, Sl.with, List.getElem?_cons_zero, List.getElem?_cons_succ, List.length_cons, List.length_nil, List.set_cons_zero, List.set_cons_succ, wipeE_cons, wipeE_nil, if_true, Bool.false_eq_true, if_false, Bool.and_self, Bool.and_true, Bool.true_and, hard_n, lit0, lit1, lit2, lit10, add_n, max_n, min_n, lt_n, le_n, gt_n, ge_n, eq_n, ne_n, len_n, len_t, sum_n, or_n, sub_n, mul_n, fdiv_n, mod_n, ix_n, range1_n, range2_n, nLs_len, hL, Nat.add_sub_cancel]
  · simp (disch := omega) only [mOp, mCallB, mCall, mUn, mT, mAnd, mOr, mNot, mTru, mIf, mCons, mNil, mTup, mLst, mIxB, mSeq, seqD, mRange1, mRange2, ownAt, bnd, mVar, DL.ret, lift, R.bind, noexc, hardR, hard, hardL, toB, orBad, Sl.with, List.getElem?_cons_zero, List.getElem?_cons_succ, List.length_cons, List.length_nil, List.set_cons_zero, List.set_cons_succ, wipeE_cons, wipeE_nil, if_true, Bool.false_eq_true, if_false, Bool.and_self, Bool.and_true, Bool.true_and, hard_n, lit0, lit1, lit2, lit10, add_n, max_n, min_n, lt_n, le_n, gt_n, ge_n, eq_n, ne_n, len_n, len_t, sum_n, or_n, sub_n, mul_n, fdiv_n, mod_n, ix_n, range1_n, range2_n, nLs_len]
  · unfold pairsN
    rw [List.map_map]
    rfl
def plainD (n : Nat) (doors : D) : D := .dK [(.inr "rooms", .lst ((List.range n).map fun k => .str (toString ((k + 1 : Nat) : Int)))), (.inr "beds", .lst (nLs (List.replicate n 1))), (.inr "doors", doors)]
theorem str_n {k : Nat} (h : k ≤ 1000) : dStr [nI k] = .ok (.str (toString (k : Int))) := by
  unfold dStr nI
  dsimp only
  rw [if_pos]
  rw [Int.natAbs_natCast]
  exact Nat.lt_of_le_of_lt (Nat.log2_le_self k) (by omega)
theorem plain_ok (n : Nat) (doors : D) (hn : n ≤ 100) : F__law_plain_w [nI n, doors] = .ok ⟨true, plainD n doors, [.non, .non]⟩ := by
  have key := lcL_mm (vs := [2]) (g := gSet 2) (e := e0__law_plain_w) (Γ := [.sh (nI n), .sh doors, .no]) nI (fun k => .str (toString ((k + 1 : Nat) : Int))) (L := List.range n) fun k hk => by
      rw [List.mem_range] at hk
      refine ⟨[.sh (nI n), .sh doors, .sh (nI k)], [.sh (nI n), .sh doors, .sh (nI k)], rfl, ?_, rfl⟩
      simp (disch := omega) only [e0__law_plain_w, mOp, mCallB, mCall, mUn, mT, mAnd, mOr, mNot, mTru, mIf, mCons, mNil, mTup, mLst, mIxB, mSeq, seqD, mRange1, mRange2, ownAt, bnd, mVar, DL.ret, lift, R.bind, noexc, hardR, hard, hardL, toB, orBad, Sl.with, List.getElem?_cons_zero, List.getElem?_cons_succ, List.length_cons, List.length_nil, List.set_cons_zero, List.set_cons_succ, wipeE_cons, wipeE_nil, if_true, Bool.false_eq_true, if_false, Bool.and_self, Bool.and_true, Bool.true_and, hard_n, lit0, lit1, lit2, lit10, add_n, max_n, min_n, lt_n, le_n, gt_n, ge_n, eq_n, ne_n, len_n, len_t, sum_n, or_n, sub_n, mul_n, fdiv_n, mod_n, ix_n, range1_n, range2_n, nLs_len, str_n]
  have k1 : mLc [2] (mRange1 (mCons (mVar 0) mNil)) (gSet 2) (ret true) e0__law_plain_w [.sh (nI n), .sh doors, .no] = .ok (.lst ((List.range n).map fun k => .str (toString ((k + 1 : Nat) : Int))), [.sh (nI n), .sh doors, .no]) :=
    lc_m (ds := (List.range n).map nI) (Γ1 := [.sh (nI n), .sh doors, .no]) (by simp (disch := omega) only [mOp, mCallB, mCall, mUn, mT, mAnd, mOr, mNot, mTru, mIf, mCons, mNil, mTup, mLst, mIxB, mSeq, seqD, mRange1, mRange2, ownAt, bnd, mVar, DL.ret, lift, R.bind, noexc, hardR, hard, hardL, toB, orBad, Sl.with, List.getElem?_cons_zero, List.getElem?_cons_succ, List.length_cons, List.length_nil, List.set_cons_zero, List.set_cons_succ, wipeE_cons, wipeE_nil, if_true, Bool.false_eq_true, if_false, Bool.and_self, Bool.and_true, Bool.true_and, hard_n, lit0, lit1, lit2, lit10, add_n, max_n, min_n, lt_n, le_n, gt_n, ge_n, eq_n, ne_n, len_n, len_t, sum_n, or_n, sub_n, mul_n, fdiv_n, mod_n, ix_n, range1_n, range2_n, nLs_len]) key (le_big (by simp; omega))
  have k2 : mOp dRep (mLst (mCons (ret (.int 1)) mNil)) (mVar 0) [.sh (nI n), .sh doors, .no] = .ok (.lst (nLs (List.replicate n 1)), [.sh (nI n), .sh doors, .no]) := by
    have e : dLst [nI 1] = .ok (.lst [nI 1]) := lst_le (by show 1 ≤ 16777216; omega)
    simp (disch := omega) only [mOp, mCallB, mCall, mUn, mT, mAnd, mOr, mNot, mTru, mIf, mCons, mNil, mTup, mLst, mIxB, mSeq, seqD, mRange1, mRange2, ownAt, bnd, mVar, DL.ret, lift, R.bind, noexc, hardR, hard, hardL, toB, orBad, Sl.with, List.getElem?_cons_zero, List.getElem?_cons_succ, List.length_cons, List.length_nil, List.set_cons_zero, List.set_cons_succ, wipeE_cons, wipeE_nil, if_true, Bool.false_eq_true, if_false, Bool.and_self, Bool.and_true, Bool.true_and, hard_n, lit0, lit1, lit2, lit10, add_n, max_n, min_n, lt_n, le_n, gt_n, ge_n, eq_n, ne_n, len_n, len_t, sum_n, or_n, sub_n, mul_n, fdiv_n, mod_n, ix_n, range1_n, range2_n, nLs_len, e, rep_n]
  refine run_rn (Γ := [.sh (nI n), .sh doors, .no]) (retN_rn ?_) rfl
  have e : (env0 N__law_plain_w.length [false, false] [nI n, doors] : Env) = [Sl.sh (nI n), Sl.sh doors, Sl.no] := rfl
  rw [e]
  simp only [mDict, mPs, mPs0, bnd, R.bind, DL.ret, k1, k2, mVar, List.getElem?_cons_succ, List.getElem?_cons_zero, lift]
  rfl
def placeD (L : List Nat) (n : Nat) : D := plainD n (.lst [.lst ((pairsN L n).map prD)])
theorem place_ok (L : List Nat) (n : Nat) (hL : L.length = n + 1) (hn : n ≤ 100) (h0 : 0 < n) : F__law_place_w [.lst [.lst (nLs L)]] = .ok ⟨true, placeD L n, [.non]⟩ := by
  have e : (env0 N__law_place_w.length [false] [D.lst [.lst (nLs L)]] : Env) = [Sl.sh (.lst [.lst (nLs L)]), Sl.no] := rfl
  have hz : dIx (.lst [.lst (nLs L)]) (nI 0) = .ok (.lst (nLs L)) := rfl
  have k1 : mLc [1] (mSeq (mVar 0)) (gSet 1) (ret true) e0__law_place_w [Sl.sh (.lst [.lst (nLs L)]), Sl.no] = .ok (.lst [.lst ((pairsN L n).map prD)], [Sl.sh (.lst [.lst (nLs L)]), Sl.no]) := by
    refine lc_m (ds := [.lst (nLs L)]) (Γ1 := [Sl.sh (.lst [.lst (nLs L)]), Sl.no]) rfl ?_ (le_big (by simp))
    exact lcL_mm (vs := [1]) (g := gSet 1) (e := e0__law_place_w) (Γ := [Sl.sh (.lst [.lst (nLs L)]), Sl.no]) id (fun _ => .lst ((pairsN L n).map prD)) (L := [.lst (nLs L)]) fun a ha => by
      rw [List.mem_singleton] at ha
      subst ha
      refine ⟨[Sl.sh (.lst [.lst (nLs L)]), Sl.sh (.lst (nLs L))], [Sl.sh (.lst [.lst (nLs L)]), Sl.sh (.lst (nLs L))], rfl, ?_, rfl⟩
      exact callF_m (r := ⟨true, .lst ((pairsN L n).map prD), [.non]⟩) (ds := [.lst (nLs L)]) (Γ1 := [Sl.sh (.lst [.lst (nLs L)]), Sl.sh (.lst (nLs L))]) rfl (pairs_ok L n hL hn h0)
  refine run_rn (Γ := [Sl.sh (.lst [.lst (nLs L)]), Sl.no]) (retN_rn (callN_m (ds := [nI n, .lst [.lst ((pairsN L n).map prD)]]) (o := [.non, .non]) (Γ1 := [Sl.sh (.lst [.lst (nLs L)]), Sl.no]) ?_ (plain_ok n _ hn))) rfl
  rw [e]
  have k2 : mOp dSub (mCallB dLen (mCons (mOp dIx (mVar 0) (ret (.int 0))) mNil)) (ret (.int 1)) [Sl.sh (.lst [.lst (nLs L)]), Sl.no] = .ok (nI n, [Sl.sh (.lst [.lst (nLs L)]), Sl.no]) := by
    simp (disch := omega) only [mOp, mCallB, mCall, mUn, mT, mAnd, mOr, mNot, mTru, mIf, mCons, mNil, mTup, mLst, mIxB, mSeq, seqD, mRange1, mRange2, ownAt, bnd, mVar, DL.ret, lift, R.bind, noexc, hardR, hard, hardL, toB, orBad, Sl.with, List.getElem?_cons_zero, List.getElem?_cons_succ, List.length_cons, List.length_nil, List.set_cons_zero, List.set_cons_succ, wipeE_cons, wipeE_nil, if_true, Bool.false_eq_true, if_false, Bool.and_self, Bool.and_true, Bool.true_and, hard_n, lit0, lit1, lit2, lit10, add_n, max_n, min_n, lt_n, le_n, gt_n, ge_n, eq_n, ne_n, len_n, len_t, sum_n, or_n, sub_n, mul_n, fdiv_n, mod_n, ix_n, range1_n, range2_n, nLs_len, hz, hL, Nat.add_sub_cancel]
  exact cons_m k2 (cons_m k1 rfl)
end K13
namespace K13
open L2 DL
def zI (L : List Nat) : List Int := L.map fun (k : Nat) => (k : Int)
def nL (L : List Nat) : D := .lst (nLs L)
theorem nsForL_rel {α σ : Type} {g : GM} {b : NM} (c : α → D) (step : σ → α → σ) (P : σ → List (List Int) → Env → Prop) : ∀ {L : List α} {s : σ} {rows : List (List Int)} {Γ : Env}, P s rows Γ → (∀ a ∈ L, ∀ s rows Γ, P s rows Γ → ∃ Γ1 rows2 Γ2, g (c a) Γ = .ok Γ1 ∧ b rows Γ1 = some (rows2, Γ2) ∧ P (step s a) rows2 Γ2) → ∃ rows' Γ', nsForL g b (L.map c) rows Γ = some (rows', Γ') ∧ P (L.foldl step s) rows' Γ'
  | [], s, rows, Γ, h0, _ => ⟨rows, Γ, rfl, h0⟩
  | a :: L, s, rows, Γ, h0, h => by
    obtain ⟨Γ1, rows2, Γ2, h1, h2, h3⟩ := h a List.mem_cons_self s rows Γ h0
    obtain ⟨rows', Γ', e, h4⟩ := nsForL_rel c step P h3 fun x hx => h x (List.mem_cons_of_mem _ hx)
    refine ⟨rows', Γ', ?_, h4⟩
    rw [List.map_cons]
    unfold nsForL
    simp only [h1, h2, Option.bind]
    exact e
theorem rowL_rel {α σ : Type} {g : GM} {t : List Int → Env → Option (List Int × Env)} (c : α → D) (step : σ → α → σ) (P : σ → List Int → Env → Prop) : ∀ {L : List α} {s : σ} {row : List Int} {Γ : Env}, P s row Γ → (∀ a ∈ L, ∀ s row Γ, P s row Γ → ∃ Γ1 row2 Γ2, g (c a) Γ = .ok Γ1 ∧ t row Γ1 = some (row2, Γ2) ∧ P (step s a) row2 Γ2) → ∃ row' Γ', rowL g t (L.map c) row Γ = some (row', Γ') ∧ P (L.foldl step s) row' Γ'
  | [], s, row, Γ, h0, _ => ⟨row, Γ, rfl, h0⟩
  | a :: L, s, row, Γ, h0, h => by
    obtain ⟨Γ1, row2, Γ2, h1, h2, h3⟩ := h a List.mem_cons_self s row Γ h0
    obtain ⟨row', Γ', e, h4⟩ := rowL_rel c step P h3 fun x hx => h x (List.mem_cons_of_mem _ hx)
    refine ⟨row', Γ', ?_, h4⟩
    rw [List.map_cons]
    unfold rowL
    simp only [h1, h2, Option.bind]
    exact e
/-! what the layout is, in plain numbers -/
def rowStep (c : Nat → Bool) (w : Nat → Nat) (r : List Nat) (k : Nat) : List Nat := if c k = true then r.set k (nth r k ||| w k) else r
def webStep (pl : Nat → Nat) (s N : Nat) (r : List Nat) (p : Nat × Nat) : List Nat := (List.range N).foldl (rowStep (fun k => decide (pl k = p.1)) fun k => 2 ^ (k + p.2 * s - p.1 * s)) r
def nearN (m n : Nat) (one other : List Nat) : List Nat := (pairsN other n).foldl (webStep (· % n) 1 (m * n)) ((pairsN one m).foldl (webStep (· / n) n (m * n)) ((List.range (m * n)).map (2 ^ ·)))
def houseD (m n : Nat) (one other : List Nat) : D := .dK [(.inr "kinds", .lst [.str "k"]), (.inr "prices", .lst [nI 1]), (.inr "webs", .lst [placeD one m, placeD other n])]
/-! stage 1: words, beds, places -/
abbrev G2 (h : D) (ws bs ps s5 s6 s14 : Sl) : Env := [.sh h, ws, bs, ps, .sh (nI 1), s5, s6, .no, .no, .no, .no, .no, .no, .no, s14]
abbrev G1 (h : D) (ws bs ps s5 s6 : Sl) : Env := G2 h ws bs ps s5 s6 .no
theorem rooms_ix (n : Nat) (d : D) : dIx (plainD n d) (.str "rooms") = .ok (.lst ((List.range n).map fun k => .str (toString ((k + 1 : Nat) : Int)))) := rfl
theorem beds_ix (n : Nat) (d : D) : dIx (plainD n d) (.str "beds") = .ok (.lst (nLs (List.replicate n 1))) := rfl
theorem doors_ix (n : Nat) (d : D) : dIx (plainD n d) (.str "doors") = .ok d := rfl
theorem addT_le {xs ys : List D} (h : xs.length + ys.length ≤ 16777216) : dAdd (.tup xs) (.tup ys) = .ok (.tup (xs ++ ys)) := by
  unfold dAdd
  exact if_pos h
theorem rep_get {n k x : Nat} (h : k < n) : nth (List.replicate n x) k = x := by
  rw [nth_eq (by simpa using h)]
  simp
theorem rep_eq {n x : Nat} : (List.range n).map (fun _ => x) = List.replicate n x := by
  rw [List.map_const', List.length_range]
theorem b3_ok (h doors : D) (a n : Nat) (Ws : List (List D)) (Pl : List (List Nat)) (s6 : Sl) (hW : Ws.length = a) (hP : Pl.length = a) (c : Nat) (hc : c ≤ 100) (h5 : ∀ x ∈ Ws, x.length ≤ c) (h6 : ∀ x ∈ Pl, x.length ≤ 5) (hn : 0 < n) (hn2 : n ≤ 100) (hb : a * n ≤ 1000) : ∃ Ws' : List (List D), Ws'.length = a * n ∧ (∀ x ∈ Ws', x.length ≤ c + 1) ∧
    b3__law_layout (G1 h (.sh (.lst (Ws.map .tup))) (.sh (nL (List.replicate a 1))) (.sh (.lst (Pl.map nL))) (.sh (plainD n doors)) s6) = .nx (G1 h (.sh (.lst (Ws'.map .tup))) (.sh (nL (List.replicate (a * n) 1))) (.sh (.lst (((List.range (a * n)).map fun k => Pl.getD (k / n) [] ++ [k % n]).map nL))) (.sh (plainD n doors)) (.sh (nI n))) := by
  have ha : a ≤ 1000 := Nat.le_trans (Nat.le_mul_of_pos_right a hn) hb
  have hq : ∀ k, k < a * n → k / n < a := fun k hk => Nat.div_lt_of_lt_mul (by rwa [Nat.mul_comm] at hk)
  have c1 := lcL_mm (vs := [14]) (g := gSet 14) (e := e0__law_layout) (Γ := G1 h (.sh (.lst (Ws.map .tup))) (.sh (nL (List.replicate a 1))) (.sh (.lst (Pl.map nL))) (.sh (plainD n doors)) (.sh (nI n))) nI (fun k => D.tup (Ws.getD (k / n) [] ++ [.str (toString ((k % n + 1 : Nat) : Int))])) (L := List.range (a * n)) fun k hk => by
      rw [List.mem_range] at hk
      have hq := hq k hk
      have hr : k % n < n := Nat.mod_lt k hn
      refine ⟨G2 h (.sh (.lst (Ws.map .tup))) (.sh (nL (List.replicate a 1))) (.sh (.lst (Pl.map nL))) (.sh (plainD n doors)) (.sh (nI n)) (.sh (nI k)), G2 h (.sh (.lst (Ws.map .tup))) (.sh (nL (List.replicate a 1))) (.sh (.lst (Pl.map nL))) (.sh (plainD n doors)) (.sh (nI n)) (.sh (nI k)), rfl, ?_, rfl⟩
      have w1 : dIx (.lst (Ws.map .tup)) (nI (k / n)) = .ok (.tup (Ws.getD (k / n) [])) := ix_m (by rw [List.getD_eq_getElem?_getD, List.getElem?_eq_getElem (by omega)]; rfl)
      have w2 : dIx (.lst ((List.range n).map fun k => D.str (toString ((k + 1 : Nat) : Int)))) (nI (k % n)) = .ok (.str (toString ((k % n + 1 : Nat) : Int))) := ix_m (f := fun k : Nat => D.str (toString ((k + 1 : Nat) : Int))) (List.getElem?_range hr)
      have l1 : (Ws.getD (k / n) []).length ≤ c := by
        rw [List.getD_eq_getElem?_getD, List.getElem?_eq_getElem (by omega)]
        exact h5 _ (List.getElem_mem _)
      have w3 := addT_le (xs := Ws.getD (k / n) []) (ys := [.str (toString ((k % n + 1 : Nat) : Int))]) (by show _ + 1 ≤ _; omega)
      have w4 : ∀ x : D, dTup [x] = .ok (.tup [x]) := fun x => tup_le (by show 1 ≤ 16777216; omega)
      simp (disch := omega) only [e0__law_layout, mOp, mCallB, mCall, mUn, mT, mAnd, mOr, mNot, mTru, mIf, mCons, mNil, mTup, mLst, mIxB, mSeq, seqD, mRange1, mRange2, ownAt, bnd, mVar, DL.ret, lift, R.bind, noexc, hardR, hard, hardL, toB, orBad, Sl.with, List.getElem?_cons_zero, List.getElem?_cons_succ, List.length_cons, List.length_nil, List.set_cons_zero, List.set_cons_succ, wipeE_cons, wipeE_nil, if_true, Bool.false_eq_true, if_false, Bool.and_self, Bool.and_true, Bool.true_and, hard_n, lit0, lit1, lit2, lit10, add_n, max_n, min_n, lt_n, le_n, gt_n, ge_n, eq_n, ne_n, len_n, len_t, sum_n, or_n, sub_n, mul_n, fdiv_n, mod_n, ix_n, range1_n, range2_n, nLs_len, w1, rooms_ix, w2, w4, w3]
  have c2 := fun Ws' : List D => lcL_mm (vs := [14]) (g := gSet 14) (e := e1__law_layout) (Γ := G1 h (.sh (.lst Ws')) (.sh (nL (List.replicate a 1))) (.sh (.lst (Pl.map nL))) (.sh (plainD n doors)) (.sh (nI n))) nI (fun k => nI 1) (L := List.range (a * n)) fun k hk => by
      rw [List.mem_range] at hk
      have hq := hq k hk
      have hr : k % n < n := Nat.mod_lt k hn
      refine ⟨G2 h (.sh (.lst Ws')) (.sh (nL (List.replicate a 1))) (.sh (.lst (Pl.map nL))) (.sh (plainD n doors)) (.sh (nI n)) (.sh (nI k)), G2 h (.sh (.lst Ws')) (.sh (nL (List.replicate a 1))) (.sh (.lst (Pl.map nL))) (.sh (plainD n doors)) (.sh (nI n)) (.sh (nI k)), rfl, ?_, rfl⟩
      have w1 : dIx (nL (List.replicate a 1)) (nI (k / n)) = .ok (nI 1) := by
        show dIx (.lst (nLs (List.replicate a 1))) _ = _
        rw [ix_n (by simpa using hq), rep_get hq]
      have w2 : dIx (.lst (nLs (List.replicate n 1))) (nI (k % n)) = .ok (nI 1) := by rw [ix_n (by simpa using hr), rep_get hr]
      simp (disch := omega) only [e1__law_layout, mOp, mCallB, mCall, mUn, mT, mAnd, mOr, mNot, mTru, mIf, mCons, mNil, mTup, mLst, mIxB, mSeq, seqD, mRange1, mRange2, ownAt, bnd, mVar, DL.ret, lift, R.bind, noexc, hardR, hard, hardL, toB, orBad, Sl.with, List.getElem?_cons_zero, List.getElem?_cons_succ, List.length_cons, List.length_nil, List.set_cons_zero, List.set_cons_succ, wipeE_cons, wipeE_nil, if_true, Bool.false_eq_true, if_false, Bool.and_self, Bool.and_true, Bool.true_and, hard_n, lit0, lit1, lit2, lit10, add_n, max_n, min_n, lt_n, le_n, gt_n, ge_n, eq_n, ne_n, len_n, len_t, sum_n, or_n, sub_n, mul_n, fdiv_n, mod_n, ix_n, range1_n, range2_n, nLs_len, w1, beds_ix, w2]
  have c3 := fun (Ws' : List D) (bs : D) => lcL_mm (vs := [14]) (g := gSet 14) (e := e2__law_layout) (Γ := G1 h (.sh (.lst Ws')) (.sh bs) (.sh (.lst (Pl.map nL))) (.sh (plainD n doors)) (.sh (nI n))) nI (fun k => nL (Pl.getD (k / n) [] ++ [k % n])) (L := List.range (a * n)) fun k hk => by
      rw [List.mem_range] at hk
      have hq := hq k hk
      refine ⟨G2 h (.sh (.lst Ws')) (.sh bs) (.sh (.lst (Pl.map nL))) (.sh (plainD n doors)) (.sh (nI n)) (.sh (nI k)), G2 h (.sh (.lst Ws')) (.sh bs) (.sh (.lst (Pl.map nL))) (.sh (plainD n doors)) (.sh (nI n)) (.sh (nI k)), rfl, ?_, rfl⟩
      have w1 : dIx (.lst (Pl.map nL)) (nI (k / n)) = .ok (nL (Pl.getD (k / n) [])) := ix_m (by rw [List.getD_eq_getElem?_getD, List.getElem?_eq_getElem (by omega)]; rfl)
      have l1 : (Pl.getD (k / n) []).length ≤ 5 := by
        rw [List.getD_eq_getElem?_getD, List.getElem?_eq_getElem (by omega)]
        exact h6 _ (List.getElem_mem _)
      have w3 : dAddL (nL (Pl.getD (k / n) [])) (.lst [nI (k % n)]) = .ok (nL (Pl.getD (k / n) [] ++ [k % n])) := by
        unfold nL
        rw [addL_le (by rw [nLs_len]; show _ + 1 ≤ _; omega), nLs_app]
        rfl
      have w4 : ∀ x : D, dLst [x] = .ok (.lst [x]) := fun x => lst_le (by show 1 ≤ 16777216; omega)
      simp (disch := omega) only [e2__law_layout, mOp, mCallB, mCall, mUn, mT, mAnd, mOr, mNot, mTru, mIf, mCons, mNil, mTup, mLst, mIxB, mSeq, seqD, mRange1, mRange2, ownAt, bnd, mVar, DL.ret, lift, R.bind, noexc, hardR, hard, hardL, toB, orBad, Sl.with, List.getElem?_cons_zero, List.getElem?_cons_succ, List.length_cons, List.length_nil, List.set_cons_zero, List.set_cons_succ, wipeE_cons, wipeE_nil, if_true, Bool.false_eq_true, if_false, Bool.and_self, Bool.and_true, Bool.true_and, hard_n, lit0, lit1, lit2, lit10, add_n, max_n, min_n, lt_n, le_n, gt_n, ge_n, eq_n, ne_n, len_n, len_t, sum_n, or_n, sub_n, mul_n, fdiv_n, mod_n, ix_n, range1_n, range2_n, nLs_len, w1, w4, w3]
  refine ⟨(List.range (a * n)).map fun k => Ws.getD (k / n) [] ++ [.str (toString ((k % n + 1 : Nat) : Int))], by simp, fun x hx => ?_, ?_⟩
  · rw [List.mem_map] at hx
    obtain ⟨k, hk, rfl⟩ := hx
    rw [List.mem_range] at hk
    have hq := hq k hk
    rw [List.length_append, List.getD_eq_getElem?_getD, List.getElem?_eq_getElem (by omega)]
    have := h5 _ (List.getElem_mem (l := Ws) (n := k / n) (by omega))
    show _ + 1 ≤ c + 1
    simp only [Option.getD_some]
    omega
  · have s1 : sAsg (mCallB dLen (mCons (mOp dIx (mVar 5) (ret (.str "rooms"))) mNil)) (gSet 6) (G1 h (.sh (.lst (Ws.map .tup))) (.sh (nL (List.replicate a 1))) (.sh (.lst (Pl.map nL))) (.sh (plainD n doors)) s6) = .nx (G1 h (.sh (.lst (Ws.map .tup))) (.sh (nL (List.replicate a 1))) (.sh (.lst (Pl.map nL))) (.sh (plainD n doors)) (.sh (nI n))) := by
      refine asg_nx (d := nI n) (Γ1 := G1 h (.sh (.lst (Ws.map .tup))) (.sh (nL (List.replicate a 1))) (.sh (.lst (Pl.map nL))) (.sh (plainD n doors)) s6) ?_ rfl
      simp (disch := omega) only [mOp, mCallB, mCall, mUn, mT, mAnd, mOr, mNot, mTru, mIf, mCons, mNil, mTup, mLst, mIxB, mSeq, seqD, mRange1, mRange2, ownAt, bnd, mVar, DL.ret, lift, R.bind, noexc, hardR, hard, hardL, toB, orBad, Sl.with, List.getElem?_cons_zero, List.getElem?_cons_succ, List.length_cons, List.length_nil, List.set_cons_zero, List.set_cons_succ, wipeE_cons, wipeE_nil, if_true, Bool.false_eq_true, if_false, Bool.and_self, Bool.and_true, Bool.true_and, hard_n, lit0, lit1, lit2, lit10, add_n, max_n, min_n, lt_n, le_n, gt_n, ge_n, eq_n, ne_n, len_n, len_t, sum_n, or_n, sub_n, mul_n, fdiv_n, mod_n, ix_n, range1_n, range2_n, nLs_len, rooms_ix, List.length_map, List.length_range]
    have hN : (a * n) ≤ 1000 := hb
    refine seq_nx s1 (seq_nx (asg_nx (lc_m (ds := (List.range (a * n)).map nI) (Γ1 := G1 h (.sh (.lst (Ws.map .tup))) (.sh (nL (List.replicate a 1))) (.sh (.lst (Pl.map nL))) (.sh (plainD n doors)) (.sh (nI n))) ?_ c1 (le_big (by simp; omega))) rfl) (seq_nx (asg_nx (lc_m (ds := (List.range (a * n)).map nI) (Γ1 := G1 h (.sh (.lst ((List.range (a * n)).map fun k => D.tup (Ws.getD (k / n) [] ++ [.str (toString ((k % n + 1 : Nat) : Int))])))) (.sh (nL (List.replicate a 1))) (.sh (.lst (Pl.map nL))) (.sh (plainD n doors)) (.sh (nI n))) ?_ (c2 _) (le_big (by simp; omega))) rfl) ((asg_nx (lc_m (ds := (List.range (a * n)).map nI) (Γ1 := G1 h (.sh (.lst ((List.range (a * n)).map fun k => D.tup (Ws.getD (k / n) [] ++ [.str (toString ((k % n + 1 : Nat) : Int))])))) (.sh (.lst ((List.range (a * n)).map fun _ => nI 1))) (.sh (.lst (Pl.map nL))) (.sh (plainD n doors)) (.sh (nI n))) ?_ (c3 _ _) (le_big (by simp; omega))) rfl).trans ?_)))
    · simp (disch := omega) only [mOp, mCallB, mCall, mUn, mT, mAnd, mOr, mNot, mTru, mIf, mCons, mNil, mTup, mLst, mIxB, mSeq, seqD, mRange1, mRange2, ownAt, bnd, mVar, DL.ret, lift, R.bind, noexc, hardR, hard, hardL, toB, orBad, Sl.with, List.getElem?_cons_zero, List.getElem?_cons_succ, List.length_cons, List.length_nil, List.set_cons_zero, List.set_cons_succ, wipeE_cons, wipeE_nil, if_true, Bool.false_eq_true, if_false, Bool.and_self, Bool.and_true, Bool.true_and, hard_n, lit0, lit1, lit2, lit10, add_n, max_n, min_n, lt_n, le_n, gt_n, ge_n, eq_n, ne_n, len_n, len_t, sum_n, or_n, sub_n, mul_n, fdiv_n, mod_n, ix_n, range1_n, range2_n, nLs_len, List.length_map, hW]
    · simp (disch := omega) only [mOp, mCallB, mCall, mUn, mT, mAnd, mOr, mNot, mTru, mIf, mCons, mNil, mTup, mLst, mIxB, mSeq, seqD, mRange1, mRange2, ownAt, bnd, mVar, DL.ret, lift, R.bind, noexc, hardR, hard, hardL, toB, orBad, Sl.with, List.getElem?_cons_zero, List.getElem?_cons_succ, List.length_cons, List.length_nil, List.set_cons_zero, List.set_cons_succ, wipeE_cons, wipeE_nil, if_true, Bool.false_eq_true, if_false, Bool.and_self, Bool.and_true, Bool.true_and, hard_n, lit0, lit1, lit2, lit10, add_n, max_n, min_n, lt_n, le_n, gt_n, ge_n, eq_n, ne_n, len_n, len_t, sum_n, or_n, sub_n, mul_n, fdiv_n, mod_n, ix_n, range1_n, range2_n, nLs_len, List.length_map, List.length_range]
    · simp (disch := omega) only [mOp, mCallB, mCall, mUn, mT, mAnd, mOr, mNot, mTru, mIf, mCons, mNil, mTup, mLst, mIxB, mSeq, seqD, mRange1, mRange2, ownAt, bnd, mVar, DL.ret, lift, R.bind, noexc, hardR, hard, hardL, toB, orBad, Sl.with, List.getElem?_cons_zero, List.getElem?_cons_succ, List.length_cons, List.length_nil, List.set_cons_zero, List.set_cons_succ, wipeE_cons, wipeE_nil, if_true, Bool.false_eq_true, if_false, Bool.and_self, Bool.and_true, Bool.true_and, hard_n, lit0, lit1, lit2, lit10, add_n, max_n, min_n, lt_n, le_n, gt_n, ge_n, eq_n, ne_n, len_n, len_t, sum_n, or_n, sub_n, mul_n, fdiv_n, mod_n, ix_n, range1_n, range2_n, nLs_len, List.length_map, List.length_range]
    · have e1 : (List.range (a * n)).map (fun _ => nI 1) = nLs (List.replicate (a * n) 1) := by
        unfold nLs
        rw [List.map_replicate, List.map_const', List.length_range]
      rw [List.map_map, List.map_map, e1]
      rfl
end K13
namespace K13
open L2 DL
/-! stages 2 and 3: which words a word reaches -/
theorem zI_len (L : List Nat) : (zI L).length = L.length := by simp [zI]
theorem zI_at {L : List Nat} {k : Nat} (h : k < L.length) : atI (zI L) (k : Int) = some ((nth L k : Nat) : Int) := by
  unfold atI ixN
  rw [zI_len, if_pos (by omega), if_pos (by omega)]
  show (zI L)[((k : Nat) : Int).toNat]? = _
  rw [Int.toNat_natCast, zI, List.getElem?_map, nth_get h]
  rfl
theorem ixN_n {n k : Nat} (h : k < n) : ixN n (k : Int) = some k := by
  unfold ixN
  rw [if_pos (by omega), if_pos (by omega)]
  simp
theorem zI_set (L : List Nat) (k x : Nat) : (zI L).set k (x : Int) = zI (L.set k x) := by
  unfold zI
  rw [List.map_set]
theorem or_z (a b : Nat) : PySem.Builtin.bitOr (a : Int) (b : Int) = ((a ||| b : Nat) : Int) := by
  rw [bitOr_nn (by omega) (by omega)]
  rfl
abbrev placesD (n N : Nat) : D := .lst (((List.range N).map fun k => [k / n, k % n]).map nL)
/-- the environment of stage 3 -/
abbrev G3 (h ws bs : D) (n N s t : Nat) (s5 s6 s10 s11 s12 s14 : Sl) : Env := [.sh h, .sh ws, .sh bs, .sh (placesD n N), .sh (nI 1), s5, s6, .no, .sh (nI s), .sh (nI t), s10, s11, s12, .no, s14]
theorem place_ix {n N k t : Nat} (hk : k < N) (ht : t < 2) : (mOp dIx (mOp dIx (mVar 3) (mVar 14)) (mVar 9)) = (mOp dIx (mOp dIx (mVar 3) (mVar 14)) (mVar 9)) ∧ dIx (placesD n N) (nI k) = .ok (nL [k / n, k % n]) ∧ dIx (nL [k / n, k % n]) (nI t) = .ok (nI (if t = 0 then k / n else k % n)) := by
  refine ⟨rfl, ?_, ?_⟩
  · refine ix_m (f := nL) (a := [k / n, k % n]) ?_
    rw [List.getElem?_map, List.getElem?_range hk]
    rfl
  · have h := ix_n (L := [k / n, k % n]) (k := t) (by show t < 2; exact ht)
    refine Eq.trans h ?_
    by_cases h0 : t = 0
    · subst h0; rfl
    · have : t = 1 := by omega
      subst this; rfl
theorem rowT_ok (h ws bs : D) (n N s t i j k : Nat) (s5 s6 s10 : Sl) (r : List Nat) (hr : r.length = N) (hk : k < N) (ht : t < 2) (hN : N ≤ 100) (hs : s ≤ 100) (hj : j ≤ 100) (hle : (if t = 0 then k / n else k % n) = i → i * s ≤ k) :
    rowT (mT (mOp dEq (mOp dIx (mOp dIx (mVar 3) (mVar 14)) (mVar 9)) (mVar 11))) (mVar 14) (mOp dShl (ret (.int 1)) (mOp dAdd (mVar 14) (mOp dMul (mOp dSub (mVar 12) (mVar 11)) (mVar 8)))) (mVar 14) (zI r) (G3 h ws bs n N s t s5 s6 s10 (.sh (nI i)) (.sh (nI j)) (.sh (nI k)))
      = some (zI (rowStep (fun k => decide ((if t = 0 then k / n else k % n) = i)) (fun k => 2 ^ (k + j * s - i * s)) r k), G3 h ws bs n N s t s5 s6 s10 (.sh (nI i)) (.sh (nI j)) (.sh (nI k))) := by
  obtain ⟨_, p1, p2⟩ := place_ix (n := n) hk ht
  have tc : mT (mOp dEq (mOp dIx (mOp dIx (mVar 3) (mVar 14)) (mVar 9)) (mVar 11)) (G3 h ws bs n N s t s5 s6 s10 (.sh (nI i)) (.sh (nI j)) (.sh (nI k))) = .ok (decide ((if t = 0 then k / n else k % n) = i), G3 h ws bs n N s t s5 s6 s10 (.sh (nI i)) (.sh (nI j)) (.sh (nI k))) := by
    simp (disch := omega) only [mOp, mCallB, mCall, mUn, mT, mAnd, mOr, mNot, mTru, mIf, mCons, mNil, mTup, mLst, mIxB, mSeq, seqD, mRange1, mRange2, ownAt, bnd, mVar, DL.ret, lift, R.bind, noexc, hardR, hard, hardL, toB, orBad, Sl.with, List.getElem?_cons_zero, List.getElem?_cons_succ, List.length_cons, List.length_nil, List.set_cons_zero, List.set_cons_succ, wipeE_cons, wipeE_nil, if_true, Bool.false_eq_true, if_false, Bool.and_self, Bool.and_true, Bool.true_and, hard_n, lit0, lit1, lit2, lit10, add_n, max_n, min_n, lt_n, le_n, gt_n, ge_n, eq_n, ne_n, len_n, len_t, sum_n, or_n, sub_n, mul_n, fdiv_n, mod_n, ix_n, range1_n, range2_n, nLs_len, p1, p2]
  unfold rowT rowStep
  simp only [tc]
  by_cases hc : (if t = 0 then k / n else k % n) = i
  · have hle := hle hc
    have hjs : j * s ≤ 100 * 100 := mul9 hj hs
    have e1 : (mOp dShl (ret (.int 1)) (mOp dAdd (mVar 14) (mOp dMul (mOp dSub (mVar 12) (mVar 11)) (mVar 8)))) (G3 h ws bs n N s t s5 s6 s10 (.sh (nI i)) (.sh (nI j)) (.sh (nI k))) = .ok (nI (2 ^ (k + j * s - i * s)), G3 h ws bs n N s t s5 s6 s10 (.sh (nI i)) (.sh (nI j)) (.sh (nI k))) := by
      have a1 : dSub (nI j) (nI i) = .ok (.int ((j : Int) - i)) := rfl
      have a2 : dMul (.int ((j : Int) - i)) (nI s) = .ok (.int (((j : Int) - i) * s)) := by
        unfold dMul onI nI
        have c : cMul ((j : Int) - i) (s : Int) = true := by
          unfold cMul
          simp only [Bool.or_eq_true, decide_eq_true_eq]
          right
          omega
        simp only [c, if_true]
      have a3 : dAdd (nI k) (.int (((j : Int) - i) * s)) = .ok (nI (k + j * s - i * s)) := by
        show R.ok (D.int ((k : Int) + ((j : Int) - i) * s)) = R.ok (D.int ((k + j * s - i * s : Nat) : Int))
        congr 2
        rw [Int.sub_mul]
        have m1 : ((j * s : Nat) : Int) = (j : Int) * s := rfl
        have m2 : ((i * s : Nat) : Int) = (i : Int) * s := rfl
        rw [← m1, ← m2]
        omega
      have a4 : dShl (nI 1) (nI (k + j * s - i * s)) = .ok (nI (2 ^ (k + j * s - i * s))) := by
        rw [shl_n (by omega) (by omega), Nat.one_mul]
      simp (disch := omega) only [mOp, bnd, mVar, DL.ret, lift, R.bind, noexc, List.getElem?_cons_zero, List.getElem?_cons_succ, lit1, a1, a2, a3, a4]
    have e2 : mVar 14 (G3 h ws bs n N s t s5 s6 s10 (.sh (nI i)) (.sh (nI j)) (.sh (nI k))) = .ok (.int (k : Int), G3 h ws bs n N s t s5 s6 s10 (.sh (nI i)) (.sh (nI j)) (.sh (nI k))) := rfl
    have e3 : (mOp dShl (ret (.int 1)) (mOp dAdd (mVar 14) (mOp dMul (mOp dSub (mVar 12) (mVar 11)) (mVar 8)))) (G3 h ws bs n N s t s5 s6 s10 (.sh (nI i)) (.sh (nI j)) (.sh (nI k))) = .ok (.int ((2 ^ (k + j * s - i * s) : Nat) : Int), G3 h ws bs n N s t s5 s6 s10 (.sh (nI i)) (.sh (nI j)) (.sh (nI k))) := e1
    simp only [decide_eq_true hc, if_true, e2, zI_at (show k < r.length by omega), e3, zI_len, ixN_n (show k < r.length by omega), or_z, zI_set]
  · simp only [decide_eq_false hc, Bool.false_eq_true, if_false]
theorem rowStep_len (c : Nat → Bool) (w : Nat → Nat) (r : List Nat) (k : Nat) : (rowStep c w r k).length = r.length := by
  unfold rowStep
  split
  · rw [List.length_set]
  · rfl
theorem nsRow_ok (h : D) (ws : List D) (bs : D) (n N s t i j : Nat) (s5 s6 s14 : Sl) (r : List Nat) (hr : r.length = N) (hw : ws.length = N) (ht : t < 2) (hN : N ≤ 100) (hs : s ≤ 100) (hj : j ≤ 100) (hle : ∀ k, (if t = 0 then k / n else k % n) = i → i * s ≤ k) :
    ∃ s14', nsRow 13 (mVar 10) (mRange1 (mCons (mCallB dLen (mCons (mVar 1) mNil)) mNil)) (gSet 14) (rowT (mT (mOp dEq (mOp dIx (mOp dIx (mVar 3) (mVar 14)) (mVar 9)) (mVar 11))) (mVar 14) (mOp dShl (ret (.int 1)) (mOp dAdd (mVar 14) (mOp dMul (mOp dSub (mVar 12) (mVar 11)) (mVar 8)))) (mVar 14)) [zI r] (G3 h (.lst ws) bs n N s t s5 s6 (.sh (nI 0)) (.sh (nI i)) (.sh (nI j)) s14)
      = some ([zI (webStep (fun k => if t = 0 then k / n else k % n) s N r (i, j))], G3 h (.lst ws) bs n N s t s5 s6 (.sh (nI 0)) (.sh (nI i)) (.sh (nI j)) s14') := by
  obtain ⟨row', Γ', e, ⟨s14', rfl⟩, e2, _⟩ := rowL_rel (g := gSet 14) (t := rowT (mT (mOp dEq (mOp dIx (mOp dIx (mVar 3) (mVar 14)) (mVar 9)) (mVar 11))) (mVar 14) (mOp dShl (ret (.int 1)) (mOp dAdd (mVar 14) (mOp dMul (mOp dSub (mVar 12) (mVar 11)) (mVar 8)))) (mVar 14)) nI (rowStep (fun k => decide ((if t = 0 then k / n else k % n) = i)) (fun k => 2 ^ (k + j * s - i * s)))
    (fun r row Γ => (∃ s14', Γ = G3 h (.lst ws) bs n N s t s5 s6 (.sh (nI 0)) (.sh (nI i)) (.sh (nI j)) s14') ∧ row = zI r ∧ r.length = N) (L := List.range N) (s := r) (row := zI r) (Γ := G3 h (.lst ws) bs n N s t s5 s6 (.sh (nI 0)) (.sh (nI i)) (.sh (nI j)) s14) ⟨⟨_, rfl⟩, rfl, hr⟩ fun k hk r row Γ ⟨⟨x, hΓ⟩, hrow, hr⟩ => by
      subst hΓ hrow
      rw [List.mem_range] at hk
      refine ⟨_, _, _, rfl, rowT_ok h (.lst ws) bs n N s t i j k s5 s6 (.sh (nI 0)) r hr hk ht hN hs hj (hle k), ⟨_, rfl⟩, rfl, ?_⟩
      rw [rowStep_len]
      exact hr
  refine ⟨s14', ?_⟩
  subst e2
  have m1 : mVar 10 (G3 h (.lst ws) bs n N s t s5 s6 (.sh (nI 0)) (.sh (nI i)) (.sh (nI j)) s14) = .ok (.int 0, G3 h (.lst ws) bs n N s t s5 s6 (.sh (nI 0)) (.sh (nI i)) (.sh (nI j)) s14) := rfl
  have m2 : (G3 h (.lst ws) bs n N s t s5 s6 (.sh (nI 0)) (.sh (nI i)) (.sh (nI j)) s14).set 13 .no = G3 h (.lst ws) bs n N s t s5 s6 (.sh (nI 0)) (.sh (nI i)) (.sh (nI j)) s14 := rfl
  have m3 : mRange1 (mCons (mCallB dLen (mCons (mVar 1) mNil)) mNil) (G3 h (.lst ws) bs n N s t s5 s6 (.sh (nI 0)) (.sh (nI i)) (.sh (nI j)) s14) = .ok ((List.range N).map nI, G3 h (.lst ws) bs n N s t s5 s6 (.sh (nI 0)) (.sh (nI i)) (.sh (nI j)) s14) := by
    simp (disch := omega) only [mOp, mCallB, mCall, mUn, mT, mAnd, mOr, mNot, mTru, mIf, mCons, mNil, mTup, mLst, mIxB, mSeq, seqD, mRange1, mRange2, ownAt, bnd, mVar, DL.ret, lift, R.bind, noexc, hardR, hard, hardL, toB, orBad, Sl.with, List.getElem?_cons_zero, List.getElem?_cons_succ, List.length_cons, List.length_nil, List.set_cons_zero, List.set_cons_succ, wipeE_cons, wipeE_nil, if_true, Bool.false_eq_true, if_false, Bool.and_self, Bool.and_true, Bool.true_and, hard_n, lit0, lit1, lit2, lit10, add_n, max_n, min_n, lt_n, le_n, gt_n, ge_n, eq_n, ne_n, len_n, len_t, sum_n, or_n, sub_n, mul_n, fdiv_n, mod_n, ix_n, range1_n, range2_n, nLs_len, hw]
  have m4 : ixN ([zI r] : List (List Int)).length 0 = some 0 := rfl
  have m5 : 13 < (G3 h (.lst ws) bs n N s t s5 s6 (.sh (nI 0)) (.sh (nI i)) (.sh (nI j)) s14).length := by show 13 < 15; omega
  unfold nsRow
  simp only [m1, m4, m2, m3, if_pos m5, List.getElem?_cons_zero, e, List.set_cons_zero]
  rfl
end K13
namespace K13
open L2 DL
abbrev rowM : NM := nsRow 13 (mVar 10) (mRange1 (mCons (mCallB dLen (mCons (mVar 1) mNil)) mNil)) (gSet 14) (rowT (mT (mOp dEq (mOp dIx (mOp dIx (mVar 3) (mVar 14)) (mVar 9)) (mVar 11))) (mVar 14) (mOp dShl (ret (.int 1)) (mOp dAdd (mVar 14) (mOp dMul (mOp dSub (mVar 12) (mVar 11)) (mVar 8)))) (mVar 14))
theorem webStep_len (pl : Nat → Nat) (s N : Nat) (r : List Nat) (p : Nat × Nat) : (webStep pl s N r p).length = r.length := by
  unfold webStep
  generalize List.range N = ks
  induction ks generalizing r with
  | nil => rfl
  | cons k ks ih => rw [List.foldl_cons, ih, rowStep_len]
abbrev plF (n t : Nat) : Nat → Nat := fun k => if t = 0 then k / n else k % n
theorem doors_loop (h : D) (ws : List D) (bs : D) (n N s t : Nat) (s5 s6 s11 s12 s14 : Sl) (r : List Nat) (ps : List (Nat × Nat)) (hr : r.length = N) (hw : ws.length = N) (ht : t < 2) (hN : N ≤ 100) (hs : s ≤ 100) (hj : ∀ p ∈ ps, p.2 ≤ 100) (hle : ∀ k, plF n t k * s ≤ k) :
    ∃ s11' s12' s14', nsForL (gUn 2 (gsCons (gSet 11) (gsCons (gSet 12) gsNil))) rowM (ps.map prD) [zI r] (G3 h (.lst ws) bs n N s t s5 s6 (.sh (nI 0)) s11 s12 s14)
      = some ([zI (ps.foldl (webStep (plF n t) s N) r)], G3 h (.lst ws) bs n N s t s5 s6 (.sh (nI 0)) s11' s12' s14') := by
  obtain ⟨rows', Γ', e, ⟨x, y, z, rfl⟩, e2, _⟩ := nsForL_rel (g := gUn 2 (gsCons (gSet 11) (gsCons (gSet 12) gsNil))) (b := rowM) prD (webStep (plF n t) s N)
    (fun r rows Γ => (∃ s11' s12' s14', Γ = G3 h (.lst ws) bs n N s t s5 s6 (.sh (nI 0)) s11' s12' s14') ∧ rows = [zI r] ∧ r.length = N) (L := ps) (s := r) (rows := [zI r]) (Γ := G3 h (.lst ws) bs n N s t s5 s6 (.sh (nI 0)) s11 s12 s14) ⟨⟨_, _, _, rfl⟩, rfl, hr⟩ fun p hp r rows Γ ⟨⟨x, y, z, hΓ⟩, hrow, hr⟩ => by
      subst hΓ hrow
      obtain ⟨s14', e⟩ := nsRow_ok h ws bs n N s t p.1 p.2 s5 s6 z r hr hw ht hN hs (hj p hp) fun k hk => by have := hle k; rw [← hk]; exact this
      exact ⟨G3 h (.lst ws) bs n N s t s5 s6 (.sh (nI 0)) (.sh (nI p.1)) (.sh (nI p.2)) z, _, _, rfl, e, ⟨_, _, _, rfl⟩, rfl, by rw [webStep_len]; exact hr⟩
  subst e2
  exact ⟨x, y, z, e⟩
theorem webs_ix (m n : Nat) (one other : List Nat) : dIx (houseD m n one other) (.str "webs") = .ok (.lst [placeD one m, placeD other n]) := rfl
theorem kinds_ix (m n : Nat) (one other : List Nat) : dIx (houseD m n one other) (.str "kinds") = .ok (.lst [.str "k"]) := rfl
theorem prices_ix (m n : Nat) (one other : List Nat) : dIx (houseD m n one other) (.str "prices") = .ok (.lst [nI 1]) := rfl
theorem place_doors (L : List Nat) (n : Nat) : dIx (placeD L n) (.str "doors") = .ok (.lst [.lst ((pairsN L n).map prD)]) := rfl
theorem place_rooms (L : List Nat) (n : Nat) : dIx (placeD L n) (.str "rooms") = .ok (.lst ((List.range n).map fun k => .str (toString ((k + 1 : Nat) : Int)))) := rfl
theorem pairs_lt {L : List Nat} {n : Nat} (h0 : 0 < n) : ∀ p ∈ pairsN L n, p.2 < n := fun p hp => by
  unfold pairsN at hp
  rw [List.mem_map] at hp
  obtain ⟨k, _, rfl⟩ := hp
  exact Nat.mod_lt k h0
abbrev G4 (h : D) (ws : List D) (bs : D) (n N : Nat) (s5 s6 s8 s9 s10 s11 s12 s14 : Sl) : Env := [.sh h, .sh (.lst ws), .sh bs, .sh (placesD n N), .sh (nI 1), s5, s6, .no, s8, s9, s10, s11, s12, .no, s14]
abbrev turnM : NM := nsSeq (nsSet 8 (mOp dFdiv (mVar 8) (mCallB dLen (mCons (mOp dIx (mOp dIx (mOp dIx (mVar 0) (ret (.str "webs"))) (mVar 9)) (ret (.str "rooms"))) mNil)))) (nsFor (mRange1 (mCons (mVar 4) mNil)) (gSet 10) (nsFor (mSeq (mOp dIx (mOp dIx (mOp dIx (mOp dIx (mVar 0) (ret (.str "webs"))) (mVar 9)) (ret (.str "doors"))) (mVar 10))) (gUn 2 (gsCons (gSet 11) (gsCons (gSet 12) gsNil))) rowM))
theorem turn_ok (m n : Nat) (one other : List Nat) (ws : List D) (bs : D) (n' N s0 t q : Nat) (Lq : List Nat) (s5 s6 s10 s11 s12 s14 : Sl) (r : List Nat) (hr : r.length = N) (hw : ws.length = N) (ht : t < 2) (hN : N ≤ 100) (hs : s0 ≤ 100) (hq0 : 0 < q) (hq : q ≤ 100) (hle : ∀ k, plF n' t k * (s0 / q) ≤ k) (hwt : dIx (.lst [placeD one m, placeD other n]) (nI t) = .ok (placeD Lq q)) :
    ∃ s10' s11' s12' s14', turnM [zI r] (G4 (houseD m n one other) ws bs n' N s5 s6 (.sh (nI s0)) (.sh (nI t)) s10 s11 s12 s14)
      = some ([zI ((pairsN Lq q).foldl (webStep (plF n' t) (s0 / q) N) r)], G4 (houseD m n one other) ws bs n' N s5 s6 (.sh (nI (s0 / q))) (.sh (nI t)) s10' s11' s12' s14') := by
  obtain ⟨x, y, z, e⟩ := doors_loop (houseD m n one other) ws bs n' N (s0 / q) t s5 s6 s11 s12 s14 r (pairsN Lq q) hr hw ht hN (Nat.le_trans (Nat.div_le_self _ _) hs) (fun p hp => by have := pairs_lt hq0 p hp; omega) hle
  refine ⟨.sh (nI 0), x, y, z, ?_⟩
  have m1 : mOp dFdiv (mVar 8) (mCallB dLen (mCons (mOp dIx (mOp dIx (mOp dIx (mVar 0) (ret (.str "webs"))) (mVar 9)) (ret (.str "rooms"))) mNil)) (G4 (houseD m n one other) ws bs n' N s5 s6 (.sh (nI s0)) (.sh (nI t)) s10 s11 s12 s14) = .ok (nI (s0 / q), G4 (houseD m n one other) ws bs n' N s5 s6 (.sh (nI s0)) (.sh (nI t)) s10 s11 s12 s14) := by
    simp (disch := omega) only [mOp, mCallB, mCall, mUn, mT, mAnd, mOr, mNot, mTru, mIf, mCons, mNil, mTup, mLst, mIxB, mSeq, seqD, mRange1, mRange2, ownAt, bnd, mVar, DL.ret, lift, R.bind, noexc, hardR, hard, hardL, toB, orBad, Sl.with, List.getElem?_cons_zero, List.getElem?_cons_succ, List.length_cons, List.length_nil, List.set_cons_zero, List.set_cons_succ, wipeE_cons, wipeE_nil, if_true, Bool.false_eq_true, if_false, Bool.and_self, Bool.and_true, Bool.true_and, hard_n, lit0, lit1, lit2, lit10, add_n, max_n, min_n, lt_n, le_n, gt_n, ge_n, eq_n, ne_n, len_n, len_t, sum_n, or_n, sub_n, mul_n, fdiv_n, mod_n, ix_n, range1_n, range2_n, nLs_len, webs_ix, hwt, place_rooms, List.length_map, List.length_range]
  have m2 : nsSet 8 (mOp dFdiv (mVar 8) (mCallB dLen (mCons (mOp dIx (mOp dIx (mOp dIx (mVar 0) (ret (.str "webs"))) (mVar 9)) (ret (.str "rooms"))) mNil))) [zI r] (G4 (houseD m n one other) ws bs n' N s5 s6 (.sh (nI s0)) (.sh (nI t)) s10 s11 s12 s14) = some ([zI r], G4 (houseD m n one other) ws bs n' N s5 s6 (.sh (nI (s0 / q))) (.sh (nI t)) s10 s11 s12 s14) := by
    unfold nsSet
    simp only [m1]
    rfl
  have m3 : mRange1 (mCons (mVar 4) mNil) (G4 (houseD m n one other) ws bs n' N s5 s6 (.sh (nI (s0 / q))) (.sh (nI t)) s10 s11 s12 s14) = .ok ([nI 0], G4 (houseD m n one other) ws bs n' N s5 s6 (.sh (nI (s0 / q))) (.sh (nI t)) s10 s11 s12 s14) := by
    simp (disch := omega) only [mOp, mCallB, mCall, mUn, mT, mAnd, mOr, mNot, mTru, mIf, mCons, mNil, mTup, mLst, mIxB, mSeq, seqD, mRange1, mRange2, ownAt, bnd, mVar, DL.ret, lift, R.bind, noexc, hardR, hard, hardL, toB, orBad, Sl.with, List.getElem?_cons_zero, List.getElem?_cons_succ, List.length_cons, List.length_nil, List.set_cons_zero, List.set_cons_succ, wipeE_cons, wipeE_nil, if_true, Bool.false_eq_true, if_false, Bool.and_self, Bool.and_true, Bool.true_and, hard_n, lit0, lit1, lit2, lit10, add_n, max_n, min_n, lt_n, le_n, gt_n, ge_n, eq_n, ne_n, len_n, len_t, sum_n, or_n, sub_n, mul_n, fdiv_n, mod_n, ix_n, range1_n, range2_n, nLs_len]
    rfl
  have hz : ∀ x : D, dIx (.lst [x]) (nI 0) = .ok x := fun x => rfl
  have m4 : mSeq (mOp dIx (mOp dIx (mOp dIx (mOp dIx (mVar 0) (ret (.str "webs"))) (mVar 9)) (ret (.str "doors"))) (mVar 10)) (G4 (houseD m n one other) ws bs n' N s5 s6 (.sh (nI (s0 / q))) (.sh (nI t)) (.sh (nI 0)) s11 s12 s14) = .ok ((pairsN Lq q).map prD, G4 (houseD m n one other) ws bs n' N s5 s6 (.sh (nI (s0 / q))) (.sh (nI t)) (.sh (nI 0)) s11 s12 s14) := by
    simp (disch := omega) only [mOp, mCallB, mCall, mUn, mT, mAnd, mOr, mNot, mTru, mIf, mCons, mNil, mTup, mLst, mIxB, mSeq, seqD, mRange1, mRange2, ownAt, bnd, mVar, DL.ret, lift, R.bind, noexc, hardR, hard, hardL, toB, orBad, Sl.with, List.getElem?_cons_zero, List.getElem?_cons_succ, List.length_cons, List.length_nil, List.set_cons_zero, List.set_cons_succ, wipeE_cons, wipeE_nil, if_true, Bool.false_eq_true, if_false, Bool.and_self, Bool.and_true, Bool.true_and, hard_n, lit0, lit1, lit2, lit10, add_n, max_n, min_n, lt_n, le_n, gt_n, ge_n, eq_n, ne_n, len_n, len_t, sum_n, or_n, sub_n, mul_n, fdiv_n, mod_n, ix_n, range1_n, range2_n, nLs_len, webs_ix, hwt, place_doors, hz]
  have m5 : gSet 10 (nI 0) (G4 (houseD m n one other) ws bs n' N s5 s6 (.sh (nI (s0 / q))) (.sh (nI t)) s10 s11 s12 s14) = .ok (G4 (houseD m n one other) ws bs n' N s5 s6 (.sh (nI (s0 / q))) (.sh (nI t)) (.sh (nI 0)) s11 s12 s14) := rfl
  have m6 : nsFor (mSeq (mOp dIx (mOp dIx (mOp dIx (mOp dIx (mVar 0) (ret (.str "webs"))) (mVar 9)) (ret (.str "doors"))) (mVar 10))) (gUn 2 (gsCons (gSet 11) (gsCons (gSet 12) gsNil))) rowM [zI r] (G4 (houseD m n one other) ws bs n' N s5 s6 (.sh (nI (s0 / q))) (.sh (nI t)) (.sh (nI 0)) s11 s12 s14) = some ([zI ((pairsN Lq q).foldl (webStep (plF n' t) (s0 / q) N) r)], G4 (houseD m n one other) ws bs n' N s5 s6 (.sh (nI (s0 / q))) (.sh (nI t)) (.sh (nI 0)) x y z) := by
    unfold nsFor
    simp only [m4]
    exact e
  unfold turnM nsSeq
  simp only [m2, Option.bind]
  unfold nsFor
  simp only [m3, nsForL, m5]
  unfold nsFor at m6
  simp only [m6, Option.bind]
end K13
namespace K13
open L2 DL
def layD (ws : List D) (m n : Nat) (one other : List Nat) : D := .dK [(.inr "kinds", .lst [.str "k"]), (.inr "prices", .lst [nI 1]), (.inr "words", .lst ws), (.inr "beds", nL (List.replicate (m * n) 1)), (.inr "near", .lst [nL (nearN m n one other)])]
theorem places_eq {m n : Nat} (hm : 0 < m) : (List.range (1 * m * n)).map (fun k => ((List.range (1 * m)).map fun k => ([[]] : List (List Nat)).getD (k / m) [] ++ [k % m]).getD (k / n) [] ++ [k % n]) = (List.range (m * n)).map fun k => [k / n, k % n] := by
  rw [Nat.one_mul]
  refine List.map_congr_left fun k hk => ?_
  rw [List.mem_range] at hk
  have hq : k / n < m := Nat.div_lt_of_lt_mul (by rwa [Nat.mul_comm] at hk)
  rw [List.getD_eq_getElem?_getD, List.getElem?_map, List.getElem?_range hq]
  show [[]].getD (k / n / m) [] ++ [k / n % m] ++ [k % n] = _
  rw [Nat.div_eq_of_lt hq, Nat.mod_eq_of_lt hq]
  rfl
theorem stage1 (m n : Nat) (one other : List Nat) (hm : 0 < m) (hn : 0 < n) (hmn : m * n ≤ 100) (hm2 : m ≤ 100) (hn2 : n ≤ 100) : ∃ Ws : List (List D), Ws.length = m * n ∧
    forL (gSet 5) b3__law_layout [placeD one m, placeD other n] (G1 (houseD m n one other) (.sh (.lst [.tup []])) (.sh (nL [1])) (.sh (.lst [.lst []])) .no .no) = .nx (G1 (houseD m n one other) (.sh (.lst (Ws.map .tup))) (.sh (nL (List.replicate (m * n) 1))) (.sh (placesD n (m * n))) (.sh (placeD other n)) (.sh (nI n))) := by
  obtain ⟨W1, l1, t1, e1⟩ := b3_ok (houseD m n one other) (.lst [.lst ((pairsN one m).map prD)]) 1 m [[]] [[]] .no rfl rfl 0 (by omega) (by simp) (by simp) hm hm2 (by omega)
  obtain ⟨W2, l2, t2, e2⟩ := b3_ok (houseD m n one other) (.lst [.lst ((pairsN other n).map prD)]) (1 * m) n W1 ((List.range (1 * m)).map fun k => ([[]] : List (List Nat)).getD (k / m) [] ++ [k % m]) (.sh (nI m)) l1 (by simp) 1 (by omega) t1 (fun x hx => by
    rw [List.mem_map] at hx
    obtain ⟨k, hk, rfl⟩ := hx
    rw [List.mem_range, Nat.one_mul] at hk
    rw [Nat.div_eq_of_lt hk]
    show 1 ≤ 5
    omega) hn hn2 (by rw [Nat.one_mul]; omega)
  rw [places_eq hm, Nat.one_mul] at e2
  refine ⟨W2, by rw [l2, Nat.one_mul], ?_⟩
  have g1 : gSet 5 (placeD one m) (G1 (houseD m n one other) (.sh (.lst [.tup []])) (.sh (nL [1])) (.sh (.lst [.lst []])) .no .no) = .ok (G1 (houseD m n one other) (.sh (.lst [.tup []])) (.sh (nL [1])) (.sh (.lst [.lst []])) (.sh (placeD one m)) .no) := rfl
  have g2 : ∀ a b c d, gSet 5 (placeD other n) (G1 (houseD m n one other) a b c (.sh (placeD one m)) d) = .ok (G1 (houseD m n one other) a b c (.sh (placeD other n)) d) := fun _ _ _ _ => rfl
  have e1' : b3__law_layout (G1 (houseD m n one other) (.sh (.lst [.tup []])) (.sh (nL [1])) (.sh (.lst [.lst []])) (.sh (placeD one m)) .no) = .nx (G1 (houseD m n one other) (.sh (.lst (W1.map .tup))) (.sh (nL (List.replicate (1 * m) 1))) (.sh (.lst (((List.range (1 * m)).map fun k => ([[]] : List (List Nat)).getD (k / m) [] ++ [k % m]).map nL))) (.sh (placeD one m)) (.sh (nI m))) := e1
  have e2' : b3__law_layout (G1 (houseD m n one other) (.sh (.lst (W1.map .tup))) (.sh (nL (List.replicate (1 * m) 1))) (.sh (.lst (((List.range (1 * m)).map fun k => ([[]] : List (List Nat)).getD (k / m) [] ++ [k % m]).map nL))) (.sh (placeD other n)) (.sh (nI m))) = .nx (G1 (houseD m n one other) (.sh (.lst (W2.map .tup))) (.sh (nL (List.replicate (m * n) 1))) (.sh (placesD n (m * n))) (.sh (placeD other n)) (.sh (nI n))) := by
    rw [show 1 * m = m from Nat.one_mul m]
    exact e2
  simp only [forL, g1, e1', g2, e2']
/-- the own layout, whole -/
abbrev restM : List (List Int) → SM := nestCons (nsSet 8 (mCallB dLen (mCons (mVar 1) mNil))) (nestCons (nsFor (mRange1 (mCons (mCallB dLen (mCons (mOp dIx (mVar 0) (ret (.str "webs"))) mNil)) mNil)) (gSet 9) turnM) (nestEnd 7 (sRetN (mDict (mPs (ret (.str "kinds")) (mCall dList (mCons (mOp dIx (mVar 0) (ret (.str "kinds"))) mNil)) (mPs (ret (.str "prices")) (mCall dList (mCons (mOp dIx (mVar 0) (ret (.str "prices"))) mNil)) (mPs (ret (.str "words")) (mVar 1) (mPs (ret (.str "beds")) (mVar 2) (mPs (ret (.str "near")) (mVar 7) mPs0)))))))))
theorem rest_ok (m n : Nat) (one other : List Nat) (hm : 0 < m) (hn : 0 < n) (hmn : m * n ≤ 100) (hm2 : m ≤ 100) (hn2 : n ≤ 100) (ws : List D) (hw : ws.length = m * n) : ∃ Γ', restM [zI ((List.range (m * n)).map (2 ^ ·))] (G1 (houseD m n one other) (.sh (.lst ws)) (.sh (nL (List.replicate (m * n) 1))) (.sh (placesD n (m * n))) (.sh (placeD other n)) (.sh (nI n))) = .rn (layD ws m n one other) Γ' ∧ outsE [false] Γ' = some [.non] := by
  have q1 : m * n / m = n := Nat.mul_div_cancel_left n hm
  have q2 : n / n = 1 := Nat.div_self hn
  obtain ⟨x1, y1, z1, u1, e1⟩ := turn_ok m n one other ws (nL (List.replicate (m * n) 1)) n (m * n) (m * n) 0 m one (.sh (placeD other n)) (.sh (nI n)) .no .no .no .no ((List.range (m * n)).map (2 ^ ·)) (by simp) hw (by omega) hmn hmn hm hm2 (fun k => by rw [q1]; exact Nat.div_mul_le_self k n) rfl
  rw [q1] at e1
  obtain ⟨x2, y2, z2, u2, e2⟩ := turn_ok m n one other ws (nL (List.replicate (m * n) 1)) n (m * n) n 1 n other (.sh (placeD other n)) (.sh (nI n)) x1 y1 z1 u1 ((pairsN one m).foldl (webStep (plF n 0) n (m * n)) ((List.range (m * n)).map (2 ^ ·))) (by
    generalize pairsN one m = ps
    have : ∀ (r : List Nat), (ps.foldl (webStep (plF n 0) n (m * n)) r).length = r.length := by
      induction ps with
      | nil => intro r; rfl
      | cons p ps ih => intro r; rw [List.foldl_cons, ih, webStep_len]
    rw [this]
    simp) hw (by omega) hmn hn2 hn hn2 (fun k => by
      rw [q2, Nat.mul_one]
      show k % n ≤ k
      exact Nat.mod_le k n) rfl
  rw [q2] at e2
  have a1 : nsSet 8 (mCallB dLen (mCons (mVar 1) mNil)) [zI ((List.range (m * n)).map (2 ^ ·))] (G1 (houseD m n one other) (.sh (.lst ws)) (.sh (nL (List.replicate (m * n) 1))) (.sh (placesD n (m * n))) (.sh (placeD other n)) (.sh (nI n))) = some ([zI ((List.range (m * n)).map (2 ^ ·))], G4 (houseD m n one other) ws (nL (List.replicate (m * n) 1)) n (m * n) (.sh (placeD other n)) (.sh (nI n)) (.sh (nI (m * n))) .no .no .no .no .no) := by
    have : mCallB dLen (mCons (mVar 1) mNil) (G1 (houseD m n one other) (.sh (.lst ws)) (.sh (nL (List.replicate (m * n) 1))) (.sh (placesD n (m * n))) (.sh (placeD other n)) (.sh (nI n))) = .ok (nI (m * n), G1 (houseD m n one other) (.sh (.lst ws)) (.sh (nL (List.replicate (m * n) 1))) (.sh (placesD n (m * n))) (.sh (placeD other n)) (.sh (nI n))) := by
      simp (disch := omega) only [mOp, mCallB, mCall, mUn, mT, mAnd, mOr, mNot, mTru, mIf, mCons, mNil, mTup, mLst, mIxB, mSeq, seqD, mRange1, mRange2, ownAt, bnd, mVar, DL.ret, lift, R.bind, noexc, hardR, hard, hardL, toB, orBad, Sl.with, List.getElem?_cons_zero, List.getElem?_cons_succ, List.length_cons, List.length_nil, List.set_cons_zero, List.set_cons_succ, wipeE_cons, wipeE_nil, if_true, Bool.false_eq_true, if_false, Bool.and_self, Bool.and_true, Bool.true_and, hard_n, lit0, lit1, lit2, lit10, add_n, max_n, min_n, lt_n, le_n, gt_n, ge_n, eq_n, ne_n, len_n, len_t, sum_n, or_n, sub_n, mul_n, fdiv_n, mod_n, ix_n, range1_n, range2_n, nLs_len, hw]
    unfold nsSet
    simp only [this]
    rfl
  have a2 : mRange1 (mCons (mCallB dLen (mCons (mOp dIx (mVar 0) (ret (.str "webs"))) mNil)) mNil) (G4 (houseD m n one other) ws (nL (List.replicate (m * n) 1)) n (m * n) (.sh (placeD other n)) (.sh (nI n)) (.sh (nI (m * n))) .no .no .no .no .no) = .ok ([nI 0, nI 1], G4 (houseD m n one other) ws (nL (List.replicate (m * n) 1)) n (m * n) (.sh (placeD other n)) (.sh (nI n)) (.sh (nI (m * n))) .no .no .no .no .no) := by
    simp (disch := omega) only [mOp, mCallB, mCall, mUn, mT, mAnd, mOr, mNot, mTru, mIf, mCons, mNil, mTup, mLst, mIxB, mSeq, seqD, mRange1, mRange2, ownAt, bnd, mVar, DL.ret, lift, R.bind, noexc, hardR, hard, hardL, toB, orBad, Sl.with, List.getElem?_cons_zero, List.getElem?_cons_succ, List.length_cons, List.length_nil, List.set_cons_zero, List.set_cons_succ, wipeE_cons, wipeE_nil, if_true, Bool.false_eq_true, if_false, Bool.and_self, Bool.and_true, Bool.true_and, hard_n, lit0, lit1, lit2, lit10, add_n, max_n, min_n, lt_n, le_n, gt_n, ge_n, eq_n, ne_n, len_n, len_t, sum_n, or_n, sub_n, mul_n, fdiv_n, mod_n, ix_n, range1_n, range2_n, nLs_len, webs_ix]
    rfl
  have g9 : ∀ k s8 s9 s10 s11 s12 s14, gSet 9 (nI k) (G4 (houseD m n one other) ws (nL (List.replicate (m * n) 1)) n (m * n) (.sh (placeD other n)) (.sh (nI n)) s8 s9 s10 s11 s12 s14) = .ok (G4 (houseD m n one other) ws (nL (List.replicate (m * n) 1)) n (m * n) (.sh (placeD other n)) (.sh (nI n)) s8 (.sh (nI k)) s10 s11 s12 s14) := fun _ _ _ _ _ _ _ => rfl
  have a3 : nsFor (mRange1 (mCons (mCallB dLen (mCons (mOp dIx (mVar 0) (ret (.str "webs"))) mNil)) mNil)) (gSet 9) turnM [zI ((List.range (m * n)).map (2 ^ ·))] (G4 (houseD m n one other) ws (nL (List.replicate (m * n) 1)) n (m * n) (.sh (placeD other n)) (.sh (nI n)) (.sh (nI (m * n))) .no .no .no .no .no) = some ([zI (nearN m n one other)], G4 (houseD m n one other) ws (nL (List.replicate (m * n) 1)) n (m * n) (.sh (placeD other n)) (.sh (nI n)) (.sh (nI 1)) (.sh (nI 1)) x2 y2 z2 u2) := by
    unfold nsFor
    simp only [a2, nsForL, g9, e1, e2, Option.bind]
    rfl
  have a4 : (G4 (houseD m n one other) ws (nL (List.replicate (m * n) 1)) n (m * n) (.sh (placeD other n)) (.sh (nI n)) (.sh (nI 1)) (.sh (nI 1)) x2 y2 z2 u2).set 7 (.ow (rowsD [zI (nearN m n one other)])) = [.sh (houseD m n one other), .sh (.lst ws), .sh (nL (List.replicate (m * n) 1)), .sh (placesD n (m * n)), .sh (nI 1), .sh (placeD other n), .sh (nI n), .ow (rowsD [zI (nearN m n one other)]), .sh (nI 1), .sh (nI 1), x2, y2, z2, .no, u2] := rfl
  have a5 : rowsD [zI (nearN m n one other)] = .lst [nL (nearN m n one other)] := by
    show D.lst [.lst ((zI (nearN m n one other)).map D.int)] = _
    unfold zI nL nLs
    rw [List.map_map]
    rfl
  refine ⟨[.sh (houseD m n one other), .sh (.lst ws), .sh (nL (List.replicate (m * n) 1)), .sh (placesD n (m * n)), .sh (nI 1), .sh (placeD other n), .sh (nI n), .sh (rowsD [zI (nearN m n one other)]), .sh (nI 1), .sh (nI 1), x2, y2, z2, .no, u2], ?_, rfl⟩
  unfold restM nestCons
  simp only [a1, a3]
  unfold nestEnd
  rw [a4]
  refine (retN_rn (dict_m (d := layD ws m n one other) (ps_m rfl (call_m (z := .lst [.str "k"]) (cons_m (op_m rfl rfl (kinds_ix m n one other)) rfl) rfl) (ps_m rfl (call_m (z := .lst [nI 1]) (cons_m (op_m rfl rfl (prices_ix m n one other)) rfl) rfl) (ps_m rfl rfl (ps_m rfl rfl (ps_m rfl rfl rfl))))) ?_))
  rw [a5]
  rfl
theorem layout_ok (m n : Nat) (one other : List Nat) (hm : 0 < m) (hn : 0 < n) (hmn : m * n ≤ 100) (hm2 : m ≤ 100) (hn2 : n ≤ 100) : ∃ ws, F__law_layout [houseD m n one other] = .ok ⟨true, layD ws m n one other, [.non]⟩ := by
  obtain ⟨Ws, hW, e1⟩ := stage1 m n one other hm hn hmn hm2 hn2
  obtain ⟨Γ', e2, ho⟩ := rest_ok m n one other hm hn hmn hm2 hn2 (Ws.map .tup) (by simp [hW])
  refine ⟨Ws.map .tup, run_rn (Γ := Γ') ?_ ho⟩
  have e : (env0 N__law_layout.length [false] [houseD m n one other] : Env) = [.sh (houseD m n one other), .no, .no, .no, .no, .no, .no, .no, .no, .no, .no, .no, .no, .no, .no] := rfl
  rw [e]
  have s1 : sAsg (mTup (mCons (mLst (mCons (mTup mNil) mNil)) (mCons (mLst (mCons (ret (.int 1)) mNil)) (mCons (mLst (mCons (mLst mNil) mNil)) (mCons (mCallB dLen (mCons (mOp dIx (mVar 0) (ret (.str "kinds"))) mNil)) mNil))))) (gUn 4 (gsCons (gSet 1) (gsCons (gSet 2) (gsCons (gSet 3) (gsCons (gSet 4) gsNil))))) [.sh (houseD m n one other), .no, .no, .no, .no, .no, .no, .no, .no, .no, .no, .no, .no, .no, .no] = .nx (G1 (houseD m n one other) (.sh (.lst [.tup []])) (.sh (nL [1])) (.sh (.lst [.lst []])) .no .no) := by
    refine asg_nx (d := .tup [.lst [.tup []], nL [1], .lst [.lst []], nI 1]) (Γ1 := [.sh (houseD m n one other), .no, .no, .no, .no, .no, .no, .no, .no, .no, .no, .no, .no, .no, .no]) ?_ rfl
    have t0 : dTup [] = .ok (.tup []) := tup_le (by show 0 ≤ 16777216; omega)
    have t1 : ∀ x : D, dLst [x] = .ok (.lst [x]) := fun x => lst_le (by show 1 ≤ 16777216; omega)
    have t2 : dLst [] = .ok (.lst []) := lst_le (by show 0 ≤ 16777216; omega)
    have t4 : ∀ a b c d : D, dTup [a, b, c, d] = .ok (.tup [a, b, c, d]) := fun a b c d => tup_le (by show 4 ≤ 16777216; omega)
    simp (disch := omega) only [mOp, mCallB, mCall, mUn, mT, mAnd, mOr, mNot, mTru, mIf, mCons, mNil, mTup, mLst, mIxB, mSeq, seqD, mRange1, mRange2, ownAt, bnd, mVar, DL.ret, lift, R.bind, noexc, hardR, hard, hardL, toB, orBad, Sl.with, List.getElem?_cons_zero, List.getElem?_cons_succ, List.length_cons, List.length_nil, List.set_cons_zero, List.set_cons_succ, wipeE_cons, wipeE_nil, if_true, Bool.false_eq_true, if_false, Bool.and_self, Bool.and_true, Bool.true_and, hard_n, lit0, lit1, lit2, lit10, add_n, max_n, min_n, lt_n, le_n, gt_n, ge_n, eq_n, ne_n, len_n, len_t, sum_n, or_n, sub_n, mul_n, fdiv_n, mod_n, ix_n, range1_n, range2_n, nLs_len, kinds_ix, t0, t1, t2, t4]
    rfl
  refine seq_nx s1 (seq_nx (for_eq (ds := [placeD one m, placeD other n]) (Γ1 := G1 (houseD m n one other) (.sh (.lst [.tup []])) (.sh (nL [1])) (.sh (.lst [.lst []])) .no .no) ?_ e1) ?_)
  · simp only [mSeq, mOp, bnd, mVar, DL.ret, lift, R.bind, noexc, List.getElem?_cons_zero, webs_ix, seqD]
  · have r1 : mRange1 (mCons (mVar 4) mNil) (G1 (houseD m n one other) (.sh (.lst (Ws.map .tup))) (.sh (nL (List.replicate (m * n) 1))) (.sh (placesD n (m * n))) (.sh (placeD other n)) (.sh (nI n))) = .ok ([nI 0], G1 (houseD m n one other) (.sh (.lst (Ws.map .tup))) (.sh (nL (List.replicate (m * n) 1))) (.sh (placesD n (m * n))) (.sh (placeD other n)) (.sh (nI n))) := by
      simp (disch := omega) only [mOp, mCallB, mCall, mUn, mT, mAnd, mOr, mNot, mTru, mIf, mCons, mNil, mTup, mLst, mIxB, mSeq, seqD, mRange1, mRange2, ownAt, bnd, mVar, DL.ret, lift, R.bind, noexc, hardR, hard, hardL, toB, orBad, Sl.with, List.getElem?_cons_zero, List.getElem?_cons_succ, List.length_cons, List.length_nil, List.set_cons_zero, List.set_cons_succ, wipeE_cons, wipeE_nil, if_true, Bool.false_eq_true, if_false, Bool.and_self, Bool.and_true, Bool.true_and, hard_n, lit0, lit1, lit2, lit10, add_n, max_n, min_n, lt_n, le_n, gt_n, ge_n, eq_n, ne_n, len_n, len_t, sum_n, or_n, sub_n, mul_n, fdiv_n, mod_n, ix_n, range1_n, range2_n, nLs_len]
      rfl
    let Γx : Env := [.sh (houseD m n one other), .sh (.lst (Ws.map .tup)), .sh (nL (List.replicate (m * n) 1)), .sh (placesD n (m * n)), .sh (nI 1), .sh (placeD other n), .sh (nI n), .no, .no, .no, .sh (nI 0), .no, .no, .no, .no]
    have c := lcL_mm (vs := [14]) (g := gSet 14) (e := mOp dShl (ret (.int 1)) (mVar 14)) (Γ := Γx) nI (fun k => nI (2 ^ k)) (L := List.range (m * n)) fun k hk => by
      rw [List.mem_range] at hk
      refine ⟨[.sh (houseD m n one other), .sh (.lst (Ws.map .tup)), .sh (nL (List.replicate (m * n) 1)), .sh (placesD n (m * n)), .sh (nI 1), .sh (placeD other n), .sh (nI n), .no, .no, .no, .sh (nI 0), .no, .no, .no, .sh (nI k)], [.sh (houseD m n one other), .sh (.lst (Ws.map .tup)), .sh (nL (List.replicate (m * n) 1)), .sh (placesD n (m * n)), .sh (nI 1), .sh (placeD other n), .sh (nI n), .no, .no, .no, .sh (nI 0), .no, .no, .no, .sh (nI k)], rfl, ?_, rfl⟩
      have := shl_n (a := 1) (b := k) (by omega) (by omega)
      rw [Nat.one_mul] at this
      simp only [mOp, bnd, mVar, DL.ret, lift, R.bind, noexc, List.getElem?_cons_zero, List.getElem?_cons_succ, lit1, this]
    have r2 : e4__law_layout Γx = .ok (.lst ((List.range (m * n)).map fun k => nI (2 ^ k)), Γx) := by
      refine lc_m (ds := (List.range (m * n)).map nI) (Γ1 := Γx) ?_ c (le_big (by simp; omega))
      simp (disch := omega) only [Γx, mOp, mCallB, mCall, mUn, mT, mAnd, mOr, mNot, mTru, mIf, mCons, mNil, mTup, mLst, mIxB, mSeq, seqD, mRange1, mRange2, ownAt, bnd, mVar, DL.ret, lift, R.bind, noexc, hardR, hard, hardL, toB, orBad, Sl.with, List.getElem?_cons_zero, List.getElem?_cons_succ, List.length_cons, List.length_nil, List.set_cons_zero, List.set_cons_succ, wipeE_cons, wipeE_nil, if_true, Bool.false_eq_true, if_false, Bool.and_self, Bool.and_true, Bool.true_and, hard_n, lit0, lit1, lit2, lit10, add_n, max_n, min_n, lt_n, le_n, gt_n, ge_n, eq_n, ne_n, len_n, len_t, sum_n, or_n, sub_n, mul_n, fdiv_n, mod_n, ix_n, range1_n, range2_n, nLs_len, List.length_map, hW]
    have r3 : toInts (.lst ((List.range (m * n)).map fun k => nI (2 ^ k))) = some (zI ((List.range (m * n)).map (2 ^ ·))) := by
      have := ints_n ((List.range (m * n)).map (2 ^ ·))
      unfold nLs at this
      rw [List.map_map] at this
      exact this
    have r4 : gSet 10 (nI 0) (wipeE (G1 (houseD m n one other) (.sh (.lst (Ws.map .tup))) (.sh (nL (List.replicate (m * n) 1))) (.sh (placesD n (m * n))) (.sh (placeD other n)) (.sh (nI n))) [10]) = .ok Γx := rfl
    have r5 : wipeE Γx [10] = G1 (houseD m n one other) (.sh (.lst (Ws.map .tup))) (.sh (nL (List.replicate (m * n) 1))) (.sh (placesD n (m * n))) (.sh (placeD other n)) (.sh (nI n)) := rfl
    have r6 : nestL [10] (gSet 10) (ret true) e4__law_layout [nI 0] (wipeE (G1 (houseD m n one other) (.sh (.lst (Ws.map .tup))) (.sh (nL (List.replicate (m * n) 1))) (.sh (placesD n (m * n))) (.sh (placeD other n)) (.sh (nI n))) [10]) = some ([zI ((List.range (m * n)).map (2 ^ ·))], G1 (houseD m n one other) (.sh (.lst (Ws.map .tup))) (.sh (nL (List.replicate (m * n) 1))) (.sh (placesD n (m * n))) (.sh (placeD other n)) (.sh (nI n))) := by
      simp only [nestL, r4, DL.ret, if_true, r2, r3, r5, Option.bind]
    unfold sNest
    simp only [r1, r6]
    rw [if_pos ⟨le_big (by show 1 < 1000000; omega), by show 7 < 15; omega⟩]
    exact e2
end K13
namespace K13
open L2 DL
/-! all lots of a layout -/
def sizeN : Nat → List Nat
  | 0 => [0]
  | i + 1 => sizeN i ++ (sizeN i).map (· + 1)
def stepsN (near : List Nat) : Nat → List Nat
  | 0 => [0]
  | i + 1 => stepsN near i ++ (stepsN near i).map fun y => y ||| nth near i
theorem sizeN_len : ∀ i, (sizeN i).length = 2 ^ i
  | 0 => rfl
  | i + 1 => by
    unfold sizeN
    rw [List.length_append, List.length_map, sizeN_len i]
    omega
theorem stepsN_len (near : List Nat) : ∀ i, (stepsN near i).length = 2 ^ i
  | 0 => rfl
  | i + 1 => by
    unfold stepsN
    rw [List.length_append, List.length_map, stepsN_len near i]
    omega
theorem stepsN_lt (near : List Nat) (N : Nat) (h : ∀ x ∈ near, x < 2 ^ N) : ∀ i, ∀ x ∈ stepsN near i, x < 2 ^ N
  | 0, x, hx => by
    unfold stepsN at hx
    rw [List.mem_singleton] at hx
    subst hx
    exact Nat.two_pow_pos N
  | i + 1, x, hx => by
    unfold stepsN at hx
    rw [List.mem_append] at hx
    rcases hx with hx | hx
    · exact stepsN_lt near N h i x hx
    · rw [List.mem_map] at hx
      obtain ⟨y, hy, rfl⟩ := hx
      refine Nat.or_lt_two_pow (stepsN_lt near N h i y hy) ?_
      by_cases hi : i < near.length
      · rw [nth_eq hi]; exact h _ (List.getElem_mem hi)
      · rw [nth_out (by omega)]; exact Nat.two_pow_pos N
theorem sizeN_le : ∀ i, ∀ x ∈ sizeN i, x ≤ i
  | 0, x, hx => by
    unfold sizeN at hx
    rw [List.mem_singleton] at hx
    omega
  | i + 1, x, hx => by
    unfold sizeN at hx
    rw [List.mem_append] at hx
    rcases hx with hx | hx
    · have := sizeN_le i x hx; omega
    · rw [List.mem_map] at hx
      obtain ⟨y, hy, rfl⟩ := hx
      have := sizeN_le i y hy
      omega
theorem lay_beds (ws : List D) (m n : Nat) (one other : List Nat) : dIx (layD ws m n one other) (.str "beds") = .ok (.lst (nLs (List.replicate (m * n) 1))) := rfl
theorem lay_near (ws : List D) (m n : Nat) (one other : List Nat) : dIx (layD ws m n one other) (.str "near") = .ok (.lst [nL (nearN m n one other)]) := rfl
theorem lay_prices (ws : List D) (m n : Nat) (one other : List Nat) : dIx (layD ws m n one other) (.str "prices") = .ok (.lst [nI 1]) := rfl
theorem ix0 (x : D) : dIx (.lst [x]) (nI 0) = .ok x := rfl
theorem lst1 (x : D) : dLst [x] = .ok (.lst [x]) := lst_le (by show 1 ≤ 16777216; omega)
abbrev GL (u : D) (n : Nat) (A B : List Nat) (s4 s6 s7 : Sl) : Env := [.sh u, .sh (nI n), .sh (nL A), .sh (.lst [nL B]), s4, .no, s6, s7, .no, .no, .no]
theorem lots_turn (ws : List D) (m n i : Nat) (one other : List Nat) (s4 : Sl) (hN : m * n ≤ 15) (hi : i < m * n) (hl : (nearN m n one other).length = m * n) :
    b3__law_lots (GL (layD ws m n one other) (m * n) (sizeN i) (stepsN (nearN m n one other) i) (.sh (nI i)) .no .no) = .nx (GL (layD ws m n one other) (m * n) (sizeN (i + 1)) (stepsN (nearN m n one other) (i + 1)) (.sh (nI i)) .no .no) := by
  have hp : 2 ^ i ≤ 2 ^ 15 := Nat.pow_le_pow_right (by omega) (by omega)
  have p15 : (2 : Nat) ^ 15 = 32768 := by rfl
  have c1 := lcL_mm (vs := [7]) (g := gSet 7) (e := e0__law_lots) (Γ := GL (layD ws m n one other) (m * n) (sizeN i) (stepsN (nearN m n one other) i) (.sh (nI i)) .no .no) nI (fun x => nI (x + 1)) (L := sizeN i) fun x hx => by
    refine ⟨GL (layD ws m n one other) (m * n) (sizeN i) (stepsN (nearN m n one other) i) (.sh (nI i)) .no (.sh (nI x)), GL (layD ws m n one other) (m * n) (sizeN i) (stepsN (nearN m n one other) i) (.sh (nI i)) .no (.sh (nI x)), rfl, ?_, rfl⟩
    have w1 : dIx (.lst (nLs (List.replicate (m * n) 1))) (nI i) = .ok (nI 1) := by rw [ix_n (by simpa using hi), rep_get hi]
    simp (disch := omega) only [e0__law_lots, mOp, mCallB, mCall, mUn, mT, mAnd, mOr, mNot, mTru, mIf, mCons, mNil, mTup, mLst, mIxB, mSeq, seqD, mRange1, mRange2, ownAt, bnd, mVar, DL.ret, lift, R.bind, noexc, hardR, hard, hardL, toB, orBad, Sl.with, List.getElem?_cons_zero, List.getElem?_cons_succ, List.length_cons, List.length_nil, List.set_cons_zero, List.set_cons_succ, wipeE_cons, wipeE_nil, if_true, Bool.false_eq_true, if_false, Bool.and_self, Bool.and_true, Bool.true_and, hard_n, lit0, lit1, lit2, lit10, add_n, max_n, min_n, lt_n, le_n, gt_n, ge_n, eq_n, ne_n, len_n, len_t, sum_n, or_n, sub_n, mul_n, fdiv_n, mod_n, ix_n, range1_n, range2_n, nLs_len, lay_beds, w1]
  have c2 := lcL_mm (vs := [7]) (g := gSet 7) (e := e1__law_lots) (Γ := GL (layD ws m n one other) (m * n) (sizeN (i + 1)) (stepsN (nearN m n one other) i) (.sh (nI i)) (.sh (nI 0)) .no) nI (fun y => nI (y ||| nth (nearN m n one other) i)) (L := stepsN (nearN m n one other) i) fun x hx => by
    refine ⟨GL (layD ws m n one other) (m * n) (sizeN (i + 1)) (stepsN (nearN m n one other) i) (.sh (nI i)) (.sh (nI 0)) (.sh (nI x)), GL (layD ws m n one other) (m * n) (sizeN (i + 1)) (stepsN (nearN m n one other) i) (.sh (nI i)) (.sh (nI 0)) (.sh (nI x)), rfl, ?_, rfl⟩
    have w1 : dIx (nL (nearN m n one other)) (nI i) = .ok (nI (nth (nearN m n one other) i)) := ix_n (by omega)
    simp (disch := omega) only [e1__law_lots, mOp, mCallB, mCall, mUn, mT, mAnd, mOr, mNot, mTru, mIf, mCons, mNil, mTup, mLst, mIxB, mSeq, seqD, mRange1, mRange2, ownAt, bnd, mVar, DL.ret, lift, R.bind, noexc, hardR, hard, hardL, toB, orBad, Sl.with, List.getElem?_cons_zero, List.getElem?_cons_succ, List.length_cons, List.length_nil, List.set_cons_zero, List.set_cons_succ, wipeE_cons, wipeE_nil, if_true, Bool.false_eq_true, if_false, Bool.and_self, Bool.and_true, Bool.true_and, hard_n, lit0, lit1, lit2, lit10, add_n, max_n, min_n, lt_n, le_n, gt_n, ge_n, eq_n, ne_n, len_n, len_t, sum_n, or_n, sub_n, mul_n, fdiv_n, mod_n, ix_n, range1_n, range2_n, nLs_len, lay_near, ix0, w1]
  have k1 : mLc [7] (mSeq (mVar 2)) (gSet 7) (ret true) e0__law_lots (GL (layD ws m n one other) (m * n) (sizeN i) (stepsN (nearN m n one other) i) (.sh (nI i)) .no .no) = .ok (.lst ((sizeN i).map fun x => nI (x + 1)), GL (layD ws m n one other) (m * n) (sizeN i) (stepsN (nearN m n one other) i) (.sh (nI i)) .no .no) :=
    lc_m (ds := (sizeN i).map nI) (Γ1 := GL (layD ws m n one other) (m * n) (sizeN i) (stepsN (nearN m n one other) i) (.sh (nI i)) .no .no) rfl c1 (le_big (by rw [List.length_map, sizeN_len]; omega))
  have k2 : mLc [7] (mSeq (mOp dIx (mVar 3) (mVar 6))) (gSet 7) (ret true) e1__law_lots (GL (layD ws m n one other) (m * n) (sizeN (i + 1)) (stepsN (nearN m n one other) i) (.sh (nI i)) (.sh (nI 0)) .no) = .ok (.lst ((stepsN (nearN m n one other) i).map fun y => nI (y ||| nth (nearN m n one other) i)), GL (layD ws m n one other) (m * n) (sizeN (i + 1)) (stepsN (nearN m n one other) i) (.sh (nI i)) (.sh (nI 0)) .no) :=
    lc_m (ds := (stepsN (nearN m n one other) i).map nI) (Γ1 := GL (layD ws m n one other) (m * n) (sizeN (i + 1)) (stepsN (nearN m n one other) i) (.sh (nI i)) (.sh (nI 0)) .no) rfl c2 (le_big (by rw [List.length_map, stepsN_len]; omega))
  have a1 : dAddL (nL (sizeN i)) (.lst ((sizeN i).map fun x => nI (x + 1))) = .ok (nL (sizeN (i + 1))) := by
    unfold nL
    rw [addL_le (by rw [nLs_len, List.length_map, sizeN_len]; omega)]
    congr 2
    unfold nLs
    rw [sizeN, List.map_append, List.map_map]
    rfl
  have a2 : dAddL (nL (stepsN (nearN m n one other) i)) (.lst ((stepsN (nearN m n one other) i).map fun y => nI (y ||| nth (nearN m n one other) i))) = .ok (nL (stepsN (nearN m n one other) (i + 1))) := by
    unfold nL
    rw [addL_le (by rw [nLs_len, List.length_map, stepsN_len]; omega)]
    congr 2
    unfold nLs
    rw [stepsN, List.map_append, List.map_map]
    rfl
  have k3 : e2__law_lots (GL (layD ws m n one other) (m * n) (sizeN (i + 1)) (stepsN (nearN m n one other) i) (.sh (nI i)) (.sh (nI 0)) .no) = .ok (nL (stepsN (nearN m n one other) (i + 1)), GL (layD ws m n one other) (m * n) (sizeN (i + 1)) (stepsN (nearN m n one other) i) (.sh (nI i)) (.sh (nI 0)) .no) :=
    op_m (op_m rfl rfl (ix0 _)) k2 a2
  have c3 := lcL_mm (vs := [6]) (g := gSet 6) (e := e2__law_lots) (Γ := GL (layD ws m n one other) (m * n) (sizeN (i + 1)) (stepsN (nearN m n one other) i) (.sh (nI i)) .no .no) nI (fun _ => nL (stepsN (nearN m n one other) (i + 1))) (L := [0]) fun x hx => by
    rw [List.mem_singleton] at hx
    subst hx
    exact ⟨_, _, rfl, k3, rfl⟩
  have r1 : mRange1 (mCons (mCallB dLen (mCons (mVar 3) mNil)) mNil) (GL (layD ws m n one other) (m * n) (sizeN (i + 1)) (stepsN (nearN m n one other) i) (.sh (nI i)) .no .no) = .ok ([0].map nI, GL (layD ws m n one other) (m * n) (sizeN (i + 1)) (stepsN (nearN m n one other) i) (.sh (nI i)) .no .no) := by
    simp (disch := omega) only [mOp, mCallB, mCall, mUn, mT, mAnd, mOr, mNot, mTru, mIf, mCons, mNil, mTup, mLst, mIxB, mSeq, seqD, mRange1, mRange2, ownAt, bnd, mVar, DL.ret, lift, R.bind, noexc, hardR, hard, hardL, toB, orBad, Sl.with, List.getElem?_cons_zero, List.getElem?_cons_succ, List.length_cons, List.length_nil, List.set_cons_zero, List.set_cons_succ, wipeE_cons, wipeE_nil, if_true, Bool.false_eq_true, if_false, Bool.and_self, Bool.and_true, Bool.true_and, hard_n, lit0, lit1, lit2, lit10, add_n, max_n, min_n, lt_n, le_n, gt_n, ge_n, eq_n, ne_n, len_n, len_t, sum_n, or_n, sub_n, mul_n, fdiv_n, mod_n, ix_n, range1_n, range2_n, nLs_len]
    rfl
  exact seq_nx (asg_nx (op_m rfl k1 a1) rfl) (asg_nx (lc_m r1 c3 (le_big (by show 1 < 1000000; omega))) rfl)
theorem zip3_n : ∀ (bs : List Int) (T S : List Nat), zipD3 (bs.map D.int) (nLs T) (nLs S) = (bs.zip (T.zip S)).map fun p => .tup [.int p.1, nI p.2.1, nI p.2.2]
  | [], _, _ => by simp [zipD3]
  | _ :: _, [], _ => by simp [zipD3, nLs]
  | _ :: _, _ :: _, [] => by simp [zipD3, nLs]
  | b :: bs, t :: T, z :: S => by
    have := zip3_n bs T S
    unfold nLs at this ⊢
    simp only [List.map_cons, zipD3, List.zip_cons_cons, this]
theorem zip2_n : ∀ (T S : List Nat), zipD (nLs T) (nLs S) = (T.zip S).map fun p => .tup [nI p.1, nI p.2]
  | [], _ => by simp [zipD]
  | _ :: _, [] => by simp [zipD, nLs]
  | t :: T, z :: S => by
    have := zip2_n T S
    unfold nLs at this ⊢
    simp only [List.map_cons, zipD, List.zip_cons_cons, this]
abbrev GB (u : D) (n : Nat) (A B : List Nat) (bs : List Int) (s4 s6 s8 s9 s10 : Sl) : Env := [.sh u, .sh (nI n), .sh (nL A), .sh (.lst [nL B]), s4, .sh (.lst (bs.map .int)), s6, .no, s8, s9, s10]
theorem border_turn (ws : List D) (m n : Nat) (one other : List Nat) (A B : List Nat) (bs : List Int) (s4 : Sl) (hB : ∀ x ∈ B, x < A.length) (hA : A.length ≤ 100000) : ∃ bs', b5__law_lots (GB (layD ws m n one other) (m * n) A B bs s4 (.sh (nI 0)) .no .no .no) = .nx (GB (layD ws m n one other) (m * n) A B bs' s4 (.sh (nI 0)) .no .no .no) := by
  have c := lcL_mm (vs := [8, 9, 10]) (g := gUn 3 (gsCons (gSet 8) (gsCons (gSet 9) (gsCons (gSet 10) gsNil)))) (e := e4__law_lots) (Γ := GB (layD ws m n one other) (m * n) A B bs s4 (.sh (nI 0)) .no .no .no) (fun p : Int × Nat × Nat => .tup [.int p.1, nI p.2.1, nI p.2.2]) (fun p => .int (p.1 + 1 * ((nth A p.2.1 : Nat) - (p.2.2 : Int)))) (L := bs.zip (B.zip A)) fun p hp => by
    refine ⟨GB (layD ws m n one other) (m * n) A B bs s4 (.sh (nI 0)) (.sh (.int p.1)) (.sh (nI p.2.1)) (.sh (nI p.2.2)), GB (layD ws m n one other) (m * n) A B bs s4 (.sh (nI 0)) (.sh (.int p.1)) (.sh (nI p.2.1)) (.sh (nI p.2.2)), rfl, ?_, rfl⟩
    have h1 : p.2.1 ∈ B := (List.of_mem_zip (List.of_mem_zip (a := p.1) (b := p.2) hp).2).1
    have w1 : dIx (nL A) (nI p.2.1) = .ok (nI (nth A p.2.1)) := ix_n (hB _ h1)
    have w2 : dSub (nI (nth A p.2.1)) (nI p.2.2) = .ok (.int ((nth A p.2.1 : Nat) - (p.2.2 : Int))) := rfl
    have w3 : dMul (nI 1) (.int ((nth A p.2.1 : Nat) - (p.2.2 : Int))) = .ok (.int (1 * ((nth A p.2.1 : Nat) - (p.2.2 : Int)))) := by
      unfold dMul onI nI
      simp only [cMul_n (a := 1) _ (by omega), if_true]
      rfl
    have w4 : dAdd (.int p.1) (.int (1 * ((nth A p.2.1 : Nat) - (p.2.2 : Int)))) = .ok (.int (p.1 + 1 * ((nth A p.2.1 : Nat) - (p.2.2 : Int)))) := rfl
    exact op_m rfl (op_m (op_m (op_m rfl rfl (lay_prices ws m n one other)) rfl (ix0 _)) (op_m (op_m rfl rfl w1) rfl w2) w3) w4
  refine ⟨(bs.zip (B.zip A)).map fun p => (p.1 + 1 * ((nth A p.2.1 : Nat) - (p.2.2 : Int))), ?_⟩
  have it : mZip3 (mCons (mVar 5) (mCons (mOp dIx (mVar 3) (mVar 6)) (mCons (mVar 2) mNil))) (GB (layD ws m n one other) (m * n) A B bs s4 (.sh (nI 0)) .no .no .no) = .ok ((bs.zip (B.zip A)).map fun p => .tup [.int p.1, nI p.2.1, nI p.2.2], GB (layD ws m n one other) (m * n) A B bs s4 (.sh (nI 0)) .no .no .no) := by
    rw [← zip3_n]
    have a := cons_m (a := mVar 5) (r := mCons (mOp dIx (mVar 3) (mVar 6)) (mCons (mVar 2) mNil)) (Γ := GB (layD ws m n one other) (m * n) A B bs s4 (.sh (nI 0)) .no .no .no) (x := .lst (bs.map D.int)) rfl (cons_m (op_m rfl rfl (ix0 (nL B))) (cons_m (x := nL A) rfl rfl))
    unfold mZip3 bnd
    simp only [a, R.bind, lift]
    rfl
  refine (asg_nx (lc_m it c (le_big ?_)) rfl).trans ?_
  · rw [List.length_map, List.length_zip, List.length_zip]
    omega
  · have e : ((bs.zip (B.zip A)).map fun p : Int × Nat × Nat => (p.1 + 1 * ((nth A p.2.1 : Nat) - (p.2.2 : Int)))).map D.int = (bs.zip (B.zip A)).map fun p => D.int (p.1 + 1 * ((nth A p.2.1 : Nat) - (p.2.2 : Int))) := by
      rw [List.map_map]
      rfl
    exact congrArg (fun x : List D => Out.nx [.sh (layD ws m n one other), .sh (nI (m * n)), .sh (nL A), .sh (.lst [nL B]), s4, .sh (.lst x), .sh (nI 0), .no, .no, .no, .no]) e.symm
def lotsD (bs : List Int) (A B : List Nat) (n : Nat) : D := .dK [(.inr "n", nI n), (.inr "beds", nL (List.replicate n 1)), (.inr "prices", .lst [nI 1]), (.inr "size", nL A), (.inr "step", .lst [nL B]), (.inr "border", .lst (bs.map D.int))]
theorem lots_ok (ws : List D) (m n : Nat) (one other : List Nat) (hN : m * n ≤ 15) (hl : (nearN m n one other).length = m * n) (hb : ∀ x ∈ nearN m n one other, x < 2 ^ (m * n)) : ∃ bs, F__law_lots [layD ws m n one other] = .ok ⟨true, lotsD bs (sizeN (m * n)) (stepsN (nearN m n one other) (m * n)) (m * n), [.non]⟩ := by
  have hp : 2 ^ (m * n) ≤ 2 ^ 15 := Nat.pow_le_pow_right (by omega) (by omega)
  have p15 : (2 : Nat) ^ 15 = 32768 := by rfl
  have z0 : ∀ n : Nat, n ≤ 100000 → dRep (.lst [nI 0]) (nI n) = .ok (.lst ((List.replicate n (0 : Int)).map D.int)) := fun n hn => by
    rw [rep_n (by omega)]
    unfold nLs
    rw [List.map_replicate, List.map_replicate]
    rfl
  obtain ⟨Γ', e1, s4, rfl⟩ := forL_inv (g := gSet 4) (body := b3__law_lots) (ds := (List.range (m * n)).map nI) (Γ := GL (layD ws m n one other) (m * n) (sizeN 0) (stepsN (nearN m n one other) 0) .no .no .no)
    (fun i Γ => ∃ s4, Γ = GL (layD ws m n one other) (m * n) (sizeN i) (stepsN (nearN m n one other) i) s4 .no .no) ⟨_, rfl⟩ fun i d Γ hd ⟨s4, hΓ⟩ => by
      subst hΓ
      rw [List.getElem?_map] at hd
      by_cases hi : i < m * n
      · rw [List.getElem?_range hi] at hd
        cases hd
        exact ⟨_, _, rfl, lots_turn ws m n i one other s4 hN hi hl, _, rfl⟩
      · rw [List.getElem?_eq_none (by simpa using hi)] at hd
        cases hd
  rw [List.length_map, List.length_range] at e1
  obtain ⟨bs, e2⟩ := border_turn ws m n one other (sizeN (m * n)) (stepsN (nearN m n one other) (m * n)) (List.replicate (sizeN (m * n)).length 0) s4 (fun x hx => by rw [sizeN_len]; exact stepsN_lt _ _ hb _ x hx) (by rw [sizeN_len]; omega)
  refine ⟨bs, run_rn (Γ := GB (layD ws m n one other) (m * n) (sizeN (m * n)) (stepsN (nearN m n one other) (m * n)) bs s4 (.sh (nI 0)) .no .no .no) ?_ rfl⟩
  have e : (env0 N__law_lots.length [false] [layD ws m n one other] : Env) = [.sh (layD ws m n one other), .no, .no, .no, .no, .no, .no, .no, .no, .no, .no] := rfl
  rw [e]
  have s1 : sAsg (mTup (mCons (mCallB dLen (mCons (mOp dIx (mVar 0) (ret (.str "beds"))) mNil)) (mCons (mLst (mCons (ret (.int 0)) mNil)) mNil))) (gUn 2 (gsCons (gSet 1) (gsCons (gSet 2) gsNil))) [.sh (layD ws m n one other), .no, .no, .no, .no, .no, .no, .no, .no, .no, .no] = .nx [.sh (layD ws m n one other), .sh (nI (m * n)), .sh (nL [0]), .no, .no, .no, .no, .no, .no, .no, .no] := by
    refine asg_nx (d := .tup [nI (m * n), nL [0]]) (Γ1 := [.sh (layD ws m n one other), .no, .no, .no, .no, .no, .no, .no, .no, .no, .no]) ?_ rfl
    simp (disch := omega) only [mOp, mCallB, mCall, mUn, mT, mAnd, mOr, mNot, mTru, mIf, mCons, mNil, mTup, mLst, mIxB, mSeq, seqD, mRange1, mRange2, ownAt, bnd, mVar, DL.ret, lift, R.bind, noexc, hardR, hard, hardL, toB, orBad, Sl.with, List.getElem?_cons_zero, List.getElem?_cons_succ, List.length_cons, List.length_nil, List.set_cons_zero, List.set_cons_succ, wipeE_cons, wipeE_nil, if_true, Bool.false_eq_true, if_false, Bool.and_self, Bool.and_true, Bool.true_and, hard_n, lit0, lit1, lit2, lit10, add_n, max_n, min_n, lt_n, le_n, gt_n, ge_n, eq_n, ne_n, len_n, len_t, sum_n, or_n, sub_n, mul_n, fdiv_n, mod_n, ix_n, range1_n, range2_n, nLs_len, lay_beds, List.length_replicate, lst1, tup2]
    rfl
  have c2 := lcL_mm (vs := [7]) (g := gSet 7) (e := mLst (mCons (ret (.int 0)) mNil)) (Γ := [.sh (layD ws m n one other), .sh (nI (m * n)), .sh (nL [0]), .no, .no, .no, .no, .no, .no, .no, .no]) id (fun _ => nL [0]) (L := [nL (nearN m n one other)]) fun x hx => by
    refine ⟨[.sh (layD ws m n one other), .sh (nI (m * n)), .sh (nL [0]), .no, .no, .no, .no, .sh x, .no, .no, .no], [.sh (layD ws m n one other), .sh (nI (m * n)), .sh (nL [0]), .no, .no, .no, .no, .sh x, .no, .no, .no], rfl, ?_, rfl⟩
    simp only [mLst, mCons, mNil, bnd, R.bind, DL.ret, lift, lst1]
    rfl
  have s2 : sAsg (mLc [7] (mSeq (mOp dIx (mVar 0) (ret (.str "near")))) (gSet 7) (ret true) (mLst (mCons (ret (.int 0)) mNil))) (gSet 3) [.sh (layD ws m n one other), .sh (nI (m * n)), .sh (nL [0]), .no, .no, .no, .no, .no, .no, .no, .no] = .nx (GL (layD ws m n one other) (m * n) (sizeN 0) (stepsN (nearN m n one other) 0) .no .no .no) := by
    refine asg_nx (lc_m (ds := [nL (nearN m n one other)]) (Γ1 := [.sh (layD ws m n one other), .sh (nI (m * n)), .sh (nL [0]), .no, .no, .no, .no, .no, .no, .no, .no]) ?_ c2 (le_big (by show 1 < 1000000; omega))) rfl
    simp only [mSeq, mOp, bnd, mVar, DL.ret, lift, R.bind, noexc, List.getElem?_cons_zero, lay_near, seqD]
  have s3 : sFor (mRange1 (mCons (mVar 1) mNil)) (gSet 4) b3__law_lots (GL (layD ws m n one other) (m * n) (sizeN 0) (stepsN (nearN m n one other) 0) .no .no .no) = .nx (GL (layD ws m n one other) (m * n) (sizeN (m * n)) (stepsN (nearN m n one other) (m * n)) s4 .no .no) :=
    for_eq (ds := (List.range (m * n)).map nI) (Γ1 := GL (layD ws m n one other) (m * n) (sizeN 0) (stepsN (nearN m n one other) 0) .no .no .no) (by simp (disch := omega) only [mOp, mCallB, mCall, mUn, mT, mAnd, mOr, mNot, mTru, mIf, mCons, mNil, mTup, mLst, mIxB, mSeq, seqD, mRange1, mRange2, ownAt, bnd, mVar, DL.ret, lift, R.bind, noexc, hardR, hard, hardL, toB, orBad, Sl.with, List.getElem?_cons_zero, List.getElem?_cons_succ, List.length_cons, List.length_nil, List.set_cons_zero, List.set_cons_succ, wipeE_cons, wipeE_nil, if_true, Bool.false_eq_true, if_false, Bool.and_self, Bool.and_true, Bool.true_and, hard_n, lit0, lit1, lit2, lit10, add_n, max_n, min_n, lt_n, le_n, gt_n, ge_n, eq_n, ne_n, len_n, len_t, sum_n, or_n, sub_n, mul_n, fdiv_n, mod_n, ix_n, range1_n, range2_n, nLs_len]) e1
  have s4' : sAsg (mOp dRep (mLst (mCons (ret (.int 0)) mNil)) (mCallB dLen (mCons (mVar 2) mNil))) (gSet 5) (GL (layD ws m n one other) (m * n) (sizeN (m * n)) (stepsN (nearN m n one other) (m * n)) s4 .no .no) = .nx (GB (layD ws m n one other) (m * n) (sizeN (m * n)) (stepsN (nearN m n one other) (m * n)) (List.replicate (sizeN (m * n)).length 0) s4 .no .no .no .no) := by
    have a := z0 (sizeN (m * n)).length (by rw [sizeN_len]; omega)
    have b : dLen [nL (sizeN (m * n))] = .ok (nI (sizeN (m * n)).length) := by
      unfold nL
      rw [len_n, nLs_len]
    refine asg_nx (Γ1 := GL (layD ws m n one other) (m * n) (sizeN (m * n)) (stepsN (nearN m n one other) (m * n)) s4 .no .no) (op_m (x := .lst [nI 0]) (y := nI (sizeN (m * n)).length) (Γ1 := GL (layD ws m n one other) (m * n) (sizeN (m * n)) (stepsN (nearN m n one other) (m * n)) s4 .no .no) ?_ ?_ a) rfl
    · simp only [mLst, mCons, mNil, bnd, R.bind, DL.ret, lift, lit0, lst1]
    · exact callB_m (cons_m rfl rfl) b rfl
  have s5 : sFor (mRange1 (mCons (mCallB dLen (mCons (mVar 3) mNil)) mNil)) (gSet 6) b5__law_lots (GB (layD ws m n one other) (m * n) (sizeN (m * n)) (stepsN (nearN m n one other) (m * n)) (List.replicate (sizeN (m * n)).length 0) s4 .no .no .no .no) = .nx (GB (layD ws m n one other) (m * n) (sizeN (m * n)) (stepsN (nearN m n one other) (m * n)) bs s4 (.sh (nI 0)) .no .no .no) := by
    refine for_eq (ds := [nI 0]) (Γ1 := GB (layD ws m n one other) (m * n) (sizeN (m * n)) (stepsN (nearN m n one other) (m * n)) (List.replicate (sizeN (m * n)).length 0) s4 .no .no .no .no) ?_ ?_
    · simp (disch := omega) only [mOp, mCallB, mCall, mUn, mT, mAnd, mOr, mNot, mTru, mIf, mCons, mNil, mTup, mLst, mIxB, mSeq, seqD, mRange1, mRange2, ownAt, bnd, mVar, DL.ret, lift, R.bind, noexc, hardR, hard, hardL, toB, orBad, Sl.with, List.getElem?_cons_zero, List.getElem?_cons_succ, List.length_cons, List.length_nil, List.set_cons_zero, List.set_cons_succ, wipeE_cons, wipeE_nil, if_true, Bool.false_eq_true, if_false, Bool.and_self, Bool.and_true, Bool.true_and, hard_n, lit0, lit1, lit2, lit10, add_n, max_n, min_n, lt_n, le_n, gt_n, ge_n, eq_n, ne_n, len_n, len_t, sum_n, or_n, sub_n, mul_n, fdiv_n, mod_n, ix_n, range1_n, range2_n, nLs_len]
      rfl
    · have g6 : gSet 6 (nI 0) (GB (layD ws m n one other) (m * n) (sizeN (m * n)) (stepsN (nearN m n one other) (m * n)) (List.replicate (sizeN (m * n)).length 0) s4 .no .no .no .no) = .ok (GB (layD ws m n one other) (m * n) (sizeN (m * n)) (stepsN (nearN m n one other) (m * n)) (List.replicate (sizeN (m * n)).length 0) s4 (.sh (nI 0)) .no .no .no) := rfl
      simp only [forL, g6, e2]
  refine seq_nx s1 (seq_nx s2 (seq_nx s3 (seq_nx s4' (seq_nx s5 (retN_rn (dict_m (ps_m rfl rfl (ps_m rfl (call_m (z := nL (List.replicate (m * n) 1)) (cons_m (op_m rfl rfl (lay_beds ws m n one other)) rfl) rfl) (ps_m rfl (call_m (z := .lst [nI 1]) (cons_m (op_m rfl rfl (lay_prices ws m n one other)) rfl) rfl) (ps_m rfl rfl (ps_m rfl rfl (ps_m rfl rfl rfl)))))) rfl))))))
/-! the least reach by sizes -/
def stairStep (A : List Nat) (best : List Nat) (p : Nat × Nat) : List Nat := best.set p.2 (min (nth best p.2) (nth A p.1))
def stairN (n : Nat) (A B : List Nat) : List Nat := (B.zip A).foldl (stairStep A) (List.replicate (n + 1) n)
theorem stair_ok (bs : List Int) (A B : List Nat) (n : Nat) (hn : n ≤ 1000) (hB : ∀ x ∈ B, x < A.length) (hA : ∀ x ∈ A, x ≤ n) : F__law_stair [lotsD bs A B n, nI 0] = .ok ⟨true, nL (stairN n A B), [.non, .non]⟩ := by
  have ixn : dIx (lotsD bs A B n) (.str "n") = .ok (nI n) := rfl
  have ixs : dIx (lotsD bs A B n) (.str "size") = .ok (nL A) := rfl
  have ixt : dIx (lotsD bs A B n) (.str "step") = .ok (.lst [nL B]) := rfl
  obtain ⟨Γ', e1, ⟨x, z, rfl⟩, _⟩ := forL_rel (g := gUn 2 (gsCons (gSet 3) (gsCons (gSet 4) gsNil))) (body := b0__law_stair) (fun p : Nat × Nat => .tup [nI p.1, nI p.2]) (stairStep A)
    (fun best Γ => (∃ x z, Γ = [.sh (lotsD bs A B n), .sh (nI 0), .ow (nL best), x, z]) ∧ best.length = n + 1) (L := B.zip A) (s := List.replicate (n + 1) n) (Γ := [.sh (lotsD bs A B n), .sh (nI 0), .ow (nL (List.replicate (n + 1) n)), .no, .no]) ⟨⟨_, _, rfl⟩, by simp⟩ fun p hp best Γ ⟨⟨x, z, hΓ⟩, hl⟩ => by
      subst hΓ
      have hm := List.of_mem_zip (a := p.1) (b := p.2) hp
      have h1 := hB _ hm.1
      have h2 := hA _ hm.2
      refine ⟨[.sh (lotsD bs A B n), .sh (nI 0), .ow (nL best), .sh (nI p.1), .sh (nI p.2)], [.sh (lotsD bs A B n), .sh (nI 0), .ow (nL (stairStep A best p)), .sh (nI p.1), .sh (nI p.2)], rfl, ?_, ⟨_, _, rfl⟩, by unfold stairStep; rw [List.length_set]; exact hl⟩
      have w1 : dIx (nL best) (nI p.2) = .ok (nI (nth best p.2)) := ix_n (by omega)
      have w2 : dIx (nL A) (nI p.1) = .ok (nI (nth A p.1)) := ix_n h1
      have w3 : dSetIx (nL best) (nI p.2) (nI (min (nth best p.2) (nth A p.1))) = .ok (nL (stairStep A best p)) := by
        unfold nL
        rw [set_n (by rw [nLs_len]; omega), nLs_set]
        rfl
      refine asg_nx (d := nI (min (nth best p.2) (nth A p.1))) (Γ1 := [.sh (lotsD bs A B n), .sh (nI 0), .ow (nL best), .sh (nI p.1), .sh (nI p.2)]) ?_ ?_
      · simp (disch := omega) only [mOp, mCallB, mCall, mUn, mT, mAnd, mOr, mNot, mTru, mIf, mCons, mNil, mTup, mLst, mIxB, mSeq, seqD, mRange1, mRange2, ownAt, bnd, mVar, DL.ret, lift, R.bind, noexc, hardR, hard, hardL, toB, orBad, Sl.with, List.getElem?_cons_zero, List.getElem?_cons_succ, List.length_cons, List.length_nil, List.set_cons_zero, List.set_cons_succ, wipeE_cons, wipeE_nil, if_true, Bool.false_eq_true, if_false, Bool.and_self, Bool.and_true, Bool.true_and, hard_n, lit0, lit1, lit2, lit10, add_n, max_n, min_n, lt_n, le_n, gt_n, ge_n, eq_n, ne_n, len_n, len_t, sum_n, or_n, sub_n, mul_n, fdiv_n, mod_n, ix_n, range1_n, range2_n, nLs_len, w1, ixs, w2]
      · simp only [gSetIx, ownAt, mVar, R.bind, List.getElem?_cons_zero, List.getElem?_cons_succ, w3]
        rfl
  refine run_rn (Γ := [.sh (lotsD bs A B n), .sh (nI 0), .no, x, z]) ?_ rfl
  have e : (env0 N__law_stair.length [false, false] [lotsD bs A B n, nI 0] : Env) = [.sh (lotsD bs A B n), .sh (nI 0), .no, .no, .no] := rfl
  rw [e]
  refine seq_nx (asg_nx (d := nL (List.replicate (n + 1) n)) (Γ1 := [.sh (lotsD bs A B n), .sh (nI 0), .no, .no, .no]) ?_ rfl) (seq_nx (for_eq (ds := (B.zip A).map fun p => .tup [nI p.1, nI p.2]) (Γ1 := [.sh (lotsD bs A B n), .sh (nI 0), .ow (nL (List.replicate (n + 1) n)), .no, .no]) ?_ e1) rfl)
  · have := rep_n (k := n) (n := n + 1) (by omega)
    simp (disch := omega) only [mOp, mCallB, mCall, mUn, mT, mAnd, mOr, mNot, mTru, mIf, mCons, mNil, mTup, mLst, mIxB, mSeq, seqD, mRange1, mRange2, ownAt, bnd, mVar, DL.ret, lift, R.bind, noexc, hardR, hard, hardL, toB, orBad, Sl.with, List.getElem?_cons_zero, List.getElem?_cons_succ, List.length_cons, List.length_nil, List.set_cons_zero, List.set_cons_succ, wipeE_cons, wipeE_nil, if_true, Bool.false_eq_true, if_false, Bool.and_self, Bool.and_true, Bool.true_and, hard_n, lit0, lit1, lit2, lit10, add_n, max_n, min_n, lt_n, le_n, gt_n, ge_n, eq_n, ne_n, len_n, len_t, sum_n, or_n, sub_n, mul_n, fdiv_n, mod_n, ix_n, range1_n, range2_n, nLs_len, ixn, lst1, this]
    rfl
  · have a := cons_m (a := mOp dIx (mOp dIx (mVar 0) (ret (.str "step"))) (mVar 1)) (r := mCons (mOp dIx (mVar 0) (ret (.str "size"))) mNil) (Γ := [.sh (lotsD bs A B n), .sh (nI 0), .ow (nL (List.replicate (n + 1) n)), .no, .no]) (op_m (op_m rfl rfl ixt) rfl (ix0 (nL B))) (cons_m (op_m rfl rfl ixs) rfl)
    rw [← zip2_n]
    unfold mZipA bnd
    simp only [a, R.bind, lift]
    rfl
end K13
namespace K13
open L2 DL
/-! few lots: all pairs of stairs, one by one -/
def ext (n : Nat) : Nat → List (List Nat)
  | 0 => [[0]]
  | k + 1 => (ext n k).flatMap fun L => ((List.range (n + 1)).filter fun z => decide (k + 1 ≤ z) && decide (nth L k ≤ z)).map fun z => L ++ [z]
/-- how many bits, of 14 at most -/
def pcf (x : Nat) : Nat := Nat.mod (Nat.land (Nat.mul x 35185445863425) 76861433640456465) 15
def tt (T c : Nat) : Nat := Nat.land (Nat.shiftRight T (Nat.mul 4 c)) 15
def leaf (T acc c : Nat) : Nat := bif Nat.ble (tt T c) (pcf acc) then (bif Nat.ble (pcf acc) (tt T c) then Nat.shiftLeft 1 c else 0) else 1048576
noncomputable def go (T : Nat) (near : List Nat) : Nat → Nat → Nat := List.rec (motive := fun _ => Nat → Nat → Nat) (fun acc c => leaf T acc c) (fun x _ ih acc c => Nat.lor (ih acc c) (ih (Nat.lor acc x) (Nat.succ c))) near
def pack (t : List Nat) : Nat := t.foldr (fun d a => d + 16 * a) 0
noncomputable def chk (m n : Nat) (one other : List Nat) : Bool :=
  (nearN m n one other).length == m * n && ((nearN m n one other).all fun x => decide (x < 2 ^ (m * n))) && ((List.range (m * n + 1)).all fun c => tt (pack (tp m n one other)) c == nth (tp m n one other) c) && Nat.beq (go (pack (tp m n one other)) (nearN m n one other) 0 0) (2 ^ (m * n + 1) - 1)
noncomputable def chkAll (m n : Nat) : Bool := (ext m m).all fun one => (ext n n).all fun other => chk m n one other
theorem pc_tbl : ((List.range 10).all fun N => decide ((List.range (2 ^ N)).map pcf = sizeN N)) = true := by decide +kernel
theorem c11 : chkAll 1 1 = true := by decide +kernel
theorem c12 : chkAll 1 2 = true := by decide +kernel
theorem c13 : chkAll 1 3 = true := by decide +kernel
theorem c14 : chkAll 1 4 = true := by decide +kernel
theorem c15 : chkAll 1 5 = true := by decide +kernel
theorem c16 : chkAll 1 6 = true := by decide +kernel
theorem c21 : chkAll 2 1 = true := by decide +kernel
theorem c22 : chkAll 2 2 = true := by decide +kernel
theorem c23 : chkAll 2 3 = true := by decide +kernel
theorem c24 : chkAll 2 4 = true := by decide +kernel
theorem c31 : chkAll 3 1 = true := by decide +kernel
theorem c32 : chkAll 3 2 = true := by decide +kernel
theorem c33 : chkAll 3 3 = true := by decide +kernel
theorem c41 : chkAll 4 1 = true := by decide +kernel
theorem c42 : chkAll 4 2 = true := by decide +kernel
theorem c51 : chkAll 5 1 = true := by decide +kernel
theorem c61 : chkAll 6 1 = true := by decide +kernel
theorem ext_mem {n : Nat} {L : List Nat} (h : Sr n L) : ∀ k, k ≤ n → L.take (k + 1) ∈ ext n k
  | 0, _ => by
    have : L.take 1 = [0] := by
      refine ext_nth (by rw [List.length_take, h.len]; show min 1 (n + 1) = 1; omega) fun k hk => ?_
      rw [List.length_take, h.len] at hk
      have h0 : k = 0 := by omega
      subst h0
      unfold nth
      rw [List.getD_eq_getElem?_getD, List.getElem?_take_of_lt (by omega)]
      have := h.zero
      unfold nth at this
      rw [List.getD_eq_getElem?_getD] at this
      rw [this]
      rfl
    rw [this]
    exact List.mem_singleton_self _
  | k + 1, hk => by
    unfold ext
    rw [List.mem_flatMap]
    refine ⟨L.take (k + 1), ext_mem h k (by omega), ?_⟩
    rw [List.mem_map]
    have ht : nth (L.take (k + 1)) k = nth L k := by
      unfold nth
      rw [List.getD_eq_getElem?_getD, List.getD_eq_getElem?_getD, List.getElem?_take_of_lt (by omega)]
    refine ⟨nth L (k + 1), ?_, ?_⟩
    · rw [List.mem_filter, List.mem_range, ht]
      have a := h.top (k + 1) hk
      have b := h.low (k + 1) hk
      have c := h.up k (by omega)
      exact ⟨by omega, by simp only [Bool.and_eq_true, decide_eq_true_eq]; exact ⟨b, c⟩⟩
    · rw [nth_eq (by rw [h.len]; omega)]
      exact List.take_append_getElem (by rw [h.len]; omega)
theorem ext_all {n : Nat} {L : List Nat} (h : Sr n L) : L ∈ ext n n := by
  have := ext_mem h n (Nat.le_refl n)
  rwa [List.take_of_length_le (by rw [h.len]; omega)] at this
theorem chk_all {m n : Nat} {one other : List Nat} (h1 : Sr m one) (h2 : Sr n other) (hc : chkAll m n = true) : chk m n one other = true := by
  unfold chkAll at hc
  rw [List.all_eq_true] at hc
  have := hc one (ext_all h1)
  rw [List.all_eq_true] at this
  exact this other (ext_all h2)
def few : List (Nat × Nat) := [(1, 1), (1, 2), (1, 3), (1, 4), (1, 5), (1, 6), (2, 1), (2, 2), (2, 3), (2, 4), (3, 1), (3, 2), (3, 3), (4, 1), (4, 2), (5, 1), (6, 1)]
theorem few_ok : ∀ p ∈ few, chkAll p.1 p.2 = true := by
  intro p hp
  unfold few at hp
  simp only [List.mem_cons, List.not_mem_nil, or_false] at hp
  rcases hp with rfl | rfl | rfl | rfl | rfl | rfl | rfl | rfl | rfl | rfl | rfl | rfl | rfl | rfl | rfl | rfl | rfl
  · exact c11
  · exact c12
  · exact c13
  · exact c14
  · exact c15
  · exact c16
  · exact c21
  · exact c22
  · exact c23
  · exact c24
  · exact c31
  · exact c32
  · exact c33
  · exact c41
  · exact c42
  · exact c51
  · exact c61
theorem chk_ok {m n : Nat} {one other : List Nat} (hm : 0 < m) (hn : 0 < n) (hm6 : m ≤ 6) (hn6 : n ≤ 6) (h : m * n < 10) (h1 : Sr m one) (h2 : Sr n other) : chk m n one other = true := by
  have hmem : (m, n) ∈ few := by
    have hm' : m = 1 ∨ m = 2 ∨ m = 3 ∨ m = 4 ∨ m = 5 ∨ m = 6 := by omega
    have hn' : n = 1 ∨ n = 2 ∨ n = 3 ∨ n = 4 ∨ n = 5 ∨ n = 6 := by omega
    rcases hm' with rfl | rfl | rfl | rfl | rfl | rfl <;> rcases hn' with rfl | rfl | rfl | rfl | rfl | rfl <;> first | omega | (unfold few; decide)
  exact chk_all h1 h2 (few_ok (m, n) hmem)
/-! what the look tells -/
inductive Lv : List Nat → Nat → Nat → Nat → Nat → Prop
  | nil (acc c : Nat) : Lv [] acc c acc c
  | no {xs : List Nat} {x acc c a c' : Nat} : Lv xs acc c a c' → Lv (x :: xs) acc c a c'
  | yes {xs : List Nat} {x acc c a c' : Nat} : Lv xs (acc ||| x) (c + 1) a c' → Lv (x :: xs) acc c a c'
theorem go_bit (T b : Nat) : ∀ (near : List Nat) (acc c : Nat), (go T near acc c).testBit b = true ↔ ∃ a c', Lv near acc c a c' ∧ (leaf T a c').testBit b = true
  | [], acc, c => by
    constructor
    · intro h
      exact ⟨acc, c, .nil acc c, h⟩
    · rintro ⟨a, c', h, g⟩
      cases h
      exact g
  | x :: xs, acc, c => by
    have e : go T (x :: xs) acc c = (go T xs acc c ||| go T xs (acc ||| x) (c + 1)) := rfl
    rw [e, Nat.testBit_or, Bool.or_eq_true, go_bit T b xs acc c, go_bit T b xs (acc ||| x) (c + 1)]
    constructor
    · rintro (⟨a, c', h, g⟩ | ⟨a, c', h, g⟩)
      · exact ⟨a, c', .no h, g⟩
      · exact ⟨a, c', .yes h, g⟩
    · rintro ⟨a, c', h, g⟩
      cases h with
      | no h => exact .inl ⟨a, c', h, g⟩
      | yes h => exact .inr ⟨a, c', h, g⟩
theorem nth_app_l {L M : List Nat} {k : Nat} (h : k < L.length) : nth (L ++ M) k = nth L k := nth_append_left h
theorem nth_app_r {L M : List Nat} {k : Nat} : nth (L ++ M) (L.length + k) = nth M k := by
  unfold nth
  rw [List.getD_eq_getElem?_getD, List.getD_eq_getElem?_getD, List.getElem?_append_right (by omega), Nat.add_sub_cancel_left]
theorem nth_map {f : Nat → Nat} {L : List Nat} {k : Nat} (h : k < L.length) : nth (L.map f) k = f (nth L k) := by
  rw [nth_eq (by simpa using h), nth_eq h, List.getElem_map]
theorem steps_lo (near : List Nat) (i x : Nat) (h : x < 2 ^ i) : nth (stepsN near (i + 1)) x = nth (stepsN near i) x := nth_append_left (by rw [stepsN_len]; exact h)
theorem steps_hi (near : List Nat) (i x : Nat) (h : x < 2 ^ i) : nth (stepsN near (i + 1)) (2 ^ i + x) = (nth (stepsN near i) x ||| nth near i) := by
  have := nth_app_r (L := stepsN near i) (M := (stepsN near i).map fun y => y ||| nth near i) (k := x)
  rw [stepsN_len, nth_map (by rw [stepsN_len]; exact h)] at this
  exact this
theorem size_lo (i x : Nat) (h : x < 2 ^ i) : nth (sizeN (i + 1)) x = nth (sizeN i) x := nth_append_left (by rw [sizeN_len]; exact h)
theorem size_hi (i x : Nat) (h : x < 2 ^ i) : nth (sizeN (i + 1)) (2 ^ i + x) = nth (sizeN i) x + 1 := by
  have := nth_app_r (L := sizeN i) (M := (sizeN i).map (· + 1)) (k := x)
  rw [sizeN_len, nth_map (by rw [sizeN_len]; exact h)] at this
  exact this
theorem lv_of (near : List Nat) : ∀ (i x a c : Nat), i ≤ near.length → x < 2 ^ i → Lv (near.drop i) (nth (stepsN near i) x) (nth (sizeN i) x) a c → Lv near 0 0 a c
  | 0, x, a, c, _, hx, h => by
    have : x = 0 := by rw [Nat.pow_zero] at hx; omega
    subst this
    exact h
  | i + 1, x, a, c, hi, hx, h => by
    have hd : near.drop i = nth near i :: near.drop (i + 1) := by
      rw [nth_eq (by omega)]
      exact List.drop_eq_getElem_cons (by omega)
    by_cases hlt : x < 2 ^ i
    · rw [steps_lo near i x hlt, size_lo i x hlt] at h
      exact lv_of near i x a c (by omega) hlt (by rw [hd]; exact .no h)
    · have hp : 2 ^ (i + 1) = 2 ^ i + 2 ^ i := by rw [Nat.pow_succ]; omega
      obtain ⟨y, rfl⟩ : ∃ y, x = 2 ^ i + y := ⟨x - 2 ^ i, by omega⟩
      rw [steps_hi near i y (by omega), size_hi i y (by omega)] at h
      exact lv_of near i y a c (by omega) (by omega) (by rw [hd]; exact .yes h)
theorem lv_at (near : List Nat) : ∀ (d i x a c : Nat), i + d = near.length → x < 2 ^ i → Lv (near.drop i) (nth (stepsN near i) x) (nth (sizeN i) x) a c → ∃ y, y < 2 ^ near.length ∧ a = nth (stepsN near near.length) y ∧ c = nth (sizeN near.length) y
  | 0, i, x, a, c, hi, hx, h => by
    have : i = near.length := by omega
    subst this
    rw [List.drop_length] at h
    cases h
    exact ⟨x, hx, rfl, rfl⟩
  | d + 1, i, x, a, c, hi, hx, h => by
    have hd : near.drop i = nth near i :: near.drop (i + 1) := by
      rw [nth_eq (by omega)]
      exact List.drop_eq_getElem_cons (by omega)
    have hp : 2 ^ (i + 1) = 2 ^ i + 2 ^ i := by rw [Nat.pow_succ]; omega
    rw [hd] at h
    cases h with
    | no h => exact lv_at near d (i + 1) x a c (by omega) (by omega) (by rw [steps_lo near i x hx, size_lo i x hx]; exact h)
    | yes h => exact lv_at near d (i + 1) (2 ^ i + x) a c (by omega) (by omega) (by rw [steps_hi near i x hx, size_hi i x hx]; exact h)
theorem pc_ok {N x : Nat} (hN : N ≤ 9) (hx : x < 2 ^ N) : nth (sizeN N) x = pcf x := by
  have := pc_tbl
  rw [List.all_eq_true] at this
  have := of_decide_eq_true (this N (by rw [List.mem_range]; omega))
  rw [← this, nth_range hx]
theorem stair_fold {N : Nat} {A : List Nat} : ∀ {ps : List (Nat × Nat)} {P : Nat → Nat → Prop} {best : List Nat}, (∀ p ∈ ps, p.2 ≤ N) → IB N P best → IB N (fun c x => P c x ∨ ∃ p ∈ ps, p.2 = c ∧ nth A p.1 = x) (ps.foldl (stairStep A) best)
  | [], P, best, _, h => h.imp fun c r => by simp
  | r :: rs, P, best, hr, h => by
    refine (stair_fold (fun r h => hr r (List.mem_cons_of_mem _ h)) (h.step (c0 := r.2) (r0 := nth A r.1) (hr r List.mem_cons_self))).imp fun c x => ?_
    constructor
    · rintro ((h | ⟨e1, e2⟩) | ⟨s, hs, e1, e2⟩)
      · exact .inl h
      · exact .inr ⟨r, List.mem_cons_self, e1.symm, e2.symm⟩
      · exact .inr ⟨s, List.mem_cons_of_mem _ hs, e1, e2⟩
    · rintro (h | ⟨s, hs, e1, e2⟩)
      · exact .inl (.inl h)
      · rcases List.mem_cons.mp hs with rfl | hs
        · exact .inl (.inr ⟨e1.symm, e2.symm⟩)
        · exact .inr ⟨s, hs, e1, e2⟩
theorem zip_nth {B A : List Nat} {p : Nat × Nat} (h : A.length = B.length) : p ∈ B.zip A ↔ ∃ x, x < B.length ∧ p = (nth B x, nth A x) := by
  constructor
  · intro hp
    obtain ⟨x, hx, rfl⟩ := List.getElem_of_mem hp
    rw [List.length_zip] at hx
    refine ⟨x, by omega, ?_⟩
    rw [List.getElem_zip, nth_eq (by omega), nth_eq (by omega)]
  · rintro ⟨x, hx, rfl⟩
    have : (B.zip A)[x]'(by rw [List.length_zip]; omega) = (nth B x, nth A x) := by
      rw [List.getElem_zip, nth_eq (by omega), nth_eq (by omega)]
    rw [← this]
    exact List.getElem_mem _
theorem rep_ib (N : Nat) : IB N (fun _ _ => False) (List.replicate (N + 1) N) := by
  have e : ∀ c, c ≤ N → nth (List.replicate (N + 1) N) c = N := fun c hc => rep_get (by omega)
  exact ⟨by simp, fun c hc => by rw [e c hc]; omega, fun c hc r hr => hr.elim, fun c hc => .inl (e c hc)⟩
theorem chk_stair {m n : Nat} {one other : List Nat} (hN : m * n ≤ 9) (h : chk m n one other = true) : (nearN m n one other).length = m * n ∧ (∀ x ∈ nearN m n one other, x < 2 ^ (m * n)) ∧ stairN (m * n) (sizeN (m * n)) (stepsN (nearN m n one other) (m * n)) = tp m n one other := by
  unfold chk at h
  rw [Bool.and_eq_true, Bool.and_eq_true, Bool.and_eq_true] at h
  obtain ⟨⟨⟨h1, h2⟩, h3⟩, h4⟩ := h
  have h1 := eq_of_beq h1
  rw [List.all_eq_true] at h2 h3
  have h2 : ∀ x ∈ nearN m n one other, x < 2 ^ (m * n) := fun x hx => of_decide_eq_true (h2 x hx)
  have h3 : ∀ c, c ≤ m * n → tt (pack (tp m n one other)) c = nth (tp m n one other) c := fun c hc => eq_of_beq (h3 c (by rw [List.mem_range]; omega))
  have h4 : go (pack (tp m n one other)) (nearN m n one other) 0 0 = 2 ^ (m * n + 1) - 1 := Nat.eq_of_beq_eq_true h4
  refine ⟨h1, h2, ?_⟩
  have hbit : ∀ b, (2 ^ (m * n + 1) - 1).testBit b = decide (b < m * n + 1) := fun b => Nat.testBit_two_pow_sub_one _ _
  have all : ∀ a c, Lv (nearN m n one other) 0 0 a c → tt (pack (tp m n one other)) c ≤ pcf a := fun a c hl => by
    by_cases hc : tt (pack (tp m n one other)) c ≤ pcf a
    · exact hc
    · have hb : (go (pack (tp m n one other)) (nearN m n one other) 0 0).testBit 20 = true := by
        rw [go_bit]
        refine ⟨a, c, hl, ?_⟩
        unfold leaf
        have : Nat.ble (tt (pack (tp m n one other)) c) (pcf a) = false := by
          cases hx : Nat.ble (tt (pack (tp m n one other)) c) (pcf a) with
          | false => rfl
          | true => exact absurd (Nat.le_of_ble_eq_true hx) hc
        rw [this, cond_false]
        decide
      rw [h4, hbit, decide_eq_true_eq] at hb
      omega
  have ex : ∀ c, c ≤ m * n → ∃ a, Lv (nearN m n one other) 0 0 a c ∧ tt (pack (tp m n one other)) c = pcf a := fun c hc => by
    have hb : (go (pack (tp m n one other)) (nearN m n one other) 0 0).testBit c = true := by
      rw [h4, hbit, decide_eq_true_eq]
      omega
    rw [go_bit] at hb
    obtain ⟨a, c', hl, g⟩ := hb
    unfold leaf at g
    cases hx : Nat.ble (tt (pack (tp m n one other)) c') (pcf a) with
    | false =>
      rw [hx] at g
      have : (1048576 : Nat) = 2 ^ 20 := by rfl
      rw [cond_false, this, Nat.testBit_two_pow, decide_eq_true_eq] at g
      omega
    | true =>
      rw [hx, cond_true] at g
      cases hy : Nat.ble (pcf a) (tt (pack (tp m n one other)) c') with
      | false =>
        rw [hy, cond_false] at g
        simp at g
      | true =>
        rw [hy, cond_true] at g
        have e : Nat.shiftLeft 1 c' = 2 ^ c' := Nat.one_shiftLeft c'
        rw [e, Nat.testBit_two_pow, decide_eq_true_eq] at g
        subst g
        exact ⟨a, hl, Nat.le_antisymm (Nat.le_of_ble_eq_true hx) (Nat.le_of_ble_eq_true hy)⟩
  have hlenS := stepsN_len (nearN m n one other) (m * n)
  have hlenA := sizeN_len (m * n)
  have zp : ∀ p : Nat × Nat, p ∈ (stepsN (nearN m n one other) (m * n)).zip (sizeN (m * n)) ↔ ∃ x, x < 2 ^ (m * n) ∧ p = (nth (stepsN (nearN m n one other) (m * n)) x, nth (sizeN (m * n)) x) := fun p => by
    have := zip_nth (B := stepsN (nearN m n one other) (m * n)) (A := sizeN (m * n)) (p := p) (by rw [hlenS, hlenA])
    rwa [hlenS] at this
  have stepLt : ∀ x, x < 2 ^ (m * n) → nth (stepsN (nearN m n one other) (m * n)) x < 2 ^ (m * n) := fun x hx => by
    rw [nth_eq (by rw [hlenS]; exact hx)]
    exact stepsN_lt _ _ h2 _ _ (List.getElem_mem _)
  have b1 := stair_fold (A := sizeN (m * n)) (ps := (stepsN (nearN m n one other) (m * n)).zip (sizeN (m * n))) (N := m * n) (fun p hp => by
    have := (List.of_mem_zip (a := p.1) (b := p.2) hp).2
    exact sizeN_le _ _ this) (rep_ib (m * n))
  refine b1.uniq ?_
  have b2 := tp_ib m n one other
  refine ⟨b2.len, b2.top, fun c hc r hr => ?_, fun c hc => ?_⟩
  · rcases hr with hr | ⟨p, hp, e1, e2⟩
    · exact hr.elim
    · rw [zp] at hp
      obtain ⟨x, hx, rfl⟩ := hp
      have hl : Lv (nearN m n one other) 0 0 (nth (stepsN (nearN m n one other) (m * n)) x) (nth (sizeN (m * n)) x) := by
        refine lv_of _ (m * n) x _ _ (by omega) hx ?_
        rw [show (nearN m n one other).drop (m * n) = [] from by rw [← h1, List.drop_length]]
        exact .nil _ _
      have := all _ _ hl
      simp only at e1 e2
      rw [e1, h3 c hc] at this
      rw [← e2, pc_ok hN (stepLt x hx)]
      exact this
  · right
    right
    obtain ⟨a, hl, e⟩ := ex c hc
    obtain ⟨y, hy, ea, ec⟩ := lv_at (nearN m n one other) (m * n) 0 0 a c (by omega) (by rw [Nat.pow_zero]; omega) hl
    rw [h1] at hy ea ec
    refine ⟨(a, c), (zp _).2 ⟨y, hy, by rw [ea, ec]⟩, rfl, ?_⟩
    show nth (sizeN (m * n)) a = _
    rw [← h3 c hc, e, pc_ok hN]
    rw [ea]
    exact stepLt y hy
end K13
namespace K13
open L2 DL
/-! lists of numbers compared -/
theorem pd_ints : ∀ L : List Int, toPdL (L.map D.int) = some (L.map PySem.PyData.int)
  | [] => rfl
  | k :: L => by
    rw [List.map_cons, toPdL, pd_ints L]
    rfl
theorem lay_ints : ∀ L : List Int, PySem.PyData.canLayAll0 (L.map PySem.PyData.int) = true
  | [] => rfl
  | k :: L => by
    rw [List.map_cons, PySem.PyData.canLayAll0, lay_ints L]
    rfl
theorem dep_ints : ∀ L : List Int, PySem.PyData.depthAll (L.map PySem.PyData.int) ≤ 1
  | [] => by simp [PySem.PyData.depthAll]
  | k :: L => by
    have := dep_ints L
    rw [List.map_cons, PySem.PyData.depthAll]
    simp only [PySem.PyData.depth]
    omega
theorem eqv_ints : ∀ L M : List Int, PySem.PyData.eqvAll (L.map PySem.PyData.int) (M.map PySem.PyData.int) = decide (L = M)
  | [], [] => rfl
  | [], _ :: _ => rfl
  | _ :: _, [] => rfl
  | x :: L, y :: M => by
    rw [List.map_cons, List.map_cons, PySem.PyData.eqvAll, eqv_ints L M]
    simp only [PySem.PyData.eqv, List.cons.injEq, Bool.decide_and]
    rfl
theorem shp_ints (L : List Int) : PySem.SeqAt.shaped (.list (L.map PySem.PyData.int)) = true := by
  unfold PySem.SeqAt.shaped
  have h1 := lay_ints L
  have h2 := dep_ints L
  simp only [PySem.PyData.canLay0, h1, Bool.true_and, decide_eq_true_eq]
  rw [PySem.PyData.depth]
  omega
theorem cmp_ints (g : Bool → Bool) (L M : List Int) : dCmp g (.lst (L.map D.int)) (.lst (M.map D.int)) = .ok (.bl (g (decide (L = M)))) := by
  have a : ∀ L : List Int, toPd (.lst (L.map D.int)) = some (.list (L.map PySem.PyData.int)) := fun L => by
    simp only [toPd, pd_ints, Option.map]
  unfold dCmp
  simp only [a, shp_ints, Bool.and_self, if_true, PySem.PyData.eqv, eqv_ints]
theorem nL_ints (L : List Nat) : nL L = .lst ((zI L).map D.int) := by
  unfold nL nLs zI
  rw [List.map_map]
  rfl
theorem zI_inj {L M : List Nat} : zI L = zI M ↔ L = M := by
  unfold zI
  constructor
  · intro h
    exact (List.map_inj_right fun a b h => by omega).mp h
  · intro h
    rw [h]
theorem ne_nL (L M : List Nat) : dNe (nL L) (nL M) = .ok (.bl (!decide (L = M))) := by
  rw [nL_ints, nL_ints]
  unfold dNe
  rw [cmp_ints]
  simp only [zI_inj]
theorem eq_nL (L M : List Nat) : dEq (nL L) (nL M) = .ok (.bl (decide (L = M))) := by
  rw [nL_ints, nL_ints]
  unfold dEq
  rw [cmp_ints]
  simp only [zI_inj, id]
end K13
namespace K13
open L2 DL
/-! rows that never rise, in the mirrors -/
abbrev nLL (R : List (List Nat)) : D := .lst (R.map nL)
theorem addL_n {L : List Nat} {z : Nat} (h : L.length ≤ 100) : dAddL (nL L) (.lst [nI z]) = .ok (nL (L ++ [z])) := by
  unfold nL
  rw [addL_le (by rw [nLs_len]; show _ + 1 ≤ _; omega), nLs_app]
  rfl
theorem last_ix {L : List Nat} {n : Nat} (h : L ≠ []) : dIx (nL L) (.int (-1)) = .ok (nI (lastOr L n)) := by
  have hl : 0 < L.length := List.length_pos_iff.mpr h
  unfold nL
  rw [ix_l hl]
  congr 2
  exact (lastOr_pos (by omega)).symm
/-- the comprehension of two fors -/
theorem lcL2_mm {α β : Type} {vs vs1 : List Nat} {g g1 : GM} {it1 : M (List D)} {e : M D} {Γ : Env} (c : α → D) (c1 : β → D) (it : α → List β) (f : α → β → D) : ∀ {L : List α}, (∀ a ∈ L, ∃ Γa Γc, g (c a) Γ = .ok Γa ∧ it1 Γa = .ok ((it a).map c1, Γc) ∧ lcL vs1 g1 (ret true) e ((it a).map c1) (wipeE Γc vs1) = .ok ((it a).map (f a), Γc) ∧ wipeE Γc vs = Γ) →
    lcL2 vs g (ret true) it1 vs1 g1 (ret true) e (L.map c) Γ = .ok (L.flatMap fun a => (it a).map (f a), Γ)
  | [], _ => rfl
  | a :: L, h => by
    obtain ⟨Γa, Γc, h1, h2, h3, h4⟩ := h a List.mem_cons_self
    have ih := lcL2_mm c c1 it f (L := L) fun x hx => h x (List.mem_cons_of_mem _ hx)
    rw [List.map_cons]
    unfold lcL2
    have hr : ∀ Γ : Env, (DL.ret true : M Bool) Γ = .ok (true, Γ) := fun _ => rfl
    simp only [h1, hr, if_true, h2, h3, h4, ih, R.bind, List.flatMap_cons]
theorem rows_len (n : Nat) : ∀ m, ∀ r ∈ rowsN n m, r.length = m := fun m r hr => ((mem_rows n).1 hr).len
theorem rows_last (n m : Nat) : ∀ r ∈ rowsN n m, lastOr r n ≤ n := fun r hr => by
  have h := (mem_rows n).1 hr
  cases m with
  | zero =>
    have : r = [] := List.length_eq_zero_iff.mp h.len
    subst this
    exact Nat.le_refl n
  | succ m =>
    rw [lastOr_pos h.len]
    exact h.top m (by omega)
theorem rows_tbl : ((List.range 9).all fun n => (List.range 9).all fun m => decide ((rowsN n m).length ≤ 20000)) = true := by decide +kernel
theorem rows_many {n m : Nat} (hn : n ≤ 8) (hm : m ≤ 8) : (rowsN n m).length ≤ 20000 := by
  have := rows_tbl
  rw [List.all_eq_true] at this
  have := this n (by rw [List.mem_range]; omega)
  rw [List.all_eq_true] at this
  have := this m (by rw [List.mem_range]; omega)
  exact of_decide_eq_true this
theorem emptyNe (L : List Nat) : dNe (nL L) (.lst []) = .ok (.bl (decide (L ≠ []))) := by
  have := ne_nL L []
  rw [← decide_not] at this
  exact this
theorem falling_ok (m n : Nat) (hm : m ≤ 8) (hn : n ≤ 8) : F_falling_rows [nI m, nI n] = .ok ⟨false, nLL (rowsN n m), [.non, .non]⟩ := by
  have z0 : dLst [] = .ok (.lst []) := lst_le (by show 0 ≤ 16777216; omega)
  have turn : ∀ (i : Nat) (s3 : Sl), i < m → b0_falling_rows [.sh (nI m), .sh (nI n), .sh (nLL (rowsN n i)), s3, .no, .no] = .nx [.sh (nI m), .sh (nI n), .sh (nLL (rowsN n (i + 1))), s3, .no, .no] := fun i s3 hi => by
    have c := lcL2_mm (vs := [4, 5]) (g := gSet 4) (it1 := (mRange1 (mCons (mOp dAdd (mIf (mT (mOp dNe (mVar 4) (mLst mNil))) (mOp dIx (mVar 4) (mUn dNeg (ret (.int 1)))) (mVar 1)) (ret (.int 1))) mNil))) (vs1 := [5]) (g1 := gSet 5) (e := (mOp dAddL (mVar 4) (mLst (mCons (mVar 5) mNil)))) (Γ := [.sh (nI m), .sh (nI n), .sh (nLL (rowsN n i)), s3, .no, .no]) nL nI (fun r => List.range (lastOr r n + 1)) (fun r z => nL (r ++ [z])) (L := rowsN n i) fun r hr => by
      have hl := rows_len n i r hr
      have hlast := rows_last n i r hr
      refine ⟨[.sh (nI m), .sh (nI n), .sh (nLL (rowsN n i)), s3, .sh (nL r), .no], [.sh (nI m), .sh (nI n), .sh (nLL (rowsN n i)), s3, .sh (nL r), .no], rfl, ?_, ?_, rfl⟩
      · have t : mT (mOp dNe (mVar 4) (mLst mNil)) [.sh (nI m), .sh (nI n), .sh (nLL (rowsN n i)), s3, .sh (nL r), .no] = .ok (decide (r ≠ []), [.sh (nI m), .sh (nI n), .sh (nLL (rowsN n i)), s3, .sh (nL r), .no]) := by
          simp (disch := omega) only [mOp, mCallB, mCall, mUn, mT, mAnd, mOr, mNot, mTru, mIf, mCons, mNil, mTup, mLst, mIxB, mSeq, seqD, mRange1, mRange2, ownAt, bnd, mVar, DL.ret, lift, R.bind, noexc, hardR, hard, hardL, toB, orBad, Sl.with, List.getElem?_cons_zero, List.getElem?_cons_succ, List.length_cons, List.length_nil, List.set_cons_zero, List.set_cons_succ, wipeE_cons, wipeE_nil, if_true, Bool.false_eq_true, if_false, Bool.and_self, Bool.and_true, Bool.true_and, hard_n, lit0, lit1, lit2, lit10, add_n, max_n, min_n, lt_n, le_n, gt_n, ge_n, eq_n, ne_n, len_n, len_t, sum_n, or_n, sub_n, mul_n, fdiv_n, mod_n, ix_n, range1_n, range2_n, nLs_len, z0, emptyNe r]
        have v : mIf (mT (mOp dNe (mVar 4) (mLst mNil))) (mOp dIx (mVar 4) (mUn dNeg (ret (.int 1)))) (mVar 1) [.sh (nI m), .sh (nI n), .sh (nLL (rowsN n i)), s3, .sh (nL r), .no] = .ok (nI (lastOr r n), [.sh (nI m), .sh (nI n), .sh (nLL (rowsN n i)), s3, .sh (nL r), .no]) := by
          by_cases hr0 : r = []
          · subst hr0
            exact tIf_f (by rw [t]; rfl) rfl
          · refine tIf_t (by rw [t, decide_eq_true hr0]) (op_m rfl rfl (last_ix hr0))
        have a := op_m v (show ret (.int 1) _ = .ok (nI 1, _) from rfl) (add_n (lastOr r n) 1)
        have b := cons_m (r := mNil) a rfl
        unfold mRange1 bnd
        simp (disch := omega) only [b, R.bind, lift, range1_n]
      · refine lcL_mm (vs := [5]) (g := gSet 5) (e := (mOp dAddL (mVar 4) (mLst (mCons (mVar 5) mNil)))) (Γ := [.sh (nI m), .sh (nI n), .sh (nLL (rowsN n i)), s3, .sh (nL r), .no]) nI (fun z => nL (r ++ [z])) fun z hz => ?_
        refine ⟨[.sh (nI m), .sh (nI n), .sh (nLL (rowsN n i)), s3, .sh (nL r), .sh (nI z)], [.sh (nI m), .sh (nI n), .sh (nLL (rowsN n i)), s3, .sh (nL r), .sh (nI z)], rfl, ?_, rfl⟩
        simp (disch := omega) only [mOp, mCallB, mCall, mUn, mT, mAnd, mOr, mNot, mTru, mIf, mCons, mNil, mTup, mLst, mIxB, mSeq, seqD, mRange1, mRange2, ownAt, bnd, mVar, DL.ret, lift, R.bind, noexc, hardR, hard, hardL, toB, orBad, Sl.with, List.getElem?_cons_zero, List.getElem?_cons_succ, List.length_cons, List.length_nil, List.set_cons_zero, List.set_cons_succ, wipeE_cons, wipeE_nil, if_true, Bool.false_eq_true, if_false, Bool.and_self, Bool.and_true, Bool.true_and, hard_n, lit0, lit1, lit2, lit10, add_n, max_n, min_n, lt_n, le_n, gt_n, ge_n, eq_n, ne_n, len_n, len_t, sum_n, or_n, sub_n, mul_n, fdiv_n, mod_n, ix_n, range1_n, range2_n, nLs_len, lst1, addL_n (L := r) (z := z) (by omega)]
    refine (asg_nx (d := .lst ((rowsN n i).flatMap fun r => (List.range (lastOr r n + 1)).map fun z => nL (r ++ [z]))) (Γ1 := [.sh (nI m), .sh (nI n), .sh (nLL (rowsN n i)), s3, .no, .no]) ?_ rfl).trans ?_
    · have hb : ((rowsN n i).flatMap fun r => (List.range (lastOr r n + 1)).map fun z => nL (r ++ [z])).length ≤ big := by
        have h1 := rows_many hn (show i + 1 ≤ 8 by omega)
        have h2 : ((rowsN n i).flatMap fun r => (List.range (lastOr r n + 1)).map fun z => nL (r ++ [z])) = (rowsN n (i + 1)).map nL := by
          rw [rowsN, List.map_flatMap]
          congr 1
          funext r
          rw [List.map_map]
          rfl
        rw [h2, List.length_map]
        exact le_big (by omega)
      have hi1 : mSeq (mVar 2) [.sh (nI m), .sh (nI n), .sh (nLL (rowsN n i)), s3, .no, .no] = .ok ((rowsN n i).map nL, [.sh (nI m), .sh (nI n), .sh (nLL (rowsN n i)), s3, .no, .no]) := rfl
      have hw : wipeE [.sh (nI m), .sh (nI n), .sh (nLL (rowsN n i)), s3, .no, .no] [4, 5] = [.sh (nI m), .sh (nI n), .sh (nLL (rowsN n i)), s3, .no, .no] := rfl
      unfold mLc2
      simp only [hi1, R.bind, hw, c, if_pos hb]
    · have h2 : ((rowsN n i).flatMap fun r => (List.range (lastOr r n + 1)).map fun z => nL (r ++ [z])) = (rowsN n (i + 1)).map nL := by
        rw [rowsN, List.map_flatMap]
        congr 1
        funext r
        rw [List.map_map]
        rfl
      rw [h2]
      rfl
  obtain ⟨Γ', e1, s3, rfl⟩ := forL_inv (g := gSet 3) (body := b0_falling_rows) (ds := (List.range m).map nI) (Γ := [.sh (nI m), .sh (nI n), .sh (nLL (rowsN n 0)), .no, .no, .no])
    (fun i Γ => ∃ s3, Γ = [.sh (nI m), .sh (nI n), .sh (nLL (rowsN n i)), s3, .no, .no]) ⟨_, rfl⟩ fun i d Γ hd ⟨s3, hΓ⟩ => by
      subst hΓ
      rw [List.getElem?_map] at hd
      by_cases hi : i < m
      · rw [List.getElem?_range hi] at hd
        cases hd
        exact ⟨_, _, rfl, turn i _ hi, _, rfl⟩
      · rw [List.getElem?_eq_none (by simpa using hi)] at hd
        cases hd
  rw [List.length_map, List.length_range] at e1
  have e : (env0 N_falling_rows.length [false, false] [nI m, nI n] : Env) = [.sh (nI m), .sh (nI n), .no, .no, .no, .no] := rfl
  refine run_rt (Γ := [.sh (nI m), .sh (nI n), .sh (nLL (rowsN n m)), s3, .no, .no]) ?_ rfl
  rw [e]
  refine seq_nx (asg_nx (d := nLL (rowsN n 0)) (Γ1 := [.sh (nI m), .sh (nI n), .no, .no, .no, .no]) ?_ rfl) (seq_nx (for_eq (ds := (List.range m).map nI) (Γ1 := [.sh (nI m), .sh (nI n), .sh (nLL (rowsN n 0)), .no, .no, .no]) ?_ e1) rfl)
  · simp only [mLst, mCons, mNil, bnd, R.bind, DL.ret, lift, z0, lst1]
    rfl
  · simp (disch := omega) only [mOp, mCallB, mCall, mUn, mT, mAnd, mOr, mNot, mTru, mIf, mCons, mNil, mTup, mLst, mIxB, mSeq, seqD, mRange1, mRange2, ownAt, bnd, mVar, DL.ret, lift, R.bind, noexc, hardR, hard, hardL, toB, orBad, Sl.with, List.getElem?_cons_zero, List.getElem?_cons_succ, List.length_cons, List.length_nil, List.set_cons_zero, List.set_cons_succ, wipeE_cons, wipeE_nil, if_true, Bool.false_eq_true, if_false, Bool.and_self, Bool.and_true, Bool.true_and, hard_n, lit0, lit1, lit2, lit10, add_n, max_n, min_n, lt_n, le_n, gt_n, ge_n, eq_n, ne_n, len_n, len_t, sum_n, or_n, sub_n, mul_n, fdiv_n, mod_n, ix_n, range1_n, range2_n, nLs_len]
end K13
namespace K13
open L2 DL
/-! what is no stair, by the program and by the law -/
inductive At : D → Prop
  | int (i : Int) : At (.int i)
  | bl (b : Bool) : At (.bl b)
  | str (x : PySem.Str) : At (.str x)
  | non : At .non
def isI : D → Bool
  | .int _ => true
  | _ => false
theorem isi_int (i : Int) : dIsi [.int i, .ty "int"] = .ok (.bl true) := by rfl
theorem isi_intb (i : Int) : dIsi [.int i, .ty "bool"] = .ok (.bl false) := by rfl
theorem isi_bl (b : Bool) : dIsi [.bl b, .ty "int"] = .ok (.bl true) := by rfl
theorem isi_blb (b : Bool) : dIsi [.bl b, .ty "bool"] = .ok (.bl true) := by rfl
theorem isi_str (x : PySem.Str) : dIsi [.str x, .ty "int"] = .ok (.bl false) := by rfl
theorem isi_non : dIsi [.non, .ty "int"] = .ok (.bl false) := by rfl
theorem isi_lst (xs : List D) : dIsi [.lst xs, .tup [.ty "list", .ty "tuple"]] = .ok (.bl true) := by rfl
theorem isi_tup (xs : List D) : dIsi [.tup xs, .tup [.ty "list", .ty "tuple"]] = .ok (.bl true) := by rfl
theorem isi_nonS : dIsi [.non, .tup [.ty "list", .ty "tuple"]] = .ok (.bl false) := by rfl
theorem isi_intS (i : Int) : dIsi [.int i, .tup [.ty "list", .ty "tuple"]] = .ok (.bl false) := by rfl
theorem isi_lstL (xs : List D) : dIsi [.lst xs, .ty "list"] = .ok (.bl true) := by rfl
theorem isi_nonL : dIsi [.non, .ty "list"] = .ok (.bl false) := by rfl
theorem isi_intL (i : Int) : dIsi [.int i, .ty "list"] = .ok (.bl false) := by rfl
theorem integer_ok (d : D) (h : At d) : F_is_integer [d] = .ok ⟨false, .bl (isI d), [.non]⟩ := by
  refine run_rt (Γ := [.sh d]) (ret_rt ?_) rfl
  cases h with
  | int i => simp only [env0, mAndV, mNotV, mCallB, mCons, mNil, bnd, DL.ret, mVar, lift, R.bind, hardR, hard, toB, List.zipWith_cons_cons, List.zipWith_nil_left, List.length_cons, List.length_nil, isi_int, isi_intb]; rfl
  | bl b => simp only [env0, mAndV, mNotV, mCallB, mCons, mNil, bnd, DL.ret, mVar, lift, R.bind, hardR, hard, toB, isi_bl, isi_blb]; rfl
  | str x => simp only [env0, mAndV, mNotV, mCallB, mCons, mNil, bnd, DL.ret, mVar, lift, R.bind, hardR, hard, toB, isi_str]; rfl
  | non => simp only [env0, mAndV, mNotV, mCallB, mCons, mNil, bnd, DL.ret, mVar, lift, R.bind, hardR, hard, toB, isi_non]; rfl
def badAt (n s : Nat) (last : Int) : D → Bool
  | .int r => decide (r < (s : Int)) || (decide (r < last) || (decide ((n : Int) ≤ r) || (decide ((s : Int) = 0) && !decide (r = 0))))
  | _ => true
def flt (n : Nat) : Nat → Int → List D → Option Nat
  | _, _, [] => none
  | s, last, d :: ds => if badAt n s last d = true then some s else match d with
    | .int r => flt n (s + 1) r ds
    | _ => some s
theorem tOr {a b : M Bool} {Γ : Env} {k : Bool} {r : Bool} (h : a Γ = .ok (k, Γ)) (g : k = false → b Γ = .ok (r, Γ)) : mOr a b Γ = .ok (k || r, Γ) := by
  unfold mOr bnd
  simp only [h, R.bind]
  cases k with
  | true => rfl
  | false => simp only [Bool.false_eq_true, if_false, g rfl, Bool.false_or]
theorem tOrT {a b : M Bool} {Γ : Env} (h : a Γ = .ok (true, Γ)) : mOr a b Γ = .ok (true, Γ) := by
  unfold mOr bnd
  simp only [h, R.bind]
  rfl
theorem tAnd {a b : M Bool} {Γ : Env} {k : Bool} {r : Bool} (h : a Γ = .ok (k, Γ)) (g : k = true → b Γ = .ok (r, Γ)) : mAnd a b Γ = .ok (k && r, Γ) := by
  unfold mAnd bnd
  simp only [h, R.bind]
  cases k with
  | false => rfl
  | true => simp only [if_true, g rfl, Bool.true_and]
theorem tT {m : M D} {Γ : Env} {k : Bool} (h : m Γ = .ok (.bl k, Γ)) : mT m Γ = .ok (k, Γ) := by
  unfold mT bnd
  simp only [h, R.bind]
  rfl
theorem tTru {m : M D} {Γ : Env} {k : Bool} (h : m Γ = .ok (.bl k, Γ)) : mTru m Γ = .ok (k, Γ) := by
  unfold mTru bnd
  simp only [h, R.bind]
  rfl
theorem tNot {m : M Bool} {Γ : Env} {k : Bool} (h : m Γ = .ok (k, Γ)) : mNot m Γ = .ok (!k, Γ) := by
  unfold mNot bnd
  simp only [h, R.bind]
  rfl
theorem fault_cond (x : D) (n s : Nat) (last : Int) (d : D) (h : At d) : (mOr (mNot (mTru (mCallF F_is_integer [none] [] (mCons (mVar 4) mNil)))) (mOr (mT (mOp dLt (mVar 4) (mVar 3))) (mOr (mT (mOp dLt (mVar 4) (mVar 2))) (mOr (mT (mOp dGe (mVar 4) (mVar 1))) (mAnd (mT (mOp dEq (mVar 3) (ret (.int 0)))) (mT (mOp dNe (mVar 4) (ret (.int 0))))))))) [.sh x, .sh (nI n), .sh (.int last), .sh (nI s), .sh d] = .ok (badAt n s last d, [.sh x, .sh (nI n), .sh (.int last), .sh (nI s), .sh d]) := by
  have hi : mNot (mTru (mCallF F_is_integer [none] [] (mCons (mVar 4) mNil))) [.sh x, .sh (nI n), .sh (.int last), .sh (nI s), .sh d] = .ok (!isI d, [.sh x, .sh (nI n), .sh (.int last), .sh (nI s), .sh d]) :=
    tNot (tTru (callF_m (r := ⟨false, .bl (isI d), [.non]⟩) (ds := [d]) (Γ1 := [.sh x, .sh (nI n), .sh (.int last), .sh (nI s), .sh d]) rfl (integer_ok d h)))
  cases h with
  | int r =>
    exact tOr (k := false) (r := decide (r < (s : Int)) || (decide (r < last) || (decide ((n : Int) ≤ r) || (decide ((s : Int) = 0) && !decide (r = 0))))) hi fun _ => tOr (k := decide (r < (s : Int))) (tT (op_m rfl rfl rfl)) fun _ => tOr (k := decide (r < last)) (tT (op_m rfl rfl rfl)) fun _ => tOr (k := decide ((n : Int) ≤ r)) (tT (op_m rfl rfl rfl)) fun _ => tAnd (k := decide ((s : Int) = 0)) (r := !decide (r = 0)) (tT (op_m rfl rfl (eq_i _ _))) fun _ => (tT (op_m rfl rfl (ne_i _ _)))
  | bl b => exact tOrT hi
  | str b => exact tOrT hi
  | non => exact tOrT hi
theorem fault_loop (x : D) (n : Nat) : ∀ (ds : List D) (s : Nat) (last : Int) (s3 s4 : Sl), (∀ d ∈ ds, At d) → ∃ Γ', outsE [false, false] Γ' = some [.non, .non] ∧ forL (gUn 2 (gsCons (gSet 3) (gsCons (gSet 4) gsNil))) b0_stair_fault (enumD s ds) [.sh x, .sh (nI n), .sh (.int last), s3, s4] = (match flt n s last ds with | none => .nx Γ' | some k => .rt (nI k) Γ')
  | [], s, last, s3, s4, _ => ⟨_, rfl, rfl⟩
  | d :: ds, s, last, s3, s4, h => by
    have hd := h d List.mem_cons_self
    have hc := fault_cond x n s last d hd
    have hg : gUn 2 (gsCons (gSet 3) (gsCons (gSet 4) gsNil)) (.tup [.int (s : Int), d]) [.sh x, .sh (nI n), .sh (.int last), s3, s4] = .ok [.sh x, .sh (nI n), .sh (.int last), .sh (nI s), .sh d] := rfl
    unfold flt
    cases hb : badAt n s last d with
    | true =>
      rw [hb] at hc
      refine ⟨[.sh x, .sh (nI n), .sh (.int last), .sh (nI s), .sh d], rfl, ?_⟩
      have e : b0_stair_fault [.sh x, .sh (nI n), .sh (.int last), .sh (nI s), .sh d] = .rt (nI s) [.sh x, .sh (nI n), .sh (.int last), .sh (nI s), .sh d] := seq_rt (if_t hc rfl)
      simp only [enumD, forL, hg, e, if_true]
    | false =>
      rw [hb] at hc
      cases hd with
      | int r =>
        obtain ⟨Γ', ho, hl⟩ := fault_loop x n ds (s + 1) r (.sh (nI s)) (.sh (.int r)) fun d hd => h d (List.mem_cons_of_mem _ hd)
        refine ⟨Γ', ho, ?_⟩
        have e : b0_stair_fault [.sh x, .sh (nI n), .sh (.int last), .sh (nI s), .sh (.int r)] = .nx [.sh x, .sh (nI n), .sh (.int r), .sh (nI s), .sh (.int r)] := seq_nx (if_f hc rfl) rfl
        simp only [enumD, forL, hg, e, Bool.false_eq_true, if_false]
        exact hl
      | bl b => cases hb
      | str b => cases hb
      | non => cases hb
def wrg (ds : List D) : Option Nat := if ds.length < 2 then some 0 else flt ds.length 0 0 ds
def oN : Option Nat → D
  | none => .non
  | some k => nI k
theorem fault_ok (x : D) (ds : List D) (hx : x = .lst ds ∨ x = .tup ds) (h : ∀ d ∈ ds, At d) : F_stair_fault [x, nI ds.length] = .ok ⟨false, oN (wrg ds), [.non, .non]⟩ := by
  have e : (env0 N_stair_fault.length [false, false] [x, nI ds.length] : Env) = [.sh x, .sh (nI ds.length), .no, .no, .no] := rfl
  have i1 : dIsi [x, .tup [.ty "list", .ty "tuple"]] = .ok (.bl true) := by
    rcases hx with rfl | rfl
    · exact isi_lst ds
    · exact isi_tup ds
  have l1 : dLen [x] = .ok (nI ds.length) := by
    rcases hx with rfl | rfl <;> rfl
  have t2 : dTup [.ty "list", .ty "tuple"] = .ok (.tup [.ty "list", .ty "tuple"]) := tup2 _ _
  have en : mEnumA (mCons (mVar 0) mNil) [.sh x, .sh (nI ds.length), .sh (.int 0), .no, .no] = .ok (enumD 0 ds, [.sh x, .sh (nI ds.length), .sh (.int 0), .no, .no]) := by
    have : dEnumA [x] = .ok (enumD 0 ds) := by rcases hx with rfl | rfl <;> rfl
    simp only [mEnumA, mCons, mNil, bnd, R.bind, DL.ret, mVar, List.getElem?_cons_zero, lift, this, noexc]
  have tf : mNot (mTru (mCallB dIsi (mCons (mVar 0) (mCons (mTup (mCons (ret (.ty "list")) (mCons (ret (.ty "tuple")) mNil))) mNil)))) [.sh x, .sh (nI ds.length), .no, .no, .no] = .ok (false, [.sh x, .sh (nI ds.length), .no, .no, .no]) :=
    tNot (k := true) (tTru (callB_m (ds := [x, .tup [.ty "list", .ty "tuple"]]) (by simp only [mTup, mCons, mNil, bnd, R.bind, DL.ret, mVar, List.getElem?_cons_zero, lift, t2]) i1 rfl))
  have cnd : (mOr (mNot (mTru (mCallB dIsi (mCons (mVar 0) (mCons (mTup (mCons (ret (.ty "list")) (mCons (ret (.ty "tuple")) mNil))) mNil))))) (mOr (mT (mOp dLt (mCallB dLen (mCons (mVar 0) mNil)) (ret (.int 2)))) (mT (mOp dNe (mCallB dLen (mCons (mVar 0) mNil)) (mVar 1))))) [.sh x, .sh (nI ds.length), .no, .no, .no] = .ok (decide (ds.length < 2), [.sh x, .sh (nI ds.length), .no, .no, .no]) := by
    have a := tOr (Γ := [.sh x, .sh (nI ds.length), .no, .no, .no]) (a := (mT (mOp dLt (mCallB dLen (mCons (mVar 0) mNil)) (ret (.int 2))))) (b := (mT (mOp dNe (mCallB dLen (mCons (mVar 0) mNil)) (mVar 1)))) (k := decide (ds.length < 2)) (r := !decide (ds.length = ds.length)) (tT (op_m (callB_m (cons_m rfl rfl) l1 rfl) rfl (lt_n _ _))) fun _ => tT (op_m (callB_m (cons_m rfl rfl) l1 rfl) rfl (ne_n _ _))
    have b := tOr tf fun _ => a
    simp only [decide_true, Bool.not_true, Bool.or_false, Bool.false_or] at b
    exact b
  unfold wrg
  by_cases h2 : ds.length < 2
  · rw [if_pos h2]
    rw [decide_eq_true h2] at cnd
    refine run_rt (Γ := [.sh x, .sh (nI ds.length), .no, .no, .no]) ?_ rfl
    rw [e]
    exact seq_rt (if_t cnd rfl)
  · rw [if_neg h2]
    rw [decide_eq_false h2] at cnd
    obtain ⟨Γ', ho, hl⟩ := fault_loop x ds.length ds 0 0 .no .no h
    cases hf : flt ds.length 0 0 ds with
    | none =>
      rw [hf] at hl
      refine run_rt (Γ := Γ') ?_ ho
      rw [e]
      exact seq_nx (if_f cnd rfl) (seq_nx (asg_nx rfl rfl) (seq_nx (for_eq en hl) rfl))
    | some k =>
      rw [hf] at hl
      refine run_rt (Γ := Γ') ?_ ho
      rw [e]
      exact seq_nx (if_f cnd rfl) (seq_nx (asg_nx rfl rfl) (seq_rt (for_eq en hl)))
theorem rowlen_ok (x : D) (ds : List D) (hx : x = .lst ds ∨ x = .tup ds) : F_row_length [x] = .ok ⟨false, nI ds.length, [.non]⟩ := by
  have i1 : dIsi [x, .tup [.ty "list", .ty "tuple"]] = .ok (.bl true) := by
    rcases hx with rfl | rfl
    · exact isi_lst ds
    · exact isi_tup ds
  have l1 : dLen [x] = .ok (nI ds.length) := by
    rcases hx with rfl | rfl <;> rfl
  have t2 : dTup [.ty "list", .ty "tuple"] = .ok (.tup [.ty "list", .ty "tuple"]) := tup2 _ _
  refine run_rt (Γ := [.sh x]) (ret_rt (tIf_t (tTru (callB_m (ds := [x, .tup [.ty "list", .ty "tuple"]]) ?_ i1 rfl)) (callB_m (cons_m rfl rfl) l1 rfl))) rfl
  show _ = R.ok ([x, .tup [.ty "list", .ty "tuple"]], [Sl.sh x])
  have e : (env0 N_row_length.length [false] [x] : Env) = [.sh x] := rfl
  rw [e]
  simp only [mTup, mCons, mNil, bnd, R.bind, DL.ret, mVar, List.getElem?_cons_zero, lift, t2]
theorem rowlen_no (x : D) (hx : x = .non ∨ x = .int 5) : F_row_length [x] = .ok ⟨false, nI 0, [.non]⟩ := by
  have i1 : dIsi [x, .tup [.ty "list", .ty "tuple"]] = .ok (.bl false) := by
    rcases hx with rfl | rfl
    · exact isi_nonS
    · exact isi_intS 5
  have t2 : dTup [.ty "list", .ty "tuple"] = .ok (.tup [.ty "list", .ty "tuple"]) := tup2 _ _
  refine run_rt (Γ := [.sh x]) (ret_rt (tIf_f (tTru (callB_m (ds := [x, .tup [.ty "list", .ty "tuple"]]) ?_ i1 rfl)) rfl)) rfl
  show _ = R.ok ([x, .tup [.ty "list", .ty "tuple"]], [Sl.sh x])
  have e : (env0 N_row_length.length [false] [x] : Env) = [.sh x] := rfl
  rw [e]
  simp only [mTup, mCons, mNil, bnd, R.bind, DL.ret, mVar, List.getElem?_cons_zero, lift, t2]
theorem fault_no (x : D) (hx : x = .non ∨ x = .int 5) : F_stair_fault [x, nI 0] = .ok ⟨false, nI 0, [.non, .non]⟩ := by
  have e : (env0 N_stair_fault.length [false, false] [x, nI 0] : Env) = [.sh x, .sh (nI 0), .no, .no, .no] := rfl
  have i1 : dIsi [x, .tup [.ty "list", .ty "tuple"]] = .ok (.bl false) := by
    rcases hx with rfl | rfl
    · exact isi_nonS
    · exact isi_intS 5
  have t2 : dTup [.ty "list", .ty "tuple"] = .ok (.tup [.ty "list", .ty "tuple"]) := tup2 _ _
  have tf : mNot (mTru (mCallB dIsi (mCons (mVar 0) (mCons (mTup (mCons (ret (.ty "list")) (mCons (ret (.ty "tuple")) mNil))) mNil)))) [.sh x, .sh (nI 0), .no, .no, .no] = .ok (true, [.sh x, .sh (nI 0), .no, .no, .no]) :=
    tNot (k := false) (tTru (callB_m (ds := [x, .tup [.ty "list", .ty "tuple"]]) (by simp only [mTup, mCons, mNil, bnd, R.bind, DL.ret, mVar, List.getElem?_cons_zero, lift, t2]) i1 rfl))
  refine run_rt (Γ := [.sh x, .sh (nI 0), .no, .no, .no]) ?_ rfl
  rw [e]
  exact seq_rt (if_t (tOrT tf) rfl)
/-- what an argument may be -/
inductive Arg : D → Option Nat → Nat → Prop
  | sq (x : D) (ds : List D) (hx : x = .lst ds ∨ x = .tup ds) (h : ∀ d ∈ ds, At d) : Arg x (wrg ds) ds.length
  | no (x : D) (hx : x = .non ∨ x = .int 5) : Arg x (some 0) 0
theorem Arg.len {x : D} {o : Option Nat} {n : Nat} (h : Arg x o n) : F_row_length [x] = .ok ⟨false, nI n, [.non]⟩ := by
  cases h with
  | sq ds hx h => exact rowlen_ok x ds hx
  | no hx => exact rowlen_no x hx
theorem Arg.fault {x : D} {o : Option Nat} {n : Nat} (h : Arg x o n) : F_stair_fault [x, nI n] = .ok ⟨false, oN o, [.non, .non]⟩ := by
  cases h with
  | sq ds hx h => exact fault_ok x ds hx h
  | no hx => exact fault_no x hx
theorem Arg.check {x : D} {o : Option Nat} {n : Nat} (h : Arg x o n) (k : D) : F_check_stair [k, x] = (match o with | none => .ok ⟨false, .non, [.non, .non]⟩ | some f => .exc 1 [("place", nI f), ("kind", k)]) := by
  have e : (env0 N_check_stair.length [false, false] [k, x] : Env) = [.sh k, .sh x, .no] := rfl
  have s1 : sAsg (mCallF F_stair_fault [none, none] [] (mCons (mVar 1) (mCons (mCallF F_row_length [none] [] (mCons (mVar 1) mNil)) mNil))) (gSet 2) [.sh k, .sh x, .no] = .nx [.sh k, .sh x, .sh (oN o)] :=
    asg_nx (callF_m (r := ⟨false, oN o, [.non, .non]⟩) (ds := [x, nI n]) (Γ1 := [.sh k, .sh x, .no]) (cons_m rfl (cons_m (callF_m (r := ⟨false, nI n, [.non]⟩) (ds := [x]) (Γ1 := [.sh k, .sh x, .no]) rfl h.len) rfl)) h.fault) rfl
  cases o with
  | none =>
    refine run_nx (Γ := [.sh k, .sh x, .sh .non]) ?_ rfl
    rw [e]
    exact seq_nx s1 (if_f (Γ1 := [.sh k, .sh x, .sh .non]) rfl rfl)
  | some f =>
    refine run_exc ?_
    rw [e]
    exact seq_nx s1 (if_t (Γ1 := [.sh k, .sh x, .sh (nI f)]) rfl rfl)
end K13
namespace K13
open L2 DL
theorem flt_none {n : Nat} {L : List Nat} (h : Sr n L) : ∀ (k s : Nat) (last : Int), s + k = L.length → last = (if s = 0 then 0 else ((nth L (s - 1) : Nat) : Int)) → flt L.length s last (nLs (L.drop s)) = none
  | 0, s, last, hs, _ => by
    rw [List.drop_of_length_le (by omega)]
    rfl
  | k + 1, s, last, hs, hl => by
    have hlen := h.len
    have hd : L.drop s = nth L s :: L.drop (s + 1) := by
      rw [nth_eq (by omega)]
      exact List.drop_eq_getElem_cons (by omega)
    rw [hd]
    have e : nLs (nth L s :: L.drop (s + 1)) = .int ((nth L s : Nat) : Int) :: nLs (L.drop (s + 1)) := rfl
    rw [e]
    have a := h.low s (by omega)
    have b := h.top s (by omega)
    have c : last ≤ (nth L s : Int) := by
      rw [hl]
      split
      · omega
      · have := h.up (s - 1) (by omega)
        rw [Nat.sub_add_cancel (by omega)] at this
        omega
    have hb : badAt L.length s last (.int ((nth L s : Nat) : Int)) = false := by
      unfold badAt
      simp only [Bool.or_eq_false_iff, decide_eq_false_iff_not, Bool.and_eq_false_iff, Bool.not_eq_false', decide_eq_true_eq]
      refine ⟨by omega, by omega, by omega, ?_⟩
      by_cases hs0 : s = 0
      · subst hs0
        have := h.zero
        right
        omega
      · left
        omega
    unfold flt
    rw [hb]
    simp only [Bool.false_eq_true, if_false]
    exact flt_none h k (s + 1) _ (by omega) (by rw [if_neg (by omega), Nat.add_sub_cancel])
theorem at_nLs (L : List Nat) : ∀ d ∈ nLs L, At d := fun d hd => by
  unfold nLs at hd
  rw [List.mem_map] at hd
  obtain ⟨k, _, rfl⟩ := hd
  exact .int _
theorem wrg_none {n : Nat} {L : List Nat} (h : Sr n L) (hn : 0 < n) : wrg (nLs L) = none := by
  have hlen := h.len
  unfold wrg
  rw [nLs_len, if_neg (by omega)]
  have := flt_none h L.length 0 0 (by omega) rfl
  rwa [List.drop_zero] at this
theorem arg_sr {n : Nat} {L : List Nat} {x : D} (h : Sr n L) (hn : 0 < n) (hx : x = .lst (nLs L) ∨ x = .tup (nLs L)) : Arg x none (n + 1) := by
  have a := Arg.sq x (nLs L) hx (at_nLs L)
  rw [wrg_none h hn, nLs_len, h.len] at a
  exact a
theorem many_ok (k : Nat) (h : k ≤ 8) : F_check_many [nI k, .int 8, .str "search"] = .ok ⟨false, .non, [.non, .non, .non]⟩ := by
  have e : (env0 N_check_many.length [false, false, false] [nI k, .int 8, .str "search"] : Env) = [.sh (nI k), .sh (nI 8), .sh (.str "search")] := rfl
  refine run_nx (Γ := [.sh (nI k), .sh (nI 8), .sh (.str "search")]) ?_ rfl
  rw [e]
  exact if_f (tT (op_m rfl rfl (by rw [gt_n, decide_eq_false (by omega)]))) rfl
theorem many_no (k : Nat) (h : 8 < k) : F_check_many [nI k, .int 8, .str "search"] = .exc 0 [("what", .str "search")] := by
  have e : (env0 N_check_many.length [false, false, false] [nI k, .int 8, .str "search"] : Env) = [.sh (nI k), .sh (nI 8), .sh (.str "search")] := rfl
  refine run_exc ?_
  rw [e]
  exact if_t (tT (op_m rfl rfl (by rw [gt_n, decide_eq_true (by omega)]))) rfl
theorem ixS {x : D} {L : List Nat} {k : Nat} (hx : x = .lst (nLs L) ∨ x = .tup (nLs L)) (h : k < L.length) : dIx x (nI k) = .ok (nI (nth L k)) := by
  rcases hx with rfl | rfl
  · exact ix_n h
  · unfold nI
    show orBad (atI (nLs L) (k : Int)) = _
    rw [at_n h]
    rfl
theorem lenS {x : D} {L : List Nat} (hx : x = .lst (nLs L) ∨ x = .tup (nLs L)) : dLen [x] = .ok (nI L.length) := by
  rcases hx with rfl | rfl
  · rw [len_n, nLs_len]
  · rw [len_t, nLs_len]
/-- the least of a rising list is its first -/
theorem minI_first : ∀ {ys : List Int} {x : Int}, (∀ y ∈ ys, x ≤ y) → minI x ys = x
  | [], _, _ => rfl
  | y :: ys, x, h => by
    have := h y List.mem_cons_self
    unfold minI
    rw [if_neg (by omega)]
    exact minI_first fun z hz => h z (List.mem_cons_of_mem _ hz)
theorem min_list {L : List Nat} {x : Nat} (h : ∀ y ∈ L, x ≤ y) : dMin [nL (x :: L)] = .ok (nI x) := by
  have e : intsD (nLs (x :: L)) = some ((x : Int) :: L.map fun (k : Nat) => (k : Int)) := by
    have := ints_n (x :: L)
    rwa [List.map_cons] at this
  unfold nL dMin
  simp only [e]
  rw [minI_first]
  · rfl
  · intro y hy
    rw [List.mem_map] at hy
    obtain ⟨k, hk, rfl⟩ := hy
    have := h k hk
    omega
theorem fi_filter {m q : Nat} {one : List Nat} (h : Sr m one) (hq : q < m) : ∃ L, ((List.range m).filter fun i => decide (1 + q ≤ nth one (1 + i))).map (1 + ·) = (1 + fi one m q) :: L ∧ ∀ y ∈ L, 1 + fi one m q ≤ y := by
  obtain ⟨f1, f2, f3⟩ := fi_ok h hq
  have hm : fi one m q ∈ (List.range m).filter fun i => decide (1 + q ≤ nth one (1 + i)) := by
    rw [List.mem_filter, List.mem_range]
    exact ⟨f1, by rw [decide_eq_true_eq, Nat.add_comm 1 q, Nat.add_comm 1]; exact f2⟩
  cases hf : (List.range m).filter fun i => decide (1 + q ≤ nth one (1 + i)) with
  | nil => rw [hf] at hm; cases hm
  | cons a L =>
    have hs : ((List.range m).filter fun i => decide (1 + q ≤ nth one (1 + i))).Pairwise (· < ·) := List.Pairwise.filter _ List.pairwise_lt_range
    rw [hf] at hs hm
    have ha : a ∈ (List.range m).filter fun i => decide (1 + q ≤ nth one (1 + i)) := by rw [hf]; exact List.mem_cons_self
    rw [List.mem_filter, List.mem_range, decide_eq_true_eq] at ha
    have h1 := f3 a ha.1 (by rw [Nat.add_comm q 1, Nat.add_comm a 1]; exact ha.2)
    have hlt : ∀ y ∈ L, a < y := fun y hy => List.rel_of_pairwise_cons hs hy
    have e : a = fi one m q := by
      rcases List.mem_cons.mp hm with h | h
      · exact h.symm
      · have := hlt _ h; omega
    refine ⟨L.map (1 + ·), by rw [List.map_cons, e], fun y hy => ?_⟩
    rw [List.mem_map] at hy
    obtain ⟨z, hz, rfl⟩ := hy
    have := hlt z hz
    omega
abbrev GT (x y : D) (m n : Nat) (s4 s5 s6 s7 s8 s9 s10 : Sl) : Env := [.sh x, .sh y, .sh (nI m), .sh (nI n), s4, s5, s6, s7, s8, s9, s10]
theorem below_ok (x y : D) (m n : Nat) (one : List Nat) (hx : x = .lst (nLs one) ∨ x = .tup (nLs one)) (h1 : Sr m one) (hm : m ≤ 8) : lcL [8] (gSet 8) (ret true) e0_two_places ((List.range m).map fun i => nI (1 + i)) (GT x y m n .no .no .no .no .no .no .no) = .ok ((List.range m).map fun i => nI (1 + fi one m i), GT x y m n .no .no .no .no .no .no .no) := by
  have hl := h1.len
  refine lcL_mm (vs := [8]) (g := gSet 8) (e := e0_two_places) (fun i => nI (1 + i)) (fun i => nI (1 + fi one m i)) fun q hq => ?_
  rw [List.mem_range] at hq
  refine ⟨GT x y m n .no .no .no .no (.sh (nI (1 + q))) .no .no, GT x y m n .no .no .no .no (.sh (nI (1 + q))) .no .no, rfl, ?_, rfl⟩
  have inner := lcL_fm (vs := [9]) (g := gSet 9) (t := (mT (mOp dGe (mOp dIx (mVar 0) (mVar 9)) (mVar 8)))) (e := mVar 9) (Γ := GT x y m n .no .no .no .no (.sh (nI (1 + q))) .no .no) (fun i => nI (1 + i)) (fun i => decide (1 + q ≤ nth one (1 + i))) (fun i => nI (1 + i)) (L := List.range m) fun i hi => by
    rw [List.mem_range] at hi
    refine ⟨GT x y m n .no .no .no .no (.sh (nI (1 + q))) (.sh (nI (1 + i))) .no, GT x y m n .no .no .no .no (.sh (nI (1 + q))) (.sh (nI (1 + i))) .no, rfl, ?_, fun _ => ⟨_, rfl, rfl⟩, fun _ => rfl⟩
    exact tT (op_m (op_m rfl rfl (ixS hx (by omega))) rfl (ge_n _ _))
  have rg : mRange2 (mCons (ret (.int 1)) (mCons (mOp dAdd (mVar 2) (ret (.int 1))) mNil)) (GT x y m n .no .no .no .no (.sh (nI (1 + q))) .no .no) = .ok ((List.range m).map fun i => nI (1 + i), GT x y m n .no .no .no .no (.sh (nI (1 + q))) .no .no) := by
    simp (disch := omega) only [mOp, mCallB, mCall, mUn, mT, mAnd, mOr, mNot, mTru, mIf, mCons, mNil, mTup, mLst, mIxB, mSeq, seqD, mRange1, mRange2, ownAt, bnd, mVar, DL.ret, lift, R.bind, noexc, hardR, hard, hardL, toB, orBad, Sl.with, List.getElem?_cons_zero, List.getElem?_cons_succ, List.length_cons, List.length_nil, List.set_cons_zero, List.set_cons_succ, wipeE_cons, wipeE_nil, if_true, Bool.false_eq_true, if_false, Bool.and_self, Bool.and_true, Bool.true_and, hard_n, lit0, lit1, lit2, lit10, add_n, max_n, min_n, lt_n, le_n, gt_n, ge_n, eq_n, ne_n, len_n, len_t, sum_n, or_n, sub_n, mul_n, fdiv_n, mod_n, ix_n, range1_n, range2_n, nLs_len, Nat.add_sub_cancel]
  obtain ⟨L, hL, hmin⟩ := fi_filter h1 hq
  have e1 : ((List.range m).filter fun i => decide (1 + q ≤ nth one (1 + i))).map (fun i => nI (1 + i)) = nLs ((1 + fi one m q) :: L) := by
    rw [← hL]
    unfold nLs
    rw [List.map_map]
    rfl
  rw [e1] at inner
  have hlen : (nLs ((1 + fi one m q) :: L)).length ≤ m := by
    rw [← e1, List.length_map]
    exact Nat.le_trans (List.length_filter_le _ _) (by rw [List.length_range]; omega)
  exact callB_m (cons_m (lc_m rg inner (le_big (by omega))) rfl) (min_list hmin) rfl
theorem sum_row {L : List Nat} : dSum [nL L] = .ok (nI L.sum) := sum_n L
theorem tp_turn (x y : D) (m n : Nat) (one other : List Nat) (hy : y = .lst (nLs other) ∨ y = .tup (nLs other)) (h1 : Sr m one) (h2 : Sr n other) (hm : m ≤ 8) (hn : n ≤ 8) (best r : List Nat) (hr : Fall n m r) (hb : best.length = m * n + 1) (s7 : Sl) :
    ∃ s7', b2_two_places (GT x y m n (.sh (.lst ((List.range m).map fun i => nI (1 + fi one m i)))) (.ow (nL best)) (.sh (nL r)) s7 .no .no .no) = .nx (GT x y m n (.sh (.lst ((List.range m).map fun i => nI (1 + fi one m i)))) (.ow (nL (stepN one other m best r))) (.sh (nL r)) s7' .no .no .no) := by
  have hmn : m * n ≤ 64 := mul9 hm hn
  have hl2 := h2.len
  have hrl := hr.len
  have hs := hr.sum
  have inner := lcL_mm (vs := [8]) (g := gSet 8) (e := e1_two_places) (Γ := GT x y m n (.sh (.lst ((List.range m).map fun i => nI (1 + fi one m i)))) (.ow (nL best)) (.sh (nL r)) s7 .no .no .no) nI (fun q => nI (max (nth other (nth r q)) (nth r (fi one m q)))) (L := List.range m) fun q hq => by
    rw [List.mem_range] at hq
    obtain ⟨f1, _, _⟩ := fi_ok h1 hq
    have ht := hr.top q hq
    refine ⟨GT x y m n (.sh (.lst ((List.range m).map fun i => nI (1 + fi one m i)))) (.ow (nL best)) (.sh (nL r)) s7 (.sh (nI q)) .no .no, GT x y m n (.sh (.lst ((List.range m).map fun i => nI (1 + fi one m i)))) (.ow (nL best)) (.sh (nL r)) s7 (.sh (nI q)) .no .no, rfl, ?_, rfl⟩
    have a1 : dIx (nL r) (nI q) = .ok (nI (nth r q)) := ix_n (by omega)
    have a2 : dIx (.lst ((List.range m).map fun i => nI (1 + fi one m i))) (nI q) = .ok (nI (1 + fi one m q)) := ix_m (f := fun i => nI (1 + fi one m i)) (List.getElem?_range hq)
    have a3 : dSub (nI (1 + fi one m q)) (nI 1) = .ok (nI (fi one m q)) := by rw [sub_n (by omega), Nat.add_sub_cancel_left]
    have a4 : dIx (nL r) (nI (fi one m q)) = .ok (nI (nth r (fi one m q))) := ix_n (by omega)
    exact callB_m (cons_m (op_m rfl (op_m rfl rfl a1) (ixS hy (by omega))) (cons_m (op_m rfl (op_m (op_m rfl rfl a2) rfl a3) a4) rfl)) (max_n _ _) rfl
  have rg : mRange1 (mCons (mVar 2) mNil) (GT x y m n (.sh (.lst ((List.range m).map fun i => nI (1 + fi one m i)))) (.ow (nL best)) (.sh (nL r)) s7 .no .no .no) = .ok ((List.range m).map nI, GT x y m n (.sh (.lst ((List.range m).map fun i => nI (1 + fi one m i)))) (.ow (nL best)) (.sh (nL r)) s7 .no .no .no) := by
    simp (disch := omega) only [mOp, mCallB, mCall, mUn, mT, mAnd, mOr, mNot, mTru, mIf, mCons, mNil, mTup, mLst, mIxB, mSeq, seqD, mRange1, mRange2, ownAt, bnd, mVar, DL.ret, lift, R.bind, noexc, hardR, hard, hardL, toB, orBad, Sl.with, List.getElem?_cons_zero, List.getElem?_cons_succ, List.length_cons, List.length_nil, List.set_cons_zero, List.set_cons_succ, wipeE_cons, wipeE_nil, if_true, Bool.false_eq_true, if_false, Bool.and_self, Bool.and_true, Bool.true_and, hard_n, lit0, lit1, lit2, lit10, add_n, max_n, min_n, lt_n, le_n, gt_n, ge_n, eq_n, ne_n, len_n, len_t, sum_n, or_n, sub_n, mul_n, fdiv_n, mod_n, ix_n, range1_n, range2_n, nLs_len]
  have e1 : (List.range m).map (fun q => nI (max (nth other (nth r q)) (nth r (fi one m q)))) = nLs ((List.range m).map fun q => max (nth other (nth r q)) (nth r (fi one m q))) := by
    unfold nLs
    rw [List.map_map]
    rfl
  rw [e1] at inner
  have sm : dSum [.lst (nLs ((List.range m).map fun q => max (nth other (nth r q)) (nth r (fi one m q))))] = .ok (nI (reachN one other m r)) := by
    rw [sum_n, Sm_list]
    rfl
  have sc : mCallB dSum (mCons (mVar 6) mNil) (GT x y m n (.sh (.lst ((List.range m).map fun i => nI (1 + fi one m i)))) (.ow (nL best)) (.sh (nL r)) (.sh (nI (reachN one other m r))) .no .no .no) = .ok (nI r.sum, (GT x y m n (.sh (.lst ((List.range m).map fun i => nI (1 + fi one m i)))) (.ow (nL best)) (.sh (nL r)) (.sh (nI (reachN one other m r))) .no .no .no)) := callB_m (cons_m rfl rfl) sum_row rfl
  have ix : dIx (nL best) (nI r.sum) = .ok (nI (nth best r.sum)) := ix_n (by omega)
  have ixb : mIxB 5 (mCallB dSum (mCons (mVar 6) mNil)) (GT x y m n (.sh (.lst ((List.range m).map fun i => nI (1 + fi one m i)))) (.ow (nL best)) (.sh (nL r)) (.sh (nI (reachN one other m r))) .no .no .no) = .ok (nI (nth best r.sum), (GT x y m n (.sh (.lst ((List.range m).map fun i => nI (1 + fi one m i)))) (.ow (nL best)) (.sh (nL r)) (.sh (nI (reachN one other m r))) .no .no .no)) := by
    unfold mIxB
    simp only [ownAt, List.getElem?_cons_succ, List.getElem?_cons_zero, R.bind, sc, ix, noexc]
  have st : dSetIx (nL best) (nI r.sum) (nI (min (nth best r.sum) (reachN one other m r))) = .ok (nL (stepN one other m best r)) := by
    unfold nL
    rw [set_n (by rw [nLs_len]; omega), nLs_set]
    rfl
  have gx : gSetIx 5 (mCallB dSum (mCons (mVar 6) mNil)) (nI (min (nth best r.sum) (reachN one other m r))) (GT x y m n (.sh (.lst ((List.range m).map fun i => nI (1 + fi one m i)))) (.ow (nL best)) (.sh (nL r)) (.sh (nI (reachN one other m r))) .no .no .no) = .ok (GT x y m n (.sh (.lst ((List.range m).map fun i => nI (1 + fi one m i)))) (.ow (nL (stepN one other m best r))) (.sh (nL r)) (.sh (nI (reachN one other m r))) .no .no .no) := by
    unfold gSetIx
    simp only [ownAt, List.getElem?_cons_succ, List.getElem?_cons_zero, R.bind, sc, st]
    rfl
  exact ⟨.sh (nI (reachN one other m r)), seq_nx (asg_nx (callB_m (cons_m (lc_m rg inner (le_big (by rw [nLs_len, List.length_map, List.length_range]; omega))) rfl) sm rfl) rfl) (asg_nx (callB_m (cons_m ixb (cons_m rfl rfl)) (min_n _ _) rfl) gx)⟩
theorem stepN_len (one other : List Nat) (m : Nat) (best r : List Nat) : (stepN one other m best r).length = best.length := by
  unfold stepN
  rw [List.length_set]
theorem two_places_ok (x y : D) (m n : Nat) (one other : List Nat) (hx : x = .lst (nLs one) ∨ x = .tup (nLs one)) (hy : y = .lst (nLs other) ∨ y = .tup (nLs other)) (h1 : Sr m one) (h2 : Sr n other) (hm0 : 0 < m) (hn0 : 0 < n) (hm : m ≤ 8) (hn : n ≤ 8) : F_two_places [x, y] = .ok ⟨true, nL (tp m n one other), [.non, .non]⟩ := by
  have hmn : m * n ≤ 64 := mul9 hm hn
  have A1 := arg_sr h1 hm0 hx
  have A2 := arg_sr h2 hn0 hy
  have e : (env0 N_two_places.length [false, false] [x, y] : Env) = [.sh x, .sh y, .no, .no, .no, .no, .no, .no, .no, .no, .no] := rfl
  obtain ⟨Γ', e1, s6, s7, rfl, _⟩ := forL_rel (g := gSet 6) (body := b2_two_places) nL (stepN one other m)
    (fun best Γ => ∃ s6 s7, Γ = GT x y m n (.sh (.lst ((List.range m).map fun i => nI (1 + fi one m i)))) (.ow (nL best)) s6 s7 .no .no .no ∧ best.length = m * n + 1) (L := rowsN n m) (s := List.replicate (m * n + 1) (m * n)) (Γ := GT x y m n (.sh (.lst ((List.range m).map fun i => nI (1 + fi one m i)))) (.ow (nL (List.replicate (m * n + 1) (m * n)))) .no .no .no .no .no) ⟨_, _, rfl, by simp⟩ fun r hr best Γ ⟨s6, s7, hΓ, hb⟩ => by
      subst hΓ
      obtain ⟨s7', e⟩ := tp_turn x y m n one other hy h1 h2 hm hn best r ((mem_rows n).1 hr) hb s7
      exact ⟨_, _, rfl, e, _, _, rfl, by rw [stepN_len]; exact hb⟩
  refine run_rn (Γ := GT x y m n (.sh (.lst ((List.range m).map fun i => nI (1 + fi one m i)))) .no s6 s7 .no .no .no) ?_ rfl
  rw [e]
  have r1 := fun Γ : Env => callF_m (F := F_row_length) (js := [none]) (a := mCons (mVar 0) mNil) (r := ⟨false, nI (m + 1), [.non]⟩) (ds := [x]) (Γ := .sh x :: Γ) (Γ1 := .sh x :: Γ) rfl A1.len
  have r2 := fun Γ : Env => callF_m (F := F_row_length) (js := [none]) (a := mCons (mVar 1) mNil) (r := ⟨false, nI (n + 1), [.non]⟩) (ds := [y]) (Γ := .sh x :: .sh y :: Γ) (Γ1 := .sh x :: .sh y :: Γ) rfl A2.len
  have sb : dSub (nI (max (m + 1) (n + 1))) (nI 1) = .ok (nI (max (m + 1) (n + 1) - 1)) := sub_n (by omega)
  have c0 : sExpr (mCallF F_check_many [none, none, none] [] (mCons (mOp dSub (mCallB dMax (mCons (mCallF F_row_length [none] [] (mCons (mVar 0) mNil)) (mCons (mCallF F_row_length [none] [] (mCons (mVar 1) mNil)) mNil))) (ret (.int 1))) (mCons (ret (.int 8)) (mCons (ret (.str "search")) mNil)))) [.sh x, .sh y, .no, .no, .no, .no, .no, .no, .no, .no, .no] = .nx [.sh x, .sh y, .no, .no, .no, .no, .no, .no, .no, .no, .no] :=
    expr_nx (callF_m (r := ⟨false, .non, [.non, .non, .non]⟩) (ds := [nI (max (m + 1) (n + 1) - 1), .int 8, .str "search"]) (Γ1 := [.sh x, .sh y, .no, .no, .no, .no, .no, .no, .no, .no, .no]) (cons_m (op_m (callB_m (cons_m (r1 _) (cons_m (r2 _) rfl)) (max_n _ _) rfl) rfl sb) rfl) (many_ok (max (m + 1) (n + 1) - 1) (by omega)))
  have k1 := A1.check (.int 1)
  have k2 := A2.check (.int 2)
  have c1 := expr_nx (callF_m (F := F_check_stair) (js := [none, none]) (a := mCons (ret (.int 1)) (mCons (mVar 0) mNil)) (Γ := [.sh x, .sh y, .no, .no, .no, .no, .no, .no, .no, .no, .no]) (Γ1 := [.sh x, .sh y, .no, .no, .no, .no, .no, .no, .no, .no, .no]) (r := ⟨false, .non, [.non, .non]⟩) rfl k1)
  have c2 := expr_nx (callF_m (F := F_check_stair) (js := [none, none]) (a := mCons (ret (.int 2)) (mCons (mVar 1) mNil)) (Γ := [.sh x, .sh y, .no, .no, .no, .no, .no, .no, .no, .no, .no]) (Γ1 := [.sh x, .sh y, .no, .no, .no, .no, .no, .no, .no, .no, .no]) (r := ⟨false, .non, [.non, .non]⟩) rfl k2)
  have l1 : dSub (nI one.length) (nI 1) = .ok (nI m) := by rw [h1.len, sub_n (by omega), Nat.add_sub_cancel]
  have l2 : dSub (nI other.length) (nI 1) = .ok (nI n) := by rw [h2.len, sub_n (by omega), Nat.add_sub_cancel]
  refine seq_nx c0 (seq_nx c1 (seq_nx c2 (seq_nx (asg_nx (op_m (callB_m (cons_m rfl rfl) (lenS hx) rfl) rfl l1) rfl) (seq_nx (asg_nx (op_m (callB_m (cons_m rfl rfl) (lenS hy) rfl) rfl l2) rfl) (seq_nx (asg_nx (lc_m (Γ1 := GT x y m n .no .no .no .no .no .no .no) (ds := (List.range m).map fun i => nI (1 + i)) ?_ (below_ok x y m n one hx h1 hm) (le_big (by simp; omega))) rfl) (seq_nx (Γ' := GT x y m n (.sh (.lst ((List.range m).map fun i => nI (1 + fi one m i)))) (.ow (nL (List.replicate (m * n + 1) (m * n)))) .no .no .no .no .no) ?_ (seq_nx (for_eq (ds := (rowsN n m).map nL) (Γ1 := GT x y m n (.sh (.lst ((List.range m).map fun i => nI (1 + fi one m i)))) (.ow (nL (List.replicate (m * n + 1) (m * n)))) .no .no .no .no .no) ?_ e1) rfl)))))))
  · show mRange2 (mCons (ret (.int 1)) (mCons (mOp dAdd (mVar 2) (ret (.int 1))) mNil)) (GT x y m n .no .no .no .no .no .no .no) = _
    simp (disch := omega) only [mOp, mCallB, mCall, mUn, mT, mAnd, mOr, mNot, mTru, mIf, mCons, mNil, mTup, mLst, mIxB, mSeq, seqD, mRange1, mRange2, ownAt, bnd, mVar, DL.ret, lift, R.bind, noexc, hardR, hard, hardL, toB, orBad, Sl.with, List.getElem?_cons_zero, List.getElem?_cons_succ, List.length_cons, List.length_nil, List.set_cons_zero, List.set_cons_succ, wipeE_cons, wipeE_nil, if_true, Bool.false_eq_true, if_false, Bool.and_self, Bool.and_true, Bool.true_and, hard_n, lit0, lit1, lit2, lit10, add_n, max_n, min_n, lt_n, le_n, gt_n, ge_n, eq_n, ne_n, len_n, len_t, sum_n, or_n, sub_n, mul_n, fdiv_n, mod_n, ix_n, range1_n, range2_n, nLs_len, Nat.add_sub_cancel]
  · have c := lcL_mm (vs := [10]) (g := gSet 10) (e := (mOp dMul (mVar 2) (mVar 3))) (Γ := GT x y m n (.sh (.lst ((List.range m).map fun i => nI (1 + fi one m i)))) .no .no .no .no .no .no) nI (fun _ => nI (m * n)) (L := List.range (m * n + 1)) fun q hq => by
      refine ⟨GT x y m n (.sh (.lst ((List.range m).map fun i => nI (1 + fi one m i)))) .no .no .no .no .no (.sh (nI q)), GT x y m n (.sh (.lst ((List.range m).map fun i => nI (1 + fi one m i)))) .no .no .no .no .no (.sh (nI q)), rfl, ?_, rfl⟩
      exact op_m rfl rfl (mul_n (by omega))
    have e2 : (List.range (m * n + 1)).map (fun _ => nI (m * n)) = nLs (List.replicate (m * n + 1) (m * n)) := by
      unfold nLs
      rw [List.map_replicate, List.map_const', List.length_range]
    rw [e2] at c
    refine asg_nx (lc_m (ds := (List.range (m * n + 1)).map nI) (Γ1 := GT x y m n (.sh (.lst ((List.range m).map fun i => nI (1 + fi one m i)))) .no .no .no .no .no .no) ?_ c (le_big (by rw [nLs_len, List.length_replicate]; omega))) rfl
    show mRange1 (mCons (mOp dAdd (mOp dMul (mVar 2) (mVar 3)) (ret (.int 1))) mNil) (GT x y m n (.sh (.lst ((List.range m).map fun i => nI (1 + fi one m i)))) .no .no .no .no .no .no) = _
    simp (disch := omega) only [mOp, mCallB, mCall, mUn, mT, mAnd, mOr, mNot, mTru, mIf, mCons, mNil, mTup, mLst, mIxB, mSeq, seqD, mRange1, mRange2, ownAt, bnd, mVar, DL.ret, lift, R.bind, noexc, hardR, hard, hardL, toB, orBad, Sl.with, List.getElem?_cons_zero, List.getElem?_cons_succ, List.length_cons, List.length_nil, List.set_cons_zero, List.set_cons_succ, wipeE_cons, wipeE_nil, if_true, Bool.false_eq_true, if_false, Bool.and_self, Bool.and_true, Bool.true_and, hard_n, lit0, lit1, lit2, lit10, add_n, max_n, min_n, lt_n, le_n, gt_n, ge_n, eq_n, ne_n, len_n, len_t, sum_n, or_n, sub_n, mul_n, fdiv_n, mod_n, ix_n, range1_n, range2_n, nLs_len]
  · have := callF_m (F := F_falling_rows) (js := [none, none]) (a := mCons (mVar 2) (mCons (mVar 3) mNil)) (Γ := GT x y m n (.sh (.lst ((List.range m).map fun i => nI (1 + fi one m i)))) (.ow (nL (List.replicate (m * n + 1) (m * n)))) .no .no .no .no .no) (Γ1 := GT x y m n (.sh (.lst ((List.range m).map fun i => nI (1 + fi one m i)))) (.ow (nL (List.replicate (m * n + 1) (m * n)))) .no .no .no .no .no) (r := ⟨false, nLL (rowsN n m), [.non, .non]⟩) rfl (falling_ok m n hm hn)
    unfold mSeq bnd
    simp only [this, R.bind]
    rfl
end K13
namespace K13
open L2 DL
theorem tup_m {a : M (List D)} {Γ Γ1 : Env} {xs : List D} {z : D} (h : a Γ = .ok (xs, Γ1)) (k : dTup xs = .ok z) : mTup a Γ = .ok (z, Γ1) := by
  unfold mTup bnd
  simp only [h, R.bind, lift, k]
theorem lst_m {a : M (List D)} {Γ Γ1 : Env} {xs : List D} {z : D} (h : a Γ = .ok (xs, Γ1)) (k : dLst xs = .ok z) : mLst a Γ = .ok (z, Γ1) := by
  unfold mLst bnd
  simp only [h, R.bind, lift, k]
abbrev GF (m n : Nat) (Rw : List (List Nat)) (s3 : Sl) (acc : List (List Nat)) (s5 s6 : Sl) : Env := [.sh (nI m), .sh (nI n), .sh (nLL Rw), s3, .ow (nLL acc), s5, s6]
theorem fall_in (m n : Nat) (Rw : List (List Nat)) (s3 : Sl) (r : List Nat) (hr : r.length ≤ 50) : ∀ (L : List Nat) (acc : List (List Nat)) (s6 : Sl), acc.length + L.length ≤ 100000 → ∃ s6', forL (gSet 6) b0__law_b_falling (L.map nI) (GF m n Rw s3 acc (.sh (nL r)) s6) = .nx (GF m n Rw s3 (acc ++ L.map fun z => r ++ [z]) (.sh (nL r)) s6')
  | [], acc, s6, _ => ⟨s6, by simp only [List.map_nil, List.append_nil, forL]⟩
  | z :: L, acc, s6, h => by
    rw [List.length_cons] at h
    obtain ⟨s6', e⟩ := fall_in m n Rw s3 r hr L (acc ++ [r ++ [z]]) (.sh (nI z)) (by rw [List.length_append]; show acc.length + 1 + _ ≤ _; omega)
    refine ⟨s6', ?_⟩
    have g : gSet 6 (nI z) (GF m n Rw s3 acc (.sh (nL r)) s6) = .ok (GF m n Rw s3 acc (.sh (nL r)) (.sh (nI z))) := rfl
    have hb : (acc.map nL).length < big := lt_big (by rw [List.length_map]; omega)
    have a : mOp dAddL (mVar 5) (mLst (mCons (mVar 6) mNil)) (GF m n Rw s3 acc (.sh (nL r)) (.sh (nI z))) = .ok (nL (r ++ [z]), GF m n Rw s3 acc (.sh (nL r)) (.sh (nI z))) := by
      have w := addL_n (L := r) (z := z) (by omega)
      simp (disch := omega) only [mOp, mCallB, mCall, mUn, mT, mAnd, mOr, mNot, mTru, mIf, mCons, mNil, mTup, mLst, mIxB, mSeq, seqD, mRange1, mRange2, ownAt, bnd, mVar, DL.ret, lift, R.bind, noexc, hardR, hard, hardL, toB, orBad, Sl.with, List.getElem?_cons_zero, List.getElem?_cons_succ, List.length_cons, List.length_nil, List.set_cons_zero, List.set_cons_succ, wipeE_cons, wipeE_nil, if_true, Bool.false_eq_true, if_false, Bool.and_self, Bool.and_true, Bool.true_and, hard_n, lit0, lit1, lit2, lit10, add_n, max_n, min_n, lt_n, le_n, gt_n, ge_n, eq_n, ne_n, len_n, len_t, sum_n, or_n, sub_n, mul_n, fdiv_n, mod_n, ix_n, range1_n, range2_n, nLs_len, lst1, w]
    have b : b0__law_b_falling (GF m n Rw s3 acc (.sh (nL r)) (.sh (nI z))) = .nx (GF m n Rw s3 (acc ++ [r ++ [z]]) (.sh (nL r)) (.sh (nI z))) := by
      unfold b0__law_b_falling sApp ofM
      simp only [ownAt, List.getElem?_cons_succ, List.getElem?_cons_zero, a, if_pos hb]
      show Out.nx [.sh (nI m), .sh (nI n), .sh (nLL Rw), s3, .ow (.lst (acc.map nL ++ [nL (r ++ [z])])), .sh (nL r), .sh (nI z)] = Out.nx [.sh (nI m), .sh (nI n), .sh (nLL Rw), s3, .ow (.lst ((acc ++ [r ++ [z]]).map nL)), .sh (nL r), .sh (nI z)]
      rw [List.map_append]
      rfl
    rw [List.map_cons, List.map_cons]
    simp only [forL, g, b]
    rw [e, List.append_assoc]
    rfl
theorem tru_l (L : List Nat) : truD (nL L) = .ok (decide (L ≠ [])) := by
  cases L <;> rfl
theorem fall_out (m n i : Nat) (hi : i < m) (hm : m ≤ 8) (hn : n ≤ 8) (s3 : Sl) : ∀ (Rs : List (List Nat)) (acc : List (List Nat)) (s5 s6 : Sl), (∀ r ∈ Rs, r ∈ rowsN n i) → acc.length + (Rs.flatMap fun r => (List.range (lastOr r n + 1)).map fun z => r ++ [z]).length ≤ 100000 → ∃ s5' s6', forL (gSet 5) b1__law_b_falling (Rs.map nL) (GF m n (rowsN n i) s3 acc s5 s6) = .nx (GF m n (rowsN n i) s3 (acc ++ Rs.flatMap fun r => (List.range (lastOr r n + 1)).map fun z => r ++ [z]) s5' s6')
  | [], acc, s5, s6, _, _ => ⟨s5, s6, by simp only [List.map_nil, List.flatMap_nil, List.append_nil, forL]⟩
  | r :: Rs, acc, s5, s6, hm', h => by
    have hr := hm' r List.mem_cons_self
    have hl := rows_len n i r hr
    have hlast := rows_last n i r hr
    rw [List.flatMap_cons, List.length_append, List.length_map, List.length_range] at h
    obtain ⟨x, e1⟩ := fall_in m n (rowsN n i) s3 r (by omega) (List.range (lastOr r n + 1)) acc s6 (by rw [List.length_range]; omega)
    obtain ⟨s5', s6', e2⟩ := fall_out m n i hi hm hn s3 Rs (acc ++ (List.range (lastOr r n + 1)).map fun z => r ++ [z]) (.sh (nL r)) x (fun r h => hm' r (List.mem_cons_of_mem _ h)) (by rw [List.length_append, List.length_map, List.length_range]; omega)
    refine ⟨s5', s6', ?_⟩
    have g : gSet 5 (nL r) (GF m n (rowsN n i) s3 acc s5 s6) = .ok (GF m n (rowsN n i) s3 acc (.sh (nL r)) s6) := rfl
    have v : mIf (mTru (mVar 5)) (mOp dIx (mVar 5) (mUn dNeg (ret (.int 1)))) (mVar 1) (GF m n (rowsN n i) s3 acc (.sh (nL r)) s6) = .ok (nI (lastOr r n), GF m n (rowsN n i) s3 acc (.sh (nL r)) s6) := by
      have t : mTru (mVar 5) (GF m n (rowsN n i) s3 acc (.sh (nL r)) s6) = .ok (decide (r ≠ []), GF m n (rowsN n i) s3 acc (.sh (nL r)) s6) := by
        simp only [mTru, bnd, mVar, R.bind, lift, List.getElem?_cons_succ, List.getElem?_cons_zero, tru_l]
      by_cases hr0 : r = []
      · subst hr0
        exact tIf_f (by rw [t]; rfl) rfl
      · exact tIf_t (by rw [t, decide_eq_true hr0]) (op_m rfl rfl (last_ix hr0))
    have a := op_m v (show ret (.int 1) _ = .ok (nI 1, _) from rfl) (add_n (lastOr r n) 1)
    have b := cons_m (r := mNil) a rfl
    have rg : mRange1 (mCons (mOp dAdd (mIf (mTru (mVar 5)) (mOp dIx (mVar 5) (mUn dNeg (ret (.int 1)))) (mVar 1)) (ret (.int 1))) mNil) (GF m n (rowsN n i) s3 acc (.sh (nL r)) s6) = .ok ((List.range (lastOr r n + 1)).map nI, GF m n (rowsN n i) s3 acc (.sh (nL r)) s6) := by
      unfold mRange1 bnd
      simp (disch := omega) only [b, R.bind, lift, range1_n]
    have bd : b1__law_b_falling (GF m n (rowsN n i) s3 acc (.sh (nL r)) s6) = .nx (GF m n (rowsN n i) s3 (acc ++ (List.range (lastOr r n + 1)).map fun z => r ++ [z]) (.sh (nL r)) x) := for_eq rg e1
    rw [List.map_cons]
    simp only [forL, g, bd]
    rw [e2, List.flatMap_cons, List.append_assoc]
theorem lfall_ok (m n : Nat) (hm : m ≤ 8) (hn : n ≤ 8) : F__law_b_falling [nI m, nI n] = .ok ⟨false, nLL (rowsN n m), [.non, .non]⟩ := by
  have z0 : dLst [] = .ok (.lst []) := lst_le (by show 0 ≤ 16777216; omega)
  have turn : ∀ (i : Nat) (s3 s4 s5 s6 : Sl), i < m → ∃ s4' s5' s6', b2__law_b_falling [.sh (nI m), .sh (nI n), .sh (nLL (rowsN n i)), s3, s4, s5, s6] = .nx [.sh (nI m), .sh (nI n), .sh (nLL (rowsN n (i + 1))), s3, s4', s5', s6'] := fun i s3 s4 s5 s6 hi => by
    have hb := rows_many hn (show i + 1 ≤ 8 by omega)
    rw [rowsN] at hb
    obtain ⟨s5', s6', e⟩ := fall_out m n i hi hm hn s3 (rowsN n i) [] s5 s6 (fun r h => h) (by show 0 + _ ≤ _; omega)
    rw [List.nil_append] at e
    refine ⟨.sh (nLL (rowsN n (i + 1))), s5', s6', seq_nx (asg_nx (d := .lst []) (Γ1 := [.sh (nI m), .sh (nI n), .sh (nLL (rowsN n i)), s3, s4, s5, s6]) (by simp only [mLst, mNil, bnd, R.bind, DL.ret, lift, z0]) rfl) (seq_nx (for_eq (ds := (rowsN n i).map nL) (Γ1 := GF m n (rowsN n i) s3 [] s5 s6) rfl e) rfl)⟩
  obtain ⟨Γ', e1, s3, s4, s5, s6, rfl⟩ := forL_inv (g := gSet 3) (body := b2__law_b_falling) (ds := (List.range m).map nI) (Γ := [.sh (nI m), .sh (nI n), .sh (nLL (rowsN n 0)), .no, .no, .no, .no])
    (fun i Γ => ∃ s3 s4 s5 s6, Γ = [.sh (nI m), .sh (nI n), .sh (nLL (rowsN n i)), s3, s4, s5, s6]) ⟨_, _, _, _, rfl⟩ fun i d Γ hd ⟨s3, s4, s5, s6, hΓ⟩ => by
      subst hΓ
      rw [List.getElem?_map] at hd
      by_cases hi : i < m
      · rw [List.getElem?_range hi] at hd
        cases hd
        obtain ⟨s4', s5', s6', e⟩ := turn i (.sh (nI i)) s4 s5 s6 hi
        exact ⟨_, _, rfl, e, _, _, _, _, rfl⟩
      · rw [List.getElem?_eq_none (by simpa using hi)] at hd
        cases hd
  rw [List.length_map, List.length_range] at e1
  have e : (env0 N__law_b_falling.length [false, false] [nI m, nI n] : Env) = [.sh (nI m), .sh (nI n), .no, .no, .no, .no, .no] := rfl
  refine run_rt (Γ := [.sh (nI m), .sh (nI n), .sh (nLL (rowsN n m)), s3, s4, s5, s6]) ?_ rfl
  rw [e]
  refine seq_nx (asg_nx (d := nLL (rowsN n 0)) (Γ1 := [.sh (nI m), .sh (nI n), .no, .no, .no, .no, .no]) ?_ rfl) (seq_nx (for_eq (ds := (List.range m).map nI) (Γ1 := [.sh (nI m), .sh (nI n), .sh (nLL (rowsN n 0)), .no, .no, .no, .no]) ?_ e1) rfl)
  · simp only [mLst, mCons, mNil, bnd, R.bind, DL.ret, lift, z0, lst1]
    rfl
  · simp (disch := omega) only [mOp, mCallB, mCall, mUn, mT, mAnd, mOr, mNot, mTru, mIf, mCons, mNil, mTup, mLst, mIxB, mSeq, seqD, mRange1, mRange2, ownAt, bnd, mVar, DL.ret, lift, R.bind, noexc, hardR, hard, hardL, toB, orBad, Sl.with, List.getElem?_cons_zero, List.getElem?_cons_succ, List.length_cons, List.length_nil, List.set_cons_zero, List.set_cons_succ, wipeE_cons, wipeE_nil, if_true, Bool.false_eq_true, if_false, Bool.and_self, Bool.and_true, Bool.true_and, hard_n, lit0, lit1, lit2, lit10, add_n, max_n, min_n, lt_n, le_n, gt_n, ge_n, eq_n, ne_n, len_n, len_t, sum_n, or_n, sub_n, mul_n, fdiv_n, mod_n, ix_n, range1_n, range2_n, nLs_len]
theorem lots_of_ok (m n : Nat) (one other : List Nat) (hm : 0 < m) (hn : 0 < n) (hN : m * n ≤ 15) (hm2 : m ≤ 100) (hn2 : n ≤ 100) (hl : (nearN m n one other).length = m * n) (hb : ∀ x ∈ nearN m n one other, x < 2 ^ (m * n)) : ∃ ws bs, F__law_lots_of [houseD m n one other] = .ok ⟨false, .tup [layD ws m n one other, lotsD bs (sizeN (m * n)) (stepsN (nearN m n one other) (m * n)) (m * n)], [.non]⟩ := by
  obtain ⟨ws, e1⟩ := layout_ok m n one other hm hn (by omega) hm2 hn2
  obtain ⟨bs, e2⟩ := lots_ok ws m n one other hN hl hb
  refine ⟨ws, bs, ?_⟩
  have e : (env0 N__law_lots_of.length [false] [houseD m n one other] : Env) = [.sh (houseD m n one other), .no] := rfl
  refine run_rt (Γ := [.sh (houseD m n one other), .sh (layD ws m n one other)]) ?_ rfl
  rw [e]
  have c2 := callF_m (F := F__law_lots) (js := [none]) (a := mCons (mVar 1) mNil) (r := ⟨true, lotsD bs (sizeN (m * n)) (stepsN (nearN m n one other) (m * n)) (m * n), [.non]⟩) (ds := [layD ws m n one other]) (Γ := [.sh (houseD m n one other), .sh (layD ws m n one other)]) (Γ1 := [.sh (houseD m n one other), .sh (layD ws m n one other)]) rfl e2
  refine seq_nx (asg_nx (callF_m (r := ⟨true, layD ws m n one other, [.non]⟩) (ds := [houseD m n one other]) (Γ1 := [.sh (houseD m n one other), .no]) rfl e1) rfl) (ret_rt ?_)
  exact tup_m (cons_m (x := layD ws m n one other) (Γ1 := [.sh (houseD m n one other), .sh (layD ws m n one other)]) rfl (cons_m c2 rfl)) (tup2 _ _)
end K13
namespace K13
open L2 DL
abbrev GD (x y : D) (m n : Nat) (s4 s5 s6 s7 s8 s9 s10 s11 : Sl) : Env := [.sh x, .sh y, .sh (nI m), .sh (nI n), s4, s5, s6, s7, s8, s9, s10, s11]
theorem first_ok (y : D) (m n : Nat) (one : List Nat) (h1 : Sr m one) (hm : m ≤ 8) : lcL [9] (gSet 9) (ret true) e0__law_b_two_due ((List.range m).map fun i => nI (1 + i)) (GD (nL one) y m n .no .no .no .no .no .no .no .no) = .ok ((List.range m).map fun i => nI (fi one m i), GD (nL one) y m n .no .no .no .no .no .no .no .no) := by
  have hl := h1.len
  refine lcL_mm (vs := [9]) (g := gSet 9) (e := e0__law_b_two_due) (fun i => nI (1 + i)) (fun i => nI (fi one m i)) fun q hq => ?_
  rw [List.mem_range] at hq
  refine ⟨GD (nL one) y m n .no .no .no .no .no (.sh (nI (1 + q))) .no .no, GD (nL one) y m n .no .no .no .no .no (.sh (nI (1 + q))) .no .no, rfl, ?_, rfl⟩
  have inner := lcL_fm (vs := [11]) (g := gSet 11) (t := (mT (mOp dGe (mOp dIx (mVar 0) (mVar 11)) (mVar 9)))) (e := mVar 11) (Γ := GD (nL one) y m n .no .no .no .no .no (.sh (nI (1 + q))) .no .no) (fun i => nI (1 + i)) (fun i => decide (1 + q ≤ nth one (1 + i))) (fun i => nI (1 + i)) (L := List.range m) fun i hi => by
    rw [List.mem_range] at hi
    refine ⟨GD (nL one) y m n .no .no .no .no .no (.sh (nI (1 + q))) .no (.sh (nI (1 + i))), GD (nL one) y m n .no .no .no .no .no (.sh (nI (1 + q))) .no (.sh (nI (1 + i))), rfl, ?_, fun _ => ⟨_, rfl, rfl⟩, fun _ => rfl⟩
    exact tT (op_m (op_m rfl rfl (ixS (.inl rfl) (by omega))) rfl (ge_n _ _))
  have rg : mRange2 (mCons (ret (.int 1)) (mCons (mOp dAdd (mVar 2) (ret (.int 1))) mNil)) (GD (nL one) y m n .no .no .no .no .no (.sh (nI (1 + q))) .no .no) = .ok ((List.range m).map fun i => nI (1 + i), GD (nL one) y m n .no .no .no .no .no (.sh (nI (1 + q))) .no .no) := by
    simp (disch := omega) only [mOp, mCallB, mCall, mUn, mT, mAnd, mOr, mNot, mTru, mIf, mCons, mNil, mTup, mLst, mIxB, mSeq, seqD, mRange1, mRange2, ownAt, bnd, mVar, DL.ret, lift, R.bind, noexc, hardR, hard, hardL, toB, orBad, Sl.with, List.getElem?_cons_zero, List.getElem?_cons_succ, List.length_cons, List.length_nil, List.set_cons_zero, List.set_cons_succ, wipeE_cons, wipeE_nil, if_true, Bool.false_eq_true, if_false, Bool.and_self, Bool.and_true, Bool.true_and, hard_n, lit0, lit1, lit2, lit10, add_n, max_n, min_n, lt_n, le_n, gt_n, ge_n, eq_n, ne_n, len_n, len_t, sum_n, or_n, sub_n, mul_n, fdiv_n, mod_n, ix_n, range1_n, range2_n, nLs_len, Nat.add_sub_cancel]
  obtain ⟨L, hL, hmin⟩ := fi_filter h1 hq
  have e1 : ((List.range m).filter fun i => decide (1 + q ≤ nth one (1 + i))).map (fun i => nI (1 + i)) = nI (1 + fi one m q) :: nLs L := by
    have : nI (1 + fi one m q) :: nLs L = nLs ((1 + fi one m q) :: L) := rfl
    rw [this, ← hL]
    unfold nLs
    rw [List.map_map]
    rfl
  rw [e1] at inner
  have hlen : (nI (1 + fi one m q) :: nLs L).length ≤ m := by
    rw [← e1, List.length_map]
    exact Nat.le_trans (List.length_filter_le _ _) (by rw [List.length_range]; omega)
  have z : dIx (.lst (nI (1 + fi one m q) :: nLs L)) (nI 0) = .ok (nI (1 + fi one m q)) := by
    rw [ix_d (by show 0 < _ + 1; omega)]
    rfl
  have w : dSub (nI (1 + fi one m q)) (nI 1) = .ok (nI (fi one m q)) := by rw [sub_n (by omega), Nat.add_sub_cancel_left]
  exact op_m (op_m (lc_m rg inner (le_big (by omega))) rfl z) rfl w
theorem reach_loop (m n : Nat) (one other : List Nat) (h1 : Sr m one) (h2 : Sr n other) (hm : m ≤ 8) (hn : n ≤ 8) (x : D) (s6 : Sl) (r : List Nat) (hr : Fall n m r) (s9 s10 : Sl) : ∃ s9', forL (gSet 9) b1__law_b_two_due ((List.range m).map nI) (GD x (nL other) m n .no (.sh (.lst ((List.range m).map fun i => nI (fi one m i)))) s6 (.sh (nL r)) (.sh (nI 0)) s9 s10 .no) = .nx (GD x (nL other) m n .no (.sh (.lst ((List.range m).map fun i => nI (fi one m i)))) s6 (.sh (nL r)) (.sh (nI (reachN one other m r))) s9' s10 .no) := by
  have hl2 := h2.len
  have hrl := hr.len
  obtain ⟨Γ', e, s9', rfl⟩ := forL_inv (g := gSet 9) (body := b1__law_b_two_due) (ds := (List.range m).map nI) (Γ := GD x (nL other) m n .no (.sh (.lst ((List.range m).map fun i => nI (fi one m i)))) s6 (.sh (nL r)) (.sh (nI 0)) s9 s10 .no)
    (fun i Γ => ∃ s9', Γ = GD x (nL other) m n .no (.sh (.lst ((List.range m).map fun i => nI (fi one m i)))) s6 (.sh (nL r)) (.sh (nI (Sm (fun q => max (nth other (nth r q)) (nth r (fi one m q))) i))) s9' s10 .no) ⟨_, rfl⟩ fun q d Γ hd ⟨s9', hΓ⟩ => by
      subst hΓ
      rw [List.getElem?_map] at hd
      by_cases hq : q < m
      · rw [List.getElem?_range hq] at hd
        cases hd
        obtain ⟨f1, _, _⟩ := fi_ok h1 hq
        have ht := hr.top q hq
        have a1 : dIx (nL r) (nI q) = .ok (nI (nth r q)) := ix_n (by omega)
        have a2 : dIx (.lst ((List.range m).map fun i => nI (fi one m i))) (nI q) = .ok (nI (fi one m q)) := ix_m (f := fun i => nI (fi one m i)) (List.getElem?_range hq)
        have a4 : dIx (nL r) (nI (fi one m q)) = .ok (nI (nth r (fi one m q))) := ix_n (by omega)
        have a5 : dIx (nL other) (nI (nth r q)) = .ok (nI (nth other (nth r q))) := ix_n (by omega)
        exact ⟨_, _, rfl, asg_nx (op_m rfl (callB_m (cons_m (op_m rfl (op_m rfl rfl a1) a5) (cons_m (op_m rfl (op_m rfl rfl a2) a4) rfl)) (max_n _ _) rfl) (add_n _ _)) rfl, _, rfl⟩
      · rw [List.getElem?_eq_none (by simpa using hq)] at hd
        cases hd
  rw [List.length_map, List.length_range] at e
  exact ⟨s9', e⟩
theorem due_turn (m n : Nat) (one other : List Nat) (h1 : Sr m one) (h2 : Sr n other) (hm : m ≤ 8) (hn : n ≤ 8) (x : D) (best r : List Nat) (hr : Fall n m r) (hb : best.length = m * n + 1) (s8 s9 s10 : Sl) :
    ∃ s8' s9' s10', b2__law_b_two_due (GD x (nL other) m n .no (.sh (.lst ((List.range m).map fun i => nI (fi one m i)))) (.ow (nL best)) (.sh (nL r)) s8 s9 s10 .no) = .nx (GD x (nL other) m n .no (.sh (.lst ((List.range m).map fun i => nI (fi one m i)))) (.ow (nL (stepN one other m best r))) (.sh (nL r)) s8' s9' s10' .no) := by
  have hmn : m * n ≤ 64 := mul9 hm hn
  have hs := hr.sum
  obtain ⟨s9', e⟩ := reach_loop m n one other h1 h2 hm hn x (.ow (nL best)) r hr s9 s10
  have rg : mRange1 (mCons (mVar 2) mNil) (GD x (nL other) m n .no (.sh (.lst ((List.range m).map fun i => nI (fi one m i)))) (.ow (nL best)) (.sh (nL r)) (.sh (nI 0)) s9 s10 .no) = .ok ((List.range m).map nI, GD x (nL other) m n .no (.sh (.lst ((List.range m).map fun i => nI (fi one m i)))) (.ow (nL best)) (.sh (nL r)) (.sh (nI 0)) s9 s10 .no) := by
    simp (disch := omega) only [mOp, mCallB, mCall, mUn, mT, mAnd, mOr, mNot, mTru, mIf, mCons, mNil, mTup, mLst, mIxB, mSeq, seqD, mRange1, mRange2, ownAt, bnd, mVar, DL.ret, lift, R.bind, noexc, hardR, hard, hardL, toB, orBad, Sl.with, List.getElem?_cons_zero, List.getElem?_cons_succ, List.length_cons, List.length_nil, List.set_cons_zero, List.set_cons_succ, wipeE_cons, wipeE_nil, if_true, Bool.false_eq_true, if_false, Bool.and_self, Bool.and_true, Bool.true_and, hard_n, lit0, lit1, lit2, lit10, add_n, max_n, min_n, lt_n, le_n, gt_n, ge_n, eq_n, ne_n, len_n, len_t, sum_n, or_n, sub_n, mul_n, fdiv_n, mod_n, ix_n, range1_n, range2_n, nLs_len]
  have ix : dIx (nL best) (nI r.sum) = .ok (nI (nth best r.sum)) := ix_n (by omega)
  have ixb : mIxB 6 (mVar 10) (GD x (nL other) m n .no (.sh (.lst ((List.range m).map fun i => nI (fi one m i)))) (.ow (nL best)) (.sh (nL r)) (.sh (nI (reachN one other m r))) s9' (.sh (nI r.sum)) .no) = .ok (nI (nth best r.sum), GD x (nL other) m n .no (.sh (.lst ((List.range m).map fun i => nI (fi one m i)))) (.ow (nL best)) (.sh (nL r)) (.sh (nI (reachN one other m r))) s9' (.sh (nI r.sum)) .no) := by
    unfold mIxB
    simp only [ownAt, mVar, List.getElem?_cons_succ, List.getElem?_cons_zero, R.bind, ix, noexc]
  have st : dSetIx (nL best) (nI r.sum) (nI (min (nth best r.sum) (reachN one other m r))) = .ok (nL (stepN one other m best r)) := by
    unfold nL
    rw [set_n (by rw [nLs_len]; omega), nLs_set]
    rfl
  have gx : gSetIx 6 (mVar 10) (nI (min (nth best r.sum) (reachN one other m r))) (GD x (nL other) m n .no (.sh (.lst ((List.range m).map fun i => nI (fi one m i)))) (.ow (nL best)) (.sh (nL r)) (.sh (nI (reachN one other m r))) s9' (.sh (nI r.sum)) .no) = .ok (GD x (nL other) m n .no (.sh (.lst ((List.range m).map fun i => nI (fi one m i)))) (.ow (nL (stepN one other m best r))) (.sh (nL r)) (.sh (nI (reachN one other m r))) s9' (.sh (nI r.sum)) .no) := by
    unfold gSetIx
    simp only [ownAt, mVar, List.getElem?_cons_succ, List.getElem?_cons_zero, R.bind, st]
    rfl
  exact ⟨_, _, _, seq_nx (asg_nx rfl rfl) (seq_nx (for_eq rg e) (seq_nx (asg_nx (callB_m (cons_m rfl rfl) sum_row rfl) rfl) (asg_nx (callB_m (cons_m ixb (cons_m rfl rfl)) (min_n _ _) rfl) gx)))⟩
theorem due_ok (m n : Nat) (one other : List Nat) (h1 : Sr m one) (h2 : Sr n other) (hm0 : 0 < m) (hn0 : 0 < n) (hm : m ≤ 8) (hn : n ≤ 8) (hs : m * n < 10 → m ≤ 6 ∧ n ≤ 6) : F__law_b_two_due [nL one, nL other] = .ok ⟨true, nL (tp m n one other), [.non, .non]⟩ := by
  have hmn : m * n ≤ 64 := mul9 hm hn
  have e : (env0 N__law_b_two_due.length [false, false] [nL one, nL other] : Env) = [.sh (nL one), .sh (nL other), .no, .no, .no, .no, .no, .no, .no, .no, .no, .no] := rfl
  have l1 : dSub (nI one.length) (nI 1) = .ok (nI m) := by rw [h1.len, sub_n (by omega), Nat.add_sub_cancel]
  have l2 : dSub (nI other.length) (nI 1) = .ok (nI n) := by rw [h2.len, sub_n (by omega), Nat.add_sub_cancel]
  have s1 : sAsg (mTup (mCons (mOp dSub (mCallB dLen (mCons (mVar 0) mNil)) (ret (.int 1))) (mCons (mOp dSub (mCallB dLen (mCons (mVar 1) mNil)) (ret (.int 1))) mNil))) (gUn 2 (gsCons (gSet 2) (gsCons (gSet 3) gsNil))) [.sh (nL one), .sh (nL other), .no, .no, .no, .no, .no, .no, .no, .no, .no, .no] = .nx (GD (nL one) (nL other) m n .no .no .no .no .no .no .no .no) :=
    asg_nx (d := .tup [nI m, nI n]) (Γ1 := [.sh (nL one), .sh (nL other), .no, .no, .no, .no, .no, .no, .no, .no, .no, .no]) (tup_m (cons_m (op_m (callB_m (cons_m rfl rfl) (lenS (.inl rfl)) rfl) rfl l1) (cons_m (op_m (callB_m (cons_m rfl rfl) (lenS (.inl rfl)) rfl) rfl l2) rfl)) (tup2 _ _)) rfl
  have tc : mT (mOp dLt (mOp dMul (mVar 2) (mVar 3)) (ret (.int 10))) (GD (nL one) (nL other) m n .no .no .no .no .no .no .no .no) = .ok (decide (m * n < 10), GD (nL one) (nL other) m n .no .no .no .no .no .no .no .no) :=
    tT (op_m (op_m rfl rfl (mul_n (by omega))) rfl (lt_n _ _))
  by_cases hc : m * n < 10
  · rw [decide_eq_true hc] at tc
    obtain ⟨hm6, hn6⟩ := hs hc
    obtain ⟨c1, c2, c3⟩ := chk_stair (by omega) (chk_ok hm0 hn0 hm6 hn6 hc h1 h2)
    obtain ⟨ws, bs, lo⟩ := lots_of_ok m n one other hm0 hn0 (by omega) (by omega) (by omega) c1 c2
    have st := stair_ok bs (sizeN (m * n)) (stepsN (nearN m n one other) (m * n)) (m * n) (by omega) (fun x hx => by rw [sizeN_len]; exact stepsN_lt _ _ c2 _ x hx) (sizeN_le (m * n))
    rw [c3] at st
    have p1 := place_ok one m h1.len (by omega) hm0
    have p2 := place_ok other n h2.len (by omega) hn0
    have w1 : mCallF F__law_place_w [none] [] (mCons (mLst (mCons (mVar 0) mNil)) mNil) (GD (nL one) (nL other) m n .no .no .no .no .no .no .no .no) = .ok (placeD one m, GD (nL one) (nL other) m n .no .no .no .no .no .no .no .no) :=
      callF_m (r := ⟨true, placeD one m, [.non]⟩) (ds := [.lst [nL one]]) (Γ1 := GD (nL one) (nL other) m n .no .no .no .no .no .no .no .no) (cons_m (lst_m (cons_m rfl rfl) (lst1 _)) rfl) p1
    have w2 : mCallF F__law_place_w [none] [] (mCons (mLst (mCons (mVar 1) mNil)) mNil) (GD (nL one) (nL other) m n .no .no .no .no .no .no .no .no) = .ok (placeD other n, GD (nL one) (nL other) m n .no .no .no .no .no .no .no .no) :=
      callF_m (r := ⟨true, placeD other n, [.non]⟩) (ds := [.lst [nL other]]) (Γ1 := GD (nL one) (nL other) m n .no .no .no .no .no .no .no .no) (cons_m (lst_m (cons_m rfl rfl) (lst1 _)) rfl) p2
    have lst2 : dLst [placeD one m, placeD other n] = .ok (.lst [placeD one m, placeD other n]) := lst_le (by show 2 ≤ 16777216; omega)
    have dct : mDict (mPs (ret (.str "kinds")) (mLst (mCons (ret (.str "k")) mNil)) (mPs (ret (.str "prices")) (mLst (mCons (ret (.int 1)) mNil)) (mPs (ret (.str "webs")) (mLst (mCons (mCallF F__law_place_w [none] [] (mCons (mLst (mCons (mVar 0) mNil)) mNil)) (mCons (mCallF F__law_place_w [none] [] (mCons (mLst (mCons (mVar 1) mNil)) mNil)) mNil))) mPs0))) (GD (nL one) (nL other) m n .no .no .no .no .no .no .no .no) = .ok (houseD m n one other, GD (nL one) (nL other) m n .no .no .no .no .no .no .no .no) :=
      dict_m (ps_m rfl (lst_m (cons_m rfl rfl) (lst1 _)) (ps_m rfl (lst_m (cons_m rfl rfl) (lst1 _)) (ps_m rfl (lst_m (cons_m w1 (cons_m w2 rfl)) lst2) rfl))) rfl
    have ix1 : ∀ a b : D, dIx (.tup [a, b]) (nI 1) = .ok b := fun _ _ => rfl
    refine run_rn (Γ := GD (nL one) (nL other) m n (.sh (lotsD bs (sizeN (m * n)) (stepsN (nearN m n one other) (m * n)) (m * n))) .no .no .no .no .no .no .no) ?_ rfl
    rw [e]
    have k1 := callF_m (F := F__law_lots_of) (js := [none]) (r := ⟨false, .tup [layD ws m n one other, lotsD bs (sizeN (m * n)) (stepsN (nearN m n one other) (m * n)) (m * n)], [.non]⟩) (cons_m (r := mNil) dct rfl) lo
    exact seq_nx s1 (seq_rn (if_t tc (seq_nx (asg_nx (op_m k1 rfl (ix1 _ _)) rfl) (retN_rn (callN_m (Γ1 := GD (nL one) (nL other) m n (.sh (lotsD bs (sizeN (m * n)) (stepsN (nearN m n one other) (m * n)) (m * n))) .no .no .no .no .no .no .no) (cons_m rfl (cons_m rfl rfl)) st)))))
  · rw [decide_eq_false hc] at tc
    obtain ⟨Γ', e1, s7, s8, s9, s10, rfl, _⟩ := forL_rel (g := gSet 7) (body := b2__law_b_two_due) nL (stepN one other m)
      (fun best Γ => ∃ s7 s8 s9 s10, Γ = GD (nL one) (nL other) m n .no (.sh (.lst ((List.range m).map fun i => nI (fi one m i)))) (.ow (nL best)) s7 s8 s9 s10 .no ∧ best.length = m * n + 1) (L := rowsN n m) (s := List.replicate (m * n + 1) (m * n)) (Γ := GD (nL one) (nL other) m n .no (.sh (.lst ((List.range m).map fun i => nI (fi one m i)))) (.ow (nL (List.replicate (m * n + 1) (m * n)))) .no .no .no .no .no) ⟨_, _, _, _, rfl, by simp⟩ fun r hr best Γ ⟨s7, s8, s9, s10, hΓ, hb⟩ => by
        subst hΓ
        obtain ⟨a, b, c, e⟩ := due_turn m n one other h1 h2 hm hn (nL one) best r ((mem_rows n).1 hr) hb s8 s9 s10
        exact ⟨_, _, rfl, e, _, _, _, _, rfl, by rw [stepN_len]; exact hb⟩
    refine run_rn (Γ := GD (nL one) (nL other) m n .no (.sh (.lst ((List.range m).map fun i => nI (fi one m i)))) .no s7 s8 s9 s10 .no) ?_ rfl
    rw [e]
    refine seq_nx s1 (seq_nx (if_f tc rfl) (seq_nx (asg_nx (lc_m (Γ1 := GD (nL one) (nL other) m n .no .no .no .no .no .no .no .no) (ds := (List.range m).map fun i => nI (1 + i)) ?_ (first_ok (nL other) m n one h1 hm) (le_big (by simp; omega))) rfl) (seq_nx (Γ' := GD (nL one) (nL other) m n .no (.sh (.lst ((List.range m).map fun i => nI (fi one m i)))) (.ow (nL (List.replicate (m * n + 1) (m * n)))) .no .no .no .no .no) ?_ (seq_nx (for_eq (ds := (rowsN n m).map nL) (Γ1 := GD (nL one) (nL other) m n .no (.sh (.lst ((List.range m).map fun i => nI (fi one m i)))) (.ow (nL (List.replicate (m * n + 1) (m * n)))) .no .no .no .no .no) ?_ e1) rfl))))
    · simp (disch := omega) only [mOp, mCallB, mCall, mUn, mT, mAnd, mOr, mNot, mTru, mIf, mCons, mNil, mTup, mLst, mIxB, mSeq, seqD, mRange1, mRange2, ownAt, bnd, mVar, DL.ret, lift, R.bind, noexc, hardR, hard, hardL, toB, orBad, Sl.with, List.getElem?_cons_zero, List.getElem?_cons_succ, List.length_cons, List.length_nil, List.set_cons_zero, List.set_cons_succ, wipeE_cons, wipeE_nil, if_true, Bool.false_eq_true, if_false, Bool.and_self, Bool.and_true, Bool.true_and, hard_n, lit0, lit1, lit2, lit10, add_n, max_n, min_n, lt_n, le_n, gt_n, ge_n, eq_n, ne_n, len_n, len_t, sum_n, or_n, sub_n, mul_n, fdiv_n, mod_n, ix_n, range1_n, range2_n, nLs_len, Nat.add_sub_cancel]
    · have c := lcL_mm (vs := [10]) (g := gSet 10) (e := (mOp dMul (mVar 2) (mVar 3))) (Γ := GD (nL one) (nL other) m n .no (.sh (.lst ((List.range m).map fun i => nI (fi one m i)))) .no .no .no .no .no .no) nI (fun _ => nI (m * n)) (L := List.range (m * n + 1)) fun q hq => by
        refine ⟨GD (nL one) (nL other) m n .no (.sh (.lst ((List.range m).map fun i => nI (fi one m i)))) .no .no .no .no (.sh (nI q)) .no, GD (nL one) (nL other) m n .no (.sh (.lst ((List.range m).map fun i => nI (fi one m i)))) .no .no .no .no (.sh (nI q)) .no, rfl, ?_, rfl⟩
        exact op_m rfl rfl (mul_n (by omega))
      have e2 : (List.range (m * n + 1)).map (fun _ => nI (m * n)) = nLs (List.replicate (m * n + 1) (m * n)) := by
        unfold nLs
        rw [List.map_replicate, List.map_const', List.length_range]
      rw [e2] at c
      refine asg_nx (lc_m (ds := (List.range (m * n + 1)).map nI) (Γ1 := GD (nL one) (nL other) m n .no (.sh (.lst ((List.range m).map fun i => nI (fi one m i)))) .no .no .no .no .no .no) ?_ c (le_big (by rw [nLs_len, List.length_replicate]; omega))) rfl
      show mRange1 (mCons (mOp dAdd (mOp dMul (mVar 2) (mVar 3)) (ret (.int 1))) mNil) (GD (nL one) (nL other) m n .no (.sh (.lst ((List.range m).map fun i => nI (fi one m i)))) .no .no .no .no .no .no) = _
      simp (disch := omega) only [mOp, mCallB, mCall, mUn, mT, mAnd, mOr, mNot, mTru, mIf, mCons, mNil, mTup, mLst, mIxB, mSeq, seqD, mRange1, mRange2, ownAt, bnd, mVar, DL.ret, lift, R.bind, noexc, hardR, hard, hardL, toB, orBad, Sl.with, List.getElem?_cons_zero, List.getElem?_cons_succ, List.length_cons, List.length_nil, List.set_cons_zero, List.set_cons_succ, wipeE_cons, wipeE_nil, if_true, Bool.false_eq_true, if_false, Bool.and_self, Bool.and_true, Bool.true_and, hard_n, lit0, lit1, lit2, lit10, add_n, max_n, min_n, lt_n, le_n, gt_n, ge_n, eq_n, ne_n, len_n, len_t, sum_n, or_n, sub_n, mul_n, fdiv_n, mod_n, ix_n, range1_n, range2_n, nLs_len]
    · have := callF_m (F := F__law_b_falling) (js := [none, none]) (a := mCons (mVar 2) (mCons (mVar 3) mNil)) (Γ := GD (nL one) (nL other) m n .no (.sh (.lst ((List.range m).map fun i => nI (fi one m i)))) (.ow (nL (List.replicate (m * n + 1) (m * n)))) .no .no .no .no .no) (Γ1 := GD (nL one) (nL other) m n .no (.sh (.lst ((List.range m).map fun i => nI (fi one m i)))) (.ow (nL (List.replicate (m * n + 1) (m * n)))) .no .no .no .no .no) (r := ⟨false, nLL (rowsN n m), [.non, .non]⟩) rfl (lfall_ok m n hm hn)
      unfold mSeq bnd
      simp only [this, R.bind]
      rfl
end K13
namespace K13
open L2 DL
abbrev outs2 : List D := [.non, .non]
theorem isi_m {i : Nat} {x : D} {t : String} {b : Bool} {Γ : Env} (h : mVar i Γ = .ok (x, Γ)) (k : dIsi [x, .ty t] = .ok (.bl b)) : mTru (mCallB dIsi (mCons (mVar i) (mCons (ret (.ty t)) mNil))) Γ = .ok (b, Γ) := tTru (callB_m (cons_m h (cons_m rfl rfl)) k rfl)
theorem is_m {i : Nat} {x : D} {Γ : Env} (h : mVar i Γ = .ok (x, Γ)) : mT (mOp dIs (mVar i) (ret .non)) Γ = .ok (isNon x, Γ) := tT (op_m h rfl (by cases x <;> rfl))
theorem same_int (Fr : Fm) (i : Int) : runBody N__law_same.length [false, false] (m__law_same Fr) [.int i, .int i] = .ok ⟨false, .bl true, outs2⟩ := by
  refine run_rt (Γ := [.sh (.int i), .sh (.int i), .no, .no]) ?_ rfl
  show m__law_same Fr [.sh (.int i), .sh (.int i), .no, .no] = _
  refine seq_nx (if_f (is_m (x := .int i) rfl) rfl) (seq_nx (if_f (isi_m (x := .int i) rfl (isi_intb i)) rfl) (seq_rt (if_t (isi_m (x := .int i) rfl (isi_int i)) (ret_rt ?_))))
  have e := eq_i i i
  rw [decide_eq_true rfl] at e
  simp only [mAndV, mNotV, mCallB, mCons, mNil, bnd, DL.ret, mVar, lift, R.bind, hardR, hard, toB, List.getElem?_cons_succ, List.getElem?_cons_zero, isi_int, isi_intb, if_true, Bool.not_false, mOp, e, noexc]
theorem strOk_eq (x : PySem.Str) (h : PySem.SeqAt.shaped (.str x) = true) : dEq (.str x) (.str x) = .ok (.bl true) := by
  unfold dEq dCmp
  simp only [toPd, h, Bool.and_self, if_true, PySem.PyData.eqv, id]
  simp
theorem same_str (Fr : Fm) (x : PySem.Str) (h : PySem.SeqAt.shaped (.str x) = true) : runBody N__law_same.length [false, false] (m__law_same Fr) [.str x, .str x] = .ok ⟨false, .bl true, outs2⟩ := by
  have s1 : dIsi [.str x, .ty "bool"] = .ok (.bl false) := by rfl
  have s2 : dIsi [.str x, .ty "str"] = .ok (.bl true) := by rfl
  refine run_rt (Γ := [.sh (.str x), .sh (.str x), .no, .no]) ?_ rfl
  show m__law_same Fr [.sh (.str x), .sh (.str x), .no, .no] = _
  refine seq_nx (if_f (is_m (x := .str x) rfl) rfl) (seq_nx (if_f (isi_m (x := .str x) rfl s1) rfl) (seq_nx (if_f (isi_m (x := .str x) rfl (isi_str x)) rfl) (seq_rt (if_t (isi_m (x := .str x) rfl s2) (ret_rt ?_)))))
  have e := strOk_eq x h
  simp only [mAndV, mCallB, mCons, mNil, bnd, DL.ret, mVar, lift, R.bind, hardR, hard, toB, List.getElem?_cons_succ, List.getElem?_cons_zero, s2, if_true, mOp, e, noexc]
theorem zip_same (Fr : Fm) (one due : D) : ∀ (xs : List D), (∀ x ∈ xs, Fr [x, x] = .ok ⟨false, .bl true, outs2⟩) → lcL [2, 3] (gUn 2 (gsCons (gSet 2) (gsCons (gSet 3) gsNil))) (ret true) (mCallF Fr [none, none] [] (mCons (mVar 2) (mCons (mVar 3) mNil))) (zipD xs xs) [.sh one, .sh due, .no, .no] = .ok (xs.map fun _ => .bl true, [.sh one, .sh due, .no, .no])
  | [], _ => rfl
  | x :: xs, h => by
    have ih := zip_same Fr one due xs fun y hy => h y (List.mem_cons_of_mem _ hy)
    have g : gUn 2 (gsCons (gSet 2) (gsCons (gSet 3) gsNil)) (.tup [x, x]) [.sh one, .sh due, .no, .no] = .ok [.sh one, .sh due, .sh x, .sh x] := rfl
    have c := callF_m (F := Fr) (js := [none, none]) (a := mCons (mVar 2) (mCons (mVar 3) mNil)) (Γ := [.sh one, .sh due, .sh x, .sh x]) (Γ1 := [.sh one, .sh due, .sh x, .sh x]) (r := ⟨false, .bl true, outs2⟩) rfl (h x List.mem_cons_self)
    have hr : ∀ Γ : Env, (DL.ret true : M Bool) Γ = .ok (true, Γ) := fun _ => rfl
    have w : wipeE (setOuts [none, none] outs2 [.sh one, .sh due, .sh x, .sh x]) [2, 3] = [.sh one, .sh due, .no, .no] := rfl
    rw [zipD]
    unfold lcL
    simp only [g, hr, if_true, c, w, ih, R.bind, List.map_cons]
theorem all_t {α : Type} (xs : List α) : dAll [.lst (xs.map fun _ => D.bl true)] = .ok (.bl true) := by
  have : ∀ xs : List α, ∃ bs, blsD (xs.map fun _ => D.bl true) = some bs ∧ bs.all id = true := fun xs => by
    induction xs with
    | nil => exact ⟨[], rfl, rfl⟩
    | cons x xs ih =>
      obtain ⟨bs, h1, h2⟩ := ih
      refine ⟨true :: bs, ?_, ?_⟩
      · rw [List.map_cons, blsD, h1]
        rfl
      · rw [List.all_cons, h2]
        rfl
  obtain ⟨bs, h1, h2⟩ := this xs
  unfold dAll
  simp only [h1, h2]
theorem same_seq (Fr : Fm) (v : D) (xs : List D) (hv : v = .lst xs ∨ v = .tup xs) (hl : xs.length ≤ 1000) (h : ∀ x ∈ xs, Fr [x, x] = .ok ⟨false, .bl true, outs2⟩) : runBody N__law_same.length [false, false] (m__law_same Fr) [v, v] = .ok ⟨false, .bl true, outs2⟩ := by
  refine run_rt (Γ := [.sh v, .sh v, .no, .no]) ?_ rfl
  show m__law_same Fr [.sh v, .sh v, .no, .no] = _
  have h0 : isNon v = false := by rcases hv with rfl | rfl <;> rfl
  have h1 : dIsi [v, .ty "bool"] = .ok (.bl false) := by rcases hv with rfl | rfl <;> rfl
  have h2 : dIsi [v, .ty "int"] = .ok (.bl false) := by rcases hv with rfl | rfl <;> rfl
  have h3 : dIsi [v, .ty "str"] = .ok (.bl false) := by rcases hv with rfl | rfl <;> rfl
  have h4 : dIsi [v, .ty "dict"] = .ok (.bl false) := by rcases hv with rfl | rfl <;> rfl
  obtain ⟨p, h5⟩ : ∃ p, dIsi [v, .ty "list"] = .ok (.bl p) := by rcases hv with rfl | rfl <;> exact ⟨_, rfl⟩
  obtain ⟨q, h6⟩ : ∃ q, dIsi [v, .ty "tuple"] = .ok (.bl q) := by rcases hv with rfl | rfl <;> exact ⟨_, rfl⟩
  have hlen : dLen [v] = .ok (nI xs.length) := by rcases hv with rfl | rfl <;> rfl
  have hzip : dZipA [v, v] = .ok (zipD xs xs) := by rcases hv with rfl | rfl <;> rfl
  have t0 := is_m (i := 1) (x := v) (Γ := [.sh v, .sh v, .no, .no]) rfl
  rw [h0] at t0
  have c1 := tAnd (isi_m (i := 1) (x := v) (Γ := [.sh v, .sh v, .no, .no]) rfl h5) fun _ => tNot (isi_m (i := 0) (x := v) (Γ := [.sh v, .sh v, .no, .no]) rfl h5)
  have c2 := tAnd (isi_m (i := 1) (x := v) (Γ := [.sh v, .sh v, .no, .no]) rfl h6) fun _ => tNot (isi_m (i := 0) (x := v) (Γ := [.sh v, .sh v, .no, .no]) rfl h6)
  have c := tOr c1 fun _ => c2
  have cf : (p && !p || q && !q) = false := by cases p <;> cases q <;> rfl
  rw [cf] at c
  refine seq_nx (if_f t0 rfl) (seq_nx (if_f (isi_m (x := v) rfl h1) rfl) (seq_nx (if_f (isi_m (x := v) rfl h2) rfl) (seq_nx (if_f (isi_m (x := v) rfl h3) rfl) (seq_nx (if_f (isi_m (x := v) rfl h4) rfl) (seq_nx (if_f c rfl) (ret_rt ?_))))))
  have e1 := op_m (f := dEq) (a := mCallB dLen (mCons (mVar 0) mNil)) (b := mCallB dLen (mCons (mVar 1) mNil)) (Γ := [.sh v, .sh v, .no, .no]) (Γ1 := [.sh v, .sh v, .no, .no]) (Γ2 := [.sh v, .sh v, .no, .no]) (callB_m (cons_m rfl rfl) hlen rfl) (callB_m (cons_m rfl rfl) hlen rfl) (eq_n xs.length xs.length)
  rw [decide_eq_true rfl] at e1
  have it : mZipA (mCons (mVar 0) (mCons (mVar 1) mNil)) [.sh v, .sh v, .no, .no] = .ok (zipD xs xs, [.sh v, .sh v, .no, .no]) := by
    simp only [mZipA, mCons, mNil, bnd, R.bind, DL.ret, mVar, List.getElem?_cons_succ, List.getElem?_cons_zero, lift, hzip, noexc]
  have e2 := callB_m (f := dAll) (cons_m (r := mNil) (lc_m (vs := [2, 3]) (g := gUn 2 (gsCons (gSet 2) (gsCons (gSet 3) gsNil))) (t := ret true) it (zip_same Fr v v xs h) (le_big (by rw [List.length_map]; omega))) rfl) (all_t xs) rfl
  unfold mAndV bnd
  simp only [e1, R.bind, lift, toB, if_true]
  exact e2
theorem same_nL (L : List Nat) (hl : L.length ≤ 1000) : F__law_same 2 [nL L, nL L] = .ok ⟨false, .bl true, outs2⟩ :=
  same_seq (F__law_same 1) (nL L) (nLs L) (.inl rfl) (by rw [nLs_len]; exact hl) fun x hx => by
    unfold nLs at hx
    rw [List.mem_map] at hx
    obtain ⟨k, _, rfl⟩ := hx
    exact same_int (F__law_same 0) k
theorem same_bad (k f : Nat) : F__law_same 2 [.tup [.str "BadStair", nI k, nI f], .tup [.str "BadStair", nI k, nI f]] = .ok ⟨false, .bl true, outs2⟩ :=
  same_seq (F__law_same 1) _ [.str "BadStair", nI k, nI f] (.inr rfl) (by show 3 ≤ 1000; omega) fun x hx => by
    simp only [List.mem_cons, List.not_mem_nil, or_false] at hx
    rcases hx with rfl | rfl | rfl
    · exact same_str (F__law_same 0) _ (by decide +kernel)
    · exact same_int (F__law_same 0) k
    · exact same_int (F__law_same 0) f
theorem same_many : F__law_same 2 [.tup [.str "TooMany", .str "search"], .tup [.str "TooMany", .str "search"]] = .ok ⟨false, .bl true, outs2⟩ :=
  same_seq (F__law_same 1) _ [.str "TooMany", .str "search"] (.inr rfl) (by show 2 ≤ 1000; omega) fun x hx => by
    simp only [List.mem_cons, List.not_mem_nil, or_false] at hx
    rcases hx with rfl | rfl
    · exact same_str (F__law_same 0) _ (by decide +kernel)
    · exact same_str (F__law_same 0) _ (by decide +kernel)
theorem right_ok (m n : Nat) (one other : List Nat) (h1 : Sr m one) (h2 : Sr n other) (hm0 : 0 < m) (hn0 : 0 < n) (hm : m ≤ 8) (hn : n ≤ 8) (hs : m * n < 10 → m ≤ 6 ∧ n ≤ 6) : F__law_b_two_right [nL one, nL other] = .ok ⟨false, .bl true, outs2⟩ := by
  have hmn : m * n ≤ 64 := mul9 hm hn
  have e : (env0 N__law_b_two_right.length [false, false] [nL one, nL other] : Env) = [.sh (nL one), .sh (nL other), .no, .no, .no, .no] := rfl
  have s1 : sPar [(2, false), (3, false), (4, false)] (mCons (mCallF F__law_b_two_due [none, none] [] (mCons (mVar 0) (mCons (mVar 1) mNil))) (mCons (mCall dList (mCons (mVar 0) mNil)) (mCons (mCall dList (mCons (mVar 1) mNil)) mNil))) [.sh (nL one), .sh (nL other), .no, .no, .no, .no] = .nx [.sh (nL one), .sh (nL other), .sh (nL (tp m n one other)), .sh (nL one), .sh (nL other), .no] := by
    have a := cons_m (a := mCallF F__law_b_two_due [none, none] [] (mCons (mVar 0) (mCons (mVar 1) mNil))) (r := mCons (mCall dList (mCons (mVar 0) mNil)) (mCons (mCall dList (mCons (mVar 1) mNil)) mNil)) (Γ := [.sh (nL one), .sh (nL other), .no, .no, .no, .no]) (callF_m (r := ⟨true, nL (tp m n one other), outs2⟩) rfl (due_ok m n one other h1 h2 hm0 hn0 hm hn hs)) (cons_m (call_m (z := nL one) (cons_m rfl rfl) rfl) (cons_m (call_m (z := nL other) (cons_m rfl rfl) rfl) rfl))
    unfold sPar ofM
    simp only [a]
    rfl
  have s2 := asg_nx (m := mCallN F_two_places [none, none] (mCons (mVar 3) (mCons (mVar 4) mNil))) (g := gOwn 5) (Γ := [.sh (nL one), .sh (nL other), .sh (nL (tp m n one other)), .sh (nL one), .sh (nL other), .no]) (Γ2 := [.sh (nL one), .sh (nL other), .sh (nL (tp m n one other)), .sh (nL one), .sh (nL other), .ow (nL (tp m n one other))]) (callN_m rfl (two_places_ok (nL one) (nL other) m n one other (.inl rfl) (.inl rfl) h1 h2 hm0 hn0 hm hn)) rfl
  have q1 : mTru (mCallF (F__law_same 2) [none, none] [5] (mOwnA 5 (mCons (mVar 2) mNil))) [.sh (nL one), .sh (nL other), .sh (nL (tp m n one other)), .sh (nL one), .sh (nL other), .ow (nL (tp m n one other))] = .ok (true, [.sh (nL one), .sh (nL other), .sh (nL (tp m n one other)), .sh (nL one), .sh (nL other), .ow (nL (tp m n one other))]) := by
    refine tTru ?_
    have a : mOwnA 5 (mCons (mVar 2) mNil) [.sh (nL one), .sh (nL other), .sh (nL (tp m n one other)), .sh (nL one), .sh (nL other), .ow (nL (tp m n one other))] = .ok ([nL (tp m n one other), nL (tp m n one other)], [.sh (nL one), .sh (nL other), .sh (nL (tp m n one other)), .sh (nL one), .sh (nL other), .ow (nL (tp m n one other))]) := rfl
    have b := same_nL (tp m n one other) (by rw [tp_len]; omega)
    unfold mCallF
    simp only [a, R.bind, b]
    exact if_pos (.inr ⟨trivial, rfl, rfl⟩)
  have n1 := ne_nL one one
  have n2 := ne_nL other other
  rw [decide_eq_true rfl] at n1 n2
  have q2 := tOr (tNot q1) fun _ => tOr (tT (op_m (f := dNe) (a := mVar 3) (b := mVar 0) (Γ := [.sh (nL one), .sh (nL other), .sh (nL (tp m n one other)), .sh (nL one), .sh (nL other), .ow (nL (tp m n one other))]) (Γ1 := [.sh (nL one), .sh (nL other), .sh (nL (tp m n one other)), .sh (nL one), .sh (nL other), .ow (nL (tp m n one other))]) rfl rfl n1)) fun _ => tT (op_m (f := dNe) (a := mVar 4) (b := mVar 1) (Γ1 := [.sh (nL one), .sh (nL other), .sh (nL (tp m n one other)), .sh (nL one), .sh (nL other), .ow (nL (tp m n one other))]) rfl rfl n2)
  obtain ⟨told, st⟩ : ∃ told, dSetIx (nL (tp m n one other)) (nI 0) (.int (-1)) = .ok told := by
    unfold nL
    rw [set_n (by rw [nLs_len, tp_len]; omega)]
    exact ⟨_, rfl⟩
  have s4 : sAsg (mOp dSub (ret (.int 0)) (ret (.int 1))) (gSetIx 5 (ret (.int 0))) [.sh (nL one), .sh (nL other), .sh (nL (tp m n one other)), .sh (nL one), .sh (nL other), .ow (nL (tp m n one other))] = .nx [.sh (nL one), .sh (nL other), .sh (nL (tp m n one other)), .sh (nL one), .sh (nL other), .ow told] := by
    refine asg_nx (d := .int (-1)) (Γ1 := [.sh (nL one), .sh (nL other), .sh (nL (tp m n one other)), .sh (nL one), .sh (nL other), .ow (nL (tp m n one other))]) rfl ?_
    unfold gSetIx
    simp only [ownAt, DL.ret, List.getElem?_cons_succ, List.getElem?_cons_zero, R.bind, lit0, st]
    rfl
  have tw := two_places_ok (.tup (nLs other)) (.tup (nLs one)) n m other one (.inr rfl) (.inr rfl) h2 h1 hn0 hm0 hn hm
  rw [tp_swap h1 h2] at tw
  refine run_rt (Γ := [.sh (nL one), .sh (nL other), .sh (nL (tp m n one other)), .sh (nL one), .sh (nL other), .ow told]) ?_ rfl
  rw [e]
  have c5 := callF_m (F := F_two_places) (js := [none, none]) (a := mCons (mCall dTuple (mCons (mVar 1) mNil)) (mCons (mCall dTuple (mCons (mVar 0) mNil)) mNil)) (Γ := [.sh (nL one), .sh (nL other), .sh (nL (tp m n one other)), .sh (nL one), .sh (nL other), .ow told]) (r := ⟨true, nL (tp m n one other), outs2⟩) (cons_m (call_m (z := .tup (nLs other)) (cons_m rfl rfl) rfl) (cons_m (call_m (z := .tup (nLs one)) (cons_m rfl rfl) rfl) rfl)) tw
  exact seq_nx s1 (seq_nx s2 (seq_nx (if_f q2 rfl) (seq_nx s4 (ret_rt (callF_m (r := ⟨false, .bl true, outs2⟩) (cons_m c5 (cons_m rfl rfl)) (same_nL (tp m n one other) (by rw [tp_len]; omega)))))))
end K13
namespace K13
open L2 DL
/-! what is refused -/
theorem many_i (v : Int) : F_check_many [.int v, .int 8, .str "search"] = if v ≤ 8 then .ok ⟨false, .non, [.non, .non, .non]⟩ else .exc 0 [("what", .str "search")] := by
  have e : (env0 N_check_many.length [false, false, false] [.int v, .int 8, .str "search"] : Env) = [.sh (.int v), .sh (.int 8), .sh (.str "search")] := rfl
  have t : mT (mOp dGt (mVar 0) (mVar 1)) [.sh (.int v), .sh (.int 8), .sh (.str "search")] = .ok (decide (8 < v), [.sh (.int v), .sh (.int 8), .sh (.str "search")]) := tT (op_m rfl rfl rfl)
  by_cases h : v ≤ 8
  · rw [if_pos h]
    rw [decide_eq_false (by omega)] at t
    refine run_nx (Γ := [.sh (.int v), .sh (.int 8), .sh (.str "search")]) ?_ rfl
    rw [e]
    exact if_f t rfl
  · rw [if_neg h]
    rw [decide_eq_true (by omega)] at t
    refine run_exc ?_
    rw [e]
    exact if_t t rfl
theorem callF_exc {F : Fm} {js : List (Option Nat)} {a : M (List D)} {Γ Γ1 : Env} {ds : List D} {c : Nat} {fs : List (PySem.Str × D)} (h : a Γ = .ok (ds, Γ1)) (k : F ds = .exc c fs) : mCallF F js [] a Γ = .exc c fs := by
  unfold mCallF
  simp only [h, R.bind, k, if_true]
abbrev E2 (x y : D) : Env := [.sh x, .sh y, .no, .no, .no, .no, .no, .no, .no, .no, .no]
theorem look_many {x y : D} {o1 o2 : Option Nat} {n1 n2 : Nat} (A1 : Arg x o1 n1) (A2 : Arg y o2 n2) : (mCallF F_check_many [none, none, none] [] (mCons (mOp dSub (mCallB dMax (mCons (mCallF F_row_length [none] [] (mCons (mVar 0) mNil)) (mCons (mCallF F_row_length [none] [] (mCons (mVar 1) mNil)) mNil))) (ret (.int 1))) (mCons (ret (.int 8)) (mCons (ret (.str "search")) mNil)))) (E2 x y) = if max n1 n2 ≤ 9 then .ok (.non, E2 x y) else .exc 0 [("what", .str "search")] := by
  have r1 := callF_m (F := F_row_length) (js := [none]) (a := mCons (mVar 0) mNil) (r := ⟨false, nI n1, [.non]⟩) (ds := [x]) (Γ := E2 x y) (Γ1 := E2 x y) rfl A1.len
  have r2 := callF_m (F := F_row_length) (js := [none]) (a := mCons (mVar 1) mNil) (r := ⟨false, nI n2, [.non]⟩) (ds := [y]) (Γ := E2 x y) (Γ1 := E2 x y) rfl A2.len
  have sb : dSub (nI (max n1 n2)) (.int 1) = .ok (.int ((max n1 n2 : Nat) - (1 : Int))) := rfl
  have a : (mCons (mOp dSub (mCallB dMax (mCons (mCallF F_row_length [none] [] (mCons (mVar 0) mNil)) (mCons (mCallF F_row_length [none] [] (mCons (mVar 1) mNil)) mNil))) (ret (.int 1))) (mCons (ret (.int 8)) (mCons (ret (.str "search")) mNil))) (E2 x y) = .ok ([.int ((max n1 n2 : Nat) - (1 : Int)), .int 8, .str "search"], E2 x y) :=
    cons_m (op_m (callB_m (cons_m r1 (cons_m r2 rfl)) (max_n _ _) rfl) rfl sb) rfl
  have v := many_i ((max n1 n2 : Nat) - (1 : Int))
  by_cases h : max n1 n2 ≤ 9
  · rw [if_pos h]
    rw [if_pos (by omega)] at v
    exact callF_m (r := ⟨false, .non, [.non, .non, .non]⟩) a v
  · rw [if_neg h]
    rw [if_neg (by omega)] at v
    exact callF_exc a v
theorem two_many {x y : D} {o1 o2 : Option Nat} {n1 n2 : Nat} (A1 : Arg x o1 n1) (A2 : Arg y o2 n2) (h : 9 < max n1 n2) : F_two_places [x, y] = .exc 0 [("what", .str "search")] := by
  have a := look_many A1 A2
  rw [if_neg (by omega)] at a
  refine run_exc ?_
  exact seq_exc (expr_exc a)
theorem look_stair {x y z : D} {o : Option Nat} {n : Nat} {i : Nat} {k : D} (A : Arg z o n) (hz : mVar i (E2 x y) = .ok (z, E2 x y)) : sExpr (mCallF F_check_stair [none, none] [] (mCons (ret k) (mCons (mVar i) mNil))) (E2 x y) = (match o with | none => .nx (E2 x y) | some f => .exc 1 [("place", nI f), ("kind", k)]) := by
  have a := cons_m (a := ret k) (Γ := E2 x y) (Γ1 := E2 x y) (x := k) (r := mCons (mVar i) mNil) rfl (cons_m hz rfl)
  have c := A.check k
  cases o with
  | none =>
    exact expr_nx (callF_m (r := ⟨false, .non, [.non, .non]⟩) a c)
  | some f =>
    refine expr_exc ?_
    exact callF_exc a c
def badOf (o1 o2 : Option Nat) : Option (Nat × Nat) := match o1, o2 with
  | some f, _ => some (1, f)
  | none, some f => some (2, f)
  | none, none => none
theorem two_bad {x y : D} {o1 o2 : Option Nat} {n1 n2 k f : Nat} (A1 : Arg x o1 n1) (A2 : Arg y o2 n2) (h : max n1 n2 ≤ 9) (hb : badOf o1 o2 = some (k, f)) : F_two_places [x, y] = .exc 1 [("place", nI f), ("kind", nI k)] := by
  have a := look_many A1 A2
  rw [if_pos h] at a
  refine run_exc ?_
  have c1 := look_stair (x := x) (y := y) (i := 0) (k := .int 1) A1 rfl
  have c2 := look_stair (x := x) (y := y) (i := 1) (k := .int 2) A2 rfl
  cases o1 with
  | some g =>
    cases hb
    exact seq_nx (expr_nx a) (seq_exc c1)
  | none =>
    cases o2 with
    | none => cases hb
    | some g =>
      cases hb
      exact seq_nx (expr_nx a) (seq_nx c1 (seq_exc c2))
theorem fault_many : F__law_fault [.err 0 [("what", .str "search")]] = .ok ⟨false, .tup [.str "TooMany", .str "search"], [.non]⟩ := by
  refine run_rt (Γ := [.sh (.err 0 [("what", .str "search")])]) ?_ rfl
  show m__law_fault [.sh (.err 0 [("what", .str "search")])] = _
  refine seq_rt (if_t (tTru (call_m (z := .bl true) (cons_m rfl (cons_m rfl rfl)) (by rfl))) (ret_rt (tup_m (cons_m rfl (cons_m ?_ rfl)) (tup2 _ _))))
  rfl
theorem fault_bad (k f : D) : F__law_fault [.err 1 [("place", f), ("kind", k)]] = .ok ⟨false, .tup [.str "BadStair", k, f], [.non]⟩ := by
  refine run_rt (Γ := [.sh (.err 1 [("place", f), ("kind", k)])]) ?_ rfl
  show m__law_fault [.sh (.err 1 [("place", f), ("kind", k)])] = _
  have t3 : dTup [.str "BadStair", k, f] = .ok (.tup [.str "BadStair", k, f]) := tup_le (by show 3 ≤ 16777216; omega)
  have k1 : mUn (dErrF [1] "kind") (mVar 0) [.sh (.err 1 [("place", f), ("kind", k)])] = .ok (k, [.sh (.err 1 [("place", f), ("kind", k)])]) := rfl
  have k2 : mUn (dErrF [1] "place") (mVar 0) [.sh (.err 1 [("place", f), ("kind", k)])] = .ok (f, [.sh (.err 1 [("place", f), ("kind", k)])]) := rfl
  exact seq_nx (if_f (tTru (call_m (z := .bl false) (cons_m rfl (cons_m rfl rfl)) rfl)) rfl) (seq_rt (if_t (tTru (call_m (z := .bl true) (cons_m rfl (cons_m rfl rfl)) rfl)) (ret_rt (tup_m (cons_m rfl (cons_m k1 (cons_m k2 rfl))) t3))))
theorem told_exc {x y d : D} {c : Nat} {fs : List (PySem.Str × D)} (h : F_two_places [x, y] = .exc c fs) (hc : c = 0 ∨ c = 1) (g : F__law_fault [.err c fs] = .ok ⟨false, d, [.non]⟩) : F__law_b_two_told [x, y] = .ok ⟨false, d, outs2⟩ := by
  refine run_rt (Γ := [.sh x, .sh y, .sh .non, .sh (.err c fs)]) ?_ rfl
  show m__law_b_two_told [.sh x, .sh y, .no, .no] = _
  have l : tryTbl_BesideError.lookup c = some true := by rcases hc with rfl | rfl <;> rfl
  have b : callT F_two_places [false, false].length (mCons (mVar 0) (mCons (mVar 1) mNil)) (fun d Γ => if 2 < Γ.length then .nx (Γ.set 2 (.sh d)) else .bad) [.sh x, .sh y, .sh .non, .no] = .exc c fs [.sh x, .sh y, .sh .non, .no] := by
    have a : mCons (mVar 0) (mCons (mVar 1) mNil) [.sh x, .sh y, .sh .non, .no] = .ok ([x, y], [.sh x, .sh y, .sh .non, .no]) := rfl
    unfold callT
    simp only [a, h]
    rfl
  have u : sRet (mCallF F__law_fault [none] [] (mCons (mVar 3) mNil)) [.sh x, .sh y, .sh .non, .sh (.err c fs)] = .rt d [.sh x, .sh y, .sh .non, .sh (.err c fs)] :=
    ret_rt (callF_m (r := ⟨false, d, [.non]⟩) (ds := [.err c fs]) (Γ1 := [.sh x, .sh y, .sh .non, .sh (.err c fs)]) rfl g)
  have st : ([.sh x, .sh y, .sh .non, .no] : Env).set 3 (.sh (.err c fs)) = [.sh x, .sh y, .sh .non, .sh (.err c fs)] := rfl
  have ln : 3 < ([.sh x, .sh y, .sh .non, .no] : Env).length := by show 3 < 4; omega
  refine seq_nx (asg_nx (d := .non) (Γ1 := [.sh x, .sh y, .no, .no]) rfl rfl) (seq_rt ?_)
  unfold sTry
  show (match callT F_two_places [false, false].length (mCons (mVar 0) (mCons (mVar 1) mNil)) (fun d Γ => if 2 < Γ.length then .nx (Γ.set 2 (.sh d)) else .bad) [.sh x, .sh y, .sh .non, .no] with
    | .nx Γ' => Out.nx Γ'
    | .rt d Γ' => .rt d Γ'
    | .exc c fs Γ' => match tryTbl_BesideError.lookup c with
      | some true => if 3 < Γ'.length then (match sRet (mCallF F__law_fault [none] [] (mCons (mVar 3) mNil)) (Γ'.set 3 (.sh (.err c fs))) with
          | .nx Γ2 => .nx (Γ2.set 3 .no)
          | .rt d Γ2 => .rt d Γ2
          | _ => .bad) else .bad
      | _ => .bad
    | .bad => .bad) = _
  simp only [b, l, if_pos ln, st, u]
theorem told_many {x y : D} {o1 o2 : Option Nat} {n1 n2 : Nat} (A1 : Arg x o1 n1) (A2 : Arg y o2 n2) (h : 9 < max n1 n2) : F__law_b_two_told [x, y] = .ok ⟨false, .tup [.str "TooMany", .str "search"], outs2⟩ :=
  told_exc (two_many A1 A2 h) (.inl rfl) fault_many
theorem told_bad {x y : D} {o1 o2 : Option Nat} {n1 n2 k f : Nat} (A1 : Arg x o1 n1) (A2 : Arg y o2 n2) (h : max n1 n2 ≤ 9) (hb : badOf o1 o2 = some (k, f)) : F__law_b_two_told [x, y] = .ok ⟨false, .tup [.str "BadStair", nI k, nI f], outs2⟩ :=
  told_exc (two_bad A1 A2 h hb) (.inr rfl) (fault_bad _ _)
end K13
namespace K13
open L2 DL
/-! the law's own look at a row -/
theorem isi_w {x y : D} {s : Nat} {t : String} {b : Bool} (h : dIx x (nI s) = .ok y) (k : dIsi [y, .ty t] = .ok (.bl b)) : mTru (mCallB dIsi (mCons (mOp dIx (mVar 0) (mVar 1)) (mCons (ret (.ty t)) mNil))) [.sh x, .sh (nI s)] = .ok (b, [.sh x, .sh (nI s)]) := tTru (callB_m (cons_m (op_m rfl rfl h) (cons_m rfl rfl)) k rfl)
theorem lit0' : D.int 0 = nI 0 := rfl
def w2 (n s : Nat) (prev r : Int) : Bool := (decide (s = 0) && !decide (r = 0)) || (decide (r < (s : Int)) || (decide ((n : Int) - 1 < r) || (decide (0 < s) && decide (r < prev))))
theorem w2_eq (n s : Nat) (last r : Int) (h : s = 0 → last = 0) : w2 n s last r = badAt n s last (.int r) := by
  unfold w2 badAt
  rw [Bool.eq_iff_iff]
  simp only [Bool.or_eq_true, Bool.and_eq_true, decide_eq_true_eq, Bool.not_eq_true', decide_eq_false_iff_not]
  constructor
  · rintro (⟨a, b⟩ | a | a | ⟨a, b⟩)
    · exact .inr (.inr (.inr ⟨by omega, b⟩))
    · exact .inl a
    · exact .inr (.inr (.inl (by omega)))
    · exact .inr (.inl b)
  · rintro (a | a | a | ⟨a, b⟩)
    · exact .inr (.inl a)
    · by_cases hs : s = 0
      · have := h hs; exact .inr (.inl (by omega))
      · exact .inr (.inr (.inr ⟨by omega, a⟩))
    · exact .inr (.inr (.inl (by omega)))
    · exact .inl ⟨by omega, b⟩
theorem wrong_turn (ds : List D) (s : Nat) (d : D) (last : Int) (hd : ds[s]? = some d) (ha : At d) (hl : s = 0 → last = 0) (hp : 0 < s → ds[s - 1]? = some (.int last)) : b0__law_b_wrong [.sh (.lst ds), .sh (nI s)] = if badAt ds.length s last d = true then .rt (nI s) [.sh (.lst ds), .sh (nI s)] else .nx [.sh (.lst ds), .sh (nI s)] := by
  have hs : s < ds.length := (List.getElem?_eq_some_iff.mp hd).1
  have hx : dIx (.lst ds) (nI s) = .ok d := by
    have := ix_m (f := id) (L := ds) (k := s) (a := d) hd
    rwa [List.map_id] at this
  cases ha with
  | int r =>
    have c1 := tOr (tNot (isi_w (t := "int") hx (isi_int r))) fun _ => isi_w (t := "bool") hx (isi_intb r)
    have m1 : mOp dIx (mVar 0) (mVar 1) [.sh (.lst ds), .sh (nI s)] = .ok (.int r, [.sh (.lst ds), .sh (nI s)]) := op_m rfl rfl hx
    have q1 := tAnd (a := mT (mOp dEq (mVar 1) (ret (.int 0)))) (b := mT (mOp dNe (mOp dIx (mVar 0) (mVar 1)) (ret (.int 0)))) (Γ := [.sh (.lst ds), .sh (nI s)]) (tT (op_m rfl rfl (eq_n s 0))) fun _ => tT (op_m m1 rfl (ne_i r 0))
    have q2 := tT (m := mOp dLt (mOp dIx (mVar 0) (mVar 1)) (mVar 1)) (Γ := [.sh (.lst ds), .sh (nI s)]) (k := decide (r < (s : Int))) (op_m m1 rfl rfl)
    have q3 := tT (m := mOp dGt (mOp dIx (mVar 0) (mVar 1)) (mOp dSub (mCallB dLen (mCons (mVar 0) mNil)) (ret (.int 1)))) (Γ := [.sh (.lst ds), .sh (nI s)]) (k := decide ((ds.length : Int) - 1 < r)) (op_m m1 (op_m (callB_m (cons_m rfl rfl) (len_n ds) rfl) rfl rfl) rfl)
    have q4 : mAnd (mT (mOp dGt (mVar 1) (ret (.int 0)))) (mT (mOp dLt (mOp dIx (mVar 0) (mVar 1)) (mOp dIx (mVar 0) (mOp dSub (mVar 1) (ret (.int 1)))))) [.sh (.lst ds), .sh (nI s)] = .ok (decide (0 < s) && decide (r < last), [.sh (.lst ds), .sh (nI s)]) := by
      refine tAnd (tT (op_m rfl rfl (gt_n s 0))) fun hk => ?_
      have h0 := of_decide_eq_true hk
      have hx2 : dIx (.lst ds) (nI (s - 1)) = .ok (.int last) := by
        have := ix_m (f := id) (L := ds) (k := s - 1) (a := .int last) (hp h0)
        rwa [List.map_id] at this
      have sb : dSub (nI s) (nI 1) = .ok (nI (s - 1)) := sub_n (by omega)
      exact tT (op_m m1 (op_m rfl (op_m rfl rfl sb) hx2) rfl)
    have c2 := tOr q1 fun _ => tOr q2 fun _ => tOr q3 fun _ => q4
    have e : (decide (s = 0) && !decide (r = 0) || (decide (r < (s : Int)) || (decide ((ds.length : Int) - 1 < r) || decide (0 < s) && decide (r < last)))) = badAt ds.length s last (.int r) := w2_eq ds.length s last r hl
    rw [e] at c2
    cases hb : badAt ds.length s last (.int r) with
    | true =>
      rw [hb] at c2
      exact seq_nx (if_f c1 rfl) (if_t c2 rfl)
    | false =>
      rw [hb] at c2
      exact seq_nx (if_f c1 rfl) (if_f c2 rfl)
  | bl b =>
    have c1 := tOr (tNot (isi_w (t := "int") hx (isi_bl b))) fun _ => isi_w (t := "bool") hx (isi_blb b)
    exact seq_rt (if_t c1 rfl)
  | str b => exact seq_rt (if_t (tOrT (tNot (isi_w (t := "int") hx (isi_str b)))) rfl)
  | non => exact seq_rt (if_t (tOrT (tNot (isi_w (t := "int") hx isi_non))) rfl)
theorem wrong_loop (ds : List D) (h : ∀ d ∈ ds, At d) : ∀ (k s : Nat) (last : Int) (s1 : Sl), s + k = ds.length → (s = 0 → last = 0) → (0 < s → ds[s - 1]? = some (.int last)) → ∃ Γ', outsE [false] Γ' = some [.non] ∧ forL (gSet 1) b0__law_b_wrong ((List.range' s k).map nI) [.sh (.lst ds), s1] = (match flt ds.length s last (ds.drop s) with | none => .nx Γ' | some k => .rt (nI k) Γ')
  | 0, s, last, s1, hs, _, _ => by
    rw [List.drop_of_length_le (by omega)]
    exact ⟨_, rfl, rfl⟩
  | k + 1, s, last, s1, hs, hl, hp => by
    have hd : ds.drop s = ds[s]'(by omega) :: ds.drop (s + 1) := List.drop_eq_getElem_cons (by omega)
    have hg : ds[s]? = some (ds[s]'(by omega)) := List.getElem?_eq_getElem (by omega)
    generalize hdd : ds[s]'(by omega) = d at hd hg
    have ha : At d := h d (List.mem_of_getElem? hg)
    have t := wrong_turn ds s d last hg ha hl hp
    have g : gSet 1 (nI s) [.sh (.lst ds), s1] = .ok [.sh (.lst ds), .sh (nI s)] := rfl
    rw [hd, List.range'_succ, List.map_cons]
    unfold flt
    cases hb : badAt ds.length s last d with
    | true =>
      rw [hb, if_pos rfl] at t
      refine ⟨[.sh (.lst ds), .sh (nI s)], rfl, ?_⟩
      simp only [forL, g, t, if_true]
    | false =>
      rw [hb, if_neg Bool.false_ne_true] at t
      cases ha with
      | int r =>
        obtain ⟨Γ', ho, e⟩ := wrong_loop ds h k (s + 1) r (.sh (nI s)) (by omega) (fun h => by omega) (fun _ => by rw [Nat.add_sub_cancel]; exact hg)
        refine ⟨Γ', ho, ?_⟩
        simp only [forL, g, t, Bool.false_eq_true, if_false]
        exact e
      | bl b => cases hb
      | str b => cases hb
      | non => cases hb
theorem wrong_lst (ds : List D) (h : ∀ d ∈ ds, At d) (hlen : ds.length ≤ 1000) : F__law_b_wrong [.lst ds] = .ok ⟨false, oN (wrg ds), [.non]⟩ := by
  have hi : mNot (mTru (mCallB dIsi (mCons (mVar 0) (mCons (ret (.ty "list")) mNil)))) [.sh (.lst ds), .no] = .ok (false, [.sh (.lst ds), .no]) := tNot (isi_m (x := .lst ds) rfl (isi_lstL ds))
  have c := tOr hi fun _ => tT (m := mOp dLt (mCallB dLen (mCons (mVar 0) mNil)) (ret (.int 2))) (op_m (callB_m (cons_m rfl rfl) (len_n ds) rfl) rfl (lt_n ds.length 2))
  rw [Bool.false_or] at c
  unfold wrg
  by_cases h2 : ds.length < 2
  · rw [if_pos h2]
    rw [decide_eq_true h2] at c
    refine run_rt (Γ := [.sh (.lst ds), .no]) ?_ rfl
    exact seq_rt (if_t c rfl)
  · rw [if_neg h2]
    rw [decide_eq_false h2] at c
    obtain ⟨Γ', ho, e⟩ := wrong_loop ds h ds.length 0 0 .no (by omega) (fun _ => rfl) (fun h => by omega)
    rw [List.drop_zero, ← List.range_eq_range'] at e
    have it : mRange1 (mCons (mCallB dLen (mCons (mVar 0) mNil)) mNil) [.sh (.lst ds), .no] = .ok ((List.range ds.length).map nI, [.sh (.lst ds), .no]) := by
      simp (disch := omega) only [mOp, mCallB, mCall, mUn, mT, mAnd, mOr, mNot, mTru, mIf, mCons, mNil, mTup, mLst, mIxB, mSeq, seqD, mRange1, mRange2, ownAt, bnd, mVar, DL.ret, lift, R.bind, noexc, hardR, hard, hardL, toB, orBad, Sl.with, List.getElem?_cons_zero, List.getElem?_cons_succ, List.length_cons, List.length_nil, List.set_cons_zero, List.set_cons_succ, wipeE_cons, wipeE_nil, if_true, Bool.false_eq_true, if_false, Bool.and_self, Bool.and_true, Bool.true_and, hard_n, lit0, lit1, lit2, lit10, add_n, max_n, min_n, lt_n, le_n, gt_n, ge_n, eq_n, ne_n, len_n, len_t, sum_n, or_n, sub_n, mul_n, fdiv_n, mod_n, ix_n, range1_n, range2_n, nLs_len]
    cases hf : flt ds.length 0 0 ds with
    | none =>
      rw [hf] at e
      refine run_rt (Γ := Γ') ?_ ho
      exact seq_nx (if_f c rfl) (seq_nx (for_eq it e) rfl)
    | some k =>
      rw [hf] at e
      refine run_rt (Γ := Γ') ?_ ho
      exact seq_nx (if_f c rfl) (seq_rt (for_eq it e))
theorem wrong_no (x : D) (hx : x = .non ∨ x = .int 5) : F__law_b_wrong [x] = .ok ⟨false, nI 0, [.non]⟩ := by
  have i1 : dIsi [x, .ty "list"] = .ok (.bl false) := by
    rcases hx with rfl | rfl
    · exact isi_nonL
    · exact isi_intL 5
  have hi : mNot (mTru (mCallB dIsi (mCons (mVar 0) (mCons (ret (.ty "list")) mNil)))) [.sh x, .no] = .ok (true, [.sh x, .no]) := tNot (isi_m (x := x) rfl i1)
  refine run_rt (Γ := [.sh x, .no]) ?_ rfl
  exact seq_rt (if_t (tOrT hi) rfl)
/-- what the law hands in: a list of plain values, None or 5 -/
inductive Row : D → Option Nat → Nat → Prop
  | lst (ds : List D) (h : ∀ d ∈ ds, At d) (hl : ds.length ≤ 1000) : Row (.lst ds) (wrg ds) ds.length
  | no (x : D) (hx : x = .non ∨ x = .int 5) : Row x (some 0) 0
theorem Row.arg {x : D} {o : Option Nat} {n : Nat} (h : Row x o n) : Arg x o n := by
  cases h with
  | lst ds h _ => exact .sq _ ds (.inl rfl) h
  | no x hx => exact .no x hx
theorem Row.wrong {x : D} {o : Option Nat} {n : Nat} (h : Row x o n) : F__law_b_wrong [x] = .ok ⟨false, oN o, [.non]⟩ := by
  cases h with
  | lst ds h hl => exact wrong_lst ds h hl
  | no x hx => exact wrong_no x hx
/-! drawing -/
theorem pick_n (a b c : Int) {k : Nat} (h0 : 0 < k) (h : k ≤ 1000000000) : ∃ r, r < k ∧ ∃ a' b' c', F__law_pick [sD a b c, nI k] = .ok ⟨false, nI r, [sD a' b' c', .non]⟩ := by
  obtain ⟨r, a', b', c', e, h1, h2⟩ := pick_ok a b c (k : Int) (by omega)
  have hm : mx (k : Int) = (k : Int) := by unfold mx; split <;> omega
  rw [hm] at h2
  refine ⟨r.toNat, by omega, a', b', c', ?_⟩
  have : nI r.toNat = .int r := by
    unfold nI
    rw [Int.toNat_of_nonneg h1]
  rw [this]
  exact e
theorem own_m {i : Nat} {r : M (List D)} {Γ Γ1 : Env} {d d0 : D} {xs : List D} (h0 : ownAt Γ i = .ok d0) (h : r Γ = .ok (xs, Γ1)) (h1 : ownAt Γ1 i = .ok d) : mOwnA i r Γ = .ok (d :: xs, Γ1) := by
  unfold mOwnA
  simp only [h0, R.bind, h, h1]
theorem pick_m {j : Nat} {e : M D} {Γ : Env} {a b c : Int} {k : Nat} (ho : ownAt Γ j = .ok (sD a b c)) (he : e Γ = .ok (nI k, Γ)) (h0 : 0 < k) (h : k ≤ 1000000000) : ∃ r, r < k ∧ ∃ a' b' c', mCallF F__law_pick [some j, none] [] (mOwnA j (mCons e mNil)) Γ = .ok (nI r, setOwn j (sD a' b' c') Γ) := by
  obtain ⟨r, hr, a', b', c', e1⟩ := pick_n a b c h0 h
  exact ⟨r, hr, a', b', c', callF_m (r := ⟨false, nI r, [sD a' b' c', .non]⟩) (own_m ho (cons_m he rfl) ho) e1⟩
theorem one_m {j : Nat} {e : M D} {Γ : Env} {a b c : Int} {xs : List D} (ho : ownAt Γ j = .ok (sD a b c)) (he : e Γ = .ok (.lst xs, Γ)) (h0 : 0 < xs.length) (h : xs.length ≤ 1000) : ∃ r, r ∈ xs ∧ ∃ a' b' c', mCallF F__law_one [some j, none] [] (mOwnA j (mCons e mNil)) Γ = .ok (r, setOwn j (sD a' b' c') Γ) := by
  obtain ⟨r, a', b', c', e1, hr⟩ := one_ok a b c xs h0 (by omega)
  exact ⟨r, hr, a', b', c', callF_m (r := ⟨false, r, [sD a' b' c', .non]⟩) (own_m ho (cons_m he rfl) ho) e1⟩
end K13
namespace K13
open L2 DL
theorem pow9 : dPow (.int 10) (.int 9) = .ok (nI 1000000000) := by rfl
theorem if_no {w k : Nat} {b : SM} {Γ : Env} (h : mVar 3 Γ = .ok (nI w, Γ)) (hk : w ≠ k) : sIf (mT (mOp dEq (mVar 3) (ret (nI k)))) b sNil Γ = .nx Γ := by
  have t := tT (op_m (f := dEq) (b := ret (nI k)) h rfl (eq_n w k))
  rw [decide_eq_false hk] at t
  exact if_f t rfl
theorem if_yes {k : Nat} {b : SM} {Γ : Env} {o : Out} (h : mVar 3 Γ = .ok (nI k, Γ)) (hb : b Γ = o) : sIf (mT (mOp dEq (mVar 3) (ret (nI k)))) b sNil Γ = o := by
  have t := tT (op_m (f := dEq) (b := ret (nI k)) h rfl (eq_n k k))
  rw [decide_eq_true rfl] at t
  exact if_t t hb
abbrev GS (a b c : Int) (ds : List D) (at_ w : Nat) : Env := [.bo (sD a b c), .ow (.lst ds), .sh (nI at_), .sh (nI w)]
theorem at_set {ds : List D} {k : Nat} {d : D} (h : ∀ x ∈ ds, At x) (hd : At d) : ∀ x ∈ ds.set k d, At x := fun x hx => by
  rcases List.mem_or_eq_of_mem_set hx with hx | hx
  · exact h x hx
  · rw [hx]; exact hd
theorem setix_m (a b c : Int) (ds : List D) (k w : Nat) (d : D) (h : k < ds.length) : gSetIx 1 (mVar 2) d (GS a b c ds k w) = .ok (GS a b c (ds.set k d) k w) := by
  unfold gSetIx
  simp only [ownAt, mVar, List.getElem?_cons_succ, List.getElem?_cons_zero, R.bind, set_n h]
  rfl
theorem row_set {ds : List D} {k : Nat} {d : D} (h : ∀ x ∈ ds, At x) (hd : At d) (hl : ds.length ≤ 1000) : Row (.lst (ds.set k d)) (wrg (ds.set k d)) ds.length := by
  have := Row.lst (ds.set k d) (at_set h hd) (by rw [List.length_set]; exact hl)
  rwa [List.length_set] at this
theorem spoilt_ok (a b c : Int) (L : List Nat) (h0 : 0 < L.length) (hl : L.length ≤ 100) : ∃ fr d o n a' b' c', F__law_b_spoilt [sD a b c, nL L] = .ok ⟨fr, d, [sD a' b' c', .non]⟩ ∧ Row d o n ∧ n ≤ L.length := by
  have hL : (nLs L).length = L.length := nLs_len L
  have hat := at_nLs L
  obtain ⟨k, hk, a1, b1, c1, e1⟩ := pick_m (j := 0) (e := mCallB dLen (mCons (mVar 1) mNil)) (Γ := [.bo (sD a b c), .sh (nL L), .no, .no]) (a := a) (b := b) (c := c) (k := L.length) rfl (callB_m (cons_m rfl rfl) (lenS (.inl rfl)) rfl) h0 (by omega)
  obtain ⟨w, hw, a2, b2, c2, e2⟩ := pick_m (j := 0) (e := ret (.int 7)) (Γ := [.bo (sD a1 b1 c1), .sh (nL L), .no, .no]) (a := a1) (b := b1) (c := c1) (k := 7) rfl rfl (by omega) (by omega)
  have e1' : mCallF F__law_pick [some 0, none] [] (mOwnA 0 (mCons (mCallB dLen (mCons (mVar 1) mNil)) mNil)) [.bo (sD a b c), .sh (nL L), .no, .no] = .ok (nI k, [.bo (sD a1 b1 c1), .sh (nL L), .no, .no]) := e1
  have s1 : sPar [(1, true), (2, false), (3, false)] (mCons (mCall dList (mCons (mVar 1) mNil)) (mCons (mCallF F__law_pick [some 0, none] [] (mOwnA 0 (mCons (mCallB dLen (mCons (mVar 1) mNil)) mNil))) (mCons (mCallF F__law_pick [some 0, none] [] (mOwnA 0 (mCons (ret (.int 7)) mNil))) mNil))) [.bo (sD a b c), .sh (nL L), .no, .no] = .nx (GS a2 b2 c2 (nLs L) k w) := by
    have x := cons_m (a := mCall dList (mCons (mVar 1) mNil)) (Γ := [.bo (sD a b c), .sh (nL L), .no, .no]) (call_m (z := nL L) (cons_m rfl rfl) rfl) (cons_m e1' (cons_m e2 (r := mNil) rfl))
    unfold sPar ofM
    simp only [x]
    rfl
  have key : ∀ {o : Out}, (sSeq (sIf (mT (mOp dEq (mVar 3) (ret (nI 0)))) (sAsg (mOp dSub (mVar 2) (ret (.int 1))) (gSetIx 1 (mVar 2))) sNil) (sSeq (sIf (mT (mOp dEq (mVar 3) (ret (nI 1)))) (sAsg (mOp dAdd (mCallB dLen (mOwnA 1 mNil)) (mCallF F__law_pick [some 0, none] [] (mOwnA 0 (mCons (mOp dPow (ret (.int 10)) (ret (.int 9))) mNil)))) (gSetIx 1 (mVar 2))) sNil) (sSeq (sIf (mT (mOp dEq (mVar 3) (ret (nI 2)))) (sAsg (mCallF F__law_one [some 0, none] [] (mOwnA 0 (mCons (mLst (mCons (ret (.bl true)) (mCons (ret (.str "2")) (mCons (ret .non) mNil)))) mNil))) (gSetIx 1 (mVar 2))) sNil) (sSeq (sIf (mT (mOp dEq (mVar 3) (ret (nI 3)))) (sRetN (mSlice dCutL (mVar 1) (ret none) (mPart (mCallF F__law_pick [some 0, none] [] (mOwnA 0 (mCons (ret (.int 2)) mNil)))))) sNil) (sSeq (sIf (mT (mOp dEq (mVar 3) (ret (nI 4)))) (sRet (mCallF F__law_one [some 0, none] [] (mOwnA 0 (mCons (mLst (mCons (ret .non) (mCons (ret (.int 5)) mNil))) mNil)))) sNil) (sSeq (sIf (mT (mOp dEq (mVar 3) (ret (nI 5)))) (sAsg (mOp dSub (mIxB 1 (mVar 2)) (ret (.int 1))) (gSetIx 1 (mVar 2))) sNil) (sRetOwn 1))))))) (GS a2 b2 c2 (nLs L) k w) = o → m__law_b_spoilt [.bo (sD a b c), .sh (nL L), .no, .no] = o := fun h => seq_nx s1 h
  have e0 : (env0 N__law_b_spoilt.length [true, false] [sD a b c, nL L] : Env) = [.bo (sD a b c), .sh (nL L), .no, .no] := rfl
  have hw' : w = 0 ∨ w = 1 ∨ w = 2 ∨ w = 3 ∨ w = 4 ∨ w = 5 ∨ w = 6 := by omega
  have hk' : k < (nLs L).length := by omega
  rcases hw' with rfl | rfl | rfl | rfl | rfl | rfl | rfl
  · refine ⟨true, _, _, _, a2, b2, c2, run_rn (Γ := [.bo (sD a2 b2 c2), .no, .sh (nI k), .sh (nI 0)]) (d := .lst ((nLs L).set k (.int ((k : Int) - 1)))) ?_ rfl, row_set hat (.int _) (by omega), by omega⟩
    rw [e0]
    exact key (seq_nx (if_yes rfl (asg_nx (d := .int ((k : Int) - 1)) (Γ1 := GS a2 b2 c2 (nLs L) k 0) (op_m rfl rfl rfl) (setix_m a2 b2 c2 (nLs L) k 0 _ hk'))) (seq_nx (if_no (w := 0) rfl (by omega)) (seq_nx (if_no (w := 0) rfl (by omega)) (seq_nx (if_no (w := 0) rfl (by omega)) (seq_nx (if_no (w := 0) rfl (by omega)) (seq_nx (if_no (w := 0) rfl (by omega)) rfl))))))
  · obtain ⟨r, hr, a3, b3, c3, e3⟩ := pick_m (j := 0) (e := mOp dPow (ret (.int 10)) (ret (.int 9))) (Γ := GS a2 b2 c2 (nLs L) k 1) (a := a2) (b := b2) (c := c2) (k := 1000000000) rfl (op_m rfl rfl pow9) (by omega) (by omega)
    refine ⟨true, _, _, _, a3, b3, c3, run_rn (Γ := [.bo (sD a3 b3 c3), .no, .sh (nI k), .sh (nI 1)]) (d := .lst ((nLs L).set k (nI ((nLs L).length + r)))) ?_ rfl, row_set hat (.int _) (by omega), by omega⟩
    rw [e0]
    exact key (seq_nx (if_no (w := 1) rfl (by omega)) (seq_nx (if_yes rfl (asg_nx (d := nI ((nLs L).length + r)) (Γ1 := GS a3 b3 c3 (nLs L) k 1) (op_m (callB_m (own_m (d := .lst (nLs L)) (d0 := .lst (nLs L)) (Γ1 := GS a2 b2 c2 (nLs L) k 1) rfl rfl rfl) (len_n _) rfl) e3 (add_n _ _)) (setix_m a3 b3 c3 (nLs L) k 1 _ hk'))) (seq_nx (if_no (w := 1) rfl (by omega)) (seq_nx (if_no (w := 1) rfl (by omega)) (seq_nx (if_no (w := 1) rfl (by omega)) (seq_nx (if_no (w := 1) rfl (by omega)) rfl))))))
  · have l3 : dLst [.bl true, .str "2", .non] = .ok (.lst [.bl true, .str "2", .non]) := lst_le (by show 3 ≤ 16777216; omega)
    obtain ⟨r, hr, a3, b3, c3, e3⟩ := one_m (j := 0) (e := mLst (mCons (ret (.bl true)) (mCons (ret (.str "2")) (mCons (ret .non) mNil)))) (Γ := GS a2 b2 c2 (nLs L) k 2) (a := a2) (b := b2) (c := c2) rfl (lst_m (cons_m rfl (cons_m rfl (cons_m rfl rfl))) l3) (by show 0 < 3; omega) (by show 3 ≤ 1000; omega)
    have ha : At r := by
      simp only [List.mem_cons, List.not_mem_nil, or_false] at hr
      rcases hr with rfl | rfl | rfl
      · exact .bl true
      · exact .str _
      · exact .non
    refine ⟨true, _, _, _, a3, b3, c3, run_rn (Γ := [.bo (sD a3 b3 c3), .no, .sh (nI k), .sh (nI 2)]) (d := .lst ((nLs L).set k r)) ?_ rfl, row_set hat ha (by omega), by omega⟩
    rw [e0]
    exact key (seq_nx (if_no (w := 2) rfl (by omega)) (seq_nx (if_no (w := 2) rfl (by omega)) (seq_nx (if_yes rfl (asg_nx (d := r) (Γ1 := GS a3 b3 c3 (nLs L) k 2) e3 (setix_m a3 b3 c3 (nLs L) k 2 _ hk'))) (seq_nx (if_no (w := 2) rfl (by omega)) (seq_nx (if_no (w := 2) rfl (by omega)) (seq_nx (if_no (w := 2) rfl (by omega)) rfl))))))
  · obtain ⟨r, hr, a3, b3, c3, e3⟩ := pick_m (j := 0) (e := ret (.int 2)) (Γ := [.bo (sD a2 b2 c2), .sh (.lst (nLs L)), .sh (nI k), .sh (nI 3)]) (a := a2) (b := b2) (c := c2) (k := 2) rfl rfl (by omega) (by omega)
    have hcut : ∀ x ∈ cutL (nLs L) none (some (r : Int)), At x := fun x hx => hat x (List.mem_of_mem_drop (List.mem_of_mem_take hx))
    have hlen : (cutL (nLs L) none (some (r : Int))).length ≤ L.length := by
      unfold cutL
      rw [List.length_take, List.length_drop, hL]
      omega
    refine ⟨true, _, _, _, a3, b3, c3, run_rn (Γ := [.bo (sD a3 b3 c3), .sh (.lst (nLs L)), .sh (nI k), .sh (nI 3)]) (d := .lst (cutL (nLs L) none (some (r : Int)))) ?_ rfl, .lst _ hcut (by omega), hlen⟩
    rw [e0]
    have sl : mSlice dCutL (mVar 1) (ret none) (mPart (mCallF F__law_pick [some 0, none] [] (mOwnA 0 (mCons (ret (.int 2)) mNil)))) (GS a2 b2 c2 (nLs L) k 3) = .ok (.lst (cutL (nLs L) none (some (r : Int))), [.bo (sD a3 b3 c3), .sh (.lst (nLs L)), .sh (nI k), .sh (nI 3)]) := by
      have m1 : mVar 1 (GS a2 b2 c2 (nLs L) k 3) = .ok (.lst (nLs L), [.bo (sD a2 b2 c2), .sh (.lst (nLs L)), .sh (nI k), .sh (nI 3)]) := rfl
      unfold mSlice mPart
      simp only [bnd, m1, R.bind, DL.ret, e3]
      rfl
    exact key (seq_nx (if_no (w := 3) rfl (by omega)) (seq_nx (if_no (w := 3) rfl (by omega)) (seq_nx (if_no (w := 3) rfl (by omega)) (seq_rn (if_yes rfl (retN_rn sl))))))
  · have l2 : dLst [.non, .int 5] = .ok (.lst [.non, .int 5]) := lst_le (by show 2 ≤ 16777216; omega)
    obtain ⟨r, hr, a3, b3, c3, e3⟩ := one_m (j := 0) (e := mLst (mCons (ret .non) (mCons (ret (.int 5)) mNil))) (Γ := GS a2 b2 c2 (nLs L) k 4) (a := a2) (b := b2) (c := c2) rfl (lst_m (cons_m rfl (cons_m rfl rfl)) l2) (by show 0 < 2; omega) (by show 2 ≤ 1000; omega)
    have ha : r = .non ∨ r = .int 5 := by
      simp only [List.mem_cons, List.not_mem_nil, or_false] at hr
      exact hr
    refine ⟨false, _, _, _, a3, b3, c3, run_rt (Γ := GS a3 b3 c3 (nLs L) k 4) (d := r) ?_ rfl, .no r ha, by omega⟩
    rw [e0]
    exact key (seq_nx (if_no (w := 4) rfl (by omega)) (seq_nx (if_no (w := 4) rfl (by omega)) (seq_nx (if_no (w := 4) rfl (by omega)) (seq_nx (if_no (w := 4) rfl (by omega)) (seq_rt (if_yes rfl (ret_rt e3)))))))
  · refine ⟨true, _, _, _, a2, b2, c2, run_rn (Γ := [.bo (sD a2 b2 c2), .no, .sh (nI k), .sh (nI 5)]) (d := .lst ((nLs L).set k (.int ((nth L k : Int) - 1)))) ?_ rfl, row_set hat (.int _) (by omega), by omega⟩
    rw [e0]
    have ix : mIxB 1 (mVar 2) (GS a2 b2 c2 (nLs L) k 5) = .ok (nI (nth L k), GS a2 b2 c2 (nLs L) k 5) := by
      have := ix_n (L := L) (k := k) hk
      unfold mIxB
      simp only [ownAt, mVar, List.getElem?_cons_succ, List.getElem?_cons_zero, R.bind, this, noexc]
    exact key (seq_nx (if_no (w := 5) rfl (by omega)) (seq_nx (if_no (w := 5) rfl (by omega)) (seq_nx (if_no (w := 5) rfl (by omega)) (seq_nx (if_no (w := 5) rfl (by omega)) (seq_nx (if_no (w := 5) rfl (by omega)) (seq_nx (if_yes rfl (asg_nx (d := .int ((nth L k : Int) - 1)) (Γ1 := GS a2 b2 c2 (nLs L) k 5) (op_m ix rfl rfl) (setix_m a2 b2 c2 (nLs L) k 5 _ hk'))) rfl))))))
  · refine ⟨true, _, _, _, a2, b2, c2, run_rn (Γ := [.bo (sD a2 b2 c2), .no, .sh (nI k), .sh (nI 6)]) (d := .lst (nLs L)) ?_ rfl, .lst _ hat (by omega), by omega⟩
    rw [e0]
    exact key (seq_nx (if_no (w := 6) rfl (by omega)) (seq_nx (if_no (w := 6) rfl (by omega)) (seq_nx (if_no (w := 6) rfl (by omega)) (seq_nx (if_no (w := 6) rfl (by omega)) (seq_nx (if_no (w := 6) rfl (by omega)) (seq_nx (if_no (w := 6) rfl (by omega)) rfl))))))
end K13
namespace K13
open L2 DL
theorem pow18 : dPow (.int 10) (.int 18) = .ok (.int 1000000000000000000) := by rfl
theorem pow60 : dPow (.int 10) (.int 60) = .ok (.int (10 ^ 60)) := by rfl
theorem pow480 : dPow (.int (10 ^ 60)) (.int 8) = .ok (.int ((10 ^ 60) ^ 8)) := by rfl
theorem tTx {m : M D} {Γ Γ1 : Env} {k : Bool} (h : m Γ = .ok (.bl k, Γ1)) : mT m Γ = .ok (k, Γ1) := by
  unfold mT bnd
  simp only [h, R.bind]
  rfl
theorem tAndx {a b : M Bool} {Γ Γ1 : Env} {k : Bool} {r : Bool} (h : a Γ = .ok (k, Γ1)) (g : k = true → b Γ1 = .ok (r, Γ1)) : mAnd a b Γ = .ok (k && r, Γ1) := by
  unfold mAnd bnd
  simp only [h, R.bind]
  cases k with
  | false => rfl
  | true => simp only [if_true, g rfl, Bool.true_and]
theorem vAndx {a b : M D} {Γ Γ1 : Env} {k : Bool} {r : Bool} (h : a Γ = .ok (.bl k, Γ1)) (g : k = true → b Γ1 = .ok (.bl r, Γ1)) : mAndV a b Γ = .ok (.bl (k && r), Γ1) := by
  unfold mAndV bnd
  simp only [h, R.bind, lift, toB]
  cases k with
  | false => rfl
  | true => simp only [if_true, g rfl, Bool.true_and]
theorem un_m {f : D → R D} {a : M D} {Γ Γ1 : Env} {x z : D} (h : a Γ = .ok (x, Γ1)) (k : f x = .ok z) : mUn f a Γ = .ok (z, Γ1) := by
  unfold mUn bnd
  simp only [h, R.bind, lift, k, noexc]
theorem chain_m {a b c : M D} {Γ : Env} {i j k : Int} (h1 : a Γ = .ok (.int i, Γ)) (h2 : b Γ = .ok (.int j, Γ)) (h3 : c Γ = .ok (.int k, Γ)) : ∃ v, mChain dLt dLt a b c Γ = .ok (.bl v, Γ) := by
  have e1 : dLt (.int i) (.int j) = .ok (.bl (decide (i < j))) := rfl
  have e2 : dLt (.int j) (.int k) = .ok (.bl (decide (j < k))) := rfl
  unfold mChain bnd
  simp only [h1, h2, R.bind, lift, e1, noexc, toB]
  cases decide (i < j) with
  | true => simp only [if_true, h3, R.bind, e2]; exact ⟨_, rfl⟩
  | false => exact ⟨false, rfl⟩
theorem cut_map (ns : List Int) (hi : Option Int) : cutL (ns.map D.int) none hi = (cutL ns none hi).map D.int := by
  unfold cutL
  rw [List.length_map, List.map_take, List.map_drop]
theorem mulr (x : Int) {k : Nat} (h : k ≤ 1000000) : dMul (.int x) (nI k) = .ok (.int (x * k)) := by
  unfold dMul onI nI
  have c : cMul x (k : Int) = true := by
    unfold cMul
    simp only [Bool.or_eq_true, decide_eq_true_eq]
    right
    omega
  simp only [c, if_true]
theorem modp {x j : Int} (h : 0 < j) : dMod (.int x) (.int j) = .ok (.int (x % j)) := by
  unfold dMod onI
  simp only [decide_eq_true h, if_true]
theorem source_ok (ns : List Int) (t : Nat) (ht : t ≤ 2) (hn : ns.length ≤ 63) : ∃ a b c, F__law_source [.frl (ns.map D.int), nI t] = .ok ⟨true, sD a b c, outs2⟩ := by
  let cs := cutL ns none (some 63)
  have hcs : cs.length ≤ 63 := by
    show (cutL ns none (some 63)).length ≤ 63
    unfold cutL
    rw [List.length_take, List.length_drop]
    omega
  let S : D := .frl (ns.map D.int)
  have e0 : (env0 N__law_source.length [false, false] [S, nI t] : Env) = [.sh S, .sh (nI t), .no, .no, .no, .no] := rfl
  have sl : mSeq (mSlice dCutL (mVar 0) (ret none) (mPart (ret (.int 63)))) [.sh S, .sh (nI t), .no, .no, .no, .no] = .ok (cs.map D.int, [.sh S, .sh (nI t), .no, .no, .no, .no]) := by
    have : dCutL S none (some 63) = .ok (.lst (cs.map D.int)) := by
      show R.ok (D.lst (cutL (ns.map D.int) none (some 63))) = _
      rw [cut_map]
    simp only [mSeq, mSlice, mPart, bnd, mVar, List.getElem?_cons_zero, R.bind, DL.ret, lift, toI, this, seqD]
  have lc := lcL_mm (vs := [4]) (g := gSet 4) (e := mCallB dInt (mCons (mVar 4) mNil)) (Γ := [.sh S, .sh (nI t), .no, .no, .no, .no]) D.int D.int (L := cs) fun x hx => by
    exact ⟨[.sh S, .sh (nI t), .no, .no, .sh (.int x), .no], [.sh S, .sh (nI t), .no, .no, .sh (.int x), .no], rfl, callB_m (cons_m rfl rfl) rfl rfl, rfl⟩
  have s1 : sAsg (mLc [4] (mSeq (mSlice dCutL (mVar 0) (ret none) (mPart (ret (.int 63))))) (gSet 4) (ret true) (mCallB dInt (mCons (mVar 4) mNil))) (gSet 2) [.sh S, .sh (nI t), .no, .no, .no, .no] = .nx [.sh S, .sh (nI t), .sh (.lst (cs.map D.int)), .no, .no, .no] :=
    asg_nx (lc_m sl lc (le_big (by rw [List.length_map]; omega))) rfl
  have s2 : sAsg (mOp dAdd (ret (.int 1201)) (mOp dMul (mVar 1) (ret (.int 7919)))) (gSet 3) [.sh S, .sh (nI t), .sh (.lst (cs.map D.int)), .no, .no, .no] = .nx [.sh S, .sh (nI t), .sh (.lst (cs.map D.int)), .sh (.int (1201 + (t : Int) * 7919)), .no, .no] :=
    asg_nx (op_m rfl (op_m rfl rfl (mulr (t : Int) (k := 7919) (by omega))) rfl) rfl
  have lp : ∀ (L : List Int) (M : Int) (s4 : Sl), ∃ M' s4', forL (gSet 4) b0__law_source (L.map D.int) [.sh S, .sh (nI t), .sh (.lst (cs.map D.int)), .sh (.int M), s4, .no] = .nx [.sh S, .sh (nI t), .sh (.lst (cs.map D.int)), .sh (.int M'), s4', .no] := fun L => by
    induction L with
    | nil => exact fun M s4 => ⟨M, s4, rfl⟩
    | cons x L ih =>
      intro M s4
      have g : gSet 4 (.int x) [.sh S, .sh (nI t), .sh (.lst (cs.map D.int)), .sh (.int M), s4, .no] = .ok [.sh S, .sh (nI t), .sh (.lst (cs.map D.int)), .sh (.int M), .sh (.int x), .no] := rfl
      obtain ⟨v, c⟩ := chain_m (a := mUn dNeg (mOp dPow (ret (.int 10)) (ret (.int 18)))) (b := mVar 4) (c := mOp dPow (ret (.int 10)) (ret (.int 18))) (Γ := [.sh S, .sh (nI t), .sh (.lst (cs.map D.int)), .sh (.int M), .sh (.int x), .no]) (un_m (op_m rfl rfl pow18) rfl) rfl (op_m rfl rfl pow18)
      obtain ⟨M2, b⟩ : ∃ M2, b0__law_source [.sh S, .sh (nI t), .sh (.lst (cs.map D.int)), .sh (.int M), .sh (.int x), .no] = .nx [.sh S, .sh (nI t), .sh (.lst (cs.map D.int)), .sh (.int M2), .sh (.int x), .no] := by
        cases v with
        | false => exact ⟨M, if_f (tT c) rfl⟩
        | true =>
          refine ⟨(M * (48271 : Nat) + x % 2147483629 + 12345) % 2147483647, if_t (tT c) (asg_nx (op_m (op_m (op_m (op_m rfl rfl (mulr M (k := 48271) (by omega))) (op_m rfl rfl (modp (by omega))) rfl) rfl rfl) rfl (modp (by omega))) rfl)⟩
      obtain ⟨M', s4', e⟩ := ih M2 (.sh (.int x))
      refine ⟨M', s4', ?_⟩
      rw [List.map_cons]
      simp only [forL, g, b]
      exact e
  obtain ⟨M, s4, lp⟩ := lp cs (1201 + (t : Int) * 7919) .no
  have s3 : sFor (mSeq (mVar 2)) (gSet 4) b0__law_source [.sh S, .sh (nI t), .sh (.lst (cs.map D.int)), .sh (.int (1201 + (t : Int) * 7919)), .no, .no] = .nx [.sh S, .sh (nI t), .sh (.lst (cs.map D.int)), .sh (.int M), s4, .no] :=
    for_eq (ds := cs.map D.int) (Γ1 := [.sh S, .sh (nI t), .sh (.lst (cs.map D.int)), .sh (.int (1201 + (t : Int) * 7919)), .no, .no]) rfl lp
  obtain ⟨o, s5⟩ : ∃ o, sAsg (mIf (mTru (mVar 2)) (mCallB dAbs (mCons (mOp dIx (mVar 2) (mOp dMod (mVar 1) (mCallB dLen (mCons (mVar 2) mNil)))) mNil)) (ret (.int 0))) (gSet 5) [.sh S, .sh (nI t), .sh (.lst (cs.map D.int)), .sh (.int M), s4, .no] = .nx [.sh S, .sh (nI t), .sh (.lst (cs.map D.int)), .sh (.int M), s4, .sh (.int o)] := by
    have tr : mTru (mVar 2) [.sh S, .sh (nI t), .sh (.lst (cs.map D.int)), .sh (.int M), s4, .no] = .ok (!(cs.map D.int).isEmpty, [.sh S, .sh (nI t), .sh (.lst (cs.map D.int)), .sh (.int M), s4, .no]) := rfl
    cases hcs' : cs with
    | nil =>
      rw [hcs'] at tr
      exact ⟨0, asg_nx (tIf_f tr rfl) rfl⟩
    | cons x xs =>
      rw [hcs'] at tr
      have hl : t % (x :: xs).length < (x :: xs).length := Nat.mod_lt _ (by show 0 < xs.length + 1; omega)
      have ix : dIx (.lst ((x :: xs).map D.int)) (nI (t % (x :: xs).length)) = .ok (.int ((x :: xs)[t % (x :: xs).length])) := ix_m (List.getElem?_eq_getElem hl)
      have ln : dLen [.lst ((x :: xs).map D.int)] = .ok (nI (x :: xs).length) := by
        rw [len_n, List.length_map]
      exact ⟨_, asg_nx (tIf_t tr (callB_m (cons_m (op_m rfl (op_m rfl (callB_m (cons_m rfl rfl) ln rfl) (mod_n (by show 0 < xs.length + 1; omega))) ix) rfl) rfl rfl)) rfl⟩
  obtain ⟨p, s6⟩ : ∃ p, mIf (mT (mOp dGe (mVar 5) (mOp dPow (ret (.int 10)) (ret (.int 18))))) (mOp dMod (mVar 5) (mOp dPow (mOp dPow (ret (.int 10)) (ret (.int 60))) (ret (.int 8)))) (ret (.int 0)) [.sh S, .sh (nI t), .sh (.lst (cs.map D.int)), .sh (.int M), s4, .sh (.int o)] = .ok (.int p, [.sh S, .sh (nI t), .sh (.lst (cs.map D.int)), .sh (.int M), s4, .sh (.int o)]) := by
    have tt := tT (op_m (f := dGe) (a := mVar 5) (b := mOp dPow (ret (.int 10)) (ret (.int 18))) (Γ := [.sh S, .sh (nI t), .sh (.lst (cs.map D.int)), .sh (.int M), s4, .sh (.int o)]) (z := .bl (decide ((1000000000000000000 : Int) ≤ o))) rfl (op_m rfl rfl pow18) rfl)
    cases hd : decide ((1000000000000000000 : Int) ≤ o) with
    | true =>
      rw [hd] at tt
      exact ⟨_, tIf_t tt (op_m rfl (op_m (op_m rfl rfl pow60) rfl pow480) (modp (Int.pow_pos (Int.pow_pos (by omega)))))⟩
    | false =>
      rw [hd] at tt
      exact ⟨0, tIf_f tt rfl⟩
  have l3 : dLst [.int p, .int M, nI (t + 1)] = .ok (.lst [.int p, .int M, nI (t + 1)]) := lst_le (by show 3 ≤ 16777216; omega)
  refine ⟨p, M, ((t + 1 : Nat) : Int), run_rn (Γ := [.sh S, .sh (nI t), .sh (.lst (cs.map D.int)), .sh (.int M), s4, .sh (.int o)]) ?_ rfl⟩
  rw [e0]
  exact seq_nx s1 (seq_nx s2 (seq_nx s3 (seq_nx s5 (retN_rn (lst_m (cons_m s6 (cons_m rfl (cons_m (op_m rfl rfl (add_n t 1)) rfl))) l3)))))
end K13
namespace K13
open L2 DL
theorem pick_law {e : M D} {Γ : Env} {a b c : Int} {k : Nat} (ho : ownAt Γ 3 = .ok (sD a b c)) (he : e Γ = .ok (nI k, Γ)) (h0 : 0 < k) (h : k ≤ 1000000000) : ∃ r, r < k ∧ ∃ a' b' c', mCallF F__law_pick [some 3, none] [] (mOwnA 3 (mCons e mNil)) Γ = .ok (nI r, setOwn 3 (sD a' b' c') Γ) := pick_m ho he h0 h
theorem draw_m {e : M D} {Γ : Env} {a b c : Int} {n : Nat} (ho : ownAt Γ 3 = .ok (sD a b c)) (he : e Γ = .ok (nI n, Γ)) (h : n ≤ 100) : ∃ L a' b' c', mCallF F__law_draw_stair [some 3, none] [] (mOwnA 3 (mCons e mNil)) Γ = .ok (nL L, setOwn 3 (sD a' b' c') Γ) ∧ Sr n L := by
  obtain ⟨L, a', b', c', e1, hL⟩ := draw_ok a b c n h
  exact ⟨L, a', b', c', callF_m (r := ⟨true, .lst (nLs L), [sD a' b' c', .non]⟩) (own_m ho (cons_m he rfl) ho) e1, hL⟩
abbrev LE (sc r t s w m n o p : Sl) : Env := [sc, r, t, s, w, m, n, o, p, .no, .no, .no, .no, .no, .no]
structure Pr (d : D) (big_ : Bool) (one other : List Nat) : Prop where
  eq : d = .tup [nL one, nL other]
  ok : ∃ m n, Sr m one ∧ Sr n other ∧ 0 < m ∧ 0 < n ∧ m ≤ 8 ∧ n ≤ 8 ∧ (m * n < 10 → m ≤ 6 ∧ n ≤ 6) ∧ (big_ = false → m ≤ 6 ∧ n ≤ 6)
theorem b0_ok (ns : List Int) (t : Nat) (ht : t ≤ 1) (hn : ns.length ≤ 63) (rows : List D) (hr : rows.length ≤ 10) (s3 s4 s5 s6 s7 s8 : Sl) : ∃ d one other, Pr d (decide (t = 0)) one other ∧ ∃ s3' s4' s5' s6' s7' s8', b0_law (LE (.sh (.frl (ns.map D.int))) (.ow (.lst rows)) (.sh (nI t)) s3 s4 s5 s6 s7 s8) = .nx (LE (.sh (.frl (ns.map D.int))) (.ow (.lst (rows ++ [d]))) (.sh (nI t)) s3' s4' s5' s6' s7' s8') := by
  obtain ⟨a0, b0, c0, src⟩ := source_ok ns t (by omega) hn
  let S : Sl := .sh (.frl (ns.map D.int))
  let Rw : Sl := .ow (.lst rows)
  have s1 : sAsg (mCallN F__law_source [none, none] (mCons (mVar 0) (mCons (mVar 2) mNil))) (gOwn 3) (LE S Rw (.sh (nI t)) s3 s4 s5 s6 s7 s8) = .nx (LE S Rw (.sh (nI t)) (.ow (sD a0 b0 c0)) s4 s5 s6 s7 s8) :=
    asg_nx (callN_m (Γ1 := LE S Rw (.sh (nI t)) s3 s4 s5 s6 s7 s8) rfl src) rfl
  obtain ⟨r1, hr1, a1, b1, c1, p1⟩ := pick_law (e := ret (.int 16)) (Γ := LE S Rw (.sh (nI t)) (.ow (sD a0 b0 c0)) s4 s5 s6 s7 s8) (a := a0) (b := b0) (c := c0) (k := 16) rfl rfl (by omega) (by omega)
  have s2 : sAsg (mAndV (mOp dEq (mCallF F__law_pick [some 3, none] [] (mOwnA 3 (mCons (ret (.int 16)) mNil))) (ret (.int 0))) (mOp dEq (mVar 2) (ret (.int 0)))) (gSet 4) (LE S Rw (.sh (nI t)) (.ow (sD a0 b0 c0)) s4 s5 s6 s7 s8) = .nx (LE S Rw (.sh (nI t)) (.ow (sD a1 b1 c1)) (.sh (.bl (decide (r1 = 0) && decide (t = 0)))) s5 s6 s7 s8) :=
    asg_nx (vAndx (Γ1 := LE S Rw (.sh (nI t)) (.ow (sD a1 b1 c1)) s4 s5 s6 s7 s8) (op_m p1 rfl (eq_n r1 0)) fun _ => op_m rfl rfl (eq_n t 0)) rfl
  generalize hw : (decide (r1 = 0) && decide (t = 0)) = W at s2
  have s3x : ∃ m n a2 b2 c2, 0 < m ∧ 0 < n ∧ m ≤ 8 ∧ n ≤ 8 ∧ (m * n < 10 → m ≤ 6 ∧ n ≤ 6) ∧ (W = false → m ≤ 6 ∧ n ≤ 6) ∧ sAsg (mIf (mTru (mVar 4)) (mTup (mCons (mOp dAdd (ret (.int 7)) (mCallF F__law_pick [some 3, none] [] (mOwnA 3 (mCons (ret (.int 2)) mNil)))) (mCons (ret (.int 8)) mNil))) (mTup (mCons (mOp dAdd (ret (.int 1)) (mCallF F__law_pick [some 3, none] [] (mOwnA 3 (mCons (ret (.int 6)) mNil)))) (mCons (mOp dAdd (ret (.int 1)) (mCallF F__law_pick [some 3, none] [] (mOwnA 3 (mCons (ret (.int 6)) mNil)))) mNil)))) (gUn 2 (gsCons (gSet 5) (gsCons (gSet 6) gsNil))) (LE S Rw (.sh (nI t)) (.ow (sD a1 b1 c1)) (.sh (.bl W)) s5 s6 s7 s8) = .nx (LE S Rw (.sh (nI t)) (.ow (sD a2 b2 c2)) (.sh (.bl W)) (.sh (nI m)) (.sh (nI n)) s7 s8) := by
    cases W with
    | true =>
      obtain ⟨r2, hr2, a2, b2, c2, p2⟩ := pick_law (e := ret (.int 2)) (Γ := LE S Rw (.sh (nI t)) (.ow (sD a1 b1 c1)) (.sh (.bl true)) s5 s6 s7 s8) (a := a1) (b := b1) (c := c1) (k := 2) rfl rfl (by omega) (by omega)
      refine ⟨7 + r2, 8, a2, b2, c2, by omega, by omega, by omega, by omega, fun h => by omega, fun h => (by cases h), ?_⟩
      exact asg_nx (d := .tup [nI (7 + r2), nI 8]) (Γ1 := LE S Rw (.sh (nI t)) (.ow (sD a2 b2 c2)) (.sh (.bl true)) s5 s6 s7 s8) (tIf_t (Γ1 := LE S Rw (.sh (nI t)) (.ow (sD a1 b1 c1)) (.sh (.bl true)) s5 s6 s7 s8) rfl (tup_m (cons_m (op_m rfl p2 (add_n 7 r2)) rfl) (tup2 _ _))) rfl
    | false =>
      obtain ⟨r2, hr2, a2, b2, c2, p2⟩ := pick_law (e := ret (.int 6)) (Γ := LE S Rw (.sh (nI t)) (.ow (sD a1 b1 c1)) (.sh (.bl false)) s5 s6 s7 s8) (a := a1) (b := b1) (c := c1) (k := 6) rfl rfl (by omega) (by omega)
      obtain ⟨r3, hr3, a3, b3, c3, p3⟩ := pick_law (e := ret (.int 6)) (Γ := LE S Rw (.sh (nI t)) (.ow (sD a2 b2 c2)) (.sh (.bl false)) s5 s6 s7 s8) (a := a2) (b := b2) (c := c2) (k := 6) rfl rfl (by omega) (by omega)
      refine ⟨1 + r2, 1 + r3, a3, b3, c3, by omega, by omega, by omega, by omega, fun h => by omega, fun h => by omega, ?_⟩
      exact asg_nx (d := .tup [nI (1 + r2), nI (1 + r3)]) (Γ1 := LE S Rw (.sh (nI t)) (.ow (sD a3 b3 c3)) (.sh (.bl false)) s5 s6 s7 s8) (tIf_f (Γ1 := LE S Rw (.sh (nI t)) (.ow (sD a1 b1 c1)) (.sh (.bl false)) s5 s6 s7 s8) rfl (tup_m (cons_m (op_m rfl p2 (add_n 1 r2)) (cons_m (op_m rfl p3 (add_n 1 r3)) rfl)) (tup2 _ _))) rfl
  obtain ⟨m, n, a2, b2, c2, hm0, hn0, hm, hn8, hs, hW, s3e⟩ := s3x
  obtain ⟨one, a3, b3, c3, d1, h1⟩ := draw_m (e := mVar 5) (Γ := LE S Rw (.sh (nI t)) (.ow (sD a2 b2 c2)) (.sh (.bl W)) (.sh (nI m)) (.sh (nI n)) s7 s8) (a := a2) (b := b2) (c := c2) (n := m) rfl rfl (by omega)
  obtain ⟨other, a4, b4, c4, d2, h2⟩ := draw_m (e := mVar 6) (Γ := LE S Rw (.sh (nI t)) (.ow (sD a3 b3 c3)) (.sh (.bl W)) (.sh (nI m)) (.sh (nI n)) s7 s8) (a := a3) (b := b3) (c := c3) (n := n) rfl rfl (by omega)
  have s4e : sPar [(7, false), (8, false)] (mCons (mCallF F__law_draw_stair [some 3, none] [] (mOwnA 3 (mCons (mVar 5) mNil))) (mCons (mCallF F__law_draw_stair [some 3, none] [] (mOwnA 3 (mCons (mVar 6) mNil))) mNil)) (LE S Rw (.sh (nI t)) (.ow (sD a2 b2 c2)) (.sh (.bl W)) (.sh (nI m)) (.sh (nI n)) s7 s8) = .nx (LE S Rw (.sh (nI t)) (.ow (sD a4 b4 c4)) (.sh (.bl W)) (.sh (nI m)) (.sh (nI n)) (.sh (nL one)) (.sh (nL other))) := by
    have x := cons_m d1 (cons_m d2 (r := mNil) rfl)
    unfold sPar ofM
    simp only [x]
    rfl
  obtain ⟨r5, hr5, a5, b5, c5, p5⟩ := pick_law (e := ret (.int 6)) (Γ := LE S Rw (.sh (nI t)) (.ow (sD a4 b4 c4)) (.sh (.bl W)) (.sh (nI m)) (.sh (nI n)) (.sh (nL one)) (.sh (nL other))) (a := a4) (b := b4) (c := c4) (k := 6) rfl rfl (by omega) (by omega)
  have tc : mAnd (mT (mOp dEq (mCallF F__law_pick [some 3, none] [] (mOwnA 3 (mCons (ret (.int 6)) mNil))) (ret (.int 0)))) (mNot (mTru (mVar 4))) (LE S Rw (.sh (nI t)) (.ow (sD a4 b4 c4)) (.sh (.bl W)) (.sh (nI m)) (.sh (nI n)) (.sh (nL one)) (.sh (nL other))) = .ok (decide (r5 = 0) && !W, LE S Rw (.sh (nI t)) (.ow (sD a5 b5 c5)) (.sh (.bl W)) (.sh (nI m)) (.sh (nI n)) (.sh (nL one)) (.sh (nL other))) :=
    tAndx (tTx (op_m p5 rfl (eq_n r5 0))) fun _ => tNot (tTru rfl)
  have hbl : rows.length < big := lt_big (by omega)
  have fin : ∀ x : D, mTup (mCons (mVar 7) (mCons (mIf (mAnd (mT (mOp dEq (mCallF F__law_pick [some 3, none] [] (mOwnA 3 (mCons (ret (.int 6)) mNil))) (ret (.int 0)))) (mNot (mTru (mVar 4)))) (mCall dList (mCons (mVar 7) mNil)) (mVar 8)) mNil)) (LE S Rw (.sh (nI t)) (.ow (sD a4 b4 c4)) (.sh (.bl W)) (.sh (nI m)) (.sh (nI n)) (.sh (nL one)) (.sh (nL other))) = .ok (.tup [nL one, x], LE S Rw (.sh (nI t)) (.ow (sD a5 b5 c5)) (.sh (.bl W)) (.sh (nI m)) (.sh (nI n)) (.sh (nL one)) (.sh (nL other))) → b0_law (LE S Rw (.sh (nI t)) s3 s4 s5 s6 s7 s8) = .nx (LE S (.ow (.lst (rows ++ [.tup [nL one, x]]))) (.sh (nI t)) (.ow (sD a5 b5 c5)) (.sh (.bl W)) (.sh (nI m)) (.sh (nI n)) (.sh (nL one)) (.sh (nL other))) := fun x h => by
    refine seq_nx s1 (seq_nx s2 (seq_nx s3e (seq_nx s4e ?_)))
    have o1 : ownAt (LE S Rw (.sh (nI t)) (.ow (sD a4 b4 c4)) (.sh (.bl W)) (.sh (nI m)) (.sh (nI n)) (.sh (nL one)) (.sh (nL other))) 1 = .ok (.lst rows) := rfl
    have o2 : ownAt (LE S Rw (.sh (nI t)) (.ow (sD a5 b5 c5)) (.sh (.bl W)) (.sh (nI m)) (.sh (nI n)) (.sh (nL one)) (.sh (nL other))) 1 = .ok (.lst rows) := rfl
    unfold sApp ofM
    simp only [o1, h, o2, if_pos hbl]
    rfl
  cases hv : decide (r5 = 0) && !W with
  | true =>
    rw [hv] at tc
    have hWf : W = false := by
      rw [Bool.and_eq_true, Bool.not_eq_true'] at hv
      exact hv.2
    refine ⟨.tup [nL one, nL one], one, one, ⟨rfl, m, m, h1, h1, hm0, hm0, hm, hm, fun _ => ⟨(hW hWf).1, (hW hWf).1⟩, fun _ => ⟨(hW hWf).1, (hW hWf).1⟩⟩, _, _, _, _, _, _, fin (nL one) ?_⟩
    exact tup_m (cons_m rfl (cons_m (tIf_t tc (call_m (cons_m rfl rfl) rfl)) rfl)) (tup2 _ _)
  | false =>
    rw [hv] at tc
    refine ⟨.tup [nL one, nL other], one, other, ⟨rfl, m, n, h1, h2, hm0, hn0, hm, hn8, hs, fun ht0 => hW ?_⟩, _, _, _, _, _, _, fin (nL other) ?_⟩
    · rw [← hw, ht0, Bool.and_false]
    · exact tup_m (cons_m rfl (cons_m (tIf_f tc rfl) rfl)) (tup2 _ _)
end K13
namespace K13
open L2 DL
theorem r_loop (sc r t s w m n : Sl) : ∀ (ds : List D) (s7 s8 : Sl), (∀ d ∈ ds, ∃ b one other, Pr d b one other) → ∃ s7' s8', forL (gUn 2 (gsCons (gSet 7) (gsCons (gSet 8) gsNil))) b1_law ds (LE sc r t s w m n s7 s8) = .nx (LE sc r t s w m n s7' s8')
  | [], s7, s8, _ => ⟨s7, s8, rfl⟩
  | d :: ds, s7, s8, h => by
    obtain ⟨b, one, other, rfl, m', n', h1, h2, hm0, hn0, hm, hn, hs, _⟩ := h d List.mem_cons_self
    obtain ⟨s7', s8', e⟩ := r_loop sc r t s w m n ds (.sh (nL one)) (.sh (nL other)) fun x hx => h x (List.mem_cons_of_mem _ hx)
    refine ⟨s7', s8', ?_⟩
    have g : gUn 2 (gsCons (gSet 7) (gsCons (gSet 8) gsNil)) (.tup [nL one, nL other]) (LE sc r t s w m n s7 s8) = .ok (LE sc r t s w m n (.sh (nL one)) (.sh (nL other))) := rfl
    have c : b1_law (LE sc r t s w m n (.sh (nL one)) (.sh (nL other))) = .nx (LE sc r t s w m n (.sh (nL one)) (.sh (nL other))) :=
      if_f (tNot (tTru (callF_m (r := ⟨false, .bl true, outs2⟩) (Γ1 := LE sc r t s w m n (.sh (nL one)) (.sh (nL other))) rfl (right_ok m' n' one other h1 h2 hm0 hn0 hm hn hs)))) rfl
    simp only [forL, g, c]
    exact e
abbrev LF (sc r t s w m n o p tu du s13 s14 : Sl) : Env := [sc, r, t, s, w, m, n, o, p, tu, du, .no, .no, s13, s14]
theorem spoil_m {e : M D} {Γ : Env} {a b c : Int} {L : List Nat} (ho : ownAt Γ 3 = .ok (sD a b c)) (he : e Γ = .ok (nL L, Γ)) (h0 : 0 < L.length) (hl : L.length ≤ 100) : ∃ d o n a' b' c', mCallF F__law_b_spoilt [some 3, none] [] (mOwnA 3 (mCons e mNil)) Γ = .ok (d, setOwn 3 (sD a' b' c') Γ) ∧ Row d o n ∧ n ≤ L.length := by
  obtain ⟨fr, d, o, n, a', b', c', e1, hr, hn⟩ := spoilt_ok a b c L h0 hl
  exact ⟨d, o, n, a', b', c', callF_m (r := ⟨fr, d, [sD a' b' c', .non]⟩) (own_m ho (cons_m he rfl) ho) e1, hr, hn⟩
theorem e2_ok (sc r t w m n s7 s8 tu du : Sl) (a b c : Int) (L : List Nat) (h0 : 0 < L.length) (hl : L.length ≤ 100) : ∃ d o k a' b' c', e2_law (LF sc r t (.ow (sD a b c)) w m n s7 s8 tu du (.sh (nL L)) .no) = .ok (d, LF sc r t (.ow (sD a' b' c')) w m n s7 s8 tu du (.sh (nL L)) .no) ∧ Row d o k ∧ k ≤ L.length := by
  obtain ⟨r1, hr1, a1, b1, c1, p1⟩ := pick_law (e := ret (.int 3)) (Γ := LF sc r t (.ow (sD a b c)) w m n s7 s8 tu du (.sh (nL L)) .no) (a := a) (b := b) (c := c) (k := 3) rfl rfl (by omega) (by omega)
  have tt : mT (mOp dGt (mCallF F__law_pick [some 3, none] [] (mOwnA 3 (mCons (ret (.int 3)) mNil))) (ret (.int 0))) (LF sc r t (.ow (sD a b c)) w m n s7 s8 tu du (.sh (nL L)) .no) = .ok (decide (0 < r1), LF sc r t (.ow (sD a1 b1 c1)) w m n s7 s8 tu du (.sh (nL L)) .no) := tTx (op_m p1 rfl (gt_n r1 0))
  cases hd : decide (0 < r1) with
  | true =>
    rw [hd] at tt
    obtain ⟨d, o, k, a', b', c', e, hr, hk⟩ := spoil_m (e := mVar 13) (Γ := LF sc r t (.ow (sD a1 b1 c1)) w m n s7 s8 tu du (.sh (nL L)) .no) (a := a1) (b := b1) (c := c1) (L := L) rfl rfl h0 hl
    exact ⟨d, o, k, a', b', c', tIf_t tt e, hr, hk⟩
  | false =>
    rw [hd] at tt
    refine ⟨nL L, _, _, a1, b1, c1, tIf_f tt (call_m (cons_m rfl rfl) rfl), Row.lst (nLs L) (at_nLs L) (by rw [nLs_len]; omega), by rw [nLs_len]; omega⟩
theorem b4_ok (sc t w m n s7 s8 tu du : Sl) (a b c : Int) (d0 : D) (one other : List Nat) (h1 : 0 < one.length) (h2 : 0 < other.length) (l1 : one.length ≤ 9) (l2 : other.length ≤ 9) : ∃ a' b' c' s7' s8' du', b4_law (LF sc (.sh (.lst [d0, .tup [nL one, nL other]])) t (.ow (sD a b c)) w m n s7 s8 tu du .no .no) = .nx (LF sc (.sh (.lst [d0, .tup [nL one, nL other]])) t (.ow (sD a' b' c')) w m n s7' s8' tu du' .no .no) := by
  let Rw : Sl := .sh (.lst [d0, .tup [nL one, nL other]])
  obtain ⟨x1, o1, k1, a1, b1, c1, e1, r1, q1⟩ := e2_ok sc Rw t w m n s7 s8 tu du a b c one h1 (by omega)
  obtain ⟨x2, o2, k2, a2, b2, c2, e2, r2, q2⟩ := e2_ok sc Rw t w m n s7 s8 tu du a1 b1 c1 other h2 (by omega)
  have hrt : ∀ Γ : Env, (DL.ret true : M Bool) Γ = .ok (true, Γ) := fun _ => rfl
  have g1 : ∀ a b c : Int, ∀ L : List Nat, gSet 13 (nL L) (LF sc Rw t (.ow (sD a b c)) w m n s7 s8 tu du .no .no) = .ok (LF sc Rw t (.ow (sD a b c)) w m n s7 s8 tu du (.sh (nL L)) .no) := fun _ _ _ _ => rfl
  have wp : ∀ a b c : Int, ∀ L : List Nat, wipeE (LF sc Rw t (.ow (sD a b c)) w m n s7 s8 tu du (.sh (nL L)) .no) [13] = LF sc Rw t (.ow (sD a b c)) w m n s7 s8 tu du .no .no := fun _ _ _ _ => rfl
  have lc : lcL [13] (gSet 13) (ret true) e2_law [nL one, nL other] (LF sc Rw t (.ow (sD a b c)) w m n s7 s8 tu du .no .no) = .ok ([x1, x2], LF sc Rw t (.ow (sD a2 b2 c2)) w m n s7 s8 tu du .no .no) := by
    simp only [lcL, g1, hrt, if_true, e1, wp, e2, R.bind]
  have it : mSeq (mOp dIx (mVar 1) (ret (.int 1))) (LF sc Rw t (.ow (sD a b c)) w m n s7 s8 tu du .no .no) = .ok ([nL one, nL other], LF sc Rw t (.ow (sD a b c)) w m n s7 s8 tu du .no .no) := rfl
  have s1 : sAsg (mLc [13] (mSeq (mOp dIx (mVar 1) (ret (.int 1)))) (gSet 13) (ret true) e2_law) (gUn 2 (gsCons (gSet 7) (gsCons (gSet 8) gsNil))) (LF sc Rw t (.ow (sD a b c)) w m n s7 s8 tu du .no .no) = .nx (LF sc Rw t (.ow (sD a2 b2 c2)) w m n (.sh x1) (.sh x2) tu du .no .no) :=
    asg_nx (lc_m it lc (le_big (by show 2 < 1000000; omega))) rfl
  have due := lcL_fm (vs := [14, 13]) (g := gUn 2 (gsCons (gSet 14) (gsCons (gSet 13) gsNil))) (t := mT (mOp dIsNot (mCallF F__law_b_wrong [none] [] (mCons (mVar 13) mNil)) (ret .non))) (e := e3_law) (Γ := LF sc Rw t (.ow (sD a2 b2 c2)) w m n (.sh x1) (.sh x2) tu du .no .no) (fun q : Nat × D × Option Nat => .tup [nI q.1, q.2.1]) (fun q => q.2.2.isSome) (fun q => .tup [nI (q.1 + 1), oN q.2.2]) (L := [(0, x1, o1), (1, x2, o2)]) fun q hq => by
    have hrow : ∃ k, Row q.2.1 q.2.2 k := by
      simp only [List.mem_cons, List.not_mem_nil, or_false] at hq
      rcases hq with rfl | rfl
      · exact ⟨k1, r1⟩
      · exact ⟨k2, r2⟩
    obtain ⟨k, hrow⟩ := hrow
    have wr := callF_m (F := F__law_b_wrong) (js := [none]) (a := mCons (mVar 13) mNil) (Γ := LF sc Rw t (.ow (sD a2 b2 c2)) w m n (.sh x1) (.sh x2) tu du (.sh q.2.1) (.sh (nI q.1))) (Γ1 := LF sc Rw t (.ow (sD a2 b2 c2)) w m n (.sh x1) (.sh x2) tu du (.sh q.2.1) (.sh (nI q.1))) (r := ⟨false, oN q.2.2, [.non]⟩) rfl hrow.wrong
    refine ⟨LF sc Rw t (.ow (sD a2 b2 c2)) w m n (.sh x1) (.sh x2) tu du (.sh q.2.1) (.sh (nI q.1)), LF sc Rw t (.ow (sD a2 b2 c2)) w m n (.sh x1) (.sh x2) tu du (.sh q.2.1) (.sh (nI q.1)), rfl, ?_, fun _ => ⟨LF sc Rw t (.ow (sD a2 b2 c2)) w m n (.sh x1) (.sh x2) tu du (.sh q.2.1) (.sh (nI q.1)), ?_, rfl⟩, fun _ => rfl⟩
    · exact tT (op_m wr rfl (by cases q.2.2 <;> rfl))
    · exact tup_m (cons_m (op_m rfl rfl (add_n q.1 1)) (cons_m wr rfl)) (tup2 _ _)
  have l2' : dLst [x1, x2] = .ok (.lst [x1, x2]) := lst_le (by show 2 ≤ 16777216; omega)
  have it2 : mEnumA (mCons (mLst (mCons (mVar 7) (mCons (mVar 8) mNil))) mNil) (LF sc Rw t (.ow (sD a2 b2 c2)) w m n (.sh x1) (.sh x2) tu du .no .no) = .ok ([.tup [nI 0, x1], .tup [nI 1, x2]], LF sc Rw t (.ow (sD a2 b2 c2)) w m n (.sh x1) (.sh x2) tu du .no .no) := by
    have := cons_m (a := mLst (mCons (mVar 7) (mCons (mVar 8) mNil))) (r := mNil) (Γ := LF sc Rw t (.ow (sD a2 b2 c2)) w m n (.sh x1) (.sh x2) tu du .no .no) (Γ1 := LF sc Rw t (.ow (sD a2 b2 c2)) w m n (.sh x1) (.sh x2) tu du .no .no) (lst_m (cons_m rfl (cons_m rfl rfl)) l2') rfl
    unfold mEnumA bnd
    simp only [this, R.bind, lift]
    rfl
  generalize hdu : (List.map (fun q : Nat × D × Option Nat => D.tup [nI (q.1 + 1), oN q.2.2]) (List.filter (fun q => q.2.2.isSome) [(0, x1, o1), (1, x2, o2)])) = dl at due
  have hdl : dl.length ≤ 2 := by
    rw [← hdu, List.length_map]
    exact List.length_filter_le _ _
  have s2 : sAsg (mLc [14, 13] (mEnumA (mCons (mLst (mCons (mVar 7) (mCons (mVar 8) mNil))) mNil)) (gUn 2 (gsCons (gSet 14) (gsCons (gSet 13) gsNil))) (mT (mOp dIsNot (mCallF F__law_b_wrong [none] [] (mCons (mVar 13) mNil)) (ret .non))) e3_law) (gSet 10) (LF sc Rw t (.ow (sD a2 b2 c2)) w m n (.sh x1) (.sh x2) tu du .no .no) = .nx (LF sc Rw t (.ow (sD a2 b2 c2)) w m n (.sh x1) (.sh x2) tu (.sh (.lst dl)) .no .no) :=
    asg_nx (lc_m it2 due (le_big (by omega))) rfl
  refine ⟨a2, b2, c2, .sh x1, .sh x2, .sh (.lst dl), seq_nx s1 (seq_nx s2 ?_)⟩
  cases hb : badOf o1 o2 with
  | none =>
    have : dl = [] := by
      rw [← hdu]
      cases o1 with
      | some f => cases hb
      | none => cases o2 with
        | some f => cases hb
        | none => rfl
    subst this
    exact if_f (tAnd (k := false) (r := false) rfl fun h => by cases h) rfl
  | some kf =>
    obtain ⟨k, f⟩ := kf
    have hd : ∃ rest, dl = .tup [nI k, nI f] :: rest := by
      rw [← hdu]
      cases o1 with
      | some f => cases hb; exact ⟨_, rfl⟩
      | none => cases o2 with
        | some f => cases hb; exact ⟨_, rfl⟩
        | none => cases hb
    obtain ⟨rest, rfl⟩ := hd
    have td := told_bad r1.arg r2.arg (by omega) hb
    have t3 : dTup [.str "BadStair", nI k, nI f] = .ok (.tup [.str "BadStair", nI k, nI f]) := tup_le (by show 3 ≤ 16777216; omega)
    have i0 : dIx (.lst (.tup [nI k, nI f] :: rest)) (nI 0) = .ok (.tup [nI k, nI f]) := by
      rw [ix_d (by show 0 < rest.length + 1; omega)]
      rfl
    have tl := callF_m (F := F__law_b_two_told) (js := [none, none]) (a := mCons (mVar 7) (mCons (mVar 8) mNil)) (Γ := LF sc Rw t (.ow (sD a2 b2 c2)) w m n (.sh x1) (.sh x2) tu (.sh (.lst (.tup [nI k, nI f] :: rest))) .no .no) (Γ1 := LF sc Rw t (.ow (sD a2 b2 c2)) w m n (.sh x1) (.sh x2) tu (.sh (.lst (.tup [nI k, nI f] :: rest))) .no .no) (r := ⟨false, .tup [.str "BadStair", nI k, nI f], outs2⟩) rfl td
    have sm := callF_m (F := F__law_same 2) (js := [none, none]) (r := ⟨false, .bl true, outs2⟩) (cons_m (r := mCons (mTup (mCons (ret (.str "BadStair")) (mCons (mOp dIx (mOp dIx (mVar 10) (ret (.int 0))) (ret (.int 0))) (mCons (mOp dIx (mOp dIx (mVar 10) (ret (.int 0))) (ret (.int 1))) mNil)))) mNil) tl (cons_m (tup_m (cons_m rfl (cons_m (op_m (op_m rfl rfl i0) rfl rfl) (cons_m (op_m (op_m rfl rfl i0) rfl rfl) rfl))) t3) rfl)) (same_bad k f)
    exact if_f (tAnd (k := true) (r := false) rfl fun _ => tNot (k := true) (tTru sm)) rfl
end K13
namespace K13
open L2 DL
/-- a row that is too long -/
structure Lg (d : D) : Prop where
  out : ∃ (ds : List D), d = .lst ds ∧ (∀ x ∈ ds, At x) ∧ 10 ≤ ds.length
theorem Lg.arg {d : D} (h : Lg d) : ∃ o n, Arg d o n ∧ 9 < n := by
  obtain ⟨ds, rfl, ha, hl⟩ := h.out
  exact ⟨_, _, .sq _ ds (.inl rfl) ha, by omega⟩
abbrev LH (sc r t s w m n o p tu du lo sh : Sl) : Env := [sc, r, t, s, w, m, n, o, p, tu, du, lo, sh, .no, .no]
theorem b6_ok (sc r t s w m n tu du lo sh : Sl) {x y : D} {o1 o2 : Option Nat} {n1 n2 : Nat} (A1 : Arg x o1 n1) (A2 : Arg y o2 n2) (h : 9 < max n1 n2) : b6_law (LH sc r t s w m n (.sh x) (.sh y) tu du lo sh) = .nx (LH sc r t s w m n (.sh x) (.sh y) tu du lo sh) := by
  have tl := callF_m (F := F__law_b_two_told) (js := [none, none]) (a := mCons (mVar 7) (mCons (mVar 8) mNil)) (Γ := LH sc r t s w m n (.sh x) (.sh y) tu du lo sh) (Γ1 := LH sc r t s w m n (.sh x) (.sh y) tu du lo sh) (r := ⟨false, .tup [.str "TooMany", .str "search"], outs2⟩) rfl (told_many A1 A2 h)
  have sm := callF_m (F := F__law_same 2) (js := [none, none]) (r := ⟨false, .bl true, outs2⟩) (cons_m (r := mCons (mTup (mCons (ret (.str "TooMany")) (mCons (ret (.str "search")) mNil))) mNil) tl (cons_m (tup_m (cons_m rfl (cons_m rfl rfl)) (tup2 _ _)) rfl)) same_many
  exact if_f (tNot (k := true) (tTru sm)) rfl
theorem turns_ok (sc t w m n : Sl) (d0 : D) (one other : List Nat) (h1 : 0 < one.length) (h2 : 0 < other.length) (l1 : one.length ≤ 9) (l2 : other.length ≤ 9) : ∀ (ds : List D) (a b c : Int) (s7 s8 tu du : Sl), ∃ a' b' c' s7' s8' tu' du', forL (gSet 9) b4_law ds (LF sc (.sh (.lst [d0, .tup [nL one, nL other]])) t (.ow (sD a b c)) w m n s7 s8 tu du .no .no) = .nx (LF sc (.sh (.lst [d0, .tup [nL one, nL other]])) t (.ow (sD a' b' c')) w m n s7' s8' tu' du' .no .no)
  | [], a, b, c, s7, s8, tu, du => ⟨_, _, _, _, _, _, _, rfl⟩
  | d :: ds, a, b, c, s7, s8, tu, du => by
    obtain ⟨a1, b1, c1, s71, s81, du1, e1⟩ := b4_ok sc t w m n s7 s8 (.sh d) du a b c d0 one other h1 h2 l1 l2
    obtain ⟨a2, b2, c2, s72, s82, tu2, du2, e2⟩ := turns_ok sc t w m n d0 one other h1 h2 l1 l2 ds a1 b1 c1 s71 s81 (.sh d) du1
    refine ⟨a2, b2, c2, s72, s82, tu2, du2, ?_⟩
    have g : gSet 9 d (LF sc (.sh (.lst [d0, .tup [nL one, nL other]])) t (.ow (sD a b c)) w m n s7 s8 tu du .no .no) = .ok (LF sc (.sh (.lst [d0, .tup [nL one, nL other]])) t (.ow (sD a b c)) w m n s7 s8 (.sh d) du .no .no) := rfl
    simp only [forL, g, e1]
    exact e2
theorem long_loop (sc r t w m n s7 s8 tu du : Sl) : ∀ (ds : List D) (a b c : Int), ∃ ys a' b' c', ys.length = ds.length ∧ (∀ y ∈ ys, At y) ∧ lcL [14] (gSet 14) (ret true) e5_law ds (LF sc r t (.ow (sD a b c)) w m n s7 s8 tu du .no .no) = .ok (ys, LF sc r t (.ow (sD a' b' c')) w m n s7 s8 tu du .no .no)
  | [], a, b, c => ⟨[], a, b, c, rfl, fun y hy => (by cases hy), rfl⟩
  | d :: ds, a, b, c => by
    obtain ⟨r1, hr1, a1, b1, c1, p1⟩ := pick_law (e := ret (.int 40)) (Γ := LF sc r t (.ow (sD a b c)) w m n s7 s8 tu du .no (.sh d)) (a := a) (b := b) (c := c) (k := 40) rfl rfl (by omega) (by omega)
    obtain ⟨ys, a2, b2, c2, hl, hy, e2⟩ := long_loop sc r t w m n s7 s8 tu du ds a1 b1 c1
    have g : gSet 14 d (LF sc r t (.ow (sD a b c)) w m n s7 s8 tu du .no .no) = .ok (LF sc r t (.ow (sD a b c)) w m n s7 s8 tu du .no (.sh d)) := rfl
    have hrt : ∀ Γ : Env, (DL.ret true : M Bool) Γ = .ok (true, Γ) := fun _ => rfl
    have e5 : e5_law (LF sc r t (.ow (sD a b c)) w m n s7 s8 tu du .no (.sh d)) = .ok (nI (3 + r1), LF sc r t (.ow (sD a1 b1 c1)) w m n s7 s8 tu du .no (.sh d)) := op_m rfl p1 (add_n 3 r1)
    have wp : wipeE (LF sc r t (.ow (sD a1 b1 c1)) w m n s7 s8 tu du .no (.sh d)) [14] = LF sc r t (.ow (sD a1 b1 c1)) w m n s7 s8 tu du .no .no := rfl
    refine ⟨nI (3 + r1) :: ys, a2, b2, c2, by rw [List.length_cons, List.length_cons, hl], fun y h => ?_, ?_⟩
    · rcases List.mem_cons.mp h with rfl | h
      · exact .int _
      · exact hy y h
    · simp only [lcL, g, hrt, if_true, e5, wp, e2, R.bind]
abbrev longM : M D := (mIf (mT (mOp dEq (mCallF F__law_pick [some 3, none] [] (mOwnA 3 (mCons (ret (.int 2)) mNil))) (ret (.int 0)))) (bnd (ret (.int 10)) fun x => lift (noexc (dListRg [x]))) (mOp dAddL (mOp dAddL (mLst (mCons (ret (.int 0)) mNil)) (mLc [14] (mRange1 (mCons (mOp dAdd (ret (.int 8)) (mCallF F__law_pick [some 3, none] [] (mOwnA 3 (mCons (ret (.int 60)) mNil)))) mNil)) (gSet 14) (ret true) e5_law)) (mLst (mCons (ret (.int 2)) mNil))))
theorem long_ok (sc r t w m n s7 s8 tu du : Sl) (a b c : Int) : ∃ d a' b' c', Lg d ∧ longM (LF sc r t (.ow (sD a b c)) w m n s7 s8 tu du .no .no) = .ok (d, LF sc r t (.ow (sD a' b' c')) w m n s7 s8 tu du .no .no) := by
  obtain ⟨r1, hr1, a1, b1, c1, p1⟩ := pick_law (e := ret (.int 2)) (Γ := LF sc r t (.ow (sD a b c)) w m n s7 s8 tu du .no .no) (a := a) (b := b) (c := c) (k := 2) rfl rfl (by omega) (by omega)
  have tt := tTx (op_m p1 (b := ret (.int 0)) rfl (eq_n r1 0))
  cases hd : decide (r1 = 0) with
  | true =>
    rw [hd] at tt
    refine ⟨.lst (rangeD 0 10), a1, b1, c1, ⟨rangeD 0 10, rfl, fun x hx => ?_, by rw [rangeD_len]; omega⟩, tIf_t tt rfl⟩
    unfold rangeD at hx
    rw [List.mem_map] at hx
    obtain ⟨k, _, rfl⟩ := hx
    exact .int _
  | false =>
    rw [hd] at tt
    obtain ⟨r2, hr2, a2, b2, c2, p2⟩ := pick_law (e := ret (.int 60)) (Γ := LF sc r t (.ow (sD a1 b1 c1)) w m n s7 s8 tu du .no .no) (a := a1) (b := b1) (c := c1) (k := 60) rfl rfl (by omega) (by omega)
    obtain ⟨ys, a3, b3, c3, hl, hy, e3⟩ := long_loop sc r t w m n s7 s8 tu du ((List.range (8 + r2)).map nI) a2 b2 c2
    rw [List.length_map, List.length_range] at hl
    have rg : mRange1 (mCons (mOp dAdd (ret (.int 8)) (mCallF F__law_pick [some 3, none] [] (mOwnA 3 (mCons (ret (.int 60)) mNil)))) mNil) (LF sc r t (.ow (sD a1 b1 c1)) w m n s7 s8 tu du .no .no) = .ok ((List.range (8 + r2)).map nI, LF sc r t (.ow (sD a2 b2 c2)) w m n s7 s8 tu du .no .no) := by
      have x := cons_m (a := mOp dAdd (ret (.int 8)) (mCallF F__law_pick [some 3, none] [] (mOwnA 3 (mCons (ret (.int 60)) mNil)))) (r := mNil) (op_m (x := nI 8) rfl p2 (add_n 8 r2)) rfl
      unfold mRange1 bnd
      simp (disch := omega) only [x, R.bind, lift, range1_n]
      rfl
    have lc := lc_m (vs := [14]) (g := gSet 14) (t := ret true) (e := e5_law) rg e3 (le_big (by omega))
    have l1 : dLst [.int 0] = .ok (.lst [.int 0]) := lst1 _
    have q1 : dAddL (.lst [.int 0]) (.lst ys) = .ok (.lst ([.int 0] ++ ys)) := addL_le (by show 1 + ys.length ≤ 16777216; omega)
    have q2 : dAddL (.lst ([.int 0] ++ ys)) (.lst [.int 2]) = .ok (.lst ([.int 0] ++ ys ++ [.int 2])) := addL_le (by rw [List.length_append]; show 1 + ys.length + 1 ≤ 16777216; omega)
    refine ⟨.lst ([.int 0] ++ ys ++ [.int 2]), a3, b3, c3, ⟨_, rfl, fun x hx => ?_, by rw [List.length_append, List.length_append]; show 10 ≤ 1 + ys.length + 1; omega⟩, tIf_f tt (op_m (op_m (lst_m (cons_m rfl rfl) l1) lc q1) (lst_m (cons_m rfl rfl) (lst1 _)) q2)⟩
    rw [List.mem_append, List.mem_append, List.mem_singleton, List.mem_singleton] at hx
    rcases hx with (rfl | hx) | rfl
    · exact .int _
    · exact hy x hx
    · exact .int _
theorem law_true (ns : List Int) (hn : ns.length ≤ 63) : ∃ fr outs, F_law [.frl (ns.map D.int)] = .ok ⟨fr, .bl true, outs⟩ := by
  let S : Sl := .sh (.frl (ns.map D.int))
  have e0 : (env0 N_law.length [false] [.frl (ns.map D.int)] : Env) = [S, .no, .no, .no, .no, .no, .no, .no, .no, .no, .no, .no, .no, .no, .no] := rfl
  obtain ⟨d0, x0, y0, P0, s3, s4, s5, s6, s7, s8, t0⟩ := b0_ok ns 0 (by omega) hn [] (by show 0 ≤ 10; omega) .no .no .no .no .no .no
  obtain ⟨d1, x1, y1, P1, s3', s4', s5', s6', s7', s8', t1⟩ := b0_ok ns 1 (by omega) hn [d0] (by show 1 ≤ 10; omega) s3 s4 s5 s6 s7 s8
  have z0 : dLst [] = .ok (.lst []) := lst_le (by show 0 ≤ 16777216; omega)
  have s1 : sAsg (mLst mNil) (gOwn 1) [S, .no, .no, .no, .no, .no, .no, .no, .no, .no, .no, .no, .no, .no, .no] = .nx (LE S (.ow (.lst [])) .no .no .no .no .no .no .no) := asg_nx (lst_m rfl z0) rfl
  have s2 : sFor (mRange1 (mCons (ret (.int 2)) mNil)) (gSet 2) b0_law (LE S (.ow (.lst [])) .no .no .no .no .no .no .no) = .nx (LE S (.ow (.lst [d0, d1])) (.sh (nI 1)) s3' s4' s5' s6' s7' s8') := by
    have g0 : gSet 2 (nI 0) (LE S (.ow (.lst [])) .no .no .no .no .no .no .no) = .ok (LE S (.ow (.lst [])) (.sh (nI 0)) .no .no .no .no .no .no) := rfl
    have t0' : b0_law (LE S (.ow (.lst [])) (.sh (nI 0)) .no .no .no .no .no .no) = .nx (LE S (.ow (.lst [d0])) (.sh (nI 0)) s3 s4 s5 s6 s7 s8) := t0
    have t1' : b0_law (LE S (.ow (.lst [d0])) (.sh (nI 1)) s3 s4 s5 s6 s7 s8) = .nx (LE S (.ow (.lst [d0, d1])) (.sh (nI 1)) s3' s4' s5' s6' s7' s8') := t1
    have g1 : gSet 2 (nI 1) (LE S (.ow (.lst [d0])) (.sh (nI 0)) s3 s4 s5 s6 s7 s8) = .ok (LE S (.ow (.lst [d0])) (.sh (nI 1)) s3 s4 s5 s6 s7 s8) := rfl
    refine for_eq (ds := [nI 0, nI 1]) (Γ1 := LE S (.ow (.lst [])) .no .no .no .no .no .no .no) ?_ ?_
    · simp (disch := omega) only [mOp, mCallB, mCall, mUn, mT, mAnd, mOr, mNot, mTru, mIf, mCons, mNil, mTup, mLst, mIxB, mSeq, seqD, mRange1, mRange2, ownAt, bnd, mVar, DL.ret, lift, R.bind, noexc, hardR, hard, hardL, toB, orBad, Sl.with, List.getElem?_cons_zero, List.getElem?_cons_succ, List.length_cons, List.length_nil, List.set_cons_zero, List.set_cons_succ, wipeE_cons, wipeE_nil, if_true, Bool.false_eq_true, if_false, Bool.and_self, Bool.and_true, Bool.true_and, hard_n, lit0, lit1, lit2, lit10, add_n, max_n, min_n, lt_n, le_n, gt_n, ge_n, eq_n, ne_n, len_n, len_t, sum_n, or_n, sub_n, mul_n, fdiv_n, mod_n, ix_n, range1_n, range2_n, nLs_len]
      rfl
    · simp only [forL, g0, t0', g1, t1']
  obtain ⟨ds3, hds3, it3⟩ : ∃ ds3 : List D, (∀ d ∈ ds3, ∃ b one other, Pr d b one other) ∧ mSeq (mOp dAddL (mVar 1) (mIf (mT (mOp dGt (mCallB dLen (mCons (mOp dIx (mOp dIx (mVar 1) (ret (.int 0))) (ret (.int 1))) mNil)) (ret (.int 8)))) (mLst (mCons (mOp dIx (mVar 1) (ret (.int 1))) mNil)) (mLst (mCons (mOp dIx (mVar 1) (ret (.int 0))) mNil)))) (LE S (.ow (.lst [d0, d1])) (.sh (nI 1)) s3' s4' s5' s6' s7' s8') = .ok (ds3, LE S (.sh (.lst [d0, d1])) (.sh (nI 1)) s3' s4' s5' s6' s7' s8') := by
    have hd0 := P0.eq
    have m1 : mVar 1 (LE S (.ow (.lst [d0, d1])) (.sh (nI 1)) s3' s4' s5' s6' s7' s8') = .ok (.lst [d0, d1], LE S (.sh (.lst [d0, d1])) (.sh (nI 1)) s3' s4' s5' s6' s7' s8') := rfl
    have j0 : dIx (.lst [d0, d1]) (nI 0) = .ok d0 := rfl
    have j1 : dIx (.lst [d0, d1]) (nI 1) = .ok d1 := rfl
    have j2 : dIx d0 (nI 1) = .ok (nL y0) := by rw [hd0]; rfl
    have tt := tT (op_m (f := dGt) (a := mCallB dLen (mCons (mOp dIx (mOp dIx (mVar 1) (ret (.int 0))) (ret (.int 1))) mNil)) (b := ret (.int 8)) (Γ := LE S (.sh (.lst [d0, d1])) (.sh (nI 1)) s3' s4' s5' s6' s7' s8') (Γ1 := LE S (.sh (.lst [d0, d1])) (.sh (nI 1)) s3' s4' s5' s6' s7' s8') (callB_m (cons_m (op_m (op_m rfl rfl j0) rfl j2) rfl) (lenS (.inl rfl)) rfl) rfl (gt_n y0.length 8))
    have cat : ∀ x : D, dAddL (.lst [d0, d1]) (.lst [x]) = .ok (.lst [d0, d1, x]) := fun x => addL_le (by show 2 + 1 ≤ 16777216; omega)
    have fin : ∀ x : D, mIf (mT (mOp dGt (mCallB dLen (mCons (mOp dIx (mOp dIx (mVar 1) (ret (.int 0))) (ret (.int 1))) mNil)) (ret (.int 8)))) (mLst (mCons (mOp dIx (mVar 1) (ret (.int 1))) mNil)) (mLst (mCons (mOp dIx (mVar 1) (ret (.int 0))) mNil)) (LE S (.sh (.lst [d0, d1])) (.sh (nI 1)) s3' s4' s5' s6' s7' s8') = .ok (.lst [x], LE S (.sh (.lst [d0, d1])) (.sh (nI 1)) s3' s4' s5' s6' s7' s8') → mSeq (mOp dAddL (mVar 1) (mIf (mT (mOp dGt (mCallB dLen (mCons (mOp dIx (mOp dIx (mVar 1) (ret (.int 0))) (ret (.int 1))) mNil)) (ret (.int 8)))) (mLst (mCons (mOp dIx (mVar 1) (ret (.int 1))) mNil)) (mLst (mCons (mOp dIx (mVar 1) (ret (.int 0))) mNil)))) (LE S (.ow (.lst [d0, d1])) (.sh (nI 1)) s3' s4' s5' s6' s7' s8') = .ok ([d0, d1, x], LE S (.sh (.lst [d0, d1])) (.sh (nI 1)) s3' s4' s5' s6' s7' s8') := fun x h => by
      have := op_m m1 h (cat x)
      unfold mSeq bnd
      simp only [this, R.bind]
      rfl
    have h0 : ∃ b one other, Pr d0 b one other := ⟨_, _, _, P0⟩
    have h1 : ∃ b one other, Pr d1 b one other := ⟨_, _, _, P1⟩
    cases hd : decide (8 < y0.length) with
    | true =>
      rw [hd] at tt
      refine ⟨[d0, d1, d1], fun d hd => ?_, fin d1 (tIf_t tt (lst_m (cons_m (op_m rfl rfl j1) rfl) (lst1 _)))⟩
      simp only [List.mem_cons, List.not_mem_nil, or_false] at hd
      rcases hd with rfl | rfl | rfl
      · exact h0
      · exact h1
      · exact h1
    | false =>
      rw [hd] at tt
      refine ⟨[d0, d1, d0], fun d hd => ?_, fin d0 (tIf_f tt (lst_m (cons_m (op_m rfl rfl j0) rfl) (lst1 _)))⟩
      simp only [List.mem_cons, List.not_mem_nil, or_false] at hd
      rcases hd with rfl | rfl | rfl
      · exact h0
      · exact h1
      · exact h0
  obtain ⟨u7, u8, l3⟩ := r_loop S (.sh (.lst [d0, d1])) (.sh (nI 1)) s3' s4' s5' s6' ds3 s7' s8' hds3
  have s3e := for_eq it3 l3
  obtain ⟨a, b, c, src⟩ := source_ok ns 2 (by omega) hn
  have s4e : sAsg (mCallN F__law_source [none, none] (mCons (mVar 0) (mCons (ret (.int 2)) mNil))) (gOwn 3) (LE S (.sh (.lst [d0, d1])) (.sh (nI 1)) s3' s4' s5' s6' u7 u8) = .nx (LF S (.sh (.lst [d0, d1])) (.sh (nI 1)) (.ow (sD a b c)) s4' s5' s6' u7 u8 .no .no .no .no) :=
    asg_nx (callN_m (Γ1 := LE S (.sh (.lst [d0, d1])) (.sh (nI 1)) s3' s4' s5' s6' u7 u8) rfl src) rfl
  obtain ⟨hd1, m1, n1, Sx, Sy, hm0, hn0, _, _, _, h6⟩ := P1
  subst hd1
  obtain ⟨hm6, hn6⟩ := h6 rfl
  have lx := Sx.len
  have ly := Sy.len
  have r5 : mRange1 (mCons (ret (.int 6)) mNil) (LF S (.sh (.lst [d0, .tup [nL x1, nL y1]])) (.sh (nI 1)) (.ow (sD a b c)) s4' s5' s6' u7 u8 .no .no .no .no) = .ok (rangeD 0 6, LF S (.sh (.lst [d0, .tup [nL x1, nL y1]])) (.sh (nI 1)) (.ow (sD a b c)) s4' s5' s6' u7 u8 .no .no .no .no) := range1_m (j := 6) rfl (by omega) (by omega)
  obtain ⟨a2, b2, c2, v7, v8, tu, du, l5⟩ := turns_ok S (.sh (nI 1)) s4' s5' s6' d0 x1 y1 (by omega) (by omega) (by omega) (by omega) (rangeD 0 6) a b c u7 u8 .no .no
  have s5e := for_eq r5 l5
  obtain ⟨lg, a3, b3, c3, hlg, e6⟩ := long_ok S (.sh (.lst [d0, .tup [nL x1, nL y1]])) (.sh (nI 1)) s4' s5' s6' v7 v8 tu du a2 b2 c2
  have s6e : sAsg longM (gSet 11) (LF S (.sh (.lst [d0, .tup [nL x1, nL y1]])) (.sh (nI 1)) (.ow (sD a2 b2 c2)) s4' s5' s6' v7 v8 tu du .no .no) = .nx (LH S (.sh (.lst [d0, .tup [nL x1, nL y1]])) (.sh (nI 1)) (.ow (sD a3 b3 c3)) s4' s5' s6' v7 v8 tu du (.sh lg) .no) := asg_nx e6 rfl
  have ixr : mOp dIx (mOp dIx (mVar 1) (ret (.int 1))) (ret (.int 0)) (LH S (.sh (.lst [d0, .tup [nL x1, nL y1]])) (.sh (nI 1)) (.ow (sD a3 b3 c3)) s4' s5' s6' v7 v8 tu du (.sh lg) .no) = .ok (nL x1, LH S (.sh (.lst [d0, .tup [nL x1, nL y1]])) (.sh (nI 1)) (.ow (sD a3 b3 c3)) s4' s5' s6' v7 v8 tu du (.sh lg) .no) := rfl
  obtain ⟨sh, o, k, a4, b4, c4, e7, hsh, _⟩ := spoil_m (a := a3) (b := b3) (c := c3) (L := x1) rfl ixr (by omega) (by omega)
  have s7e : sAsg (mCallF F__law_b_spoilt [some 3, none] [] (mOwnA 3 (mCons (mOp dIx (mOp dIx (mVar 1) (ret (.int 1))) (ret (.int 0))) mNil))) (gSet 12) (LH S (.sh (.lst [d0, .tup [nL x1, nL y1]])) (.sh (nI 1)) (.ow (sD a3 b3 c3)) s4' s5' s6' v7 v8 tu du (.sh lg) .no) = .nx (LH S (.sh (.lst [d0, .tup [nL x1, nL y1]])) (.sh (nI 1)) (.ow (sD a4 b4 c4)) s4' s5' s6' v7 v8 tu du (.sh lg) (.sh sh)) := asg_nx e7 rfl
  obtain ⟨ol, nl, al, hnl⟩ := hlg.arg
  have as := hsh.arg
  have l3' : dLst [.tup [lg, sh], .tup [sh, lg], .tup [lg, lg]] = .ok (.lst [.tup [lg, sh], .tup [sh, lg], .tup [lg, lg]]) := lst_le (by show 3 ≤ 16777216; omega)
  have s8e : sFor (mSeq (mLst (mCons (mTup (mCons (mVar 11) (mCons (mVar 12) mNil))) (mCons (mTup (mCons (mVar 12) (mCons (mVar 11) mNil))) (mCons (mTup (mCons (mVar 11) (mCons (mVar 11) mNil))) mNil))))) (gUn 2 (gsCons (gSet 7) (gsCons (gSet 8) gsNil))) b6_law (LH S (.sh (.lst [d0, .tup [nL x1, nL y1]])) (.sh (nI 1)) (.ow (sD a4 b4 c4)) s4' s5' s6' v7 v8 tu du (.sh lg) (.sh sh)) = .nx (LH S (.sh (.lst [d0, .tup [nL x1, nL y1]])) (.sh (nI 1)) (.ow (sD a4 b4 c4)) s4' s5' s6' (.sh lg) (.sh lg) tu du (.sh lg) (.sh sh)) := by
    refine for_eq (ds := [.tup [lg, sh], .tup [sh, lg], .tup [lg, lg]]) (Γ1 := LH S (.sh (.lst [d0, .tup [nL x1, nL y1]])) (.sh (nI 1)) (.ow (sD a4 b4 c4)) s4' s5' s6' v7 v8 tu du (.sh lg) (.sh sh)) ?_ ?_
    · have := lst_m (a := mCons (mTup (mCons (mVar 11) (mCons (mVar 12) mNil))) (mCons (mTup (mCons (mVar 12) (mCons (mVar 11) mNil))) (mCons (mTup (mCons (mVar 11) (mCons (mVar 11) mNil))) mNil))) (Γ := LH S (.sh (.lst [d0, .tup [nL x1, nL y1]])) (.sh (nI 1)) (.ow (sD a4 b4 c4)) s4' s5' s6' v7 v8 tu du (.sh lg) (.sh sh)) (Γ1 := LH S (.sh (.lst [d0, .tup [nL x1, nL y1]])) (.sh (nI 1)) (.ow (sD a4 b4 c4)) s4' s5' s6' v7 v8 tu du (.sh lg) (.sh sh)) (cons_m (tup_m (cons_m rfl (cons_m rfl rfl)) (tup2 _ _)) (cons_m (tup_m (cons_m rfl (cons_m rfl rfl)) (tup2 _ _)) (cons_m (tup_m (cons_m rfl (cons_m rfl rfl)) (tup2 _ _)) rfl))) l3'
      unfold mSeq bnd
      simp only [this, R.bind]
      rfl
    · have g : ∀ x y : D, ∀ s7 s8 : Sl, gUn 2 (gsCons (gSet 7) (gsCons (gSet 8) gsNil)) (.tup [x, y]) (LH S (.sh (.lst [d0, .tup [nL x1, nL y1]])) (.sh (nI 1)) (.ow (sD a4 b4 c4)) s4' s5' s6' s7 s8 tu du (.sh lg) (.sh sh)) = .ok (LH S (.sh (.lst [d0, .tup [nL x1, nL y1]])) (.sh (nI 1)) (.ow (sD a4 b4 c4)) s4' s5' s6' (.sh x) (.sh y) tu du (.sh lg) (.sh sh)) := fun _ _ _ _ => rfl
      have q1 := b6_ok S (.sh (.lst [d0, .tup [nL x1, nL y1]])) (.sh (nI 1)) (.ow (sD a4 b4 c4)) s4' s5' s6' tu du (.sh lg) (.sh sh) al as (by omega)
      have q2 := b6_ok S (.sh (.lst [d0, .tup [nL x1, nL y1]])) (.sh (nI 1)) (.ow (sD a4 b4 c4)) s4' s5' s6' tu du (.sh lg) (.sh sh) as al (by omega)
      have q3 := b6_ok S (.sh (.lst [d0, .tup [nL x1, nL y1]])) (.sh (nI 1)) (.ow (sD a4 b4 c4)) s4' s5' s6' tu du (.sh lg) (.sh sh) al al (by omega)
      simp only [forL, g, q1, q2, q3]
  refine ⟨false, [.non], run_rt (Γ := LH S (.sh (.lst [d0, .tup [nL x1, nL y1]])) (.sh (nI 1)) (.ow (sD a4 b4 c4)) s4' s5' s6' (.sh lg) (.sh lg) tu du (.sh lg) (.sh sh)) ?_ rfl⟩
  rw [e0]
  exact seq_nx s1 (seq_nx s2 (seq_nx s3e (seq_nx s4e (seq_nx s5e (seq_nx s6e (seq_nx s7e (seq_nx s8e rfl)))))))
end K13
namespace K13
open PySem L2 DL PyProof.Rows
abbrev sI_TooMany : Stmt := inClass (top 2) 0
theorem scI_TooMany : FnScope ["self", "what"] ["self", "what"] (defScope sI_TooMany) := ⟨rfl, rfl, rfl, by decide +kernel, rfl, by decide +kernel, by decide +kernel⟩
abbrev sI_BadStair : Stmt := inClass (top 3) 0
theorem scI_BadStair : FnScope ["self", "kind", "place"] ["self", "kind", "place"] (defScope sI_BadStair) := ⟨rfl, rfl, rfl, by decide +kernel, rfl, by decide +kernel, by decide +kernel⟩
theorem all_mk {l : PySem.W.OpenLaw} {w : World} {K : PySem.W.Frag} {h : Heap} {mg : Str → Option Value} {fa f0 f1 f2 f3 f4 f5 f6 f7 f8 f9 f10 f11 f12 f13 f14 f15 f16 f17 f18 f19 f20 f21 f22 f23 f24 f25 f26 C0 C1 C2 i0 i1 : Addr} (X : K.In h) (G : h.Ns mainGlobals mg) (hfa : mg "law" = some (.ref fa))
    {of0 wf0 df0 pf0 gf0 tf0 : Value} {ef0 nf0 : Option Addr} {sf0 : Array (Option Value)}
    {of1 wf1 df1 pf1 gf1 tf1 : Value} {ef1 nf1 : Option Addr} {sf1 : Array (Option Value)}
    {of2 wf2 df2 pf2 gf2 tf2 : Value} {ef2 nf2 : Option Addr} {sf2 : Array (Option Value)}
    {of3 wf3 df3 pf3 gf3 tf3 : Value} {ef3 nf3 : Option Addr} {sf3 : Array (Option Value)}
    {of4 wf4 df4 pf4 gf4 tf4 : Value} {ef4 nf4 : Option Addr} {sf4 : Array (Option Value)}
    {of5 wf5 df5 pf5 gf5 tf5 : Value} {ef5 nf5 : Option Addr} {sf5 : Array (Option Value)}
    {of6 wf6 df6 pf6 gf6 tf6 : Value} {ef6 nf6 : Option Addr} {sf6 : Array (Option Value)}
    {of7 wf7 df7 pf7 gf7 tf7 : Value} {ef7 nf7 : Option Addr} {sf7 : Array (Option Value)}
    {of8 wf8 df8 pf8 gf8 tf8 : Value} {ef8 nf8 : Option Addr} {sf8 : Array (Option Value)}
    {of9 wf9 df9 pf9 gf9 tf9 : Value} {ef9 nf9 : Option Addr} {sf9 : Array (Option Value)}
    {of10 wf10 df10 pf10 gf10 tf10 : Value} {ef10 nf10 : Option Addr} {sf10 : Array (Option Value)}
    {of11 wf11 df11 pf11 gf11 tf11 : Value} {ef11 nf11 : Option Addr} {sf11 : Array (Option Value)}
    {of12 wf12 df12 pf12 gf12 tf12 : Value} {ef12 nf12 : Option Addr} {sf12 : Array (Option Value)}
    {of13 wf13 df13 pf13 gf13 tf13 : Value} {ef13 nf13 : Option Addr} {sf13 : Array (Option Value)}
    {of14 wf14 df14 pf14 gf14 tf14 : Value} {ef14 nf14 : Option Addr} {sf14 : Array (Option Value)}
    {of15 wf15 df15 pf15 gf15 tf15 : Value} {ef15 nf15 : Option Addr} {sf15 : Array (Option Value)}
    {of16 wf16 df16 pf16 gf16 tf16 : Value} {ef16 nf16 : Option Addr} {sf16 : Array (Option Value)}
    {of17 wf17 df17 pf17 gf17 tf17 : Value} {ef17 nf17 : Option Addr} {sf17 : Array (Option Value)}
    {of18 wf18 df18 pf18 gf18 tf18 : Value} {ef18 nf18 : Option Addr} {sf18 : Array (Option Value)}
    {of19 wf19 df19 pf19 gf19 tf19 : Value} {ef19 nf19 : Option Addr} {sf19 : Array (Option Value)}
    {of20 wf20 df20 pf20 gf20 tf20 : Value} {ef20 nf20 : Option Addr} {sf20 : Array (Option Value)}
    {of21 wf21 df21 pf21 gf21 tf21 : Value} {ef21 nf21 : Option Addr} {sf21 : Array (Option Value)}
    {of22 wf22 df22 pf22 gf22 tf22 : Value} {ef22 nf22 : Option Addr} {sf22 : Array (Option Value)}
    {of23 wf23 df23 pf23 gf23 tf23 : Value} {ef23 nf23 : Option Addr} {sf23 : Array (Option Value)}
    {of24 wf24 df24 pf24 gf24 tf24 : Value} {ef24 nf24 : Option Addr} {sf24 : Array (Option Value)}
    {of25 wf25 df25 pf25 gf25 tf25 : Value} {ef25 nf25 : Option Addr} {sf25 : Array (Option Value)}
    {of26 wf26 df26 pf26 gf26 tf26 : Value} {ef26 nf26 : Option Addr} {sf26 : Array (Option Value)}
    {nmC0 qC0 : Str} {NC0 : Addr} {bsC0 : List Value} {snC0 : List Str} {suC0 : List Value} {abC0 : Bool} {coC0 : Option Bool} {ddC0 : Option Addr} {x0C0 x1C0 x2C0 x3C0 x5C0 : Option Value}
    {oi0 wi0 di0 pi0 gi0 ti0 : Value} {ei0 ni0 : Option Addr} {si0 : Array (Option Value)}
    {nmC1 qC1 : Str} {NC1 : Addr} {bsC1 : List Value} {snC1 : List Str} {suC1 : List Value} {abC1 : Bool} {coC1 : Option Bool} {ddC1 : Option Addr} {x0C1 x1C1 x2C1 x3C1 x5C1 : Option Value}
    {oi1 wi1 di1 pi1 gi1 ti1 : Value} {ei1 ni1 : Option Addr} {si1 : Array (Option Value)}
    {tkSEARCH : Tok}
    (af0 : PySem.W.nsIn K mainGlobals "check_many" = some (some (.ref f0)))
    (lf0 : K.lookup f0 = some ⟨of0, ef0, .func (PySem.W.fnOf "check_many" "check_many" (defArgs s_check_many) (defBody s_check_many) (defScope s_check_many) .none wf0 df0 pf0 nf0 gf0 tf0), sf0⟩)
    (cf0 : PySem.W.codeIn K gf0 "check_many" = true)
    (kf0 : PySem.W.keepIn K (.ref f0) = true)
    (af1 : PySem.W.nsIn K mainGlobals "is_integer" = some (some (.ref f1)))
    (lf1 : K.lookup f1 = some ⟨of1, ef1, .func (PySem.W.fnOf "is_integer" "is_integer" (defArgs s_is_integer) (defBody s_is_integer) (defScope s_is_integer) .none wf1 df1 pf1 nf1 gf1 tf1), sf1⟩)
    (cf1 : PySem.W.codeIn K gf1 "is_integer" = true)
    (kf1 : PySem.W.keepIn K (.ref f1) = true)
    (af2 : PySem.W.nsIn K mainGlobals "stair_fault" = some (some (.ref f2)))
    (lf2 : K.lookup f2 = some ⟨of2, ef2, .func (PySem.W.fnOf "stair_fault" "stair_fault" (defArgs s_stair_fault) (defBody s_stair_fault) (defScope s_stair_fault) .none wf2 df2 pf2 nf2 gf2 tf2), sf2⟩)
    (cf2 : PySem.W.codeIn K gf2 "stair_fault" = true)
    (kf2 : PySem.W.keepIn K (.ref f2) = true)
    (af3 : PySem.W.nsIn K mainGlobals "row_length" = some (some (.ref f3)))
    (lf3 : K.lookup f3 = some ⟨of3, ef3, .func (PySem.W.fnOf "row_length" "row_length" (defArgs s_row_length) (defBody s_row_length) (defScope s_row_length) .none wf3 df3 pf3 nf3 gf3 tf3), sf3⟩)
    (cf3 : PySem.W.codeIn K gf3 "row_length" = true)
    (kf3 : PySem.W.keepIn K (.ref f3) = true)
    (af4 : PySem.W.nsIn K mainGlobals "check_stair" = some (some (.ref f4)))
    (lf4 : K.lookup f4 = some ⟨of4, ef4, .func (PySem.W.fnOf "check_stair" "check_stair" (defArgs s_check_stair) (defBody s_check_stair) (defScope s_check_stair) .none wf4 df4 pf4 nf4 gf4 tf4), sf4⟩)
    (cf4 : PySem.W.codeIn K gf4 "check_stair" = true)
    (kf4 : PySem.W.keepIn K (.ref f4) = true)
    (af5 : PySem.W.nsIn K mainGlobals "falling_rows" = some (some (.ref f5)))
    (lf5 : K.lookup f5 = some ⟨of5, ef5, .func (PySem.W.fnOf "falling_rows" "falling_rows" (defArgs s_falling_rows) (defBody s_falling_rows) (defScope s_falling_rows) .none wf5 df5 pf5 nf5 gf5 tf5), sf5⟩)
    (cf5 : PySem.W.codeIn K gf5 "falling_rows" = true)
    (kf5 : PySem.W.keepIn K (.ref f5) = true)
    (af6 : PySem.W.nsIn K mainGlobals "two_places" = some (some (.ref f6)))
    (lf6 : K.lookup f6 = some ⟨of6, ef6, .func (PySem.W.fnOf "two_places" "two_places" (defArgs s_two_places) (defBody s_two_places) (defScope s_two_places) .none wf6 df6 pf6 nf6 gf6 tf6), sf6⟩)
    (cf6 : PySem.W.codeIn K gf6 "two_places" = true)
    (kf6 : PySem.W.keepIn K (.ref f6) = true)
    (af7 : PySem.W.nsIn K mainGlobals "_law_source" = some (some (.ref f7)))
    (lf7 : K.lookup f7 = some ⟨of7, ef7, .func (PySem.W.fnOf "_law_source" "_law_source" (defArgs s__law_source) (defBody s__law_source) (defScope s__law_source) .none wf7 df7 pf7 nf7 gf7 tf7), sf7⟩)
    (cf7 : PySem.W.codeIn K gf7 "_law_source" = true)
    (kf7 : PySem.W.keepIn K (.ref f7) = true)
    (af8 : PySem.W.nsIn K mainGlobals "_law_pick" = some (some (.ref f8)))
    (lf8 : K.lookup f8 = some ⟨of8, ef8, .func (PySem.W.fnOf "_law_pick" "_law_pick" (defArgs s__law_pick) (defBody s__law_pick) (defScope s__law_pick) .none wf8 df8 pf8 nf8 gf8 tf8), sf8⟩)
    (cf8 : PySem.W.codeIn K gf8 "_law_pick" = true)
    (kf8 : PySem.W.keepIn K (.ref f8) = true)
    (af9 : PySem.W.nsIn K mainGlobals "_law_one" = some (some (.ref f9)))
    (lf9 : K.lookup f9 = some ⟨of9, ef9, .func (PySem.W.fnOf "_law_one" "_law_one" (defArgs s__law_one) (defBody s__law_one) (defScope s__law_one) .none wf9 df9 pf9 nf9 gf9 tf9), sf9⟩)
    (cf9 : PySem.W.codeIn K gf9 "_law_one" = true)
    (kf9 : PySem.W.keepIn K (.ref f9) = true)
    (af10 : PySem.W.nsIn K mainGlobals "_law_draw_stair" = some (some (.ref f10)))
    (lf10 : K.lookup f10 = some ⟨of10, ef10, .func (PySem.W.fnOf "_law_draw_stair" "_law_draw_stair" (defArgs s__law_draw_stair) (defBody s__law_draw_stair) (defScope s__law_draw_stair) .none wf10 df10 pf10 nf10 gf10 tf10), sf10⟩)
    (cf10 : PySem.W.codeIn K gf10 "_law_draw_stair" = true)
    (kf10 : PySem.W.keepIn K (.ref f10) = true)
    (af11 : PySem.W.nsIn K mainGlobals "_law_place_pairs" = some (some (.ref f11)))
    (lf11 : K.lookup f11 = some ⟨of11, ef11, .func (PySem.W.fnOf "_law_place_pairs" "_law_place_pairs" (defArgs s__law_place_pairs) (defBody s__law_place_pairs) (defScope s__law_place_pairs) .none wf11 df11 pf11 nf11 gf11 tf11), sf11⟩)
    (cf11 : PySem.W.codeIn K gf11 "_law_place_pairs" = true)
    (kf11 : PySem.W.keepIn K (.ref f11) = true)
    (af12 : PySem.W.nsIn K mainGlobals "_law_plain_w" = some (some (.ref f12)))
    (lf12 : K.lookup f12 = some ⟨of12, ef12, .func (PySem.W.fnOf "_law_plain_w" "_law_plain_w" (defArgs s__law_plain_w) (defBody s__law_plain_w) (defScope s__law_plain_w) .none wf12 df12 pf12 nf12 gf12 tf12), sf12⟩)
    (cf12 : PySem.W.codeIn K gf12 "_law_plain_w" = true)
    (kf12 : PySem.W.keepIn K (.ref f12) = true)
    (af13 : PySem.W.nsIn K mainGlobals "_law_place_w" = some (some (.ref f13)))
    (lf13 : K.lookup f13 = some ⟨of13, ef13, .func (PySem.W.fnOf "_law_place_w" "_law_place_w" (defArgs s__law_place_w) (defBody s__law_place_w) (defScope s__law_place_w) .none wf13 df13 pf13 nf13 gf13 tf13), sf13⟩)
    (cf13 : PySem.W.codeIn K gf13 "_law_place_w" = true)
    (kf13 : PySem.W.keepIn K (.ref f13) = true)
    (af14 : PySem.W.nsIn K mainGlobals "_law_layout" = some (some (.ref f14)))
    (lf14 : K.lookup f14 = some ⟨of14, ef14, .func (PySem.W.fnOf "_law_layout" "_law_layout" (defArgs s__law_layout) (defBody s__law_layout) (defScope s__law_layout) .none wf14 df14 pf14 nf14 gf14 tf14), sf14⟩)
    (cf14 : PySem.W.codeIn K gf14 "_law_layout" = true)
    (kf14 : PySem.W.keepIn K (.ref f14) = true)
    (af15 : PySem.W.nsIn K mainGlobals "_law_lots" = some (some (.ref f15)))
    (lf15 : K.lookup f15 = some ⟨of15, ef15, .func (PySem.W.fnOf "_law_lots" "_law_lots" (defArgs s__law_lots) (defBody s__law_lots) (defScope s__law_lots) .none wf15 df15 pf15 nf15 gf15 tf15), sf15⟩)
    (cf15 : PySem.W.codeIn K gf15 "_law_lots" = true)
    (kf15 : PySem.W.keepIn K (.ref f15) = true)
    (af16 : PySem.W.nsIn K mainGlobals "_law_lots_of" = some (some (.ref f16)))
    (lf16 : K.lookup f16 = some ⟨of16, ef16, .func (PySem.W.fnOf "_law_lots_of" "_law_lots_of" (defArgs s__law_lots_of) (defBody s__law_lots_of) (defScope s__law_lots_of) .none wf16 df16 pf16 nf16 gf16 tf16), sf16⟩)
    (cf16 : PySem.W.codeIn K gf16 "_law_lots_of" = true)
    (kf16 : PySem.W.keepIn K (.ref f16) = true)
    (af17 : PySem.W.nsIn K mainGlobals "_law_stair" = some (some (.ref f17)))
    (lf17 : K.lookup f17 = some ⟨of17, ef17, .func (PySem.W.fnOf "_law_stair" "_law_stair" (defArgs s__law_stair) (defBody s__law_stair) (defScope s__law_stair) .none wf17 df17 pf17 nf17 gf17 tf17), sf17⟩)
    (cf17 : PySem.W.codeIn K gf17 "_law_stair" = true)
    (kf17 : PySem.W.keepIn K (.ref f17) = true)
    (af18 : PySem.W.nsIn K mainGlobals "_law_same" = some (some (.ref f18)))
    (lf18 : K.lookup f18 = some ⟨of18, ef18, .func (PySem.W.fnOf "_law_same" "_law_same" (defArgs s__law_same) (defBody s__law_same) (defScope s__law_same) .none wf18 df18 pf18 nf18 gf18 tf18), sf18⟩)
    (cf18 : PySem.W.codeIn K gf18 "_law_same" = true)
    (kf18 : PySem.W.keepIn K (.ref f18) = true)
    (af19 : PySem.W.nsIn K mainGlobals "_law_fault" = some (some (.ref f19)))
    (lf19 : K.lookup f19 = some ⟨of19, ef19, .func (PySem.W.fnOf "_law_fault" "_law_fault" (defArgs s__law_fault) (defBody s__law_fault) (defScope s__law_fault) .none wf19 df19 pf19 nf19 gf19 tf19), sf19⟩)
    (cf19 : PySem.W.codeIn K gf19 "_law_fault" = true)
    (kf19 : PySem.W.keepIn K (.ref f19) = true)
    (af20 : PySem.W.nsIn K mainGlobals "_law_b_falling" = some (some (.ref f20)))
    (lf20 : K.lookup f20 = some ⟨of20, ef20, .func (PySem.W.fnOf "_law_b_falling" "_law_b_falling" (defArgs s__law_b_falling) (defBody s__law_b_falling) (defScope s__law_b_falling) .none wf20 df20 pf20 nf20 gf20 tf20), sf20⟩)
    (cf20 : PySem.W.codeIn K gf20 "_law_b_falling" = true)
    (kf20 : PySem.W.keepIn K (.ref f20) = true)
    (af21 : PySem.W.nsIn K mainGlobals "_law_b_two_told" = some (some (.ref f21)))
    (lf21 : K.lookup f21 = some ⟨of21, ef21, .func (PySem.W.fnOf "_law_b_two_told" "_law_b_two_told" (defArgs s__law_b_two_told) (defBody s__law_b_two_told) (defScope s__law_b_two_told) .none wf21 df21 pf21 nf21 gf21 tf21), sf21⟩)
    (cf21 : PySem.W.codeIn K gf21 "_law_b_two_told" = true)
    (kf21 : PySem.W.keepIn K (.ref f21) = true)
    (af22 : PySem.W.nsIn K mainGlobals "_law_b_two_due" = some (some (.ref f22)))
    (lf22 : K.lookup f22 = some ⟨of22, ef22, .func (PySem.W.fnOf "_law_b_two_due" "_law_b_two_due" (defArgs s__law_b_two_due) (defBody s__law_b_two_due) (defScope s__law_b_two_due) .none wf22 df22 pf22 nf22 gf22 tf22), sf22⟩)
    (cf22 : PySem.W.codeIn K gf22 "_law_b_two_due" = true)
    (kf22 : PySem.W.keepIn K (.ref f22) = true)
    (af23 : PySem.W.nsIn K mainGlobals "_law_b_two_right" = some (some (.ref f23)))
    (lf23 : K.lookup f23 = some ⟨of23, ef23, .func (PySem.W.fnOf "_law_b_two_right" "_law_b_two_right" (defArgs s__law_b_two_right) (defBody s__law_b_two_right) (defScope s__law_b_two_right) .none wf23 df23 pf23 nf23 gf23 tf23), sf23⟩)
    (cf23 : PySem.W.codeIn K gf23 "_law_b_two_right" = true)
    (kf23 : PySem.W.keepIn K (.ref f23) = true)
    (af24 : PySem.W.nsIn K mainGlobals "_law_b_wrong" = some (some (.ref f24)))
    (lf24 : K.lookup f24 = some ⟨of24, ef24, .func (PySem.W.fnOf "_law_b_wrong" "_law_b_wrong" (defArgs s__law_b_wrong) (defBody s__law_b_wrong) (defScope s__law_b_wrong) .none wf24 df24 pf24 nf24 gf24 tf24), sf24⟩)
    (cf24 : PySem.W.codeIn K gf24 "_law_b_wrong" = true)
    (kf24 : PySem.W.keepIn K (.ref f24) = true)
    (af25 : PySem.W.nsIn K mainGlobals "_law_b_spoilt" = some (some (.ref f25)))
    (lf25 : K.lookup f25 = some ⟨of25, ef25, .func (PySem.W.fnOf "_law_b_spoilt" "_law_b_spoilt" (defArgs s__law_b_spoilt) (defBody s__law_b_spoilt) (defScope s__law_b_spoilt) .none wf25 df25 pf25 nf25 gf25 tf25), sf25⟩)
    (cf25 : PySem.W.codeIn K gf25 "_law_b_spoilt" = true)
    (kf25 : PySem.W.keepIn K (.ref f25) = true)
    (af26 : PySem.W.nsIn K mainGlobals "law" = some (some (.ref f26)))
    (lf26 : K.lookup f26 = some ⟨of26, ef26, .func (PySem.W.fnOf "law" "law" (defArgs s_law) (defBody s_law) (defScope s_law) .none wf26 df26 pf26 nf26 gf26 tf26), sf26⟩)
    (cf26 : PySem.W.codeIn K gf26 "law" = true)
    (kf26 : PySem.W.keepIn K (.ref f26) = true)
    (aC0 : PySem.W.nsIn K mainGlobals "TooMany" = some (some (.ref C0)))
    (icC0 : PySem.W.isClsIn K C0 = true)
    (ecC0 : PySem.W.subIn K (.ref C0) (.type "BaseException") = some true)
    (tcC0 : PySem.W.typeIn K (.ref C0) = some (.type "type"))
    (aC1 : PySem.W.nsIn K mainGlobals "BadStair" = some (some (.ref C1)))
    (icC1 : PySem.W.isClsIn K C1 = true)
    (ecC1 : PySem.W.subIn K (.ref C1) (.type "BaseException") = some true)
    (tcC1 : PySem.W.typeIn K (.ref C1) = some (.type "type"))
    (aC2 : PySem.W.nsIn K mainGlobals "BesideError" = some (some (.ref C2)))
    (icC2 : PySem.W.isClsIn K C2 = true)
    (ecC2 : PySem.W.subIn K (.ref C2) (.type "BaseException") = some true)
    (tcC2 : PySem.W.typeIn K (.ref C2) = some (.type "type"))
    (xC0 : K.lookup C0 = some (excClassObj nmC0 qC0 C0 NC0 bsC0 [.ref C2, .type "ValueError", .type "Exception", .type "BaseException", .type "object"] true snC0 suC0 abC0 coC0 ddC0 x0C0 x1C0 x2C0 x3C0 x5C0 "ValueError.__new__"))
    (saC0 : PySem.W.findIn K (.ref C0) "__setattr__" = some (some (.builtin "object.__setattr__")))
    (kcC0 : PySem.W.keepIn K (.ref C0) = true)
    (hdC0 : PySem.W.hasDictIn K C0 = true)
    (gaC0 : PySem.W.findIn K (.ref C0) "__getattribute__" = some (some (.builtin "BaseException.__getattribute__")))
    (ggC0 : PySem.W.findIn K (.ref C0) "__getattr__" = some none)
    (ccC0 : PySem.W.findIn K (.ref C0) "__class__" = some (some (.builtin "object.__class__")))
    (obC0 : PySem.W.mroIn K C0 (.type "object") = some true)
    (iiC0 : PySem.W.findIn K (.ref C0) "__init__" = some (some (.ref i0)))
    (tiC0 : PySem.W.typeIn K (.ref i0) = some (.type "function"))
    (li0 : K.lookup i0 = some ⟨oi0, ei0, .func (PySem.W.fnOf "__init__" "TooMany.__init__" (defArgs sI_TooMany) (defBody sI_TooMany) (defScope sI_TooMany) .none wi0 di0 pi0 ni0 gi0 ti0), si0⟩)
    (ci0 : PySem.W.codeIn K gi0 "TooMany.__init__" = true)
    (ki0 : PySem.W.keepIn K (.ref i0) = true)
    (noC0_what : PySem.W.findIn K (.ref C0) "what" = some none)
    (xC1 : K.lookup C1 = some (excClassObj nmC1 qC1 C1 NC1 bsC1 [.ref C2, .type "ValueError", .type "Exception", .type "BaseException", .type "object"] true snC1 suC1 abC1 coC1 ddC1 x0C1 x1C1 x2C1 x3C1 x5C1 "ValueError.__new__"))
    (saC1 : PySem.W.findIn K (.ref C1) "__setattr__" = some (some (.builtin "object.__setattr__")))
    (kcC1 : PySem.W.keepIn K (.ref C1) = true)
    (hdC1 : PySem.W.hasDictIn K C1 = true)
    (gaC1 : PySem.W.findIn K (.ref C1) "__getattribute__" = some (some (.builtin "BaseException.__getattribute__")))
    (ggC1 : PySem.W.findIn K (.ref C1) "__getattr__" = some none)
    (ccC1 : PySem.W.findIn K (.ref C1) "__class__" = some (some (.builtin "object.__class__")))
    (obC1 : PySem.W.mroIn K C1 (.type "object") = some true)
    (iiC1 : PySem.W.findIn K (.ref C1) "__init__" = some (some (.ref i1)))
    (tiC1 : PySem.W.typeIn K (.ref i1) = some (.type "function"))
    (li1 : K.lookup i1 = some ⟨oi1, ei1, .func (PySem.W.fnOf "__init__" "BadStair.__init__" (defArgs sI_BadStair) (defBody sI_BadStair) (defScope sI_BadStair) .none wi1 di1 pi1 ni1 gi1 ti1), si1⟩)
    (ci1 : PySem.W.codeIn K gi1 "BadStair.__init__" = true)
    (ki1 : PySem.W.keepIn K (.ref i1) = true)
    (noC1_kind : PySem.W.findIn K (.ref C1) "kind" = some none)
    (noC1_place : PySem.W.findIn K (.ref C1) "place" = some none)
    (sub_TooMany_TooMany : PySem.W.subIn K (.ref C0) (.ref C0) = some true)
    (sub_TooMany_BadStair : PySem.W.subIn K (.ref C0) (.ref C1) = some false)
    (sub_TooMany_BesideError : PySem.W.subIn K (.ref C0) (.ref C2) = some true)
    (sub_BadStair_TooMany : PySem.W.subIn K (.ref C1) (.ref C0) = some false)
    (sub_BadStair_BadStair : PySem.W.subIn K (.ref C1) (.ref C1) = some true)
    (sub_BadStair_BesideError : PySem.W.subIn K (.ref C1) (.ref C2) = some true)
    (eg1 : PySem.W.specialIn K (.builtin "object.__class__") "__get__" = some (some (.builtin "getset_descriptor.__get__")))
    (eg2 : PySem.W.takesIn K (.builtin "object.__class__") = some true)
    (z_abs : PySem.W.nsIn K mainGlobals "abs" = some none)
    (z_all : PySem.W.nsIn K mainGlobals "all" = some none)
    (z_bool : PySem.W.nsIn K mainGlobals "bool" = some none)
    (z_dict : PySem.W.nsIn K mainGlobals "dict" = some none)
    (z_enumerate : PySem.W.nsIn K mainGlobals "enumerate" = some none)
    (z_int : PySem.W.nsIn K mainGlobals "int" = some none)
    (z_isinstance : PySem.W.nsIn K mainGlobals "isinstance" = some none)
    (z_len : PySem.W.nsIn K mainGlobals "len" = some none)
    (z_list : PySem.W.nsIn K mainGlobals "list" = some none)
    (z_max : PySem.W.nsIn K mainGlobals "max" = some none)
    (z_min : PySem.W.nsIn K mainGlobals "min" = some none)
    (z_range : PySem.W.nsIn K mainGlobals "range" = some none)
    (z_str : PySem.W.nsIn K mainGlobals "str" = some none)
    (z_sum : PySem.W.nsIn K mainGlobals "sum" = some none)
    (z_tuple : PySem.W.nsIn K mainGlobals "tuple" = some none)
    (z_zip : PySem.W.nsIn K mainGlobals "zip" = some none)
    (g_SEARCH : PySem.W.nsIn K mainGlobals "SEARCH" = some (some (.int 8 tkSEARCH))) :
    ∃ fd : FuncData, (∀ (s : Shared) (v : Value), BindsTo s fd ⟨[v], []⟩ [("script", v)]) ∧ ∀ base : Heap, K.In base → base.Ns mainGlobals mg → FnOk l.prog w K mg base (L2.CX l.prog w) 6 fa fd ["script"] (spLaw K) := by
  have e := hfa.symm.trans (PySem.W.mg_of X G af26)
  cases e
  let cl : Nat → Addr := fun i => match i with | 0 => C0 | 1 => C1 | 2 => C2 | _ => C2
  have EC0 : ErrC K C0 := ⟨icC0, gaC0, ggC0, ecC0, hdC0, ccC0, obC0⟩
  have OC0 : OexC K C0 := ⟨⟨_, _, _, _, _, _, _, _, _, _, _, _, _, _, _, xC0, by rfl⟩, saC0, ecC0, tcC0, kcC0⟩
  have EC1 : ErrC K C1 := ⟨icC1, gaC1, ggC1, ecC1, hdC1, ccC1, obC1⟩
  have OC1 : OexC K C1 := ⟨⟨_, _, _, _, _, _, _, _, _, _, _, _, _, _, _, xC1, by rfl⟩, saC1, ecC1, tcC1, kcC1⟩
  have T : Tx K mg cl :=
    { abs_ := PySem.W.mg_none_of X G z_abs
      all_ := PySem.W.mg_none_of X G z_all
      bool_ := PySem.W.mg_none_of X G z_bool
      dict_ := PySem.W.mg_none_of X G z_dict
      enumerate_ := PySem.W.mg_none_of X G z_enumerate
      int_ := PySem.W.mg_none_of X G z_int
      isinstance_ := PySem.W.mg_none_of X G z_isinstance
      len_ := PySem.W.mg_none_of X G z_len
      list_ := PySem.W.mg_none_of X G z_list
      max_ := PySem.W.mg_none_of X G z_max
      min_ := PySem.W.mg_none_of X G z_min
      range_ := PySem.W.mg_none_of X G z_range
      str_ := PySem.W.mg_none_of X G z_str
      sum_ := PySem.W.mg_none_of X G z_sum
      tuple_ := PySem.W.mg_none_of X G z_tuple
      zip_ := PySem.W.mg_none_of X G z_zip
      g_SEARCH := ⟨_, PySem.W.mg_of X G g_SEARCH⟩
      c_TooMany := PySem.W.mg_of X G aC0
      c_BadStair := PySem.W.mg_of X G aC1
      m_BesideError := PySem.W.mg_of X G aC2
      f_kind := by
        intro c hc
        simp only [List.mem_cons, List.not_mem_nil, or_false] at hc
        subst hc
        · exact ⟨EC1, noC1_kind⟩
      f_place := by
        intro c hc
        simp only [List.mem_cons, List.not_mem_nil, or_false] at hc
        subst hc
        · exact ⟨EC1, noC1_place⟩
      f_what := by
        intro c hc
        simp only [List.mem_cons, List.not_mem_nil, or_false] at hc
        subst hc
        · exact ⟨EC0, noC0_what⟩
      eg := ⟨eg1, eg2⟩
      it := by
        intro t ht
        simp only [isTbl, List.mem_cons, List.not_mem_nil, or_false] at ht
        rcases ht with rfl | rfl | rfl | rfl
        · exact ⟨EC0, kit_mk icC0 tcC0 sub_TooMany_TooMany fun _ => sub_TooMany_TooMany⟩
        · exact ⟨EC0, kit_mk icC1 tcC1 sub_TooMany_BadStair fun _ => sub_TooMany_TooMany⟩
        · exact ⟨EC1, kit_mk icC0 tcC0 sub_BadStair_TooMany fun _ => sub_BadStair_BadStair⟩
        · exact ⟨EC1, kit_mk icC1 tcC1 sub_BadStair_BadStair fun _ => sub_BadStair_BadStair⟩
      x_BesideError := by
        intro c b hb
        match c, hb with
        | 0, hb => (obtain rfl : true = b := Option.some.inj hb); exact exm_mk ecC2 icC2 tcC2 sub_TooMany_BesideError
        | 1, hb => (obtain rfl : true = b := Option.some.inj hb); exact exm_mk ecC2 icC2 tcC2 sub_BadStair_BesideError
        | (n + 2), hb => exact absurd hb (by simp [tryTbl_BesideError, List.lookup]) }
  have Ff0 := fun_mk (st := s_check_many) lf0 cf0 kf0
  have Bf0 := Ff0.binds (ps := ["many", "most", "what"]) fun _ _ _ _ _ _ us hl => match us, hl with | [_, _, _], _ => rfl
  have Ff1 := fun_mk (st := s_is_integer) lf1 cf1 kf1
  have Bf1 := Ff1.binds (ps := ["value"]) fun _ _ _ _ _ _ us hl => match us, hl with | [_], _ => rfl
  have Ff2 := fun_mk (st := s_stair_fault) lf2 cf2 kf2
  have Bf2 := Ff2.binds (ps := ["row", "length"]) fun _ _ _ _ _ _ us hl => match us, hl with | [_, _], _ => rfl
  have Ff3 := fun_mk (st := s_row_length) lf3 cf3 kf3
  have Bf3 := Ff3.binds (ps := ["row"]) fun _ _ _ _ _ _ us hl => match us, hl with | [_], _ => rfl
  have Ff4 := fun_mk (st := s_check_stair) lf4 cf4 kf4
  have Bf4 := Ff4.binds (ps := ["name", "row"]) fun _ _ _ _ _ _ us hl => match us, hl with | [_, _], _ => rfl
  have Ff5 := fun_mk (st := s_falling_rows) lf5 cf5 kf5
  have Bf5 := Ff5.binds (ps := ["floors", "most"]) fun _ _ _ _ _ _ us hl => match us, hl with | [_, _], _ => rfl
  have Ff6 := fun_mk (st := s_two_places) lf6 cf6 kf6
  have Bf6 := Ff6.binds (ps := ["one", "other"]) fun _ _ _ _ _ _ us hl => match us, hl with | [_, _], _ => rfl
  have Ff7 := fun_mk (st := s__law_source) lf7 cf7 kf7
  have Bf7 := Ff7.binds (ps := ["script", "at"]) fun _ _ _ _ _ _ us hl => match us, hl with | [_, _], _ => rfl
  have Ff8 := fun_mk (st := s__law_pick) lf8 cf8 kf8
  have Bf8 := Ff8.binds (ps := ["s", "many"]) fun _ _ _ _ _ _ us hl => match us, hl with | [_, _], _ => rfl
  have Ff9 := fun_mk (st := s__law_one) lf9 cf9 kf9
  have Bf9 := Ff9.binds (ps := ["s", "things"]) fun _ _ _ _ _ _ us hl => match us, hl with | [_, _], _ => rfl
  have Ff10 := fun_mk (st := s__law_draw_stair) lf10 cf10 kf10
  have Bf10 := Ff10.binds (ps := ["s", "n"]) fun _ _ _ _ _ _ us hl => match us, hl with | [_, _], _ => rfl
  have Ff11 := fun_mk (st := s__law_place_pairs) lf11 cf11 kf11
  have Bf11 := Ff11.binds (ps := ["stair"]) fun _ _ _ _ _ _ us hl => match us, hl with | [_], _ => rfl
  have Ff12 := fun_mk (st := s__law_plain_w) lf12 cf12 kf12
  have Bf12 := Ff12.binds (ps := ["n", "doors"]) fun _ _ _ _ _ _ us hl => match us, hl with | [_, _], _ => rfl
  have Ff13 := fun_mk (st := s__law_place_w) lf13 cf13 kf13
  have Bf13 := Ff13.binds (ps := ["stairs"]) fun _ _ _ _ _ _ us hl => match us, hl with | [_], _ => rfl
  have Ff14 := fun_mk (st := s__law_layout) lf14 cf14 kf14
  have Bf14 := Ff14.binds (ps := ["h"]) fun _ _ _ _ _ _ us hl => match us, hl with | [_], _ => rfl
  have Ff15 := fun_mk (st := s__law_lots) lf15 cf15 kf15
  have Bf15 := Ff15.binds (ps := ["u"]) fun _ _ _ _ _ _ us hl => match us, hl with | [_], _ => rfl
  have Ff16 := fun_mk (st := s__law_lots_of) lf16 cf16 kf16
  have Bf16 := Ff16.binds (ps := ["h"]) fun _ _ _ _ _ _ us hl => match us, hl with | [_], _ => rfl
  have Ff17 := fun_mk (st := s__law_stair) lf17 cf17 kf17
  have Bf17 := Ff17.binds (ps := ["a", "k"]) fun _ _ _ _ _ _ us hl => match us, hl with | [_, _], _ => rfl
  have Ff18 := fun_mk (st := s__law_same) lf18 cf18 kf18
  have Bf18 := Ff18.binds (ps := ["one", "due"]) fun _ _ _ _ _ _ us hl => match us, hl with | [_, _], _ => rfl
  have Ff19 := fun_mk (st := s__law_fault) lf19 cf19 kf19
  have Bf19 := Ff19.binds (ps := ["error"]) fun _ _ _ _ _ _ us hl => match us, hl with | [_], _ => rfl
  have Ff20 := fun_mk (st := s__law_b_falling) lf20 cf20 kf20
  have Bf20 := Ff20.binds (ps := ["many", "most"]) fun _ _ _ _ _ _ us hl => match us, hl with | [_, _], _ => rfl
  have Ff21 := fun_mk (st := s__law_b_two_told) lf21 cf21 kf21
  have Bf21 := Ff21.binds (ps := ["one", "other"]) fun _ _ _ _ _ _ us hl => match us, hl with | [_, _], _ => rfl
  have Ff22 := fun_mk (st := s__law_b_two_due) lf22 cf22 kf22
  have Bf22 := Ff22.binds (ps := ["one", "other"]) fun _ _ _ _ _ _ us hl => match us, hl with | [_, _], _ => rfl
  have Ff23 := fun_mk (st := s__law_b_two_right) lf23 cf23 kf23
  have Bf23 := Ff23.binds (ps := ["one", "other"]) fun _ _ _ _ _ _ us hl => match us, hl with | [_, _], _ => rfl
  have Ff24 := fun_mk (st := s__law_b_wrong) lf24 cf24 kf24
  have Bf24 := Ff24.binds (ps := ["row"]) fun _ _ _ _ _ _ us hl => match us, hl with | [_], _ => rfl
  have Ff25 := fun_mk (st := s__law_b_spoilt) lf25 cf25 kf25
  have Bf25 := Ff25.binds (ps := ["s", "row"]) fun _ _ _ _ _ _ us hl => match us, hl with | [_, _], _ => rfl
  have Ff26 := fun_mk (st := s_law) lf26 cf26 kf26
  have Ji0 := fun_mk (st := sI_TooMany) li0 ci0 ki0
  have Bi0 := Ji0.binds (ps := ["self", "what"]) fun _ _ _ _ _ _ us hl => match us, hl with | [_, _], _ => rfl
  have Ji1 := fun_mk (st := sI_BadStair) li1 ci1 ki1
  have Bi1 := Ji1.binds (ps := ["self", "kind", "place"]) fun _ _ _ _ _ _ us hl => match us, hl with | [_, _, _], _ => rfl
  refine ⟨PySem.W.fnOf "law" "law" (defArgs s_law) (defBody s_law) (defScope s_law) .none wf26 df26 pf26 nf26 gf26 tf26, fun s v => .of_eq rfl, fun base _ _ => ?_⟩
  have x_TooMany : ExI l.prog w K mg base cl 1 "TooMany" 0 ["what"] := ⟨_, _, _, OC0, iiC0, tiC0, init1 OC0 Ji0 scI_TooMany rfl noC0_what (fun cdv A outer s H E => (pss_one (ps_ost (pv 0) (pv 1)))), Bi0, PySem.W.mg_of X G aC0, rfl, by decide⟩
  have x_BadStair : ExI l.prog w K mg base cl 1 "BadStair" 1 ["kind", "place"] := ⟨_, _, _, OC1, iiC1, tiC1, init2 OC1 Ji1 scI_BadStair rfl noC1_kind noC1_place (fun cdv A outer s H E => (pss_cons (ps_ost (pv 0) (pv 1)) (pss_one (ps_ost (pv 0) (pv 2))))), Bi1, PySem.W.mg_of X G aC1, rfl, by decide⟩
  have h_check_many : FnI l.prog w K mg base cl 3 "check_many" [false, false, false] F_check_many := ⟨_, _, _, ok_check_many Ff0 T  x_TooMany, PySem.W.mg_of X G af0, kf0, Bf0⟩
  have h_is_integer : FnI l.prog w K mg base cl 1 "is_integer" [false] F_is_integer := ⟨_, _, _, ok_is_integer Ff1 T , PySem.W.mg_of X G af1, kf1, Bf1⟩
  have h_stair_fault : FnI l.prog w K mg base cl 2 "stair_fault" [false, false] F_stair_fault := ⟨_, _, _, ok_stair_fault Ff2 T h_is_integer, PySem.W.mg_of X G af2, kf2, Bf2⟩
  have h_row_length : FnI l.prog w K mg base cl 1 "row_length" [false] F_row_length := ⟨_, _, _, ok_row_length Ff3 T , PySem.W.mg_of X G af3, kf3, Bf3⟩
  have h_check_stair : FnI l.prog w K mg base cl 3 "check_stair" [false, false] F_check_stair := ⟨_, _, _, ok_check_stair Ff4 T h_stair_fault h_row_length x_BadStair, PySem.W.mg_of X G af4, kf4, Bf4⟩
  have h_falling_rows : FnI l.prog w K mg base cl 1 "falling_rows" [false, false] F_falling_rows := ⟨_, _, _, ok_falling_rows Ff5 T , PySem.W.mg_of X G af5, kf5, Bf5⟩
  have h_two_places : FnI l.prog w K mg base cl 4 "two_places" [false, false] F_two_places := ⟨_, _, _, ok_two_places Ff6 T h_check_many h_row_length h_check_stair h_falling_rows, PySem.W.mg_of X G af6, kf6, Bf6⟩
  have h__law_source : FnI l.prog w K mg base cl 1 "_law_source" [false, false] F__law_source := ⟨_, _, _, ok__law_source Ff7 T , PySem.W.mg_of X G af7, kf7, Bf7⟩
  have h__law_pick : FnI l.prog w K mg base cl 1 "_law_pick" [true, false] F__law_pick := ⟨_, _, _, ok__law_pick Ff8 T , PySem.W.mg_of X G af8, kf8, Bf8⟩
  have h__law_one : FnI l.prog w K mg base cl 2 "_law_one" [true, false] F__law_one := ⟨_, _, _, ok__law_one Ff9 T h__law_pick, PySem.W.mg_of X G af9, kf9, Bf9⟩
  have h__law_draw_stair : FnI l.prog w K mg base cl 3 "_law_draw_stair" [true, false] F__law_draw_stair := ⟨_, _, _, ok__law_draw_stair Ff10 T h__law_one, PySem.W.mg_of X G af10, kf10, Bf10⟩
  have h__law_place_pairs : FnI l.prog w K mg base cl 1 "_law_place_pairs" [false] F__law_place_pairs := ⟨_, _, _, ok__law_place_pairs Ff11 T , PySem.W.mg_of X G af11, kf11, Bf11⟩
  have h__law_plain_w : FnI l.prog w K mg base cl 1 "_law_plain_w" [false, false] F__law_plain_w := ⟨_, _, _, ok__law_plain_w Ff12 T , PySem.W.mg_of X G af12, kf12, Bf12⟩
  have h__law_place_w : FnI l.prog w K mg base cl 2 "_law_place_w" [false] F__law_place_w := ⟨_, _, _, ok__law_place_w Ff13 T h__law_plain_w h__law_place_pairs, PySem.W.mg_of X G af13, kf13, Bf13⟩
  have h__law_layout : FnI l.prog w K mg base cl 1 "_law_layout" [false] F__law_layout := ⟨_, _, _, ok__law_layout Ff14 T , PySem.W.mg_of X G af14, kf14, Bf14⟩
  have h__law_lots : FnI l.prog w K mg base cl 1 "_law_lots" [false] F__law_lots := ⟨_, _, _, ok__law_lots Ff15 T , PySem.W.mg_of X G af15, kf15, Bf15⟩
  have h__law_lots_of : FnI l.prog w K mg base cl 2 "_law_lots_of" [false] F__law_lots_of := ⟨_, _, _, ok__law_lots_of Ff16 T h__law_layout h__law_lots, PySem.W.mg_of X G af16, kf16, Bf16⟩
  have h__law_stair : FnI l.prog w K mg base cl 1 "_law_stair" [false, false] F__law_stair := ⟨_, _, _, ok__law_stair Ff17 T , PySem.W.mg_of X G af17, kf17, Bf17⟩
  have h__law_same : FnI l.prog w K mg base cl 2 "_law_same" [false, false] (F__law_same 2) := by
    have r0 : FnI l.prog w K mg base cl 0 "_law_same" [false, false] (F__law_same 0) := ⟨_, _, _, fn_bad rfl, PySem.W.mg_of X G af18, kf18, Bf18⟩
    have r1 : FnI l.prog w K mg base cl 1 "_law_same" [false, false] (F__law_same 1) := ⟨_, _, _, ok__law_same Ff18 T r0 , PySem.W.mg_of X G af18, kf18, Bf18⟩
    have r2 : FnI l.prog w K mg base cl 2 "_law_same" [false, false] (F__law_same 2) := ⟨_, _, _, ok__law_same Ff18 T r1 , PySem.W.mg_of X G af18, kf18, Bf18⟩
    exact r2
  have h__law_fault : FqI l.prog w K mg base cl 1 "_law_fault" [false] F__law_fault := ⟨_, _, _, ok__law_fault Ff19 T , PySem.W.mg_of X G af19, kf19, Bf19⟩
  have h__law_b_falling : FnI l.prog w K mg base cl 1 "_law_b_falling" [false, false] F__law_b_falling := ⟨_, _, _, ok__law_b_falling Ff20 T , PySem.W.mg_of X G af20, kf20, Bf20⟩
  have h__law_b_two_told : FnI l.prog w K mg base cl 5 "_law_b_two_told" [false, false] F__law_b_two_told := ⟨_, _, _, ok__law_b_two_told Ff21 T h_two_places h__law_fault, PySem.W.mg_of X G af21, kf21, Bf21⟩
  have h__law_b_two_due : FnI l.prog w K mg base cl 3 "_law_b_two_due" [false, false] F__law_b_two_due := ⟨_, _, _, ok__law_b_two_due Ff22 T h__law_lots_of h__law_place_w h__law_stair h__law_b_falling, PySem.W.mg_of X G af22, kf22, Bf22⟩
  have h__law_b_two_right : FnI l.prog w K mg base cl 5 "_law_b_two_right" [false, false] F__law_b_two_right := ⟨_, _, _, ok__law_b_two_right Ff23 T h__law_b_two_due h_two_places h__law_same, PySem.W.mg_of X G af23, kf23, Bf23⟩
  have h__law_b_wrong : FnI l.prog w K mg base cl 1 "_law_b_wrong" [false] F__law_b_wrong := ⟨_, _, _, ok__law_b_wrong Ff24 T , PySem.W.mg_of X G af24, kf24, Bf24⟩
  have h__law_b_spoilt : FnI l.prog w K mg base cl 3 "_law_b_spoilt" [true, false] F__law_b_spoilt := ⟨_, _, _, ok__law_b_spoilt Ff25 T h__law_pick h__law_one, PySem.W.mg_of X G af25, kf25, Bf25⟩
  exact (ok_law Ff26 T h__law_source h__law_pick h__law_draw_stair h__law_b_two_right h__law_b_spoilt h__law_b_wrong h__law_same h__law_b_two_told).imp (law_sp law_true)
end K13
open PySem PySem.W PyProof.Rows in
theorem PySem.Challenge.cw_fewbeside_k13_rows_of_two_places_holds : PySem.Challenge.rw_fewbeside_k13_rows_of_two_places.Holds := by
  w_on; o_law; k_head; (case hw => w_witness2)
  k_fill
  refine DL.law_walk (l := PySem.Challenge.rw_fewbeside_k13_rows_of_two_places) (k := 6) rfl rfl ⟨rfl, by decide, by decide⟩ (fun w h Y => PySem.W.kIn_of Y) ?F
  case F =>
    intro w mg fa h KX G hmg
    refine' K13.all_mk KX G hmg ?af0 ?lf0 ?cf0 ?kf0 ?af1 ?lf1 ?cf1 ?kf1 ?af2 ?lf2 ?cf2 ?kf2 ?af3 ?lf3 ?cf3 ?kf3 ?af4 ?lf4 ?cf4 ?kf4 ?af5 ?lf5 ?cf5 ?kf5 ?af6 ?lf6 ?cf6 ?kf6 ?af7 ?lf7 ?cf7 ?kf7 ?af8 ?lf8 ?cf8 ?kf8 ?af9 ?lf9 ?cf9 ?kf9 ?af10 ?lf10 ?cf10 ?kf10 ?af11 ?lf11 ?cf11 ?kf11 ?af12 ?lf12 ?cf12 ?kf12 ?af13 ?lf13 ?cf13 ?kf13 ?af14 ?lf14 ?cf14 ?kf14 ?af15 ?lf15 ?cf15 ?kf15 ?af16 ?lf16 ?cf16 ?kf16 ?af17 ?lf17 ?cf17 ?kf17 ?af18 ?lf18 ?cf18 ?kf18 ?af19 ?lf19 ?cf19 ?kf19 ?af20 ?lf20 ?cf20 ?kf20 ?af21 ?lf21 ?cf21 ?kf21 ?af22 ?lf22 ?cf22 ?kf22 ?af23 ?lf23 ?cf23 ?kf23 ?af24 ?lf24 ?cf24 ?kf24 ?af25 ?lf25 ?cf25 ?kf25 ?af26 ?lf26 ?cf26 ?kf26 ?aC0 ?icC0 ?ecC0 ?tcC0 ?aC1 ?icC1 ?ecC1 ?tcC1 ?aC2 ?icC2 ?ecC2 ?tcC2 ?xC0 ?saC0 ?kcC0 ?hdC0 ?gaC0 ?ggC0 ?ccC0 ?obC0 ?iiC0 ?tiC0 ?li0 ?ci0 ?ki0 ?noC0_what ?xC1 ?saC1 ?kcC1 ?hdC1 ?gaC1 ?ggC1 ?ccC1 ?obC1 ?iiC1 ?tiC1 ?li1 ?ci1 ?ki1 ?noC1_kind ?noC1_place ?sub_TooMany_TooMany ?sub_TooMany_BadStair ?sub_TooMany_BesideError ?sub_BadStair_TooMany ?sub_BadStair_BadStair ?sub_BadStair_BesideError ?eg1 ?eg2 ?z_abs ?z_all ?z_bool ?z_dict ?z_enumerate ?z_int ?z_isinstance ?z_len ?z_list ?z_max ?z_min ?z_range ?z_str ?z_sum ?z_tuple ?z_zip ?g_SEARCH
    (case af0 => k_is)
    (case lf0 => k_is)
    (case cf0 => k_is)
    (case kf0 => k_is)
    (case af1 => k_is)
    (case lf1 => k_is)
    (case cf1 => k_is)
    (case kf1 => k_is)
    (case af2 => k_is)
    (case lf2 => k_is)
    (case cf2 => k_is)
    (case kf2 => k_is)
    (case af3 => k_is)
    (case lf3 => k_is)
    (case cf3 => k_is)
    (case kf3 => k_is)
    (case af4 => k_is)
    (case lf4 => k_is)
    (case cf4 => k_is)
    (case kf4 => k_is)
    (case af5 => k_is)
    (case lf5 => k_is)
    (case cf5 => k_is)
    (case kf5 => k_is)
    (case af6 => k_is)
    (case lf6 => k_is)
    (case cf6 => k_is)
    (case kf6 => k_is)
    (case af7 => k_is)
    (case lf7 => k_is)
    (case cf7 => k_is)
    (case kf7 => k_is)
    (case af8 => k_is)
    (case lf8 => k_is)
    (case cf8 => k_is)
    (case kf8 => k_is)
    (case af9 => k_is)
    (case lf9 => k_is)
    (case cf9 => k_is)
    (case kf9 => k_is)
    (case af10 => k_is)
    (case lf10 => k_is)
    (case cf10 => k_is)
    (case kf10 => k_is)
    (case af11 => k_is)
    (case lf11 => k_is)
    (case cf11 => k_is)
    (case kf11 => k_is)
    (case af12 => k_is)
    (case lf12 => k_is)
    (case cf12 => k_is)
    (case kf12 => k_is)
    (case af13 => k_is)
    (case lf13 => k_is)
    (case cf13 => k_is)
    (case kf13 => k_is)
    (case af14 => k_is)
    (case lf14 => k_is)
    (case cf14 => k_is)
    (case kf14 => k_is)
    (case af15 => k_is)
    (case lf15 => k_is)
    (case cf15 => k_is)
    (case kf15 => k_is)
    (case af16 => k_is)
    (case lf16 => k_is)
    (case cf16 => k_is)
    (case kf16 => k_is)
    (case af17 => k_is)
    (case lf17 => k_is)
    (case cf17 => k_is)
    (case kf17 => k_is)
    (case af18 => k_is)
    (case lf18 => k_is)
    (case cf18 => k_is)
    (case kf18 => k_is)
    (case af19 => k_is)
    (case lf19 => k_is)
    (case cf19 => k_is)
    (case kf19 => k_is)
    (case af20 => k_is)
    (case lf20 => k_is)
    (case cf20 => k_is)
    (case kf20 => k_is)
    (case af21 => k_is)
    (case lf21 => k_is)
    (case cf21 => k_is)
    (case kf21 => k_is)
    (case af22 => k_is)
    (case lf22 => k_is)
    (case cf22 => k_is)
    (case kf22 => k_is)
    (case af23 => k_is)
    (case lf23 => k_is)
    (case cf23 => k_is)
    (case kf23 => k_is)
    (case af24 => k_is)
    (case lf24 => k_is)
    (case cf24 => k_is)
    (case kf24 => k_is)
    (case af25 => k_is)
    (case lf25 => k_is)
    (case cf25 => k_is)
    (case kf25 => k_is)
    (case af26 => k_is)
    (case lf26 => k_is)
    (case cf26 => k_is)
    (case kf26 => k_is)
    (case aC0 => k_is)
    (case icC0 => k_is)
    (case ecC0 => k_is)
    (case tcC0 => k_is)
    (case aC1 => k_is)
    (case icC1 => k_is)
    (case ecC1 => k_is)
    (case tcC1 => k_is)
    (case aC2 => k_is)
    (case icC2 => k_is)
    (case ecC2 => k_is)
    (case tcC2 => k_is)
    (case xC0 => k_is)
    (case saC0 => k_is)
    (case kcC0 => k_is)
    (case hdC0 => k_is)
    (case gaC0 => k_is)
    (case ggC0 => k_is)
    (case ccC0 => k_is)
    (case obC0 => k_is)
    (case iiC0 => k_is)
    (case tiC0 => k_is)
    (case li0 => k_is)
    (case ci0 => k_is)
    (case ki0 => k_is)
    (case noC0_what => k_is)
    (case xC1 => k_is)
    (case saC1 => k_is)
    (case kcC1 => k_is)
    (case hdC1 => k_is)
    (case gaC1 => k_is)
    (case ggC1 => k_is)
    (case ccC1 => k_is)
    (case obC1 => k_is)
    (case iiC1 => k_is)
    (case tiC1 => k_is)
    (case li1 => k_is)
    (case ci1 => k_is)
    (case ki1 => k_is)
    (case noC1_kind => k_is)
    (case noC1_place => k_is)
    (case sub_TooMany_TooMany => k_is)
    (case sub_TooMany_BadStair => k_is)
    (case sub_TooMany_BesideError => k_is)
    (case sub_BadStair_TooMany => k_is)
    (case sub_BadStair_BadStair => k_is)
    (case sub_BadStair_BesideError => k_is)
    (case eg1 => k_is)
    (case eg2 => k_is)
    (case z_abs => k_is)
    (case z_all => k_is)
    (case z_bool => k_is)
    (case z_dict => k_is)
    (case z_enumerate => k_is)
    (case z_int => k_is)
    (case z_isinstance => k_is)
    (case z_len => k_is)
    (case z_list => k_is)
    (case z_max => k_is)
    (case z_min => k_is)
    (case z_range => k_is)
    (case z_str => k_is)
    (case z_sum => k_is)
    (case z_tuple => k_is)
    (case z_zip => k_is)
    (case g_SEARCH => k_is)
