import PyProof.Rows.All
import Wide.All
import OpenK.AllK
import Wide.FinOn
import HandS.ForMost
import HandS.Exc
import HandS.ExcOwn
import HandS.TryOnly
import HandS.Defaults
import HandS.HeadHook1
import HandS.ExcInit
import HandS.ExcValue
import HandS.Walk
import HandS.Star
import HandS.HeadEnd
import HandS.TupAny
import HandS.TupMul
import HandS.Wide
import HandS.WideBits
import HandS.IsInst
import HandS.Deep
import PyProof.ReprRoads
import HandS.TupLen
import KE.KRevSl
import HandS.Steps
import HandS.NoneIn
import HandS.WordsDict
import HandS.RaiseMore
import PyProof.Rows.SortShellAny
import HandS.Small
import HandS.SetKeys
import HandS.Set
import HandS.Strs
import HandS.Conv
import KE.KDictSum
import HandS.SetFor
import PyProof.Rows.SetFrom
import KE.GoesMore
import HandS.Zip
import HandS.Style
import HandS.Words
import HandS.HeadHook2
import KE.KDictKeyed
import KE.KDictWalk
import HandS.ExcIs
import HandS.ExcField
import PyProof.ExcBaseAll.IndexError
import PyProof.ExcBaseAll.LookupError
import PyProof.ExcBaseAll.OverflowError
import PyProof.ExcBaseAll.ArithmeticError
import PyProof.ExcBaseAll.RuntimeError
import KE.KDictDisplayH
import KE.KStateDown
import Lean
import HandS.Head0
import HandS.Head1
import HandS.Head2
import PySem.Challenge.RW_heardlate_k00_errors
set_option Elab.async false
set_option linter.all false
set_option maxRecDepth 100000
set_option maxHeartbeats 0
/-! Z1: data by value over the hand layer: values D, slots, what a reading yields (EvM), growth and steps of the heap. -/
namespace Z
open PySem L2

inductive D where
  | non | bl (b : Bool) | int (i : Int) | str (x : Str) | ty (n : String) | obj (x : Str)
  | tup (xs : List D) | lst (xs : List D) | dct (kvs : List (D × D)) | dtt (kvs : List (D × D)) | ins (c : Str) (fs : List (Str × D)) | exn (c : Str) (fs : List (Str × D))

def keyOf : D → Option Key
  | .int i => some (.inl i)
  | .str x => some (.inr x)
  | _ => none

def keysOf : List D → Option (List Key)
  | [] => some []
  | d :: ds => match keyOf d, keysOf ds with
    | some k, some ks => some (k :: ks)
    | _, _ => none
/-- a key that is a tuple -/
def keyT : D → Option (List Key)
  | .tup ds => keysOf ds
  | _ => none
/-- a tuple stands there; an empty one may stand in the written part -/
def TupAt (K : PySem.W.Frag) (Φ : Hp) (a : Addr) (vs : List V) : Prop := Φ a = some (.tup vs) ∨ (vs = [] ∧ SqT K Φ a [])
theorem TupAt.sq {K : PySem.W.Frag} {Φ : Hp} {a : Addr} {vs : List V} (h : TupAt K Φ a vs) : SqT K Φ a vs := by
  rcases h with h | ⟨rfl, h⟩
  · exact SqT.of h
  · exact h
theorem TupAt.at_ {K : PySem.W.Frag} {Φ : Hp} {a : Addr} {vs : List V} (h : TupAt K Φ a vs) (n : vs ≠ []) : Φ a = some (.tup vs) := by
  rcases h with h | ⟨e, h⟩
  · exact h
  · exact absurd e n
/-- an exception of an own class stands there: without a dict, or with one -/
def ExAt (Φ : Hp) (a C : Addr) (fs : List (Str × V)) : Prop := (fs = [] ∧ Φ a = some (ExO (.ref C) a)) ∨ ∃ d, Φ a = some (exo a C (some d)) ∧ Φ d = some (exd d fs)
theorem ExAt.up {Φ Ψ : Hp} {a C : Addr} {fs : List (Str × V)} (h : ExAt Φ a C fs) (k : ∀ b φ, Φ b = some (.ext φ) → Ψ b = some (.ext φ)) : ExAt Ψ a C fs := by
  rcases h with ⟨e, h⟩ | ⟨d, h1, h2⟩
  · exact .inl ⟨e, k _ _ h⟩
  · exact .inr ⟨d, k _ _ h1, k _ _ h2⟩
/-! ### frozen data: RF, in a map Φ that only grows -/
mutual
inductive RF (K : PySem.W.Frag) (Φ : Hp) : V → D → Prop
  | non : RF K Φ .non .non
  | bl (b : Bool) : RF K Φ (.bl b) (.bl b)
  | int (i : Int) : RF K Φ (.int i) (.int i)
  | str (x : Str) : RF K Φ (.str x) (.str x)
  | ty (n : String) : RF K Φ (.ty n) (.ty n)
  | obj (x : Str) : RF K Φ (.ref (He.ga K x)) (.obj x)
  | tup {a : Addr} {vs : List V} {ds : List D} (h : TupAt K Φ a vs) (r : RFs K Φ vs ds) : RF K Φ (.ref a) (.tup ds)
  | lst {a : Addr} {vs : List V} {ds : List D} (h : Rd Φ a (.lst vs)) (r : RFs K Φ vs ds) : RF K Φ (.ref a) (.lst ds)
  | dct {a : Addr} {ks : List (Key × V)} {kvs : List (D × D)} (h : Rd Φ a (.dK ks)) (r : RFk K Φ ks kvs) : RF K Φ (.ref a) (.dct kvs)
  | dtt {a : Addr} {ks : List (List Key × V)} {kvs : List (D × D)} (h : Rd Φ a (.dT ks)) (r : RFt K Φ ks kvs) : RF K Φ (.ref a) (.dtt kvs)
  | ins {a dx : Addr} {fs : List (Str × V)} {c : Str} {gs : List (Str × D)} (h : Φ a = some (.ins (He.ga K c) dx fs)) (r : RFf K Φ fs gs) : RF K Φ (.ref a) (.ins c gs)
  | exn {a : Addr} {fs : List (Str × V)} {c : Str} {gs : List (Str × D)} (h : ExAt Φ a (He.ga K c) fs) (r : RFf K Φ fs gs) : RF K Φ (.ref a) (.exn c gs)
inductive RFs (K : PySem.W.Frag) (Φ : Hp) : List V → List D → Prop
  | nil : RFs K Φ [] []
  | cons {v : V} {d : D} {vs : List V} {ds : List D} (r : RF K Φ v d) (t : RFs K Φ vs ds) : RFs K Φ (v :: vs) (d :: ds)
inductive RFk (K : PySem.W.Frag) (Φ : Hp) : List (Key × V) → List (D × D) → Prop
  | nil : RFk K Φ [] []
  | cons {k : Key} {v : V} {kd d : D} {ks : List (Key × V)} {kvs : List (D × D)} (e : keyOf kd = some k) (r : RF K Φ v d) (t : RFk K Φ ks kvs) : RFk K Φ ((k, v) :: ks) ((kd, d) :: kvs)
inductive RFt (K : PySem.W.Frag) (Φ : Hp) : List (List Key × V) → List (D × D) → Prop
  | nil : RFt K Φ [] []
  | cons {k : List Key} {v : V} {kd d : D} {ks : List (List Key × V)} {kvs : List (D × D)} (e : keyT kd = some k) (r : RF K Φ v d) (t : RFt K Φ ks kvs) : RFt K Φ ((k, v) :: ks) ((kd, d) :: kvs)
inductive RFf (K : PySem.W.Frag) (Φ : Hp) : List (Str × V) → List (Str × D) → Prop
  | nil : RFf K Φ [] []
  | cons {x : Str} {v : V} {d : D} {fs : List (Str × V)} {gs : List (Str × D)} (r : RF K Φ v d) (t : RFf K Φ fs gs) : RFf K Φ ((x, v) :: fs) ((x, d) :: gs)
end

/-- Φ is held by H: as it stands, or locked -/
def Lk : HO → Prop
  | .lst _ => True
  | .dK _ => True
  | .dT _ => True
  | _ => False
def Sub (Φ H : Hp) : Prop := ∀ a o, Φ a = some o → H a = some o ∨ (Lk o ∧ ∃ ob, H a = some (.frz ob o))
def Ext (Φ Φ' : Hp) : Prop := ∀ a o, Φ a = some o → Φ' a = some o
theorem Ext.refl (Φ : Hp) : Ext Φ Φ := fun _ _ e => e
theorem Ext.trans {A B C : Hp} (x : Ext A B) (y : Ext B C) : Ext A C := fun a o e => y a o (x a o e)
theorem Ext.sub {Φ Φ' : Hp} (x : Ext Φ Φ') : Sub Φ Φ' := fun a o e => .inl (x a o e)
theorem Sub.rd {Φ H : Hp} {a : Addr} {u : HO} (s : Sub Φ H) (h : Rd Φ a u) : Rd H a u := by
  rcases h with h | ⟨o, h⟩
  · rcases s a _ h with e | ⟨_, ob, e⟩
    · exact .inl e
    · exact .inr ⟨ob, e⟩
  · rcases s a _ h with e | ⟨m, _⟩
    · exact .inr ⟨o, e⟩
    · exact m.elim
theorem Sub.sqL {K : PySem.W.Frag} {Φ H : Hp} {a : Addr} {vs : List V} (s : Sub Φ H) (h : SqL K Φ a vs) : SqL K H a vs := by
  rcases h with h | h
  · exact .inl (s.rd h)
  · exact .inr h
theorem Sub.sqT {K : PySem.W.Frag} {Φ H : Hp} {a : Addr} {vs : List V} (s : Sub Φ H) (h : SqT K Φ a vs) : SqT K H a vs := by
  rcases h with h | h
  · exact .inl (s.rd h)
  · exact .inr h
theorem Ext.rd {Φ Φ' : Hp} {a : Addr} {u : HO} (x : Ext Φ Φ') (h : Rd Φ a u) : Rd Φ' a u := by
  rcases h with h | ⟨o, h⟩
  · exact .inl (x _ _ h)
  · exact .inr ⟨o, x _ _ h⟩

section
variable {K : PySem.W.Frag} {Φ Φ' : Hp} (x : Ext Φ Φ')
include x
mutual
theorem RF.mono : ∀ {v : V} {d : D}, RF K Φ v d → RF K Φ' v d
  | _, _, .non => .non
  | _, _, .bl b => .bl b
  | _, _, .int i => .int i
  | _, _, .str s => .str s
  | _, _, .ty n => .ty n
  | _, _, .obj n => .obj n
  | _, _, .tup h r => .tup (h.imp (x _ _) fun z => ⟨z.1, x.sub.sqT z.2⟩) (RFs.mono r)
  | _, _, .lst h r => .lst (x.rd h) (RFs.mono r)
  | _, _, .dct h r => .dct (x.rd h) (RFk.mono r)
  | _, _, .dtt h r => .dtt (x.rd h) (RFt.mono r)
  | _, _, .ins h r => .ins (x _ _ h) (RFf.mono r)
  | _, _, .exn h r => .exn (h.up fun b o e => x b _ e) (RFf.mono r)
theorem RFs.mono : ∀ {vs : List V} {ds : List D}, RFs K Φ vs ds → RFs K Φ' vs ds
  | _, _, .nil => .nil
  | _, _, .cons r t => .cons (RF.mono r) (RFs.mono t)
theorem RFk.mono : ∀ {vs : List (Key × V)} {ds : List (D × D)}, RFk K Φ vs ds → RFk K Φ' vs ds
  | _, _, .nil => .nil
  | _, _, .cons e r t => .cons e (RF.mono r) (RFk.mono t)
theorem RFt.mono : ∀ {vs : List (List Key × V)} {ds : List (D × D)}, RFt K Φ vs ds → RFt K Φ' vs ds
  | _, _, .nil => .nil
  | _, _, .cons e r t => .cons e (RF.mono r) (RFt.mono t)
theorem RFf.mono : ∀ {vs : List (Str × V)} {ds : List (Str × D)}, RFf K Φ vs ds → RFf K Φ' vs ds
  | _, _, .nil => .nil
  | _, _, .cons r t => .cons (RF.mono r) (RFf.mono t)
end
end

theorem RFs.length {K : PySem.W.Frag} {Φ : Hp} : ∀ {vs : List V} {ds : List D}, RFs K Φ vs ds → vs.length = ds.length
  | _, _, .nil => rfl
  | _, _, .cons _ t => congrArg (· + 1) (RFs.length t)
theorem RFs.get {K : PySem.W.Frag} {Φ : Hp} : ∀ {vs : List V} {ds : List D} {i : Nat} {d : D}, RFs K Φ vs ds → ds[i]? = some d → ∃ v, vs[i]? = some v ∧ RF K Φ v d
  | _, _, _, _, .nil, e => by simp at e
  | _, _, 0, _, .cons r _, e => by simp at e; subst e; exact ⟨_, rfl, r⟩
  | _, _, i + 1, d, .cons _ t, e => by
    obtain ⟨v, a, b⟩ := RFs.get (i := i) (d := d) t (by simpa using e)
    exact ⟨v, by simpa using a, b⟩
theorem RFs.getV {K : PySem.W.Frag} {Φ : Hp} : ∀ {vs : List V} {ds : List D} {i : Nat} {v : V}, RFs K Φ vs ds → vs[i]? = some v → ∃ d, ds[i]? = some d ∧ RF K Φ v d
  | _, _, _, _, .nil, e => by simp at e
  | _, _, 0, _, .cons r _, e => by simp at e; subst e; exact ⟨_, rfl, r⟩
  | _, _, i + 1, d, .cons _ t, e => by
    obtain ⟨v, a, b⟩ := RFs.getV (i := i) (v := d) t (by simpa using e)
    exact ⟨v, by simpa using a, b⟩
theorem RFs.app {K : PySem.W.Frag} {Φ : Hp} : ∀ {vs ws : List V} {ds es : List D}, RFs K Φ vs ds → RFs K Φ ws es → RFs K Φ (vs ++ ws) (ds ++ es)
  | _, _, _, _, .nil, h => h
  | _, _, _, _, .cons r t, h => .cons r (RFs.app t h)
theorem RFs.take {K : PySem.W.Frag} {Φ : Hp} : ∀ {vs : List V} {ds : List D} (n : Nat), RFs K Φ vs ds → RFs K Φ (vs.take n) (ds.take n)
  | _, _, 0, _ => .nil
  | _, _, _ + 1, .nil => .nil
  | _, _, n + 1, .cons r t => .cons r (RFs.take n t)
theorem RFs.drop {K : PySem.W.Frag} {Φ : Hp} : ∀ {vs : List V} {ds : List D} (n : Nat), RFs K Φ vs ds → RFs K Φ (vs.drop n) (ds.drop n)
  | _, _, 0, h => h
  | _, _, _ + 1, .nil => .nil
  | _, _, n + 1, .cons _ t => RFs.drop n t
theorem RFs.set {K : PySem.W.Frag} {Φ : Hp} {v : V} {d : D} (q : RF K Φ v d) : ∀ {vs : List V} {ds : List D} (n : Nat), RFs K Φ vs ds → RFs K Φ (vs.set n v) (ds.set n d)
  | _, _, _, .nil => .nil
  | _, _, 0, .cons _ t => .cons q t
  | _, _, n + 1, .cons r t => .cons r (RFs.set q n t)
theorem RFs.erase {K : PySem.W.Frag} {Φ : Hp} : ∀ {vs : List V} {ds : List D} (n : Nat), RFs K Φ vs ds → RFs K Φ (vs.eraseIdx n) (ds.eraseIdx n)
  | _, _, _, .nil => .nil
  | _, _, 0, .cons _ t => t
  | _, _, n + 1, .cons r t => .cons r (RFs.erase n t)
theorem RFs.rev {K : PySem.W.Frag} {Φ : Hp} : ∀ {vs : List V} {ds : List D}, RFs K Φ vs ds → RFs K Φ vs.reverse ds.reverse
  | _, _, .nil => .nil
  | _, _, .cons r t => by
    rw [List.reverse_cons, List.reverse_cons]
    exact RFs.app (RFs.rev t) (.cons r .nil)

/-- read off G at the top, frozen below -/
inductive R1 (K : PySem.W.Frag) (Φ G : Hp) : V → D → Prop
  | f {v : V} {d : D} (h : RF K Φ v d) : R1 K Φ G v d
  | lst {a : Addr} {vs : List V} {ds : List D} (h : Rd G a (.lst vs)) (r : RFs K Φ vs ds) : R1 K Φ G (.ref a) (.lst ds)
  | dct {a : Addr} {ks : List (Key × V)} {kvs : List (D × D)} (h : Rd G a (.dK ks)) (r : RFk K Φ ks kvs) : R1 K Φ G (.ref a) (.dct kvs)
  | dtt {a : Addr} {ks : List (List Key × V)} {kvs : List (D × D)} (h : Rd G a (.dT ks)) (r : RFt K Φ ks kvs) : R1 K Φ G (.ref a) (.dtt kvs)
  | ins {a dx : Addr} {fs : List (Str × V)} {c : Str} {gs : List (Str × D)} (h : G a = some (.ins (He.ga K c) dx fs)) (r : RFf K Φ fs gs) : R1 K Φ G (.ref a) (.ins c gs)
/-- owned at a -/
inductive RM (K : PySem.W.Frag) (Φ H : Hp) : Addr → D → Prop
  | lst {a : Addr} {vs : List V} {ds : List D} (h : H a = some (.lst vs)) (r : RFs K Φ vs ds) : RM K Φ H a (.lst ds)
  | dct {a : Addr} {ks : List (Key × V)} {kvs : List (D × D)} (h : H a = some (.dK ks)) (r : RFk K Φ ks kvs) : RM K Φ H a (.dct kvs)
  | dtt {a : Addr} {ks : List (List Key × V)} {kvs : List (D × D)} (h : H a = some (.dT ks)) (r : RFt K Φ ks kvs) : RM K Φ H a (.dtt kvs)
  | ins {a dx : Addr} {fs : List (Str × V)} {c : Str} {gs : List (Str × D)} (h : H a = some (.ins (He.ga K c) dx fs)) (r : RFf K Φ fs gs) : RM K Φ H a (.ins c gs)
section
variable {K : PySem.W.Frag} {Φ Φ' H H' G : Hp} {a : Addr} {v : V} {d : D}
theorem RM.r1 (h : RM K Φ H a d) : R1 K Φ H (.ref a) d := by
  cases h with
  | lst h r => exact .lst (.inl h) r
  | dct h r => exact .dct (.inl h) r
  | dtt h r => exact .dtt (.inl h) r
  | ins h r => exact .ins h r
theorem RM.there (h : RM K Φ H a d) : ∃ o, H a = some o ∧ Mut (some o) := by
  cases h with
  | lst h r => exact ⟨_, h, trivial⟩
  | dct h r => exact ⟨_, h, trivial⟩
  | dtt h r => exact ⟨_, h, trivial⟩
  | ins h r => exact ⟨_, h, trivial⟩
theorem RM.ne (h : RM K Φ H a d) : H a ≠ none := by obtain ⟨o, e, _⟩ := h.there; rw [e]; exact nofun
theorem RM.noTup (h : RM K Φ H a d) (xs : List V) : H a ≠ some (.tup xs) := by
  obtain ⟨o, e, m⟩ := h.there
  rw [e]; intro z; cases z; exact m
theorem RM.move (h : RM K Φ H a d) (x : Ext Φ Φ') (k : ∀ o, H a = some o → H' a = some o) : RM K Φ' H' a d := by
  cases h with
  | lst h r => exact .lst (k _ h) (r.mono x)
  | dct h r => exact .dct (k _ h) (r.mono x)
  | dtt h r => exact .dtt (k _ h) (r.mono x)
  | ins h r => exact .ins (k _ h) (r.mono x)
/-- what is owned is frozen -/
theorem RM.freeze (h : RM K Φ H a d) (n : Φ a = none) : ∃ o, H a = some o ∧ RF K (upd Φ a o) (.ref a) d := by
  have x : ∀ o, Ext Φ (upd Φ a o) := fun o b u e => by rw [upd_ne (fun z => by rw [z, n] at e; cases e)]; exact e
  cases h with
  | lst h r => exact ⟨_, h, .lst (.inl upd_same) (r.mono (x _))⟩
  | dct h r => exact ⟨_, h, .dct (.inl upd_same) (r.mono (x _))⟩
  | dtt h r => exact ⟨_, h, .dtt (.inl upd_same) (r.mono (x _))⟩
  | ins h r => exact ⟨_, h, .ins upd_same (r.mono (x _))⟩
theorem R1.mono (h : R1 K Φ G v d) (x : Ext Φ Φ') : R1 K Φ' G v d := by
  cases h with
  | f h => exact .f (h.mono x)
  | lst h r => exact .lst h (r.mono x)
  | dct h r => exact .dct h (r.mono x)
  | dtt h r => exact .dtt h (r.mono x)
  | ins h r => exact .ins h (r.mono x)
end

theorem R1.sub {K : PySem.W.Frag} {Φ Ψ H : Hp} {v : V} {d : D} (s : Sub Ψ H) (h : R1 K Φ Ψ v d) : R1 K Φ H v d := by
  cases h with
  | f h1 => exact .f h1
  | lst h1 r1 => exact .lst (s.rd h1) r1
  | dct h1 r1 => exact .dct (s.rd h1) r1
  | dtt h1 r1 => exact .dtt (s.rd h1) r1
  | ins h1 r1 =>
    rcases s _ _ h1 with e | ⟨lk, ob, e⟩
    · exact .ins e r1
    · cases lk
/-! what is read, by its kind -/
section
variable {K : PySem.W.Frag} {Φ H : Hp} {v : V}
theorem R1.tup {ds : List D} (h : R1 K Φ H v (.tup ds)) (s : Sub Φ H) : ∃ a vs, v = .ref a ∧ SqT K H a vs ∧ RFs K Φ vs ds := by
  cases h with
  | f h1 => cases h1 with
    | tup h2 r2 => exact ⟨_, _, rfl, s.sqT h2.sq, r2⟩
theorem R1.lsts {ds : List D} (h : R1 K Φ H v (.lst ds)) (s : Sub Φ H) : ∃ a vs, v = .ref a ∧ Rd H a (.lst vs) ∧ RFs K Φ vs ds := by
  cases h with
  | f h1 => cases h1 with
    | lst h2 r2 => exact ⟨_, _, rfl, s.rd h2, r2⟩
  | lst h2 r2 => exact ⟨_, _, rfl, h2, r2⟩
theorem R1.dcts {ds : List (D × D)} (h : R1 K Φ H v (.dct ds)) (s : Sub Φ H) : ∃ a ks, v = .ref a ∧ Rd H a (.dK ks) ∧ RFk K Φ ks ds := by
  cases h with
  | f h1 => cases h1 with
    | dct h2 r2 => exact ⟨_, _, rfl, s.rd h2, r2⟩
  | dct h2 r2 => exact ⟨_, _, rfl, h2, r2⟩
theorem R1.dtts {ds : List (D × D)} (h : R1 K Φ H v (.dtt ds)) (s : Sub Φ H) : ∃ a ks, v = .ref a ∧ Rd H a (.dT ks) ∧ RFt K Φ ks ds := by
  cases h with
  | f h1 => cases h1 with
    | dtt h2 r2 => exact ⟨_, _, rfl, s.rd h2, r2⟩
  | dtt h2 r2 => exact ⟨_, _, rfl, h2, r2⟩
theorem R1.inss {c : Str} {gs : List (Str × D)} (h : R1 K Φ H v (.ins c gs)) (s : Sub Φ H) : ∃ a dx fs, v = .ref a ∧ H a = some (.ins (He.ga K c) dx fs) ∧ RFf K Φ fs gs := by
  cases h with
  | f h1 => cases h1 with
    | ins h2 r2 =>
      rcases s _ _ h2 with e | ⟨lk, ob, e⟩
      · exact ⟨_, _, _, rfl, e, r2⟩
      · cases lk
  | ins h2 r2 => exact ⟨_, _, _, rfl, h2, r2⟩
theorem R1.exns {c : Str} {gs : List (Str × D)} (h : R1 K Φ H v (.exn c gs)) (s : Sub Φ H) : ∃ a fs, v = .ref a ∧ ExAt H a (He.ga K c) fs ∧ RFf K Φ fs gs := by
  cases h with
  | f h1 => cases h1 with
    | exn h2 r2 =>
      refine ⟨_, _, rfl, h2.up fun b φ e => ?_, r2⟩
      rcases s _ _ e with e | ⟨lk, ob, e⟩
      · exact e
      · cases lk
theorem R1.non (h : R1 K Φ H v .non) : v = .non := by cases h with | f h1 => cases h1; rfl
theorem R1.bl {b : Bool} (h : R1 K Φ H v (.bl b)) : v = .bl b := by cases h with | f h1 => cases h1; rfl
theorem R1.int {b : Int} (h : R1 K Φ H v (.int b)) : v = .int b := by cases h with | f h1 => cases h1; rfl
theorem R1.str {b : Str} (h : R1 K Φ H v (.str b)) : v = .str b := by cases h with | f h1 => cases h1; rfl
theorem R1.ty {b : String} (h : R1 K Φ H v (.ty b)) : v = .ty b := by cases h with | f h1 => cases h1; rfl
theorem R1.obj {b : Str} (h : R1 K Φ H v (.obj b)) : v = .ref (He.ga K b) := by cases h with | f h1 => cases h1; rfl
end
/-! ### slots, values, environments -/
inductive Sl where
  | imm (d : D) | own (d : D) | bor (d : D) | mrf (d : D)
def Sl.d : Sl → D
  | .imm d => d
  | .own d => d
  | .bor d => d
  | .mrf d => d
def Sl.isM : Sl → Bool
  | .own _ => true
  | .mrf _ => true
  | _ => false
inductive Val where
  | imm (d : D) | own (d : D) | slot (i : Nat)
abbrev Env := List (Option Sl)
def cont (ρ : Env) : Val → Option D
  | .imm d => some d
  | .own d => some d
  | .slot i => match ρ[i]? with
    | some (some s) => some s.d
    | _ => none
inductive ECls where
  | own (x : Str) | bi (n : String)
structure Exc where
  cls : ECls
  fs : Option (List (Str × D)) := none
inductive Rs (α : Type) where
  | ok (a : α) | err (x : Exc)
abbrev M (α : Type) := Env → Option (Rs α × Env)
def ret {α : Type} (a : α) : M α := fun ρ => some (.ok a, ρ)
def bnd {α β : Type} (m : M α) (f : α → M β) : M β := fun ρ => match m ρ with
  | some (.ok a, ρ1) => f a ρ1
  | some (.err x, ρ1) => some (.err x, ρ1)
  | none => none

def ECls.v (K : PySem.W.Frag) : ECls → Value
  | .own x => .ref (He.ga K x)
  | .bi n => .type n
/-- an exception's class and dict stand for x -/
def ExR (K : PySem.W.Frag) (Φ H : Hp) (x : Exc) (c : Value) (d : Option Addr) : Prop :=
  c = x.cls.v K ∧ match x.fs with
    | none => d = none
    | some gs => ∃ a fs, d = some a ∧ H a = some (.xd fs) ∧ RFf K Φ fs gs

def SlR (K : PySem.W.Frag) (Φ Ψ : Hp) (Ms : List (Nat × Addr)) (H : Hp) (v : V) : Sl → Prop
  | .imm d => RF K Φ v d
  | .bor d => R1 K Φ Ψ v d
  | .own d => ∃ a, v = .ref a ∧ RM K Φ H a d ∧ Φ a = none ∧ Ψ a = none ∧ ∀ j, (j, a) ∉ Ms
  | .mrf d => ∃ a, v = .ref a ∧ RM K Φ H a d ∧ Φ a = none ∧ Ψ a = none ∧ ∃ j, (j, a) ∈ Ms
structure Rel (K : PySem.W.Frag) (Φ Ψ : Hp) (Ms : List (Nat × Addr)) (ρ : Env) (σ : St) (H : Hp) : Prop where
  len : ρ.length = σ.length
  sf : Sub Φ H
  sb : Sub Ψ H
  ms : ∀ (j : Nat) (a : Addr), (j, a) ∈ Ms → σ[j]? = some (some (.ref a)) ∧ ∃ d : D, ρ[j]? = some (some (.mrf d))
  sl : ∀ (i : Nat) (s : Sl), ρ[i]? = some (some s) → ∃ v : V, σ[i]? = some (some v) ∧ SlR K Φ Ψ Ms H v s
  dis : ∀ (i j : Nat) (s t : Sl) (a : Addr), i ≠ j → ρ[i]? = some (some s) → ρ[j]? = some (some t) → s.isM = true → t.isM = true → σ[i]? = some (some (.ref a)) → σ[j]? ≠ some (some (.ref a))
def Own (ρ : Env) (σ : St) (a : Addr) : Prop := ∃ (i : Nat) (s : Sl), ρ[i]? = some (some s) ∧ s.isM = true ∧ σ[i]? = some (some (.ref a))
structure Step (Φ : Hp) (O : Addr → Prop) (H Φ' : Hp) (O' : Addr → Prop) (H' : Hp) : Prop where
  f1 : Ext Φ Φ'
  f2 : ∀ a o, H a = some o → ¬ O a → H' a = some o
  f3 : ∀ a o, Φ' a = some o → Φ a = some o ∨ H a = none ∨ O a ∨ ∃ xs, H a = some (.tup xs)
  f4 : ∀ a, O' a → O a ∨ H a = none
  f5 : ∀ a, H a ≠ none → H' a ≠ none
theorem Step.refl {Φ H : Hp} {O : Addr → Prop} : Step Φ O H Φ O H := ⟨Ext.refl _, fun _ _ e _ => e, fun _ _ e => .inl e, fun _ e => .inl e, fun _ e => e⟩
theorem Step.trans {Φ Φ1 Φ2 H H1 H2 : Hp} {O O1 O2 : Addr → Prop} (x : Step Φ O H Φ1 O1 H1) (y : Step Φ1 O1 H1 Φ2 O2 H2) : Step Φ O H Φ2 O2 H2 where
  f1 := x.f1.trans y.f1
  f2 := fun a o e n => y.f2 a o (x.f2 a o e n) fun z => by
    rcases x.f4 a z with q | q
    · exact n q
    · rw [e] at q; cases q
  f3 := fun a o e => by
    rcases y.f3 a o e with q | q | q | ⟨xs, q⟩
    · exact x.f3 a o q
    · by_cases hh : H a = none
      · exact .inr (.inl hh)
      · exact absurd q (x.f5 a hh)
    · rcases x.f4 a q with z | z
      · exact .inr (.inr (.inl z))
      · exact .inr (.inl z)
    · by_cases ho : O a
      · exact .inr (.inr (.inl ho))
      · cases hh : H a with
        | none => exact .inr (.inl rfl)
        | some u =>
          have := x.f2 a u hh ho
          rw [q] at this
          cases this
          exact .inr (.inr (.inr ⟨xs, rfl⟩))
  f4 := fun a e => by
    rcases y.f4 a e with q | q
    · exact x.f4 a q
    · by_cases hh : H a = none
      · exact .inr hh
      · exact absurd q (x.f5 a hh)
  f5 := fun a e => y.f5 a (x.f5 a e)

section
variable {K : PySem.W.Frag} {Φ Φ' Ψ H H' : Hp} {Ms : List (Nat × Addr)} {ρ ρ' : Env} {σ : St}
theorem Rel.own (R : Rel K Φ Ψ Ms ρ σ H) {a : Addr} (o : Own ρ σ a) : (∃ d, RM K Φ H a d) ∧ Φ a = none ∧ Ψ a = none := by
  obtain ⟨i, s, e, m, es⟩ := o
  obtain ⟨v, ev, r⟩ := R.sl i s e
  rw [es] at ev; cases ev
  cases s with
  | imm d => cases m
  | bor d => cases m
  | own d => obtain ⟨b, e1, r1, n1, n2, _⟩ := r; cases e1; exact ⟨⟨d, r1⟩, n1, n2⟩
  | mrf d => obtain ⟨b, e1, r1, n1, n2, _⟩ := r; cases e1; exact ⟨⟨d, r1⟩, n1, n2⟩

def ValR (K : PySem.W.Frag) (Φ' : Hp) (ρ' : Env) (σ : St) (H H' : Hp) (v : V) : Val → Prop
  | .imm d => RF K Φ' v d
  | .own d => ∃ a, v = .ref a ∧ RM K Φ' H' a d ∧ Φ' a = none ∧ ¬ Own ρ' σ a ∧ H a = none
  | .slot i => σ[i]? = some (some v)
/-- a value stays behind a further step -/
theorem ValR.step {H0 : Hp} {v : V} {val : Val} (h : ValR K Φ ρ σ H0 H v val) (s : Step Φ (Own ρ σ) H Φ' (Own ρ' σ) H') : ValR K Φ' ρ' σ H0 H' v val := by
  cases val with
  | imm d => exact RF.mono s.f1 h
  | own d =>
    obtain ⟨a, e, r, n1, n2, n3⟩ := h
    refine ⟨a, e, r.move s.f1 fun o q => s.f2 a o q n2, ?_, ?_, n3⟩
    · cases q : Φ' a with
      | none => rfl
      | some o =>
        rcases s.f3 a o q with z | z | z | ⟨xs, z⟩
        · rw [n1] at z; cases z
        · exact absurd z r.ne
        · exact absurd z n2
        · exact absurd z (r.noTup _)
    · intro z
      rcases s.f4 a z with q | q
      · exact n2 q
      · exact r.ne q
  | slot i => exact h
/-- its content -/
theorem ValR.read {H0 : Hp} {v : V} {val : Val} {d : D} (R : Rel K Φ Ψ Ms ρ σ H) (h : ValR K Φ ρ σ H0 H v val) (e : cont ρ val = some d) : R1 K Φ H v d := by
  cases val with
  | imm d' => cases e; exact .f h
  | own d' =>
    cases e
    obtain ⟨a, e, r, _⟩ := h
    subst e
    exact r.r1
  | slot i =>
    simp only [cont] at e
    cases q : ρ[i]? with
    | none => rw [q] at e; cases e
    | some o =>
      cases o with
      | none => rw [q] at e; cases e
      | some s =>
        rw [q] at e
        cases e
        obtain ⟨w, ew, r⟩ := R.sl i s q
        have h' : σ[i]? = some (some v) := h
        rw [h'] at ew; cases ew
        cases s with
        | imm d => exact .f r
        | bor d => exact R1.sub R.sb r
        | own d => obtain ⟨a, e, r, _⟩ := r; subst e; exact r.r1
        | mrf d => obtain ⟨a, e, r, _⟩ := r; subst e; exact r.r1
end

/-! ### what a reading yields -/
abbrev Good (α : Type) := α → Hp → Env → Hp → Prop
def PostG (K : PySem.W.Frag) (Ψ : Hp) (Ms : List (Nat × Addr)) (σ : St) (W : XK) (Φ : Hp) (ρ : Env) (H : Hp) {α : Type} (good : Good α) : Option (Rs α × Env) → Prop
  | none => False
  | some (.ok a, ρ') => ∀ Φ' H', Rel K Φ' Ψ Ms ρ' σ H' → Step Φ (Own ρ σ) H Φ' (Own ρ' σ) H' → good a Φ' ρ' H'
  | some (.err x, ρ') => ∀ Φ' H' c d, Rel K Φ' Ψ Ms ρ' σ H' → Step Φ (Own ρ σ) H Φ' (Own ρ' σ) H' → ExR K Φ' H' x c d → W c d H'
def gV (K : PySem.W.Frag) (σ : St) (H : Hp) (Q : VK) : Good Val := fun val Φ' ρ' H' => ∀ v, ValR K Φ' ρ' σ H H' v val → Q v H'
def EvM (K : PySem.W.Frag) (W : St → XK) (t : TE) (m : M Val) : Prop :=
  ∀ Φ Ψ Ms ρ σ H Q, Rel K Φ Ψ Ms ρ σ H → PostG K Ψ Ms σ (W σ) Φ ρ H (gV K σ H Q) (m ρ) → t σ H Q
/-- a test: its answer -/
def gB (Q : Bool → Hp → Prop) : Good Bool := fun b _ _ H' => Q b H'
def EvB (K : PySem.W.Frag) (W : St → XK) (t : TT) (m : M Bool) : Prop :=
  ∀ Φ Ψ Ms ρ σ H Q, Rel K Φ Ψ Ms ρ σ H → PostG K Ψ Ms σ (W σ) Φ ρ H (gB Q) (m ρ) → t σ H Q
/-- arguments: their values, from the left; two temporaries never share an object -/
inductive ValsR (K : PySem.W.Frag) (Φ' : Hp) (ρ' : Env) (σ : St) (H H' : Hp) : List V → List Val → Prop
  | nil : ValsR K Φ' ρ' σ H H' [] []
  | cons {v : V} {val : Val} {vs : List V} {vals : List Val} (r : ValR K Φ' ρ' σ H H' v val) (t : ValsR K Φ' ρ' σ H H' vs vals)
      (n : ∀ d d', val = .own d → (v, Val.own d') ∉ vs.zip vals) : ValsR K Φ' ρ' σ H H' (v :: vs) (val :: vals)
def gA (K : PySem.W.Frag) (σ : St) (H : Hp) (Q : List V → Hp → Prop) : Good (List Val) := fun vals Φ' ρ' H' => ∀ vs, ValsR K Φ' ρ' σ H H' vs vals → Q vs H'
def EvA (K : PySem.W.Frag) (W : St → XK) (t : TA) (m : M (List Val)) : Prop :=
  ∀ Φ Ψ Ms ρ σ H Q, Rel K Φ Ψ Ms ρ σ H → PostG K Ψ Ms σ (W σ) Φ ρ H (gA K σ H Q) (m ρ) → t σ H Q
section
variable {K : PySem.W.Frag} {Φ Φ1 Ψ H H1 : Hp} {Ms : List (Nat × Addr)} {ρ ρ1 : Env} {σ : St} {W : XK}
theorem PostG.from_ {α : Type} {good : Good α} {p : Option (Rs α × Env)} (s : Step Φ (Own ρ σ) H Φ1 (Own ρ1 σ) H1) (h : PostG K Ψ Ms σ W Φ ρ H good p) : PostG K Ψ Ms σ W Φ1 ρ1 H1 good p := by
  match p, h with
  | some (.ok val, ρ'), h => exact fun Φ' H' R' s' => h Φ' H' R' (s.trans s')
  | some (.err x, ρ'), h => exact fun Φ' H' c d R' s' r => h Φ' H' c d R' (s.trans s') r
theorem PostG.mono {α : Type} {good good' : Good α} {p : Option (Rs α × Env)} (h : PostG K Ψ Ms σ W Φ ρ H good p) (k : ∀ a Φ' ρ' H', Rel K Φ' Ψ Ms ρ' σ H' → Step Φ (Own ρ σ) H Φ' (Own ρ' σ) H' → good a Φ' ρ' H' → good' a Φ' ρ' H') : PostG K Ψ Ms σ W Φ ρ H good' p := by
  match p, h with
  | some (.ok val, ρ'), h => exact fun Φ' H' R' s' => k _ _ _ _ R' s' (h Φ' H' R' s')
  | some (.err x, ρ'), h => exact h
theorem PostG.bnd' {α β : Type} {m : M α} {f : α → M β} {good : Good β} (h : PostG K Ψ Ms σ W Φ ρ H good (bnd m f ρ)) :
    PostG K Ψ Ms σ W Φ ρ H (fun a _ ρ1 _ => PostG K Ψ Ms σ W Φ ρ H good (f a ρ1)) (m ρ) := by
  unfold Z.bnd at h
  cases e : m ρ with
  | none => rw [e] at h; exact h
  | some p =>
    obtain ⟨r, ρ1⟩ := p
    rw [e] at h
    cases r with
    | ok val => exact fun Φ' H' R s => h
    | err x => exact h
theorem PostG.bnd {α β : Type} {m : M α} {f : α → M β} {good : Good β} (h : PostG K Ψ Ms σ W Φ ρ H good (bnd m f ρ)) :
    PostG K Ψ Ms σ W Φ ρ H (fun a Φ1 ρ1 H1 => PostG K Ψ Ms σ W Φ1 ρ1 H1 good (f a ρ1)) (m ρ) := by
  unfold Z.bnd at h
  cases e : m ρ with
  | none => rw [e] at h; exact h
  | some p =>
    obtain ⟨r, ρ1⟩ := p
    rw [e] at h
    cases r with
    | ok val => exact fun Φ' H' R s => h.from_ s
    | err x => exact h
end

/-! ### growth -/
structure Gr (Φ H Φ' H' : Hp) : Prop where
  hx : Ext H H'
  fx : Ext Φ Φ'
  fn : ∀ a o, Φ' a = some o → Φ a = some o ∨ H a = none
  sb : Sub Φ' H'
theorem Gr.refl {Φ H : Hp} (s : Sub Φ H) : Gr Φ H Φ H := ⟨Ext.refl _, Ext.refl _, fun _ _ e => .inl e, s⟩
theorem Ext.new {H : Hp} {p : Addr} {o : HO} (h : H p = none) : Ext H (upd H p o) := fun a u e => by
  rw [upd_ne (ne_of_none e h)]
  exact e
/-- a new object that is not frozen -/
theorem Gr.newM {Φ H : Hp} {p : Addr} {o : HO} (s : Sub Φ H) (h : H p = none) : Gr Φ H Φ (upd H p o) :=
  ⟨Ext.new h, Ext.refl _, fun _ _ e => .inl e, fun a u e => by
    rcases s a u e with q | ⟨l, ob, q⟩
    · exact .inl (Ext.new h _ _ q)
    · exact .inr ⟨l, ob, Ext.new h _ _ q⟩⟩
theorem Sub.none {Φ H : Hp} {p : Addr} (s : Sub Φ H) (h : H p = none) : Φ p = none := by
  cases e : Φ p with
  | none => rfl
  | some o =>
    rcases s p o e with q | ⟨_, ob, q⟩ <;> rw [h] at q <;> cases q
/-- a new object, frozen at once -/
theorem Gr.newF {Φ H : Hp} {p : Addr} {o : HO} (s : Sub Φ H) (h : H p = none) : Gr Φ H (upd Φ p o) (upd H p o) :=
  ⟨Ext.new h, Ext.new (s.none h), fun a u e => by
    by_cases z : a = p
    · exact .inr (z ▸ h)
    · rw [upd_ne z] at e; exact .inl e, fun a u e => by
    by_cases z : a = p
    · subst z; rw [upd_same] at e; cases e; exact .inl upd_same
    · rw [upd_ne z] at e
      rcases s a u e with q | ⟨l, ob, q⟩
      · exact .inl (by rw [upd_ne z]; exact q)
      · exact .inr ⟨l, ob, by rw [upd_ne z]; exact q⟩⟩
section
variable {K : PySem.W.Frag} {Φ Φ' Ψ H H' : Hp} {Ms : List (Nat × Addr)} {ρ ρ' : Env} {σ : St}
theorem Ext.back {A B : Hp} (x : Ext A B) {a : Addr} (h : B a = none) : A a = none := by
  cases e : A a with
  | none => rfl
  | some o => rw [x a o e] at h; cases h
theorem Gr.phiNone (g : Gr Φ H Φ' H') {a : Addr} (h : Φ a = none) (n : H a ≠ none) : Φ' a = none := by
  cases e : Φ' a with
  | none => rfl
  | some o =>
    rcases g.fn a o e with q | q
    · rw [h] at q; cases q
    · exact absurd q n
theorem Rel.grow (R : Rel K Φ Ψ Ms ρ σ H) (g : Gr Φ H Φ' H') : Rel K Φ' Ψ Ms ρ σ H' where
  len := R.len
  sf := g.sb
  sb := fun a o e => by
    rcases R.sb a o e with q | ⟨l, ob, q⟩
    · exact .inl (g.hx _ _ q)
    · exact .inr ⟨l, ob, g.hx _ _ q⟩
  ms := R.ms
  sl := fun i s e => by
    obtain ⟨v, ev, r⟩ := R.sl i s e
    refine ⟨v, ev, ?_⟩
    cases s with
    | imm d => exact RF.mono g.fx r
    | bor d => exact R1.mono r g.fx
    | own d => obtain ⟨a, e1, r1, n1, n2, n3⟩ := r; exact ⟨a, e1, r1.move g.fx fun o q => g.hx _ _ q, g.phiNone n1 r1.ne, n2, n3⟩
    | mrf d => obtain ⟨a, e1, r1, n1, n2, n3⟩ := r; exact ⟨a, e1, r1.move g.fx fun o q => g.hx _ _ q, g.phiNone n1 r1.ne, n2, n3⟩
  dis := R.dis
theorem Gr.step (g : Gr Φ H Φ' H') {O : Addr → Prop} : Step Φ O H Φ' O H' :=
  ⟨g.fx, fun a o e _ => g.hx a o e, fun a o e => (g.fn a o e).elim .inl fun z => .inr (.inl z), fun _ e => .inl e, fun a n z => n (g.hx.back z)⟩
end

/-! ### operators by values -/
/-- what is wanted of a new value -/
def ResR (K : PySem.W.Frag) (Φ' H H' : Hp) (v : V) : Val → Prop
  | .imm d => RF K Φ' v d
  | .own d => ∃ a, v = .ref a ∧ RM K Φ' H' a d ∧ H a = none ∧ Φ' a = none
  | .slot _ => False
def ResQ (K : PySem.W.Frag) (Φ H : Hp) (Q : VK) (val : Val) : Prop := ∀ Φ' H' v, Gr Φ H Φ' H' → ResR K Φ' H H' v val → Q v H'
def OpM (K : PySem.W.Frag) (r : R2) (f : D → D → Option Val) : Prop :=
  ∀ Φ H x y a b val Q, Sub Φ H → R1 K Φ H x a → R1 K Φ H y b → f a b = some val → ResQ K Φ H Q val → r x y H Q
def UnM (K : PySem.W.Frag) (r : V → Hp → VK → Prop) (f : D → Option Val) : Prop :=
  ∀ Φ H x a val Q, Sub Φ H → R1 K Φ H x a → f a = some val → ResQ K Φ H Q val → r x H Q
inductive R1s (K : PySem.W.Frag) (Φ H : Hp) : List V → List D → Prop
  | nil : R1s K Φ H [] []
  | cons {v : V} {d : D} {vs : List V} {ds : List D} (r : R1 K Φ H v d) (t : R1s K Φ H vs ds) : R1s K Φ H (v :: vs) (d :: ds)
def CallM (K : PySem.W.Frag) (r : List V → Hp → VK → Prop) (f : List D → Option Val) : Prop :=
  ∀ Φ H xs ds val Q, Sub Φ H → R1s K Φ H xs ds → f ds = some val → ResQ K Φ H Q val → r xs H Q

def xVar (i : Nat) : M Val := fun ρ => match ρ[i]? with
  | some (some _) => some (.ok (.slot i), ρ)
  | _ => none
def D.solid : D → Bool
  | .lst _ => false
  | .dct _ => false
  | .dtt _ => false
  | .ins _ _ => false
  | _ => true
/-- the content, to be kept: what a slot owned is frozen -/
def share : Val → M D
  | .imm d => ret d
  | .own d => ret d
  | .slot i => fun ρ => match ρ[i]? with
    | some (some (.imm d)) => some (.ok d, ρ)
    | some (some (.own d)) => some (.ok d, ρ.set i (some (.imm d)))
    | some (some (.bor d)) => if d.solid = true then some (.ok d, ρ) else none
    | _ => none
def shares : List Val → M (List D)
  | [] => ret []
  | v :: vs => bnd (share v) fun d => bnd (shares vs) fun ds => ret (d :: ds)
def xOp (f : D → D → Option Val) (ma mb : M Val) : M Val := bnd ma fun va => bnd mb fun vb => fun ρ => match cont ρ va, cont ρ vb with
  | some a, some b => (f a b).map fun v => (.ok v, ρ)
  | _, _ => none
def xUn (f : D → Option Val) (ma : M Val) : M Val := bnd ma fun va => fun ρ => match cont ρ va with
  | some a => (f a).map fun v => (.ok v, ρ)
  | _ => none
def conts (ρ : Env) : List Val → Option (List D)
  | [] => some []
  | v :: vs => match cont ρ v, conts ρ vs with
    | some d, some ds => some (d :: ds)
    | _, _ => none
def xCallB (f : List D → Option Val) (ma : M (List Val)) : M Val := bnd ma fun vs => fun ρ => match conts ρ vs with
  | some ds => (f ds).map fun v => (.ok v, ρ)
  | _ => none
def xArgs : List (M Val) → M (List Val)
  | [] => ret []
  | m :: ms => bnd m fun v => bnd (xArgs ms) fun vs => ret (v :: vs)

section
variable {K : PySem.W.Frag} {W : St → XK} {Φ Φ' Ψ H H' H0 : Hp} {Ms : List (Nat × Addr)} {ρ ρ' : Env} {σ : St}
theorem ResR.val {v : V} {val : Val} (R : Rel K Φ Ψ Ms ρ σ H) (g : Gr Φ H Φ' H') (s : ∀ a, H a = none → H0 a = none) (h : ResR K Φ' H H' v val) : ValR K Φ' ρ σ H0 H' v val := by
  cases val with
  | imm d => exact h
  | own d =>
    obtain ⟨a, e, r, n1, n2⟩ := h
    refine ⟨a, e, r, n2, fun o => ?_, s a n1⟩
    obtain ⟨⟨d', rm⟩, _⟩ := R.own o
    exact rm.ne n1
  | slot i => exact h.elim
theorem ValR.start {v : V} {val : Val} (s : ∀ a, H a = none → H0 a = none) (h : ValR K Φ' ρ' σ H H' v val) : ValR K Φ' ρ' σ H0 H' v val := by
  cases val with
  | imm d => exact h
  | own d => obtain ⟨a, e, r, n1, n2, n3⟩ := h; exact ⟨a, e, r, n1, n2, s a n3⟩
  | slot i => exact h
theorem Step.fresh {O O' : Addr → Prop} (s : Step Φ O H Φ' O' H') : ∀ a, H' a = none → H a = none := fun a z => by
  by_cases h : H a = none
  · exact h
  · exact absurd z (s.f5 a h)

theorem gV.start {Q : VK} (s : ∀ a, H a = none → H0 a = none) {val : Val} {Φ' H' : Hp} {ρ' : Env} (h : gV K σ H0 Q val Φ' ρ' H') : gV K σ H Q val Φ' ρ' H' := fun v r => h v (r.start s)

/-- run the first part, then go on -/
theorem EvM.then_ {t : TE} {m : M Val} {α : Type} {good : Good α} {f : Val → M α} {Q : VK} (he : EvM K W t m) (R : Rel K Φ Ψ Ms ρ σ H) (h : PostG K Ψ Ms σ (W σ) Φ ρ H good (bnd m f ρ))
    (k : ∀ val Φ1 ρ1 H1 v, Rel K Φ1 Ψ Ms ρ1 σ H1 → Step Φ (Own ρ σ) H Φ1 (Own ρ1 σ) H1 → ValR K Φ1 ρ1 σ H H1 v val → PostG K Ψ Ms σ (W σ) Φ1 ρ1 H1 good (f val ρ1) → Q v H1) : t σ H Q :=
  he Φ Ψ Ms ρ σ H Q R (h.bnd.mono fun val Φ1 ρ1 H1 R1 s1 h1 v r => k val Φ1 ρ1 H1 v R1 s1 r h1)

theorem evm_op {r : R2} {f : D → D → Option Val} {ta tb : TE} {ma mb : M Val} (o : OpM K r f) (ha : EvM K W ta ma) (hb : EvM K W tb mb) : EvM K W (tOp r ta tb) (xOp f ma mb) := by
  intro Φ Ψ Ms ρ σ H Q R h
  refine ha.then_ R h fun va Φ1 ρ1 H1 x R1 s1 r1 h => ?_
  refine hb.then_ R1 h fun vb Φ2 ρ2 H2 y R2 s2 r2 h => ?_
  have r1' := r1.step s2
  cases ea : cont ρ2 va with
  | none => rw [ea] at h; exact h.elim
  | some a =>
    cases eb : cont ρ2 vb with
    | none => rw [ea, eb] at h; exact h.elim
    | some b =>
      rw [ea, eb] at h
      simp only at h
      cases ef : f a b with
      | none => rw [ef] at h; exact h.elim
      | some val =>
        rw [ef] at h
        have s := s1.trans s2
        refine o Φ2 H2 x y a b val Q R2.sf (r1'.read R2 ea) (r2.read R2 eb) ef fun Φ' H' v g r => ?_
        exact h Φ' H' (R2.grow g) g.step v (r.val R2 g s.fresh)
theorem evm_un {r : V → Hp → VK → Prop} {f : D → Option Val} {ta : TE} {ma : M Val} (o : UnM K r f) (ha : EvM K W ta ma) : EvM K W (tUn r ta) (xUn f ma) := by
  intro Φ Ψ Ms ρ σ H Q R h
  refine ha.then_ R h fun va Φ1 ρ1 H1 x R1 s1 r1 h => ?_
  cases ea : cont ρ1 va with
  | none => rw [ea] at h; exact h.elim
  | some a =>
    rw [ea] at h
    simp only at h
    cases ef : f a with
    | none => rw [ef] at h; exact h.elim
    | some val =>
      rw [ef] at h
      refine o Φ1 H1 x a val Q R1.sf (r1.read R1 ea) ef fun Φ' H' v g r => ?_
      exact h Φ' H' (R1.grow g) g.step v (r.val R1 g s1.fresh)
theorem evm_var {i : Nat} : EvM K W (tVar i) (xVar i) := by
  intro Φ Ψ Ms ρ σ H Q R h
  unfold xVar at h
  cases e : ρ[i]? with
  | none => simp only [e] at h; exact h.elim
  | some o =>
    cases o with
    | none => simp only [e] at h; exact h.elim
    | some s =>
      simp only [e] at h
      obtain ⟨v, ev, r⟩ := R.sl i s e
      exact ⟨v, ev, h Φ H R Step.refl v ev⟩
/-! ### keeping a value -/
theorem RM.rf_upd {a : Addr} {d : D} (h : RM K Φ H a d) (n : Φ a = none) : ∃ o, H a = some o ∧ RF K (upd Φ a o) (.ref a) d := h.freeze n
theorem Ext.updN {Φ : Hp} {a : Addr} {o : HO} (n : Φ a = none) : Ext Φ (upd Φ a o) := Ext.new n
/-- a temporary is frozen -/
theorem Rel.frzT {a : Addr} {o : HO} (R : Rel K Φ Ψ Ms ρ σ H) (ho : H a = some o) (n : Φ a = none) (no : ¬ Own ρ σ a) : Rel K (upd Φ a o) Ψ Ms ρ σ H where
  len := R.len
  sf := fun b u e => by
    by_cases z : b = a
    · subst z; rw [upd_same] at e; cases e; exact .inl ho
    · rw [upd_ne z] at e; exact R.sf b u e
  sb := R.sb
  ms := R.ms
  sl := fun i s e => by
    obtain ⟨v, ev, r⟩ := R.sl i s e
    refine ⟨v, ev, ?_⟩
    cases s with
    | imm d => exact RF.mono (Ext.new n) r
    | bor d => exact R1.mono r (Ext.new n)
    | own d =>
      obtain ⟨b, e1, r1, n1, n2, n3⟩ := r
      have hb : b ≠ a := fun z => no ⟨i, .own d, e, rfl, by rw [ev, e1, z]⟩
      exact ⟨b, e1, r1.move (Ext.new n) fun _ q => q, by rw [upd_ne hb]; exact n1, n2, n3⟩
    | mrf d =>
      obtain ⟨b, e1, r1, n1, n2, n3⟩ := r
      have hb : b ≠ a := fun z => no ⟨i, .mrf d, e, rfl, by rw [ev, e1, z]⟩
      exact ⟨b, e1, r1.move (Ext.new n) fun _ q => q, by rw [upd_ne hb]; exact n1, n2, n3⟩
  dis := R.dis
/-- an owned slot is frozen -/
theorem get_set_self {ρ : Env} {i : Nat} {s t : Option Sl} (h : ρ[i]? = some s) : (ρ.set i t)[i]? = some t := by
  obtain ⟨hl, _⟩ := List.getElem?_eq_some_iff.mp h
  exact List.getElem?_set_self hl
theorem own_set {i : Nat} {s : Sl} {a : Addr} (hm : s.isM = false) (o : Own (ρ.set i (some s)) σ a) : Own ρ σ a := by
  obtain ⟨j, t, e, m, es⟩ := o
  by_cases z : j = i
  · subst z
    have hl : j < ρ.length := by
      by_cases hl : j < ρ.length
      · exact hl
      · rw [List.getElem?_eq_none_iff.mpr (by simpa using hl)] at e; cases e
    rw [List.getElem?_set_self hl] at e
    cases e
    rw [hm] at m; cases m
  · rw [List.getElem?_set_ne (Ne.symm z)] at e
    exact ⟨j, t, e, m, es⟩
theorem own_drop {i : Nat} {a : Addr} (o : Own (ρ.set i none) σ a) : Own ρ σ a := by
  obtain ⟨j, t, e, m, es⟩ := o
  by_cases z : j = i
  · subst z
    by_cases hl : j < ρ.length
    · rw [List.getElem?_set_self hl] at e; cases e
    · rw [List.getElem?_eq_none_iff.mpr (by simpa using hl)] at e; cases e
  · rw [List.getElem?_set_ne (Ne.symm z)] at e
    exact ⟨j, t, e, m, es⟩
/-- a slot is given a value -/
theorem Rel.put {i : Nat} {v : V} {s : Sl} (R : Rel K Φ Ψ Ms ρ σ H) (h : SlR K Φ Ψ Ms H v s) (hm : s.isM = true → ∀ a, v = .ref a → ¬ Own (ρ.set i none) σ a)
    (hi : ∀ a, (i, a) ∈ Ms → v = .ref a ∧ ∃ d, s = .mrf d) : Rel K Φ Ψ Ms (ρ.set i (some s)) (σ.set i (some v)) H where
  len := by rw [List.length_set, List.length_set]; exact R.len
  sf := R.sf
  sb := R.sb
  ms := fun j a m => by
    obtain ⟨e1, d, e2⟩ := R.ms j a m
    by_cases z : j = i
    · subst z
      obtain ⟨rfl, d', rfl⟩ := hi a m
      exact ⟨List.getElem?_set_self (List.getElem?_eq_some_iff.mp e1).1, d', List.getElem?_set_self (List.getElem?_eq_some_iff.mp e2).1⟩
    · rw [List.getElem?_set_ne (Ne.symm z), List.getElem?_set_ne (Ne.symm z)]
      exact ⟨e1, d, e2⟩
  sl := fun j t e => by
    by_cases z : j = i
    · subst z
      by_cases hl : j < ρ.length
      · rw [List.getElem?_set_self hl] at e
        cases e
        exact ⟨v, List.getElem?_set_self (by rw [← R.len]; exact hl), h⟩
      · rw [List.getElem?_eq_none_iff.mpr (by simpa using hl)] at e; cases e
    · rw [List.getElem?_set_ne (Ne.symm z)] at e
      rw [List.getElem?_set_ne (Ne.symm z)]
      exact R.sl j t e
  dis := fun j k t u a ne ej ek mt mu ea eb => by
    have get : ∀ {j : Nat} {t : Sl}, (ρ.set i (some s))[j]? = some (some t) → (j = i ∧ t = s ∧ i < ρ.length) ∨ (j ≠ i ∧ ρ[j]? = some (some t)) := fun {j t} e => by
      by_cases z : j = i
      · subst z
        by_cases hl : j < ρ.length
        · rw [List.getElem?_set_self hl] at e; cases e; exact .inl ⟨rfl, rfl, hl⟩
        · rw [List.getElem?_eq_none_iff.mpr (by simpa using hl)] at e; cases e
      · rw [List.getElem?_set_ne (Ne.symm z)] at e; exact .inr ⟨z, e⟩
    have self : i < ρ.length → (σ.set i (some v))[i]? = some (some v) := fun hl => List.getElem?_set_self (by rw [← R.len]; exact hl)
    rcases get ej with ⟨rfl, rfl, hl⟩ | ⟨nj, ej'⟩
    · rcases get ek with ⟨rfl, _, _⟩ | ⟨nk, ek'⟩
      · exact ne rfl
      · rw [self hl] at ea
        rw [List.getElem?_set_ne (Ne.symm nk)] at eb
        cases ea
        exact hm mt a rfl ⟨k, u, by rw [List.getElem?_set_ne (Ne.symm nk)]; exact ek', mu, eb⟩
    · rcases get ek with ⟨rfl, rfl, hl⟩ | ⟨nk, ek'⟩
      · rw [self hl] at eb
        rw [List.getElem?_set_ne (Ne.symm nj)] at ea
        cases eb
        exact hm mu a rfl ⟨j, t, by rw [List.getElem?_set_ne (Ne.symm nj)]; exact ej', mt, ea⟩
      · rw [List.getElem?_set_ne (Ne.symm nj)] at ea
        rw [List.getElem?_set_ne (Ne.symm nk)] at eb
        exact R.dis j k t u a ne ej' ek' mt mu ea eb
theorem set_same {i : Nat} {v : V} (h : σ[i]? = some (some v)) : σ.set i (some v) = σ := by
  obtain ⟨hl, e⟩ := List.getElem?_eq_some_iff.mp h
  rw [← e]; exact List.set_getElem_self hl
theorem Rel.drop (R : Rel K Φ Ψ Ms ρ σ H) (i : Nat) (hi : ∀ a, (i, a) ∉ Ms) : Rel K Φ Ψ Ms (ρ.set i none) σ H where
  len := by rw [List.length_set]; exact R.len
  sf := R.sf
  sb := R.sb
  ms := fun j a m => by
    have z : i ≠ j := fun z => hi a (z ▸ m)
    rw [List.getElem?_set_ne z]
    exact R.ms j a m
  sl := fun j t e => by
    by_cases z : j = i
    · subst z
      by_cases hl : j < ρ.length
      · rw [List.getElem?_set_self hl] at e; cases e
      · rw [List.getElem?_eq_none_iff.mpr (by simpa using hl)] at e; cases e
    · rw [List.getElem?_set_ne (Ne.symm z)] at e
      exact R.sl j t e
  dis := fun j k t u a ne ej ek mt mu ea eb => by
    have get : ∀ {j : Nat} {t : Sl}, (ρ.set i none)[j]? = some (some t) → ρ[j]? = some (some t) := fun {j t} e => by
      by_cases z : j = i
      · subst z
        by_cases hl : j < ρ.length
        · rw [List.getElem?_set_self hl] at e; cases e
        · rw [List.getElem?_eq_none_iff.mpr (by simpa using hl)] at e; cases e
      · rw [List.getElem?_set_ne (Ne.symm z)] at e; exact e
    exact R.dis j k t u a ne (get ej) (get ek) mt mu ea eb
theorem set_set_env {i : Nat} {a b : Option Sl} : (ρ.set i a).set i b = ρ.set i b := List.set_set ..
theorem Rel.frzS {i : Nat} {d : D} (R : Rel K Φ Ψ Ms ρ σ H) (e : ρ[i]? = some (some (.own d))) : ∃ a o, σ[i]? = some (some (.ref a)) ∧ H a = some o ∧ Φ a = none ∧ RF K (upd Φ a o) (.ref a) d ∧
    Rel K (upd Φ a o) Ψ Ms (ρ.set i (some (.imm d))) σ H ∧ Own ρ σ a ∧ ¬ Own (ρ.set i (some (.imm d))) σ a := by
  obtain ⟨v, ev, a, rfl, rm, n1, n2, n3⟩ := R.sl i _ e
  obtain ⟨o, ho, rf⟩ := rm.freeze n1
  have no : ∀ s : Option Sl, (∀ t, s = some t → t.isM = false) → ¬ Own (ρ.set i s) σ a := fun s hs q => by
    obtain ⟨j, t, e', m, es⟩ := q
    by_cases z : j = i
    · subst z; rw [get_set_self e] at e'; cases e'; rw [hs t rfl] at m; cases m
    · rw [List.getElem?_set_ne (Ne.symm z)] at e'
      exact R.dis i j _ t a (Ne.symm z) e e' rfl m ev es
  refine ⟨a, o, ev, ho, n1, rf, ?_, ⟨i, _, e, rfl, ev⟩, no _ fun t q => by cases q; rfl⟩
  have hi : ∀ a, (i, a) ∉ Ms := fun b m => by obtain ⟨_, d', e'⟩ := R.ms i b m; rw [e] at e'; cases e'
  have R1 := (R.drop i hi).frzT ho n1 (no none fun t q => by cases q)
  have R2 := R1.put (i := i) (v := .ref a) (s := .imm d) rf (fun z => by cases z) (fun b m => absurd m (hi b))
  rw [set_set_env, set_same ev] at R2
  exact R2
/-- a value kept: from a start H0 (a temporary is younger than it) -/
theorem share_ok {Φ0 : Hp} {O0 : Addr → Prop} {v : V} {val : Val} {p : Rs D × Env} (R : Rel K Φ Ψ Ms ρ σ H) (st : Step Φ0 O0 H0 Φ (Own ρ σ) H) (r : ValR K Φ ρ σ H0 H v val) (e : share val ρ = some p) :
    ∃ d Φ', p = (.ok d, p.2) ∧ Rel K Φ' Ψ Ms p.2 σ H ∧ Step Φ0 O0 H0 Φ' (Own p.2 σ) H ∧ RF K Φ' v d ∧ Ext Φ Φ' ∧
      ∀ w wal, ValR K Φ ρ σ H0 H w wal → (∀ d d', val = .own d → wal = .own d' → w ≠ v) → ValR K Φ' p.2 σ H0 H w wal := by
  cases val with
  | imm d =>
    cases e
    exact ⟨d, Φ, rfl, R, st, r, Ext.refl _, fun w wal q _ => q⟩
  | own d =>
    cases e
    obtain ⟨a, rfl, rm, n1, n2, n3⟩ := r
    obtain ⟨o, ho, rf⟩ := rm.freeze n1
    refine ⟨d, upd Φ a o, rfl, R.frzT ho n1 n2, ⟨st.f1.trans (Ext.new n1), st.f2, fun b u q => ?_, st.f4, st.f5⟩, rf, Ext.new n1, fun w wal q hne => ?_⟩
    · by_cases z : b = a
      · exact .inr (.inl (z ▸ n3))
      · rw [upd_ne z] at q; exact st.f3 b u q
    · cases wal with
      | imm d' => exact RF.mono (Ext.new n1) q
      | own d' =>
        obtain ⟨b, rfl, rm', m1, m2, m3⟩ := q
        have hb : b ≠ a := fun z => hne _ _ rfl rfl (by rw [z])
        exact ⟨b, rfl, rm'.move (Ext.new n1) fun _ q => q, by rw [upd_ne hb]; exact m1, m2, m3⟩
      | slot j => exact q
  | slot i =>
    have ev : σ[i]? = some (some v) := r
    simp only [share] at e
    cases q : ρ[i]? with
    | none => rw [q] at e; cases e
    | some x =>
      cases x with
      | none => rw [q] at e; cases e
      | some s =>
        rw [q] at e
        cases s with
        | mrf d => cases e
        | imm d =>
          cases e
          obtain ⟨w, ew, rr⟩ := R.sl i _ q
          rw [ev] at ew; cases ew
          exact ⟨d, Φ, rfl, R, st, rr, Ext.refl _, fun w wal q _ => q⟩
        | bor d =>
          by_cases hs : d.solid = true
          · simp only [hs, if_true] at e
            cases e
            obtain ⟨w, ew, rr⟩ := R.sl i _ q
            rw [ev] at ew; cases ew
            have rr' : R1 K Φ Ψ v d := rr
            refine ⟨d, Φ, rfl, R, st, ?_, Ext.refl _, fun w wal q _ => q⟩
            cases rr' with
            | f h => exact h
            | lst h r => cases hs
            | dct h r => cases hs
            | dtt h r => cases hs
            | ins h r => cases hs
          · simp only [hs] at e
            cases e
        | own d =>
          cases e
          obtain ⟨a, o, ea, ho, n1, rf, R', o1, o2⟩ := R.frzS q
          rw [ev] at ea; cases ea
          have sub : ∀ b, Own (ρ.set i (some (.imm d))) σ b → Own ρ σ b := fun b z => own_set rfl z
          refine ⟨d, upd Φ a o, rfl, R', ⟨st.f1.trans (Ext.new n1), st.f2, fun b u z => ?_, fun b z => st.f4 b (sub b z), st.f5⟩, rf, Ext.new n1, fun w wal z hne => ?_⟩
          · by_cases y : b = a
            · subst y
              rcases st.f4 _ o1 with z | z
              · exact .inr (.inr (.inl z))
              · exact .inr (.inl z)
            · rw [upd_ne y] at z; exact st.f3 b u z
          · cases wal with
            | imm d' => exact RF.mono (Ext.new n1) z
            | own d' =>
              obtain ⟨b, rfl, rm', m1, m2, m3⟩ := z
              have hb : b ≠ a := fun z => m2 (z ▸ o1)
              exact ⟨b, rfl, rm'.move (Ext.new n1) fun _ q => q, by rw [upd_ne hb]; exact m1, fun z => m2 (sub b z), m3⟩
            | slot j => exact z
end
end Z

/-! Z2: constants, arguments, displays, built-in calls, tests, calls of defs. -/
namespace Z
open PySem L2
section
variable {K : PySem.W.Frag} {W : St → XK} {Φ Φ' Ψ H H' H0 : Hp} {Ms : List (Nat × Addr)} {ρ ρ' : Env} {σ : St}
theorem evm_c {v : V} {d : D} (h : ∀ Φ, RF K Φ v d) : EvM K W (tC v) (ret (.imm d)) := fun Φ Ψ Ms ρ σ H Q R p => p Φ H R Step.refl v (h Φ)
theorem evm_int {i : Int} : EvM K W (tC (.int i)) (ret (.imm (.int i))) := evm_c fun _ => .int i
theorem evm_str {i : Str} : EvM K W (tC (.str i)) (ret (.imm (.str i))) := evm_c fun _ => .str i
theorem evm_bl {i : Bool} : EvM K W (tC (.bl i)) (ret (.imm (.bl i))) := evm_c fun _ => .bl i
theorem evm_non : EvM K W (tC .non) (ret (.imm .non)) := evm_c fun _ => .non
theorem evm_ty {n : String} : EvM K W (tC (.ty n)) (ret (.imm (.ty n))) := evm_c fun _ => .ty n
theorem evm_obj {x : Str} : EvM K W (tC (.ref (He.ga K x))) (ret (.imm (.obj x))) := evm_c fun _ => .obj x

/-! ### arguments -/
theorem ValsR.step {vs : List V} {vals : List Val} (h : ValsR K Φ ρ σ H0 H vs vals) (s : Step Φ (Own ρ σ) H Φ' (Own ρ' σ) H') : ValsR K Φ' ρ' σ H0 H' vs vals := by
  induction h with
  | nil => exact .nil
  | cons r _ n ih => exact .cons (r.step s) ih n
theorem ValsR.start {vs : List V} {vals : List Val} (s : ∀ a, H a = none → H0 a = none) (h : ValsR K Φ' ρ' σ H H' vs vals) : ValsR K Φ' ρ' σ H0 H' vs vals := by
  induction h with
  | nil => exact .nil
  | cons r _ n ih => exact .cons (r.start s) ih n
theorem ValsR.length {vs : List V} {vals : List Val} (h : ValsR K Φ' ρ' σ H H' vs vals) : vs.length = vals.length := by
  induction h with
  | nil => rfl
  | cons r _ n ih => simp [ih]
theorem ValsR.mem {vs : List V} {vals : List Val} (h : ValsR K Φ' ρ' σ H H' vs vals) : ∀ {w : V} {wal : Val}, (w, wal) ∈ vs.zip vals → ValR K Φ' ρ' σ H H' w wal := by
  induction h with
  | nil => intro w wal hm; simp at hm
  | cons r _ n ih =>
    intro w wal hm
    rw [List.zip_cons_cons] at hm
    rcases List.mem_cons.mp hm with e | hm
    · cases e; exact r
    · exact ih hm
theorem eva_nil : EvA K W tNil (xArgs []) := fun Φ Ψ Ms ρ σ H Q R p => p Φ H R Step.refl [] .nil
theorem eva_cons {ta : TE} {tr : TA} {m : M Val} {ms : List (M Val)} (ha : EvM K W ta m) (hr : EvA K W tr (xArgs ms)) : EvA K W (tCons ta tr) (xArgs (m :: ms)) := by
  intro Φ Ψ Ms ρ σ H Q R h
  refine ha.then_ R h fun va Φ1 ρ1 H1 x R1 s1 r1 h => ?_
  refine hr Φ1 Ψ Ms ρ1 σ H1 _ R1 (h.bnd.mono fun vals Φ2 ρ2 H2 R2 s2 h vs rs => ?_)
  refine h Φ2 H2 R2 Step.refl (x :: vs) (.cons (r1.step s2) (rs.start s1.fresh) fun d d' e hm => ?_)
  subst e
  obtain ⟨a, e1, rm, _⟩ := r1
  have q : ValR K Φ2 ρ2 σ H1 H2 x (.own d') := rs.mem hm
  obtain ⟨b, e2, _, _, _, n3⟩ := q
  rw [e1] at e2; cases e2
  exact rm.ne n3
theorem conts_ok {vs : List V} {vals : List Val} {ds : List D} (R : Rel K Φ Ψ Ms ρ σ H) (h : ValsR K Φ ρ σ H0 H vs vals) (e : conts ρ vals = some ds) : R1s K Φ H vs ds := by
  induction h generalizing ds with
  | nil => cases e; exact .nil
  | @cons v val vs vals r _ n ih =>
    unfold conts at e
    cases ea : cont ρ val with
    | none => rw [ea] at e; cases e
    | some d =>
      cases eb : conts ρ vals with
      | none => rw [ea, eb] at e; cases e
      | some ds' =>
        rw [ea, eb] at e
        cases e
        exact .cons (r.read R ea) (ih eb)
theorem evm_callB {r : List V → Hp → VK → Prop} {f : List D → Option Val} {ta : TA} {ma : M (List Val)} (o : CallM K r f) (ha : EvA K W ta ma) : EvM K W (tCB r ta) (xCallB f ma) := by
  intro Φ Ψ Ms ρ σ H Q R h
  refine ha Φ Ψ Ms ρ σ H _ R (PostG.bnd h |>.mono fun vals Φ1 ρ1 H1 R1 s1 h vs rs => ?_)
  cases e : conts ρ1 vals with
  | none => rw [e] at h; exact h.elim
  | some ds =>
    rw [e] at h
    simp only at h
    cases ef : f ds with
    | none => rw [ef] at h; exact h.elim
    | some val =>
      rw [ef] at h
      refine o Φ1 H1 vs ds val Q R1.sf (conts_ok R1 rs e) ef fun Φ' H' v g r => ?_
      exact h Φ' H' (R1.grow g) g.step v (r.val R1 g s1.fresh)

/-! ### keeping several values -/
theorem shares_ok {Φ0 : Hp} {O0 : Addr → Prop} : ∀ {vs : List V} {vals : List Val} {Φ : Hp} {ρ : Env} {p : Rs (List D) × Env}, Rel K Φ Ψ Ms ρ σ H → Step Φ0 O0 H0 Φ (Own ρ σ) H → ValsR K Φ ρ σ H0 H vs vals → shares vals ρ = some p →
    ∃ ds Φ', p = (.ok ds, p.2) ∧ Rel K Φ' Ψ Ms p.2 σ H ∧ Step Φ0 O0 H0 Φ' (Own p.2 σ) H ∧ RFs K Φ' vs ds ∧ Ext Φ Φ'
  | _, _, Φ, ρ, p, R, st, .nil, e => by cases e; exact ⟨[], Φ, rfl, R, st, .nil, Ext.refl _⟩
  | _, _, Φ, ρ, p, R, st, .cons (v := v) (val := val) (vs := vs) (vals := vals) r t n, e => by
    unfold shares bnd at e
    cases e1 : share val ρ with
    | none => rw [e1] at e; cases e
    | some q =>
      obtain ⟨d, Φ1, eq, R1, s1, rf, x1, keep⟩ := share_ok R st r e1
      rw [e1, eq] at e
      simp only at e
      have t1 : ValsR K Φ1 q.2 σ H0 H vs vals := by
        have n' := n
        clear e
        have key : ∀ {vs' : List V} {vals' : List Val}, ValsR K Φ ρ σ H0 H vs' vals' → (∀ d d', val = .own d → (v, Val.own d') ∉ vs'.zip vals') → ValsR K Φ1 q.2 σ H0 H vs' vals' := by
          intro vs' vals' h
          induction h with
          | nil => intro _; exact .nil
          | @cons w wal ws wals r' t' n2 ih =>
            intro hn
            refine .cons (keep w wal r' fun d d' e1 e2 z => hn d d' e1 ?_) (ih fun d d' e1 hm => hn d d' e1 ?_) n2
            · subst z; subst e2; rw [List.zip_cons_cons]; exact List.mem_cons_self
            · rw [List.zip_cons_cons]; exact List.mem_cons_of_mem _ hm
        exact key t n'
      cases e2 : shares vals q.2 with
      | none => rw [e2] at e; cases e
      | some q2 =>
        obtain ⟨ds, Φ2, eq2, R2, s2, rfs, x2⟩ := shares_ok R1 s1 t1 e2
        rw [e2, eq2] at e
        simp only [ret] at e
        cases e
        exact ⟨d :: ds, Φ2, rfl, R2, s2, .cons (rf.mono x2) rfs, x1.trans x2⟩
theorem xArgs_length : ∀ {ms : List (M Val)} {ρ ρ' : Env} {vs : List Val}, xArgs ms ρ = some (.ok vs, ρ') → vs.length = ms.length
  | [], _, _, _, e => by cases e; rfl
  | m :: ms, ρ, ρ', vs, e => by
    unfold xArgs bnd at e
    cases e1 : m ρ with
    | none => rw [e1] at e; cases e
    | some q =>
      obtain ⟨r, ρ1⟩ := q
      rw [e1] at e
      cases r with
      | err x => cases e
      | ok v =>
        simp only [bnd] at e
        cases e2 : xArgs ms ρ1 with
        | none => rw [e2] at e; cases e
        | some q2 =>
          obtain ⟨r2, ρ2⟩ := q2
          rw [e2] at e
          cases r2 with
          | err x => cases e
          | ok vs' =>
            simp only [ret] at e
            cases e
            simp [xArgs_length e2]
def xTup (ms : List (M Val)) : M Val := bnd (xArgs ms) fun vs => bnd (shares vs) fun ds => ret (.imm (.tup ds))
def xLst (ms : List (M Val)) : M Val := bnd (xArgs ms) fun vs => bnd (shares vs) fun ds => ret (.own (.lst ds))
/-- arguments kept -/
theorem EvA.kept {t : TA} {ms : List (M Val)} {f : List D → M Val} {Q : List V → Hp → Prop} {Q' : VK} (ha : EvA K W t (xArgs ms)) (R : Rel K Φ Ψ Ms ρ σ H) (h : PostG K Ψ Ms σ (W σ) Φ ρ H (gV K σ H Q') (bnd (xArgs ms) (fun vs => bnd (shares vs) f) ρ))
    (k : ∀ ds Φ1 ρ1 H1 vs, Rel K Φ1 Ψ Ms ρ1 σ H1 → Step Φ (Own ρ σ) H Φ1 (Own ρ1 σ) H1 → RFs K Φ1 vs ds → vs.length = ms.length → PostG K Ψ Ms σ (W σ) Φ1 ρ1 H1 (gV K σ H Q') (f ds ρ1) → Q vs H1) : t σ H Q := by
  refine ha Φ Ψ Ms ρ σ H Q R ?_
  have h1 := h.bnd'
  cases e0 : xArgs ms ρ with
  | none => rw [e0] at h1; exact h1
  | some p0 =>
    obtain ⟨r0, ρ1⟩ := p0
    rw [e0] at h1
    cases r0 with
    | err x => exact h1
    | ok vals =>
      intro Φ1 H1 R1 s1 vs rs
      have h2 : PostG K Ψ Ms σ (W σ) Φ ρ H (gV K σ H Q') (bnd (shares vals) f ρ1) := h1 Φ1 H1 R1 s1
      unfold bnd at h2
      have hl : vals.length = ms.length := xArgs_length e0
      cases e : shares vals ρ1 with
      | none => rw [e] at h2; exact h2.elim
      | some p =>
        obtain ⟨ds, Φ2, eq, R2, s2, rf, x⟩ := shares_ok R1 s1 rs e
        rw [e, eq] at h2
        exact k ds Φ2 p.2 H1 vs R2 s2 rf (rs.length.trans hl) (h2.from_ s2)
theorem evm_tup {t : TA} {ms : List (M Val)} (ha : EvA K W t (xArgs ms)) (hn : ms.length ≤ sizeLine) : EvM K W (tTup t) (xTup ms) := by
  intro Φ Ψ Ms ρ σ H Q R h
  refine ha.kept R h fun ds Φ1 ρ1 H1 vs R1 s1 rf hl h => ⟨by rw [hl]; exact hn, fun p hp => ?_⟩
  have g : Gr Φ1 H1 (upd Φ1 p (.tup vs)) (upd H1 p (.tup vs)) := Gr.newF R1.sf hp
  exact h _ _ (R1.grow g) g.step (.ref p) (.tup (.inl upd_same) (rf.mono g.fx))
theorem evm_lst {t : TA} {ms : List (M Val)} (ha : EvA K W t (xArgs ms)) (hn : ms.length ≤ sizeLine) : EvM K W (tLst t) (xLst ms) := by
  intro Φ Ψ Ms ρ σ H Q R h
  refine ha.kept R h fun ds Φ1 ρ1 H1 vs R1 s1 rf hl h => ⟨by rw [hl]; exact hn, fun p hp => ?_⟩
  have g : Gr Φ1 H1 Φ1 (upd H1 p (.lst vs)) := Gr.newM R1.sf hp
  refine h _ _ (R1.grow g) g.step (.ref p) ⟨p, rfl, .lst upd_same rf, R1.sf.none hp, fun o => ?_, s1.fresh p hp⟩
  obtain ⟨⟨d', rm⟩, _⟩ := R1.own o
  exact rm.ne hp
/-- {} -/
theorem evm_dnew : EvM K W tDNewK (ret (.own (.dct []))) := by
  intro Φ Ψ Ms ρ σ H Q R h p hp
  have g : Gr Φ H Φ (upd H p (.dK [])) := Gr.newM R.sf hp
  refine h _ _ (R.grow g) g.step (.ref p) ⟨p, rfl, .dct upd_same .nil, R.sf.none hp, fun o => ?_, hp⟩
  obtain ⟨⟨d', rm⟩, _⟩ := R.own o
  exact rm.ne hp

/-! ### tests -/
/-- the answer of a value that is a bool -/
def boolOf : Val → M Bool := fun v ρ => match cont ρ v with
  | some (.bl b) => some (.ok b, ρ)
  | _ => none
def xTest (m : M Val) : M Bool := bnd m boolOf
theorem evb_of {t : TE} {m : M Val} {tt : TT} (ht : ∀ σ H Q, (t σ H fun x H1 => ∃ c, x = .bl c ∧ Q c H1) → tt σ H Q) (h : EvM K W t m) : EvB K W tt (xTest m) := by
  intro Φ Ψ Ms ρ σ H Q R hp
  refine ht σ H Q (h.then_ R hp fun val Φ1 ρ1 H1 v R1 s1 r1 h => ?_)
  unfold boolOf at h
  cases e : cont ρ1 val with
  | none => rw [e] at h; exact h.elim
  | some d =>
    rw [e] at h
    cases d with
    | bl b => exact ⟨b, (r1.read R1 e).bl, h Φ1 H1 R1 Step.refl⟩
    | _ => exact h.elim
theorem evb_B {t : TE} {m : M Val} (h : EvM K W t m) : EvB K W (tB t) (xTest m) := evb_of (fun _ _ _ z => z) h
theorem evb_T {t : TE} {m : M Val} (h : EvM K W t m) : EvB K W (tTest t) (xTest m) := evb_of (fun _ _ _ z => z) h
def bAnd (a b : M Bool) : M Bool := bnd a fun c => if c = true then b else ret false
def bOr (a b : M Bool) : M Bool := bnd a fun c => if c = true then ret true else b
def bNot (a : M Bool) : M Bool := bnd a fun c => ret (!c)
theorem EvB.then_ {t : TT} {m : M Bool} {α : Type} {good : Good α} {f : Bool → M α} {Q : Bool → Hp → Prop} (he : EvB K W t m) (R : Rel K Φ Ψ Ms ρ σ H) (h : PostG K Ψ Ms σ (W σ) Φ ρ H good (bnd m f ρ))
    (k : ∀ b Φ1 ρ1 H1, Rel K Φ1 Ψ Ms ρ1 σ H1 → Step Φ (Own ρ σ) H Φ1 (Own ρ1 σ) H1 → PostG K Ψ Ms σ (W σ) Φ1 ρ1 H1 good (f b ρ1) → Q b H1) : t σ H Q :=
  he Φ Ψ Ms ρ σ H Q R (h.bnd.mono fun b Φ1 ρ1 H1 R1 s1 h1 => k b Φ1 ρ1 H1 R1 s1 h1)
theorem evb_and {t u : TT} {a b : M Bool} (ha : EvB K W t a) (hb : EvB K W u b) : EvB K W (tAnd t u) (bAnd a b) := by
  intro Φ Ψ Ms ρ σ H Q R h
  refine ha.then_ R h fun c Φ1 ρ1 H1 R1 s1 h => ?_
  cases c with
  | true => exact hb Φ1 Ψ Ms ρ1 σ H1 Q R1 h
  | false => exact h Φ1 H1 R1 Step.refl
theorem evb_or {t u : TT} {a b : M Bool} (ha : EvB K W t a) (hb : EvB K W u b) : EvB K W (tOr t u) (bOr a b) := by
  intro Φ Ψ Ms ρ σ H Q R h
  refine ha.then_ R h fun c Φ1 ρ1 H1 R1 s1 h => ?_
  cases c with
  | false => exact hb Φ1 Ψ Ms ρ1 σ H1 Q R1 h
  | true => exact h Φ1 H1 R1 Step.refl
theorem evb_not {t : TT} {a : M Bool} (ha : EvB K W t a) : EvB K W (tNot t) (bNot a) := by
  intro Φ Ψ Ms ρ σ H Q R h
  exact ha.then_ R h fun c Φ1 ρ1 H1 R1 s1 h => h Φ1 H1 R1 Step.refl
/-- a if c else b -/
def xIf (c : M Bool) (a b : M Val) : M Val := bnd c fun k => if k = true then a else b
theorem evm_if {t : TT} {ta tb : TE} {c : M Bool} {a b : M Val} (hc : EvB K W t c) (ha : EvM K W ta a) (hb : EvM K W tb b) : EvM K W (tIf t ta tb) (xIf c a b) := by
  intro Φ Ψ Ms ρ σ H Q R h
  refine hc.then_ R h fun c Φ1 ρ1 H1 R1 s1 h => ?_
  cases c with
  | true => exact ha Φ1 Ψ Ms ρ1 σ H1 Q R1 (h.mono fun _ _ _ _ _ _ z => gV.start s1.fresh z)
  | false => exact hb Φ1 Ψ Ms ρ1 σ H1 Q R1 (h.mono fun _ _ _ _ _ _ z => gV.start s1.fresh z)
/-- and, or, not as values, all but the last a bool -/
def xAnd (a b : M Val) : M Val := bnd (xTest a) fun k => if k = true then b else ret (.imm (.bl false))
def xOr (a b : M Val) : M Val := bnd (xTest a) fun k => if k = true then ret (.imm (.bl true)) else b
def xNot (a : M Val) : M Val := bnd (xTest a) fun k => ret (.imm (.bl (!k)))
theorem evm_and {ta tb : TE} {a b : M Val} (ha : EvM K W ta a) (hb : EvM K W tb b) : EvM K W (tAndV ta tb) (xAnd a b) := by
  intro Φ Ψ Ms ρ σ H Q R h
  refine (evb_B ha).then_ (t := tB ta) R h fun c Φ1 ρ1 H1 R1 s1 h => ?_
  cases c with
  | true => exact hb Φ1 Ψ Ms ρ1 σ H1 Q R1 (h.mono fun _ _ _ _ _ _ z => gV.start s1.fresh z)
  | false => exact h Φ1 H1 R1 Step.refl (.bl false) (.bl false)
theorem evm_or {ta tb : TE} {a b : M Val} (ha : EvM K W ta a) (hb : EvM K W tb b) : EvM K W (tOrV ta tb) (xOr a b) := by
  intro Φ Ψ Ms ρ σ H Q R h
  refine (evb_B ha).then_ (t := tB ta) R h fun c Φ1 ρ1 H1 R1 s1 h => ?_
  cases c with
  | false => exact hb Φ1 Ψ Ms ρ1 σ H1 Q R1 (h.mono fun _ _ _ _ _ _ z => gV.start s1.fresh z)
  | true => exact h Φ1 H1 R1 Step.refl (.bl true) (.bl true)
theorem evm_not {ta : TE} {a : M Val} (ha : EvM K W ta a) : EvM K W (tNotV ta) (xNot a) := by
  intro Φ Ψ Ms ρ σ H Q R h
  refine (evb_B ha).then_ (t := tB ta) R h fun c Φ1 ρ1 H1 R1 s1 h => ?_
  exact h Φ1 H1 R1 Step.refl (.bl (!c)) (.bl (!c))
end

/-! ### statements -/
inductive Fl where
  | nx | bk | ct | rt (v : Val)
def PostS (K : PySem.W.Frag) (Ψ : Hp) (Ms : List (Nat × Addr)) (W : St → XK) (Φ : Hp) (ρ : Env) (σ : St) (H : Hp) (D : Ends) : Option (Rs Fl × Env) → Prop
  | none => False
  | some (.ok .nx, ρ') => ∀ Φ' σ' H', Rel K Φ' Ψ Ms ρ' σ' H' → Step Φ (Own ρ σ) H Φ' (Own ρ' σ') H' → D.nx σ' H'
  | some (.ok .bk, ρ') => ∀ Φ' σ' H', Rel K Φ' Ψ Ms ρ' σ' H' → Step Φ (Own ρ σ) H Φ' (Own ρ' σ') H' → D.bk σ' H'
  | some (.ok .ct, ρ') => ∀ Φ' σ' H', Rel K Φ' Ψ Ms ρ' σ' H' → Step Φ (Own ρ σ) H Φ' (Own ρ' σ') H' → D.ct σ' H'
  | some (.ok (.rt val), ρ') => ∀ Φ' σ' H' v, Rel K Φ' Ψ Ms ρ' σ' H' → Step Φ (Own ρ σ) H Φ' (Own ρ' σ') H' → ValR K Φ' ρ' σ' H H' v val → D.rt v H'
  | some (.err x, ρ') => ∀ Φ' σ' H' c d, Rel K Φ' Ψ Ms ρ' σ' H' → Step Φ (Own ρ σ) H Φ' (Own ρ' σ') H' → ExR K Φ' H' x c d → W σ' c d H'
def EvS (K : PySem.W.Frag) (W : St → XK) (t : TS) (m : M Fl) : Prop :=
  ∀ Φ Ψ Ms ρ σ H D, Rel K Φ Ψ Ms ρ σ H → PostS K Ψ Ms W Φ ρ σ H D (m ρ) → t D σ H
section
variable {K : PySem.W.Frag} {W : St → XK} {Φ Φ' Φ1 Ψ H H' H0 H1 : Hp} {Ms : List (Nat × Addr)} {ρ ρ' ρ1 : Env} {σ σ1 : St} {D : Ends}
theorem ValR.start' {v : V} {val : Val} {σ' : St} (s : ∀ a, H a = none → H0 a = none) (h : ValR K Φ' ρ' σ' H H' v val) : ValR K Φ' ρ' σ' H0 H' v val := h.start s
theorem PostS.from_ {p : Option (Rs Fl × Env)} (s : Step Φ (Own ρ σ) H Φ1 (Own ρ1 σ1) H1) (h : PostS K Ψ Ms W Φ ρ σ H D p) : PostS K Ψ Ms W Φ1 ρ1 σ1 H1 D p := by
  match p, h with
  | some (.ok .nx, ρ'), h => exact fun Φ' σ' H' R' s' => h Φ' σ' H' R' (s.trans s')
  | some (.ok .bk, ρ'), h => exact fun Φ' σ' H' R' s' => h Φ' σ' H' R' (s.trans s')
  | some (.ok .ct, ρ'), h => exact fun Φ' σ' H' R' s' => h Φ' σ' H' R' (s.trans s')
  | some (.ok (.rt val), ρ'), h => exact fun Φ' σ' H' v R' s' r => h Φ' σ' H' v R' (s.trans s') (r.start s.fresh)
  | some (.err x, ρ'), h => exact fun Φ' σ' H' c d R' s' r => h Φ' σ' H' c d R' (s.trans s') r
/-- run an expression, then go on -/
theorem PostS.bnd {α : Type} {m : M α} {f : α → M Fl} (h : PostS K Ψ Ms W Φ ρ σ H D (bnd m f ρ)) :
    PostG K Ψ Ms σ (W σ) Φ ρ H (fun a _ ρ1 _ => PostS K Ψ Ms W Φ ρ σ H D (f a ρ1)) (m ρ) := by
  unfold Z.bnd at h
  cases e : m ρ with
  | none => rw [e] at h; exact h
  | some p =>
    obtain ⟨r, ρ1⟩ := p
    rw [e] at h
    cases r with
    | ok val => exact fun Φ' H' R s => h
    | err x => exact fun Φ' H' c d R s r => h Φ' σ H' c d R s r
theorem EvM.thenS {t : TE} {m : M Val} {f : Val → M Fl} {Q : VK} (he : EvM K W t m) (R : Rel K Φ Ψ Ms ρ σ H) (h : PostS K Ψ Ms W Φ ρ σ H D (Z.bnd m f ρ))
    (k : ∀ val Φ1 ρ1 H1 v, Rel K Φ1 Ψ Ms ρ1 σ H1 → Step Φ (Own ρ σ) H Φ1 (Own ρ1 σ) H1 → ValR K Φ1 ρ1 σ H H1 v val → PostS K Ψ Ms W Φ ρ σ H D (f val ρ1) → Q v H1) : t σ H Q :=
  he Φ Ψ Ms ρ σ H Q R (h.bnd.mono fun val Φ1 ρ1 H1 R1 s1 h1 v r => k val Φ1 ρ1 H1 v R1 s1 r h1)
theorem EvB.thenS {t : TT} {m : M Bool} {f : Bool → M Fl} {Q : Bool → Hp → Prop} (he : EvB K W t m) (R : Rel K Φ Ψ Ms ρ σ H) (h : PostS K Ψ Ms W Φ ρ σ H D (Z.bnd m f ρ))
    (k : ∀ b Φ1 ρ1 H1, Rel K Φ1 Ψ Ms ρ1 σ H1 → Step Φ (Own ρ σ) H Φ1 (Own ρ1 σ) H1 → PostS K Ψ Ms W Φ1 ρ1 σ H1 D (f b ρ1) → Q b H1) : t σ H Q :=
  he Φ Ψ Ms ρ σ H Q R (h.bnd.mono fun b Φ1 ρ1 H1 R1 s1 h1 => k b Φ1 ρ1 H1 R1 s1 (h1.from_ s1))
/-- a statement, then the rest -/
def sSeq (a b : M Fl) : M Fl := bnd a fun f => match f with
  | .nx => b
  | f => ret f
def sNext : M Fl := ret .nx
theorem evs_next : EvS K W tNext sNext := fun Φ Ψ Ms ρ σ H D R h => h Φ σ H R Step.refl
theorem evs_seq {t u : TS} {a b : M Fl} (ha : EvS K W t a) (hb : EvS K W u b) : EvS K W (tSeq t u) (sSeq a b) := by
  intro Φ Ψ Ms ρ σ H D R h
  refine ha Φ Ψ Ms ρ σ H _ R ?_
  unfold sSeq Z.bnd at h
  cases e : a ρ with
  | none => rw [e] at h; exact h
  | some p =>
    obtain ⟨r, ρ1⟩ := p
    rw [e] at h
    match r, h with
    | .err x, h => exact h
    | .ok .nx, h => exact fun Φ' σ' H' R' s' => hb Φ' Ψ Ms ρ1 σ' H' D R' (h.from_ s')
    | .ok .bk, h => exact h
    | .ok .ct, h => exact h
    | .ok (.rt v), h => exact h
def sDrop (m : M Val) : M Fl := bnd m fun _ => ret .nx
theorem evs_drop {t : TE} {m : M Val} (hm : EvM K W t m) : EvS K W (tDrop t) (sDrop m) := fun Φ Ψ Ms ρ σ H D R h =>
  hm.thenS R h fun val Φ1 ρ1 H1 v R1 s1 r1 h => h Φ1 σ H1 R1 s1
def sRet (m : M Val) : M Fl := bnd m fun v => ret (.rt v)
theorem evs_ret {t : TE} {m : M Val} (hm : EvM K W t m) : EvS K W (tRet t) (sRet m) := fun Φ Ψ Ms ρ σ H D R h =>
  hm.thenS R h fun val Φ1 ρ1 H1 v R1 s1 r1 h => h Φ1 σ H1 v R1 s1 r1
theorem evs_retN : EvS K W tRetN (ret (.rt (.imm .non))) := fun Φ Ψ Ms ρ σ H D R h => h Φ σ H .non R Step.refl .non
theorem evs_break : EvS K W tBreak (ret .bk) := fun Φ Ψ Ms ρ σ H D R h => h Φ σ H R Step.refl
theorem evs_cont : EvS K W tCont (ret .ct) := fun Φ Ψ Ms ρ σ H D R h => h Φ σ H R Step.refl
def sNever : M Fl := fun _ => none
theorem evs_never {t : TS} : EvS K W t sNever := fun Φ Ψ Ms ρ σ H D R h => h.elim
def sIf (c : M Bool) (a b : M Fl) : M Fl := bnd c fun k => if k = true then a else b
theorem evs_if {c : TT} {t u : TS} {mc : M Bool} {a b : M Fl} (hc : EvB K W c mc) (ha : EvS K W t a) (hb : EvS K W u b) : EvS K W (tIfS c t u) (sIf mc a b) := by
  intro Φ Ψ Ms ρ σ H D R h
  refine hc.thenS R h fun k Φ1 ρ1 H1 R1 s1 h => ?_
  cases k with
  | true => exact ha Φ1 Ψ Ms ρ1 σ H1 D R1 h
  | false => exact hb Φ1 Ψ Ms ρ1 σ H1 D R1 h

/-! ### storing a value at a name -/
/-- what is stored -/
def toSl : Val → M Sl
  | .imm d => ret (.imm d)
  | .own d => ret (.own d)
  | .slot j => fun ρ => match ρ[j]? with
    | some (some (.bor d)) => some (.ok (.bor d), ρ)
    | some (some (.imm d)) => some (.ok (.imm d), ρ)
    | some (some (.own d)) => some (.ok (.imm d), ρ.set j (some (.imm d)))
    | _ => none
/-- the slot i is written (none that is lent out for writing) -/
def putS (i : Nat) (s : Sl) : M Unit := fun ρ => match ρ[i]? with
  | some (some (.mrf _)) => none
  | some _ => some (.ok (), ρ.set i (some s))
  | none => none
def putV (i : Nat) (v : Val) : M Unit := bnd (toSl v) (putS i)
theorem toSl_ok {Φ0 : Hp} {O0 : Addr → Prop} {v : V} {val : Val} {p : Rs Sl × Env} (R : Rel K Φ Ψ Ms ρ σ H) (st : Step Φ0 O0 H0 Φ (Own ρ σ) H) (r : ValR K Φ ρ σ H0 H v val) (hΨ : ∀ a, H0 a = none → Ψ a = none ∧ ∀ j, (j, a) ∉ Ms) (e : toSl val ρ = some p) :
    ∃ s Φ', p = (.ok s, p.2) ∧ Rel K Φ' Ψ Ms p.2 σ H ∧ Step Φ0 O0 H0 Φ' (Own p.2 σ) H ∧ SlR K Φ' Ψ Ms H v s ∧ (s.isM = true → ∀ a, v = .ref a → ¬ Own p.2 σ a ∧ H0 a = none) ∧ (∀ d, s ≠ .mrf d) := by
  cases val with
  | imm d => cases e; exact ⟨.imm d, Φ, rfl, R, st, r, (fun z => by cases z), fun _ => nofun⟩
  | own d =>
    cases e
    obtain ⟨a, rfl, rm, n1, n2, n3⟩ := r
    refine ⟨.own d, Φ, rfl, R, st, ⟨a, rfl, rm, n1, hΨ a n3⟩, fun _ b e => ?_, fun _ => nofun⟩
    cases e; exact ⟨n2, n3⟩
  | slot j =>
    have ev : σ[j]? = some (some v) := r
    simp only [toSl] at e
    cases q : ρ[j]? with
    | none => rw [q] at e; cases e
    | some x =>
      cases x with
      | none => rw [q] at e; cases e
      | some s =>
        rw [q] at e
        obtain ⟨w, ew, rr⟩ := R.sl j _ q
        rw [ev] at ew; cases ew
        cases s with
        | mrf d => cases e
        | imm d => cases e; exact ⟨.imm d, Φ, rfl, R, st, rr, (fun z => by cases z), fun _ => nofun⟩
        | bor d => cases e; exact ⟨.bor d, Φ, rfl, R, st, rr, (fun z => by cases z), fun _ => nofun⟩
        | own d =>
          have e' : share (.slot j) ρ = some (.ok d, ρ.set j (some (.imm d))) := by simp only [share]; rw [q]
          obtain ⟨d', Φ', e1, R', s', rf, _, _⟩ := share_ok R st (val := .slot j) r e'
          cases e
          cases e1
          exact ⟨.imm d, Φ', rfl, R', s', rf, (fun z => by cases z), fun _ => nofun⟩
theorem Rel.young (R : Rel K Φ Ψ Ms ρ σ H) {a : Addr} (h : H a = none) : Ψ a = none ∧ ∀ j, (j, a) ∉ Ms := by
  refine ⟨R.sb.none h, fun j m => ?_⟩
  obtain ⟨e1, d, e2⟩ := R.ms j a m
  obtain ⟨v, ev, r⟩ := R.sl j _ e2
  rw [e1] at ev; cases ev
  obtain ⟨b, eb, rm, _⟩ := r
  cases eb
  exact rm.ne h
/-- the store: the end -/
theorem putV_ok {Φ0 : Hp} {O0 : Addr → Prop} {v : V} {val : Val} {i : Nat} {p : Rs Unit × Env} (R : Rel K Φ Ψ Ms ρ σ H) (st : Step Φ0 O0 H0 Φ (Own ρ σ) H) (r : ValR K Φ ρ σ H0 H v val) (hΨ : ∀ a, H0 a = none → Ψ a = none ∧ ∀ j, (j, a) ∉ Ms) (e : putV i val ρ = some p) :
    ∃ Φ', p = (.ok (), p.2) ∧ Rel K Φ' Ψ Ms p.2 (σ.set i (some v)) H ∧ Step Φ0 O0 H0 Φ' (Own p.2 (σ.set i (some v))) H := by
  unfold putV Z.bnd at e
  cases e1 : toSl val ρ with
  | none => rw [e1] at e; cases e
  | some q =>
    obtain ⟨s, Φ', eq, R', s', sr, hm, nm⟩ := toSl_ok R st r hΨ e1
    rw [e1, eq] at e
    simp only [putS] at e
    cases q2 : (q.2)[i]? with
    | none => rw [q2] at e; cases e
    | some x =>
      rw [q2] at e
      have main : some (Rs.ok (), List.set q.2 i (some s)) = some p → (∀ d, x ≠ some (.mrf d)) → ∃ Φ', p = (.ok (), p.2) ∧ Rel K Φ' Ψ Ms p.2 (σ.set i (some v)) H ∧ Step Φ0 O0 H0 Φ' (Own p.2 (σ.set i (some v))) H := by
        intro e nx
        cases e
        have hi : ∀ a, (i, a) ∉ Ms := fun a m => by
          obtain ⟨_, d, z⟩ := R'.ms i a m
          rw [q2] at z; cases z; exact nx d rfl
        refine ⟨Φ', rfl, R'.put sr (fun z a ea => fun o => (hm z a ea).1 (own_drop o)) fun a m => absurd m (hi a), s'.f1, s'.f2, s'.f3, fun a o => ?_, s'.f5⟩
        obtain ⟨j, t, ej, mt, es⟩ := o
        by_cases z : j = i
        · subst z
          rw [get_set_self q2] at ej
          cases ej
          have : (σ.set j (some v))[j]? = some (some v) := List.getElem?_set_self (by rw [← R'.len]; exact (List.getElem?_eq_some_iff.mp q2).1)
          rw [this] at es
          cases es
          exact .inr (hm mt a rfl).2
        · rw [List.getElem?_set_ne (Ne.symm z)] at ej es
          exact s'.f4 a ⟨j, t, ej, mt, es⟩
      cases x with
      | none => exact main e fun d => nofun
      | some s2 =>
        cases s2 with
        | mrf d => cases e
        | imm d => exact main e fun d => nofun
        | own d => exact main e fun d => nofun
        | bor d => exact main e fun d => nofun
def sAsg (i : Nat) (m : M Val) : M Fl := bnd m fun v => bnd (putV i v) fun _ => ret .nx
theorem evs_asg {t : TE} {m : M Val} {i : Nat} (hm : EvM K W t m) : EvS K W (tAsg t (gName i)) (sAsg i m) := fun Φ Ψ Ms ρ σ H D R h => by
  refine hm.thenS R h fun val Φ1 ρ1 H1 v R1 s1 r1 h => ?_
  unfold Z.bnd at h
  cases e : putV i val ρ1 with
  | none => rw [e] at h; exact h.elim
  | some p =>
    obtain ⟨Φ', e1, R', s'⟩ := putV_ok R1 s1 r1 (fun a z => R.young z) e
    rw [e, e1] at h
    exact h Φ' _ H1 R' s'
end
end Z

/-! Z3: targets, walks, for, comprehensions. -/
namespace Z
open PySem L2
/-- lists and tuples of the heap are of bounded size -/
def HB (K : PySem.W.Frag) (H : Hp) : Prop := ∀ a xs, (SqL K H a xs ∨ SqT K H a xs) → xs.length ≤ sizeLine
theorem inv_hb {X : Cx} {pins : List (Addr × Obj)} {σ : St} {H : Hp} {s : Shared} (I : Inv X pins σ H s) : HB X.K H := fun a xs h => by
  rcases h with h | h
  · obtain ⟨_, _, _, z⟩ := I.list h; exact z
  · obtain ⟨_, _, _, z⟩ := I.tuple h; exact z
/-- any reading may lean on it -/
theorem pe_hb {X : Cx} {e : Expr} {t : TE} (h : PE X e t) : PE X e (fun σ H Q => HB X.K H → t σ H Q) :=
  ⟨fun pins s σ H Q I q => h.run pins s σ H Q I (q (inv_hb I))⟩
def tHBI (K : PySem.W.Frag) (wi : TI) : TI := fun σ H R => wi σ H fun J H1 => HB K H1 → R J H1
theorem pi_hb {X : Cx} {tg iter : Expr} {wi : TI} (h : PI X tg iter wi) : PI X tg iter (tHBI X.K wi) :=
  ⟨fun pins s σ H R I q => thn (h.run pins s σ H _ I q) fun v s1 h1 => thn h1 fun itv s2 ⟨it, fp, tn, J, H', e, I2, T, t0, f, r⟩ => ⟨it, fp, tn, J, H', e, I2, T, t0, f, r (inv_hb I2)⟩⟩

/-- for .. in a list or a tuple -/
def iAny (K : PySem.W.Frag) (tl : TE) : TI := fun σ H R => tl σ H fun x H1 => (∃ a, x = .ref a ∧ (∃ xs, SqL K H1 a xs) ∧ R (Itl K a) H1) ∨ (∃ a, x = .ref a ∧ (∃ xs, SqT K H1 a xs) ∧ R (Itt K a) H1) ∨ ∃ z, x = .str z ∧ R (Its z) H1
theorem pi_any {X : Cx} {tg l : Expr} {tl : TE} (hl : PE X l tl) : PI X tg l (iAny X.K tl) := by
  refine ⟨fun pins s σ H R I h => ?_⟩
  refine thn (hl.run pins s σ H _ I h) fun v s1 ⟨x, H1, I1, r1, q1⟩ => ?_
  rcases q1 with ⟨a, e, ⟨xs, hq⟩, q⟩ | ⟨a, e, ⟨xs, hq⟩, q⟩ | ⟨z, e, q⟩
  · subst e
    cases r1
    obtain ⟨its, rv, p, hz⟩ := I1.list hq
    refine wpAny_pyIter_list p.isList ?_
    refine ⟨s1.heap.objs.size, [s1.heap.objs.size], _, _, H1, rfl, I1.kept (t' := s1.toks) fun b o e => Heap.get?_push_of_some _ e, turn_list a _, ⟨_, Heap.get?_push_size _ rfl, rfl, rfl⟩, fun b hb => ?_, q⟩
    have e : b = s1.heap.objs.size := by simpa using hb
    subst e
    exact I1.fpOk (Nat.le_refl _) (I1.hok.fresh (Nat.le_refl _))
  · subst e
    cases r1
    obtain ⟨its, rv, p, hz⟩ := I1.tuple hq
    refine wpAny_pyIter_tuple (show s1.heap.IsTuple a its.toArray from p) ?_
    refine ⟨s1.heap.objs.size, [s1.heap.objs.size], _, _, H1, rfl, I1.kept (t' := s1.toks) fun b o e => Heap.get?_push_of_some _ e, turn_tuple a _, ⟨_, Heap.get?_push_size _ rfl, rfl, rfl⟩, fun b hb => ?_, q⟩
    have e : b = s1.heap.objs.size := by simpa using hb
    subst e
    exact I1.fpOk (Nat.le_refl _) (I1.hok.fresh (Nat.le_refl _))
  · subst e
    obtain ⟨t, rfl⟩ := r1
    cases ha : z.cps.all (· < 128)
    · exact wpAny_pyIter_wide ha (pi_one (tk := s1.toks) I1 _ (turn_str _ z t "str_iterator" (.inr rfl)) ⟨_, Heap.get?_push_size _ rfl, rfl, rfl⟩ q)
    · exact wpAny_pyIter_ascii ha (pi_one (tk := s1.toks) I1 _ (turn_str _ z t "str_ascii_iterator" (.inl rfl)) ⟨_, Heap.get?_push_size _ rfl, rfl, rfl⟩ q)

section
variable {K : PySem.W.Frag} {W : St → XK} {Φ Φ' Φ1 Ψ H H' H0 H1 : Hp} {Ms : List (Nat × Addr)} {ρ ρ' ρ1 : Env} {σ σ1 : St} {Dn : Ends}
/-! ### targets -/
def PostU (K : PySem.W.Frag) (Ψ : Hp) (Ms : List (Nat × Addr)) (vs : List Nat) (Φ : Hp) (ρ : Env) (σ : St) (H : Hp) (Q : St → Hp → Prop) : Option (Rs Unit × Env) → Prop
  | some (.ok _, ρ') => ∀ Φ' σ' H', Rel K Φ' Ψ Ms ρ' σ' H' → Step Φ (Own ρ σ) H Φ' (Own ρ' σ') H' → σ'.length = σ.length → (∀ j, j ∉ vs → σ'[j]? = σ[j]?) → Q σ' H'
  | _ => False
def EvG (K : PySem.W.Frag) (vs : List Nat) (g : TG) (mg : D → M Unit) : Prop :=
  ∀ Φ Ψ Ms ρ σ H x d Q, Rel K Φ Ψ Ms ρ σ H → RF K Φ x d → PostU K Ψ Ms vs Φ ρ σ H Q (mg d ρ) → g x σ H Q
def EvGs (K : PySem.W.Frag) (vs : List Nat) (g : TGs) (mg : List D → M Unit) : Prop :=
  ∀ Φ Ψ Ms ρ σ H xs ds Q, Rel K Φ Ψ Ms ρ σ H → RFs K Φ xs ds → PostU K Ψ Ms vs Φ ρ σ H Q (mg ds ρ) → g xs σ H Q
theorem PostU.from_ {vs vs' : List Nat} {Q : St → Hp → Prop} {p : Option (Rs Unit × Env)} (s : Step Φ (Own ρ σ) H Φ1 (Own ρ1 σ1) H1) (hl : σ1.length = σ.length) (hv : ∀ j, j ∉ vs' → σ1[j]? = σ[j]?) (h : PostU K Ψ Ms (vs' ++ vs) Φ ρ σ H Q p) : PostU K Ψ Ms vs Φ1 ρ1 σ1 H1 Q p := by
  have go : ∀ {σ' : St}, (∀ j, j ∉ vs → σ'[j]? = σ1[j]?) → ∀ j, j ∉ vs' ++ vs → σ'[j]? = σ[j]? := fun v' j hj => by
    rw [List.mem_append, not_or] at hj
    rw [v' j hj.2, hv j hj.1]
  match p, h with
  | some (.ok _, ρ'), h => exact fun Φ' σ' H' R' s' l' v' => h Φ' σ' H' R' (s.trans s') (l'.trans hl) (go v')
def gnm (i : Nat) : D → M Unit := fun d => putS i (.imm d)
theorem evg_name {i : Nat} : EvG K [i] (gName i) (gnm i) := by
  intro Φ Ψ Ms ρ σ H x d Q R rf h
  unfold gnm putS at h
  cases q : ρ[i]? with
  | none => rw [q] at h; exact h.elim
  | some y =>
    rw [q] at h
    have hn : ∀ e, y ≠ some (.mrf e) := fun e z => by rw [z] at h; exact h.elim
    have h' : PostU K Ψ Ms [i] Φ ρ σ H Q (some (.ok (), ρ.set i (some (.imm d)))) := by
      cases y with
      | none => exact h
      | some s => cases s with
        | mrf e => exact h.elim
        | imm e => exact h
        | own e => exact h
        | bor e => exact h
    have hi : ∀ a, (i, a) ∉ Ms := fun a m => by
      obtain ⟨_, e, z⟩ := R.ms i a m
      rw [q] at z; cases z; exact hn e rfl
    refine h' Φ _ H (R.put (s := .imm d) rf (fun z => by cases z) fun a m => absurd m (hi a)) ⟨Ext.refl _, fun _ _ e _ => e, fun _ _ e => .inl e, fun a o => .inl ?_, fun _ z => z⟩ (List.length_set ..) fun j hj => List.getElem?_set_ne (Ne.symm (by simpa using hj))
    obtain ⟨j, t, ej, mt, es⟩ := o
    by_cases z : j = i
    · subst z; rw [get_set_self q] at ej; cases ej; cases mt
    · rw [List.getElem?_set_ne (Ne.symm z)] at ej es; exact ⟨j, t, ej, mt, es⟩
def gnil : List D → M Unit := fun ds => match ds with
  | [] => ret ()
  | _ => fun _ => none
def gcons (a : D → M Unit) (b : List D → M Unit) : List D → M Unit := fun ds => match ds with
  | d :: ds => bnd (a d) fun _ => b ds
  | [] => fun _ => none
theorem evgs_nil : EvGs K [] gNil gnil := by
  intro Φ Ψ Ms ρ σ H xs ds Q R rf h
  cases rf with
  | nil => exact ⟨rfl, h Φ σ H R Step.refl rfl fun _ _ => rfl⟩
  | cons r t => exact h.elim
theorem evgs_cons {vs ws : List Nat} {g : TG} {u : TGs} {a : D → M Unit} {b : List D → M Unit} (hg : EvG K vs g a) (hu : EvGs K ws u b) : EvGs K (vs ++ ws) (gCons g u) (gcons a b) := by
  intro Φ Ψ Ms ρ σ H xs ds Q R rf h
  cases rf with
  | nil => exact h.elim
  | @cons x d xs ds r t =>
    refine ⟨x, xs, rfl, hg Φ Ψ Ms ρ σ H x d _ R r ?_⟩
    have h : PostU K Ψ Ms (vs ++ ws) Φ ρ σ H Q (bnd (a d) (fun _ => b ds) ρ) := h
    unfold bnd at h
    cases e : a d ρ with
    | none => rw [e] at h; exact h.elim
    | some p =>
      obtain ⟨q, ρ1⟩ := p
      rw [e] at h
      cases q with
      | err x => exact h.elim
      | ok z => exact fun Φ' σ' H' R' s' l' v' => hu Φ' Ψ Ms ρ1 σ' H' xs ds Q R' (t.mono s'.f1) (h.from_ s' l' v')
def gtup (n : Nat) (b : List D → M Unit) : D → M Unit := fun d => match d with
  | .tup ds => if ds.length = n then b ds else fun _ => none
  | _ => fun _ => none
theorem evg_tup {vs : List Nat} {n : Nat} {u : TGs} {b : List D → M Unit} (hu : EvGs K vs u b) : EvG K vs (gTup K n u) (gtup n b) := by
  intro Φ Ψ Ms ρ σ H x d Q R rf h
  cases d with
  | tup ds =>
    cases rf with
    | @tup a xs _ hs r =>
      unfold gtup at h
      by_cases e : ds.length = n
      · simp only [e, if_true] at h
        exact ⟨a, xs, rfl, R.sf.sqT hs.sq, r.length.trans e, hu Φ Ψ Ms ρ σ H xs ds Q R r h⟩
      · simp only [e, if_false] at h
        exact h.elim
  | _ => exact h.elim

/-! ### what is walked -/
/-- J walks the items ds, frozen in Φ -/
def Walks (K : PySem.W.Frag) (Φ : Hp) (J : It) (ds : List D) : Prop :=
  ∃ (G : Hp → Prop) (Y : Nat → Hp → V → Hp → Prop), Walk J ds.length G Y ∧ ∀ Φ2 H2, Ext Φ Φ2 → Sub Φ2 H2 → G H2 ∧ ∀ i x H', i < ds.length → Y i H2 x H' → ∃ Φ' d, Gr Φ2 H2 Φ' H' ∧ ds[i]? = some d ∧ RF K Φ' x d
def gI (K : PySem.W.Frag) (R : It → Hp → Prop) : Good (List D) := fun ds Φ' _ H' => ds.length ≤ sizeLine → ∀ J, Walks K Φ' J ds → R J H'
def EvI (K : PySem.W.Frag) (W : St → XK) (wi : TI) (m : M (List D)) : Prop :=
  ∀ Φ Ψ Ms ρ σ H R, Rel K Φ Ψ Ms ρ σ H → PostG K Ψ Ms σ (W σ) Φ ρ H (gI K R) (m ρ) → wi σ H R
/-- the items of a list or a tuple -/
def itemsOf : D → Option (List D)
  | .tup ds => some ds
  | .lst ds => some ds
  | _ => none
def iSeq (m : M Val) : M (List D) := bnd m fun v => bnd (share v) fun d => fun ρ => (itemsOf d).map fun ds => (.ok ds, ρ)
theorem EvM.keptI {t : TE} {m : M Val} {α : Type} {f : D → M α} {Q : VK} {good : Good α} (ha : EvM K W t m) (R : Rel K Φ Ψ Ms ρ σ H) (h : PostG K Ψ Ms σ (W σ) Φ ρ H good (bnd m (fun v => bnd (share v) f) ρ))
    (k : ∀ d Φ1 ρ1 H1 v, Rel K Φ1 Ψ Ms ρ1 σ H1 → Step Φ (Own ρ σ) H Φ1 (Own ρ1 σ) H1 → RF K Φ1 v d → PostG K Ψ Ms σ (W σ) Φ1 ρ1 H1 good (f d ρ1) → Q v H1) : t σ H Q := by
  refine ha Φ Ψ Ms ρ σ H Q R ?_
  have h1 := h.bnd'
  cases e0 : m ρ with
  | none => rw [e0] at h1; exact h1
  | some p0 =>
    obtain ⟨r0, ρ1⟩ := p0
    rw [e0] at h1
    cases r0 with
    | err x => exact h1
    | ok val =>
      intro Φ1 H1 R1 s1 v rs
      have h2 : PostG K Ψ Ms σ (W σ) Φ ρ H good (bnd (share val) f ρ1) := h1 Φ1 H1 R1 s1
      unfold bnd at h2
      cases e : share val ρ1 with
      | none => rw [e] at h2; exact h2.elim
      | some p =>
        obtain ⟨d, Φ2, eq, R2, s2, rf, x, _⟩ := share_ok R1 s1 rs e
        rw [e, eq] at h2
        exact k d Φ2 p.2 H1 v R2 s2 rf (h2.from_ s2)
theorem walks_seq {J : It} {xs : List V} {ds : List D} {G : Hp → Prop} (w : Walk J xs.length G (YAt xs)) (r : RFs K Φ xs ds) (g : ∀ Φ2 H2, Ext Φ Φ2 → Sub Φ2 H2 → G H2) : Walks K Φ J ds := by
  refine ⟨G, YAt xs, by rw [← r.length]; exact w, fun Φ2 H2 x s => ⟨g Φ2 H2 x s, fun i v H' hi y => ?_⟩⟩
  obtain ⟨rfl, e⟩ := y
  obtain ⟨d, ed, rf⟩ := r.getV e
  exact ⟨Φ2, d, Gr.refl s, ed, rf.mono x⟩
/-- the signs of a text, each a text -/
def signs (z : Str) : List D := z.cps.toList.map fun c => D.str ⟨#[c]⟩
def iSeqS (m : M Val) : M (List D) := bnd m fun v => bnd (share v) fun d => fun ρ => match d with
  | .tup ds => some (.ok ds, ρ)
  | .lst ds => some (.ok ds, ρ)
  | .str z => if z.length ≤ sizeLine then some (.ok (signs z), ρ) else none
  | _ => none
theorem evi_any {t : TE} {m : M Val} (h : EvM K W t m) : EvI K W (tHBI K (iAny K t)) (iSeqS m) := by
  intro Φ Ψ Ms ρ σ H R Rl hp
  refine h.keptI Rl hp fun d Φ1 ρ1 H1 v R1 s1 rf h => ?_
  cases d with
  | lst ds =>
    cases rf with
    | @lst a xs _ hs r =>
      have h' : PostG K Ψ Ms σ (W σ) Φ1 ρ1 H1 (gI K R) (some (.ok ds, ρ1)) := h
      exact .inl ⟨a, rfl, ⟨xs, .inl (R1.sf.rd hs)⟩, fun hb => h' Φ1 H1 R1 Step.refl (by rw [← r.length]; exact hb a xs (.inl (.inl (R1.sf.rd hs)))) _ (walks_seq walk_list r fun Φ2 H2 x s => .inl (s.rd (x.rd hs)))⟩
  | tup ds =>
    cases rf with
    | @tup a xs _ hs r =>
      have h' : PostG K Ψ Ms σ (W σ) Φ1 ρ1 H1 (gI K R) (some (.ok ds, ρ1)) := h
      exact .inr (.inl ⟨a, rfl, ⟨xs, R1.sf.sqT hs.sq⟩, fun hb => h' Φ1 H1 R1 Step.refl (by rw [← r.length]; exact hb a xs (.inr (R1.sf.sqT hs.sq))) _ (walks_seq walk_tup r fun Φ2 H2 x s => s.sqT (x.sub.sqT hs.sq))⟩)
  | str z =>
    cases rf
    by_cases hz : z.length ≤ sizeLine
    · simp only [hz, if_true] at h
      have e1 : z.cps.size = (signs z).length := by simp [signs]
      refine .inr (.inr ⟨z, rfl, fun hb => h Φ1 H1 R1 Step.refl (by rw [← e1]; exact hz) _ ⟨fun _ => True, _, by rw [← e1]; exact walk_str, fun Φ2 H2 x s => ⟨trivial, fun i v H' hi y => ?_⟩⟩⟩)
      obtain ⟨rfl, c, ec, rfl⟩ := y
      refine ⟨Φ2, .str ⟨#[c]⟩, Gr.refl s, ?_, .str _⟩
      have e2 : z.cps.toList[i]? = some c := by rw [Array.getElem?_toList]; exact ec
      simp [signs, e2]
    · simp only [hz, if_false] at h
      exact h.elim
  | _ => exact h.elim
/-- range(n), range(a, b) -/
def rngD (lo : Int) (n : Nat) : List D := (List.range n).map fun (i : Nat) => D.int (lo + (i : Int))
theorem walks_range {lo : Int} {n : Nat} : Walks K Φ (Itr lo n) (rngD lo n) := by
  refine ⟨fun _ => True, YFn fun i => .int (lo + i), by unfold rngD; rw [List.length_map, List.length_range]; exact walk_range, fun Φ2 H2 x s => ⟨trivial, fun i v H' hi y => ?_⟩⟩
  obtain ⟨rfl, rfl⟩ := y
  have hi' : i < n := by simpa [rngD] using hi
  exact ⟨Φ2, .int (lo + i), Gr.refl s, by simp [rngD, hi'], .int _⟩
def int1 : List D → Option Int
  | [.int j] => some j
  | _ => none
def int2 : List D → Option (Int × Int)
  | [.int i, .int j] => some (i, j)
  | _ => none
theorem int1_ok {ds : List D} {j : Int} (h : int1 ds = some j) : ds = [.int j] := by
  unfold int1 at h
  split at h
  · cases h; rfl
  · cases h
theorem int2_ok {ds : List D} {j : Int × Int} (h : int2 ds = some j) : ds = [.int j.1, .int j.2] := by
  unfold int2 at h
  split at h
  · cases h; rfl
  · cases h
def iRange1 (ma : M (List Val)) : M (List D) := bnd ma fun vs => fun ρ => match (conts ρ vs).bind int1 with
  | some j => if -16777216 ≤ j ∧ j ≤ 16777216 then some (.ok (rngD 0 j.toNat), ρ) else none
  | none => none
def iRange2 (ma : M (List Val)) : M (List D) := bnd ma fun vs => fun ρ => match (conts ρ vs).bind int2 with
  | some (i, j) => if (-16777216 ≤ i ∧ i ≤ 16777216) ∧ (-16777216 ≤ j ∧ j ≤ 16777216) ∧ j - i ≤ 16777216 then some (.ok (rngD i (j - i).toNat), ρ) else none
  | none => none
theorem R1s.one {vs : List V} {d : D} (h : R1s K Φ H vs [d]) : ∃ v, vs = [v] ∧ R1 K Φ H v d := by
  cases h with | cons r t => cases t; exact ⟨_, rfl, r⟩
theorem R1s.two {vs : List V} {d e : D} (h : R1s K Φ H vs [d, e]) : ∃ v w, vs = [v, w] ∧ R1 K Φ H v d ∧ R1 K Φ H w e := by
  cases h with | cons r t => obtain ⟨w, rfl, q⟩ := t.one; exact ⟨_, w, rfl, r, q⟩
theorem R1s.three {vs : List V} {d e f : D} (h : R1s K Φ H vs [d, e, f]) : ∃ v w x, vs = [v, w, x] ∧ R1 K Φ H v d ∧ R1 K Φ H w e ∧ R1 K Φ H x f := by
  cases h with | cons r t => obtain ⟨w, x, rfl, q, q'⟩ := t.two; exact ⟨_, w, x, rfl, r, q, q'⟩
theorem evi_range1 {t : TA} {ma : M (List Val)} (h : EvA K W t ma) : EvI K W (iRng1 t) (iRange1 ma) := by
  intro Φ Ψ Ms ρ σ H R Rl hp
  refine h Φ Ψ Ms ρ σ H _ Rl (PostG.bnd hp |>.mono fun vals Φ1 ρ1 H1 R1 s1 h vs rs => ?_)
  cases e : conts ρ1 vals with
  | none => rw [e] at h; exact h.elim
  | some ds =>
    rw [e] at h
    have q := conts_ok R1 rs e
    cases e2 : int1 ds with
    | none => simp only [Option.bind, e2] at h; exact h.elim
    | some j =>
      have := int1_ok e2; subst this
      obtain ⟨v, rfl, r⟩ := q.one
      have := r.int; subst this
      simp only [Option.bind, e2] at h
      by_cases h1 : -16777216 ≤ j ∧ j ≤ 16777216
      · rw [if_pos h1] at h
        refine ⟨j, rfl, by omega, by omega, h Φ1 H1 R1 Step.refl ?_ _ walks_range⟩
        rw [sizeLine_eq]
        simp only [rngD, List.length_map, List.length_range]
        omega
      · rw [if_neg h1] at h; exact h.elim
theorem evi_range2 {t : TA} {ma : M (List Val)} (h : EvA K W t ma) : EvI K W (iRng2 t) (iRange2 ma) := by
  intro Φ Ψ Ms ρ σ H R Rl hp
  refine h Φ Ψ Ms ρ σ H _ Rl (PostG.bnd hp |>.mono fun vals Φ1 ρ1 H1 R1 s1 h vs rs => ?_)
  cases e : conts ρ1 vals with
  | none => rw [e] at h; exact h.elim
  | some ds =>
    rw [e] at h
    have q := conts_ok R1 rs e
    cases e2 : int2 ds with
    | none => simp only [Option.bind, e2] at h; exact h.elim
    | some ij =>
      obtain ⟨i, j⟩ := ij
      have := int2_ok e2; subst this
      obtain ⟨v, w, rfl, r, r'⟩ := q.two
      have := r.int; subst this
      have := r'.int; subst this
      simp only [Option.bind, e2] at h
      by_cases h1 : (-16777216 ≤ i ∧ i ≤ 16777216) ∧ (-16777216 ≤ j ∧ j ≤ 16777216) ∧ j - i ≤ 16777216
      · rw [if_pos h1] at h
        obtain ⟨⟨a1, a2⟩, ⟨a3, a4⟩, a5⟩ := h1
        refine ⟨i, j, rfl, ⟨by omega, by omega, by omega, by omega⟩, h Φ1 H1 R1 Step.refl ?_ _ walks_range⟩
        rw [sizeLine_eq]
        simp only [rngD, List.length_map, List.length_range]
        omega
      · rw [if_neg h1] at h; exact h.elim

/-! ### for -/
def tgt {α : Type} (m : M Unit) (k : M α) : M α := fun ρ => match m ρ with
  | some (.ok _, ρ1) => k ρ1
  | _ => none
def forL (g : D → M Unit) (body : M Fl) : List D → M Fl
  | [] => ret .nx
  | d :: ds => tgt (g d) (bnd body fun f => match f with
    | .nx => forL g body ds
    | .ct => forL g body ds
    | .bk => ret .nx
    | .rt v => ret (.rt v))
def sFor (mi : M (List D)) (g : D → M Unit) (body : M Fl) : M Fl := bnd mi fun ds => forL g body ds
theorem evs_for {vs : List Nat} {wi : TI} {g : TG} {tb : TS} {mi : M (List D)} {mg : D → M Unit} {body : M Fl} (hi : EvI K W wi mi) (hg : EvG K vs g mg) (hb : EvS K W tb body) : EvS K W (tFor wi g tb) (sFor mi mg body) := by
  intro Φ Ψ Ms ρ σ H Dn R h
  have h0 := PostS.bnd h
  refine hi Φ Ψ Ms ρ σ H _ R (h0.mono fun ds Φ1 ρ1 H1 R1 s1 h hl J hw => ?_)
  have h := h.from_ s1
  clear h0
  obtain ⟨G, Y, w, wk⟩ := hw
  refine for_it w (fun i σ2 H2 => ∃ Φ2 ρ2, Rel K Φ2 Ψ Ms ρ2 σ2 H2 ∧ Ext Φ1 Φ2 ∧ PostS K Ψ Ms W Φ2 ρ2 σ2 H2 Dn (forL mg body (ds.drop i) ρ2)) ⟨Φ1, ρ1, R1, Ext.refl _, h⟩ ?_ ?_ ?_
  · rintro i σ2 H2 hi ⟨Φ2, ρ2, R2, x2, _⟩
    exact (wk Φ2 H2 x2 R2.sf).1
  · rintro i x σ2 H2 H3 hi ⟨Φ2, ρ2, R2, x2, h2⟩ y
    obtain ⟨Φ3, d, gr, ed, rf⟩ := (wk Φ2 H2 x2 R2.sf).2 i x H3 hi y
    have R3 := R2.grow gr
    have e0 : ds.drop i = d :: ds.drop (i + 1) := by
      rw [List.drop_eq_getElem_cons hi]
      congr 1
      rw [List.getElem?_eq_getElem hi] at ed
      exact Option.some.inj ed
    rw [e0] at h2
    have h3 := h2.from_ (gr.step (O := Own ρ2 σ2))
    refine hg Φ3 Ψ Ms ρ2 σ2 H3 x d _ R3 rf ?_
    have h3 : PostS K Ψ Ms W Φ3 ρ2 σ2 H3 Dn (tgt (mg d) (bnd body fun f => match f with
      | .nx => forL mg body (ds.drop (i + 1))
      | .ct => forL mg body (ds.drop (i + 1))
      | .bk => ret .nx
      | .rt v => ret (.rt v)) ρ2) := h3
    unfold tgt at h3
    cases e : mg d ρ2 with
    | none => rw [e] at h3; exact h3.elim
    | some p =>
      obtain ⟨q, ρ3⟩ := p
      rw [e] at h3
      cases q with
      | err x => exact h3.elim
      | ok z =>
        intro Φ4 σ4 H4 R4 s4 l4 v4
        refine hb Φ4 Ψ Ms ρ3 σ4 H4 _ R4 ?_
        have h4 : PostS K Ψ Ms W Φ3 ρ2 σ2 H3 Dn (bnd body (fun f => match f with
          | .nx => forL mg body (ds.drop (i + 1))
          | .ct => forL mg body (ds.drop (i + 1))
          | .bk => ret .nx
          | .rt v => ret (.rt v)) ρ3) := h3
        have h5 := h4.from_ s4
        unfold bnd at h5
        cases eb : body ρ3 with
        | none => rw [eb] at h5; exact h5.elim
        | some pb =>
          obtain ⟨qb, ρ5⟩ := pb
          rw [eb] at h5
          have x4 : Ext Φ1 Φ4 := (x2.trans gr.fx).trans s4.f1
          match qb, h5 with
          | .err x, h5 => exact h5
          | .ok .nx, h5 => exact fun Φ6 σ6 H6 R6 s6 => ⟨Φ6, ρ5, R6, x4.trans s6.f1, h5.from_ s6⟩
          | .ok .ct, h5 => exact fun Φ6 σ6 H6 R6 s6 => ⟨Φ6, ρ5, R6, x4.trans s6.f1, h5.from_ s6⟩
          | .ok .bk, h5 => exact h5
          | .ok (.rt v), h5 => exact h5
  · rintro σ2 H2 ⟨Φ2, ρ2, R2, x2, h2⟩
    rw [List.drop_length] at h2
    exact h2 Φ2 σ2 H2 R2 Step.refl
end
end Z

/-! Z4: comprehensions. -/
namespace Z
open PySem L2
def wipeE (ρ : Env) : List Nat → Env
  | [] => ρ
  | v :: vs => (wipeE ρ vs).set v none
def restE (ρ0 ρ : Env) : List Nat → Env
  | [] => ρ
  | v :: vs => (restE ρ0 ρ vs).set v (ρ0.getD v none)
def safeS : Option (Option Sl) → Bool
  | some none => true
  | some (some (.imm _)) => true
  | some (some (.bor _)) => true
  | _ => false
def lcL (vs : List Nat) (g : D → M Unit) (c : M Bool) (e : M Val) : List D → M (List D)
  | [] => ret []
  | d :: ds => fun ρ => tgt (g d) (bnd c fun b => if b = true then bnd e fun v => bnd (share v) fun x => bnd (lcL vs g c e ds) fun xs => ret (x :: xs) else lcL vs g c e ds) (wipeE ρ vs)
def lcEnd (vs : List Nat) (g : D → M Unit) (c : M Bool) (e : M Val) (ds : List D) : M Val := fun ρ =>
  if (vs.all fun v => safeS ρ[v]?) = true then match lcL vs g c e ds ρ with
    | some (.ok out, ρ') => some (.ok (.own (.lst out)), restE ρ ρ' vs)
    | _ => none
  else none
def xLc (vs : List Nat) (mi : M (List D)) (g : D → M Unit) (c : M Bool) (e : M Val) : M Val := bnd mi fun ds => lcEnd vs g c e ds
def WF : St → XK := fun _ _ _ _ => False
theorem bnd_ok {α β : Type} {m : M α} {f : α → M β} {ρ ρ' : Env} {r : β} (h : bnd m f ρ = some (.ok r, ρ')) : ∃ a ρ1, m ρ = some (.ok a, ρ1) ∧ f a ρ1 = some (.ok r, ρ') := by
  unfold bnd at h
  cases e : m ρ with
  | none => rw [e] at h; cases h
  | some p =>
    obtain ⟨q, ρ1⟩ := p
    rw [e] at h
    cases q with
    | err x => cases h
    | ok a => exact ⟨a, ρ1, rfl, h⟩
theorem tgt_ok {α : Type} {m : M Unit} {k : M α} {ρ : Env} {p : Rs α × Env} (h : tgt m k ρ = some p) : ∃ ρ1, m ρ = some (.ok (), ρ1) ∧ k ρ1 = some p := by
  unfold tgt at h
  cases e : m ρ with
  | none => rw [e] at h; cases h
  | some p =>
    obtain ⟨q, ρ1⟩ := p
    rw [e] at h
    cases q with
    | err x => cases h
    | ok a => exact ⟨ρ1, rfl, h⟩
section
variable {K : PySem.W.Frag} {W : St → XK} {Φ Φ' Φ1 Ψ H H' H0 H1 : Hp} {Ms : List (Nat × Addr)} {ρ ρ' ρ1 : Env} {σ σ1 : St}
theorem wipeE_len : ∀ vs : List Nat, (wipeE ρ vs).length = ρ.length
  | [] => rfl
  | v :: vs => by unfold wipeE; rw [List.length_set, wipeE_len vs]
theorem restE_len : ∀ vs : List Nat, (restE ρ1 ρ vs).length = ρ.length
  | [] => rfl
  | v :: vs => by unfold restE; rw [List.length_set, restE_len vs]
theorem wipeE_out {j : Nat} : ∀ {vs : List Nat}, j ∉ vs → (wipeE ρ vs)[j]? = ρ[j]?
  | [], _ => rfl
  | v :: vs, h => by
    rw [List.mem_cons, not_or] at h
    unfold wipeE
    rw [List.getElem?_set_ne (Ne.symm h.1), wipeE_out h.2]
theorem wipeE_in {j : Nat} {s : Sl} : ∀ {vs : List Nat}, j ∈ vs → (wipeE ρ vs)[j]? ≠ some (some s)
  | [], h => nomatch h
  | v :: vs, h => by
    unfold wipeE
    by_cases z : j = v
    · subst z
      by_cases hl : j < (wipeE ρ vs).length
      · rw [List.getElem?_set_self hl]; exact nofun
      · rw [List.getElem?_eq_none_iff.mpr (by simpa using hl)]; exact nofun
    · rw [List.getElem?_set_ne (Ne.symm z)]
      exact wipeE_in ((List.mem_cons.mp h).resolve_left z)
theorem restE_out {j : Nat} : ∀ {vs : List Nat}, j ∉ vs → (restE ρ1 ρ vs)[j]? = ρ[j]?
  | [], _ => rfl
  | v :: vs, h => by
    rw [List.mem_cons, not_or] at h
    unfold restE
    rw [List.getElem?_set_ne (Ne.symm h.1), restE_out h.2]
theorem restE_in {j : Nat} {s : Sl} : ∀ {vs : List Nat}, j ∈ vs → (restE ρ1 ρ vs)[j]? = some (some s) → ρ1[j]? = some (some s)
  | [], h, _ => nomatch h
  | v :: vs, h, e => by
    unfold restE at e
    by_cases z : j = v
    · subst z
      by_cases hl : j < (restE ρ1 ρ vs).length
      · rw [List.getElem?_set_self hl] at e
        have e : ρ1.getD j none = some s := by simpa using e
        rw [List.getD_eq_getElem?_getD] at e
        cases q : ρ1[j]? with
        | none => rw [q] at e; cases e
        | some t => rw [q] at e; simp at e; rw [e]
      · rw [List.getElem?_eq_none_iff.mpr (by simpa using hl)] at e; cases e
    · rw [List.getElem?_set_ne (Ne.symm z)] at e
      exact restE_in ((List.mem_cons.mp h).resolve_left z) e
theorem wipe_in' {j : Nat} {x : V} {vs : List Nat} (h : j ∈ vs) : (wipe σ vs)[j]? ≠ some (some x) := fun e => (wipe_some e).2 h
theorem Rel.wipe {vs : List Nat} (R : Rel K Φ Ψ Ms ρ σ H) (hm : ∀ v ∈ vs, ∀ a, (v, a) ∉ Ms) : Rel K Φ Ψ Ms (wipeE ρ vs) (L2.wipe σ vs) H where
  len := by rw [wipeE_len, wipe_length]; exact R.len
  sf := R.sf
  sb := R.sb
  ms := fun j a m => by
    have hj : j ∉ vs := fun z => hm j z a m
    rw [wipeE_out hj, wipe_out hj]
    exact R.ms j a m
  sl := fun j s e => by
    by_cases hj : j ∈ vs
    · exact absurd e (wipeE_in hj)
    · rw [wipeE_out hj] at e
      rw [wipe_out hj]
      exact R.sl j s e
  dis := fun i j s t a ne ei ej ms mt ea eb => by
    have hi : i ∉ vs := fun z => absurd ei (wipeE_in z)
    have hj : j ∉ vs := fun z => absurd ej (wipeE_in z)
    rw [wipeE_out hi] at ei
    rw [wipeE_out hj] at ej
    rw [wipe_out hi] at ea
    rw [wipe_out hj] at eb
    exact R.dis i j s t a ne ei ej ms mt ea eb
theorem own_wipe {vs : List Nat} {a : Addr} (o : Own (wipeE ρ vs) (wipe σ vs) a) : Own ρ σ a := by
  obtain ⟨j, s, e, m, es⟩ := o
  have hj : j ∉ vs := fun z => absurd e (wipeE_in z)
  rw [wipeE_out hj] at e
  rw [wipe_out hj] at es
  exact ⟨j, s, e, m, es⟩
theorem safe_at {vs : List Nat} (h : (vs.all fun v => safeS ρ[v]?) = true) {v : Nat} (hv : v ∈ vs) : safeS ρ[v]? = true := List.all_eq_true.mp h v hv
theorem safe_not {s : Sl} (h : safeS (some (some s)) = true) : s.isM = false := by cases s <;> first | rfl | cases h
theorem safe_ms {vs : List Nat} (R : Rel K Φ Ψ Ms ρ σ H) (h : (vs.all fun v => safeS ρ[v]?) = true) : ∀ v ∈ vs, ∀ a, (v, a) ∉ Ms := fun v hv a m => by
  obtain ⟨_, d, e⟩ := R.ms v a m
  have := safe_at h hv
  rw [e] at this; cases this
theorem Rel.rest {vs : List Nat} (Ra : Rel K Φ1 Ψ Ms ρ1 σ H1) (sf : (vs.all fun v => safeS ρ1[v]?) = true) (R : Rel K Φ Ψ Ms (wipeE ρ vs) (L2.wipe σ vs) H) (x : Ext Φ1 Φ) : Rel K Φ Ψ Ms (restE ρ1 ρ vs) σ H where
  len := by rw [restE_len, ← wipeE_len (ρ := ρ) vs, R.len, wipe_length]
  sf := R.sf
  sb := R.sb
  ms := fun j a m => by
    have hj : j ∉ vs := fun z => safe_ms Ra sf j z a m
    have := R.ms j a m
    rw [wipeE_out hj, wipe_out hj] at this
    rw [restE_out hj]
    exact this
  sl := fun j s e => by
    by_cases hj : j ∈ vs
    · have e1 := restE_in hj e
      obtain ⟨v, ev, r⟩ := Ra.sl j s e1
      refine ⟨v, ev, ?_⟩
      have q := safe_at sf hj
      rw [e1] at q
      cases s with
      | imm d => exact RF.mono x r
      | bor d => exact R1.mono r x
      | own d => cases q
      | mrf d => cases q
    · rw [restE_out hj] at e
      have := R.sl j s (by rw [wipeE_out hj]; exact e)
      rw [wipe_out hj] at this
      exact this
  dis := fun i j s t a ne ei ej ms mt ea eb => by
    have out : ∀ {i : Nat} {s : Sl}, (restE ρ1 ρ vs)[i]? = some (some s) → s.isM = true → i ∉ vs := fun {i s} e m z => by
      have q := safe_at sf z
      rw [restE_in z e] at q
      rw [safe_not q] at m; cases m
    have hi := out ei ms
    have hj := out ej mt
    rw [restE_out hi] at ei
    rw [restE_out hj] at ej
    exact R.dis i j s t a ne (by rw [wipeE_out hi]; exact ei) (by rw [wipeE_out hj]; exact ej) ms mt (by rw [wipe_out hi]; exact ea) (by rw [wipe_out hj]; exact eb)
theorem own_rest {vs : List Nat} {a : Addr} (sf : (vs.all fun v => safeS ρ1[v]?) = true) (o : Own (restE ρ1 ρ vs) σ a) : Own (wipeE ρ vs) (wipe σ vs) a := by
  obtain ⟨j, s, e, m, es⟩ := o
  have hj : j ∉ vs := fun z => by
    have q := safe_at sf z
    rw [restE_in z e] at q
    rw [safe_not q] at m; cases m
  rw [restE_out hj] at e
  exact ⟨j, s, by rw [wipeE_out hj]; exact e, m, by rw [wipe_out hj]; exact es⟩
theorem Step.weak {O O' P P' : Addr → Prop} (s : Step Φ O H Φ' O' H') (h1 : ∀ a, O a → P a) (h2 : ∀ a, P' a → O' a) : Step Φ P H Φ' P' H' :=
  ⟨s.f1, fun a o e n => s.f2 a o e fun z => n (h1 a z), fun a o e => (s.f3 a o e).imp id fun z => z.imp id fun z => z.imp (h1 a) id, fun a z => (s.f4 a (h2 a z)).imp (h1 a) id, s.f5⟩
theorem wipe_eq {vs : List Nat} {σ2 : St} (hl : σ2.length = (wipe σ vs).length) (h : ∀ j, j ∉ vs → σ2[j]? = (wipe σ vs)[j]?) : wipe σ2 vs = wipe σ vs := by
  have len : ∀ vs : List Nat, ∀ j, j ∈ vs → j < σ2.length → (wipe σ2 vs)[j]? = some none ∧ (wipe σ vs)[j]? = some none := by
    intro vs
    induction vs with
    | nil => intro j h; cases h
    | cons v vs ih =>
      intro j hj hlt
      have l1 : j < (wipe σ2 vs).length := by rw [wipe_length]; exact hlt
      have l2 : j < (wipe σ vs).length := by rw [wipe_length]; rw [hl, wipe_length] at hlt; exact hlt
      unfold wipe
      by_cases z : j = v
      · subst z
        exact ⟨List.getElem?_set_self l1, List.getElem?_set_self l2⟩
      · rw [List.getElem?_set_ne (Ne.symm z), List.getElem?_set_ne (Ne.symm z)]
        exact ih j ((List.mem_cons.mp hj).resolve_left z) hlt
  apply List.ext_getElem?
  intro j
  by_cases hj : j ∈ vs
  · by_cases hlt : j < σ2.length
    · rw [(len vs j hj hlt).1, (len vs j hj hlt).2]
    · rw [List.getElem?_eq_none_iff.mpr (by rw [wipe_length]; omega), List.getElem?_eq_none_iff.mpr (by rw [← hl]; omega)]
  · rw [wipe_out hj]
    exact h j hj

/-! ### the comprehension -/
theorem evm_lc {vs : List Nat} {wi : TI} {g : TG} {tt : TT} {te : TE} {mi : M (List D)} {mg : D → M Unit} {c : M Bool} {e : M Val} (hi : EvI K W wi mi) (hg : EvG K vs g mg) (hc : EvB K WF tt c) (he : EvM K WF te e) :
    EvM K W (tLc wi g tt te vs) (xLc vs mi mg c e) := by
  intro Φ Ψ Ms ρ σ H Q R h
  refine hi Φ Ψ Ms ρ σ H _ R (PostG.bnd h |>.mono fun ds Φ1 ρ1 H1 Ra s1 h hl J hw => ?_)
  obtain ⟨G, Y, w, wk⟩ := hw
  intro D hD
  unfold lcEnd at h
  by_cases sf : (vs.all fun v => safeS ρ1[v]?) = true
  · rw [if_pos sf] at h
    cases el : lcL vs mg c e ds ρ1 with
    | none => rw [el] at h; exact h.elim
    | some p =>
      obtain ⟨q, ρ'⟩ := p
      rw [el] at h
      cases q with
      | err x => exact h.elim
      | ok out =>
        have gr0 : Gr Φ1 H1 Φ1 (upd H1 D (.lst [])) := Gr.newM Ra.sf hD
        have hms := safe_ms Ra sf
        have hoD : ¬ Own (wipeE ρ1 vs) (wipe σ vs) D := fun o => by
          obtain ⟨⟨d, rm⟩, _⟩ := Ra.own (own_wipe o)
          exact rm.ne hD
        refine lc_it w (fun i H2 => ∃ Φ2 ρ2 acc pre rest, Rel K Φ2 Ψ Ms (wipeE ρ2 vs) (wipe σ vs) H2 ∧ Step Φ1 (Own (wipeE ρ1 vs) (wipe σ vs)) H1 Φ2 (Own (wipeE ρ2 vs) (wipe σ vs)) H2 ∧
          H2 D = some (.lst acc) ∧ RFs K Φ2 acc pre ∧ acc.length ≤ i ∧ Φ2 D = none ∧ ¬ Own (wipeE ρ2 vs) (wipe σ vs) D ∧ lcL vs mg c e (ds.drop i) ρ2 = some (.ok rest, ρ') ∧ pre ++ rest = out) ?_ ?_ ?_ ?_
        · exact ⟨Φ1, ρ1, [], [], out, (Ra.wipe hms).grow gr0, gr0.step, upd_same, .nil, Nat.le_refl _, Ra.sf.none hD, hoD, el, rfl⟩
        · rintro i H2 hi ⟨Φ2, ρ2, acc, pre, rest, R2, s2, _⟩
          exact (wk Φ2 H2 s2.f1 R2.sf).1
        · rintro i x H2 H3 hi ⟨Φ2, ρ2, acc, pre, rest, R2, s2, hacc, rf, hla, nD, oD, e2, epr⟩ y
          obtain ⟨Φ3, d, gr, ed, rx⟩ := (wk Φ2 H2 s2.f1 R2.sf).2 i x H3 hi y
          have R3 := R2.grow gr
          have s3 := s2.trans (gr.step (O := Own (wipeE ρ2 vs) (wipe σ vs)))
          have hacc3 : H3 D = some (.lst acc) := gr.hx _ _ hacc
          have nD3 : Φ3 D = none := gr.phiNone nD (by rw [hacc]; exact nofun)
          have e0 : ds.drop i = d :: ds.drop (i + 1) := by
            rw [List.drop_eq_getElem_cons hi]
            congr 1
            rw [List.getElem?_eq_getElem hi] at ed
            exact Option.some.inj ed
          rw [e0] at e2
          unfold lcL at e2
          obtain ⟨ρ4, eg, e2⟩ := tgt_ok e2
          obtain ⟨b, ρ5, ec, e2⟩ := bnd_ok e2
          refine hg Φ3 Ψ Ms (wipeE ρ2 vs) (wipe σ vs) H3 x d _ R3 rx ?_
          rw [eg]
          intro Φ4 σ4 H4 R4 s4 l4 v4
          have wq : wipe σ4 vs = wipe σ vs := wipe_eq l4 v4
          refine ⟨wq, ?_⟩
          -- the list at D stays, unowned
          have keepD : ∀ {Φa Φb Ha Hb : Hp} {Oa Ob : Addr → Prop}, Step Φa Oa Ha Φb Ob Hb → Ha D = some (.lst acc) → Φa D = none → ¬ Oa D → Hb D = some (.lst acc) ∧ Φb D = none ∧ ¬ Ob D := by
            intro Φa Φb Ha Hb Oa Ob s h1 h2 h3
            refine ⟨s.f2 _ _ h1 h3, ?_, fun o => ?_⟩
            · cases q : Φb D with
              | none => rfl
              | some o =>
                rcases s.f3 _ _ q with z | z | z | ⟨_, z⟩
                · rw [h2] at z; cases z
                · rw [h1] at z; cases z
                · exact absurd z h3
                · rw [h1] at z; cases z
            · rcases s.f4 _ o with z | z
              · exact h3 z
              · rw [h1] at z; cases z
          obtain ⟨d4, n4, o4⟩ := keepD s4 hacc3 nD3 oD
          have st4 := s3.trans s4
          refine hc Φ4 Ψ Ms ρ4 σ4 H4 _ R4 ?_
          rw [ec]
          intro Φ5 H5 R5 s5
          obtain ⟨d5, n5, o5⟩ := keepD s5 d4 n4 o4
          have st5 := st4.trans s5
          cases b with
          | false =>
            refine ⟨Φ5, ρ5, acc, pre, rest, wq ▸ R5.wipe hms, st5.weak (fun _ o => o) (fun a o => own_wipe (wq ▸ o : Own (wipeE ρ5 vs) (wipe σ4 vs) a)), d5, ?_, Nat.le_succ_of_le hla, n5, fun o => o5 (own_wipe (wq ▸ o : Own (wipeE ρ5 vs) (wipe σ4 vs) D)), e2, epr⟩
            exact rf.mono ((gr.fx.trans s4.f1).trans s5.f1)
          | true =>
            show te σ4 H5 _
            rw [if_pos rfl] at e2
            obtain ⟨val, ρ6, ee, e2⟩ := bnd_ok e2
            obtain ⟨dd, ρ7, es, e2⟩ := bnd_ok e2
            obtain ⟨xs, ρ8, er, e2⟩ := bnd_ok e2
            cases e2
            refine he Φ5 Ψ Ms ρ5 σ4 H5 _ R5 ?_
            rw [ee]
            intro Φ6 H6 R6 s6 yv rv
            obtain ⟨d6, n6, o6⟩ := keepD s6 d5 n5 o5
            obtain ⟨dd', Φ7, eq7, R7, s7, rf7, x7, kp7⟩ := share_ok R6 s6 rv es
            cases eq7
            have st7 := st5.trans s7
            have n7 : Φ7 D = none := by
              cases q : Φ7 D with
              | none => rfl
              | some o =>
                rcases s7.f3 _ _ q with z | z | z | ⟨_, z⟩
                · rw [n5] at z; cases z
                · rw [d5] at z; cases z
                · exact absurd z o5
                · rw [d5] at z; cases z
            have o7 : ¬ Own ρ7 σ4 D := fun o => by
              rcases s7.f4 _ o with z | z
              · exact o5 z
              · rw [d5] at z; cases z
            refine ⟨acc, d6, by omega, ?_⟩
            have hne : ∀ b o, Φ7 b = some o → b ≠ D := fun b o q z => by rw [z, n7] at q; cases q
            have xtra : Rel K Φ7 Ψ Ms ρ7 σ4 (upd H6 D (.lst (acc ++ [yv]))) := by
              refine ⟨R7.len, fun b o q => ?_, fun b o q => ?_, R7.ms, fun j s q => ?_, R7.dis⟩
              · rw [upd_ne (hne b o q)]; exact R7.sf b o q
              · have nb : b ≠ D := fun z => by
                  have := (Ra.young hD).1
                  rw [← z, q] at this; cases this
                rw [upd_ne nb]; exact R7.sb b o q
              · obtain ⟨v, ev, r⟩ := R7.sl j s q
                refine ⟨v, ev, ?_⟩
                cases s with
                | imm d => exact r
                | bor d => exact r
                | own d =>
                  obtain ⟨b, e1, rm, m1, m2, m3⟩ := r
                  have nb : b ≠ D := fun z => o7 ⟨j, _, q, rfl, by rw [ev, e1, z]⟩
                  exact ⟨b, e1, rm.move (Ext.refl _) fun o z => by rw [upd_ne nb]; exact z, m1, m2, m3⟩
                | mrf d =>
                  obtain ⟨b, e1, rm, m1, m2, m3⟩ := r
                  have nb : b ≠ D := fun z => o7 ⟨j, _, q, rfl, by rw [ev, e1, z]⟩
                  exact ⟨b, e1, rm.move (Ext.refl _) fun o z => by rw [upd_ne nb]; exact z, m1, m2, m3⟩
            refine ⟨Φ7, ρ7, acc ++ [yv], pre ++ [dd], xs, wq ▸ xtra.wipe hms, ?_, upd_same, ?_, by simp; omega, n7, fun o => o7 (own_wipe (wq ▸ o : Own (wipeE ρ7 vs) (wipe σ4 vs) D)), er, by rw [← epr]; simp⟩
            · have s8 : Step Φ1 (Own (wipeE ρ1 vs) (wipe σ vs)) H1 Φ7 (Own ρ7 σ4) (upd H6 D (.lst (acc ++ [yv]))) := by
                refine ⟨st7.f1, fun b o q nq => ?_, st7.f3, st7.f4, fun b q => ?_⟩
                · have nb : b ≠ D := fun z => by rw [z, hD] at q; cases q
                  rw [upd_ne nb]; exact st7.f2 b o q nq
                · by_cases z : b = D
                  · rw [z, upd_same]; exact nofun
                  · rw [upd_ne z]; exact st7.f5 b q
              exact s8.weak (fun _ o => o) fun a o => own_wipe (wq ▸ o : Own (wipeE ρ7 vs) (wipe σ4 vs) a)
            · exact (rf.mono ((((gr.fx.trans s4.f1).trans s5.f1).trans s6.f1).trans (x7))).app (.cons rf7 .nil)
        · rintro H2 ⟨Φ2, ρ2, acc, pre, rest, R2, s2, hacc, rf, hla, nD, oD, e2, epr⟩
          rw [List.drop_length] at e2
          cases e2
          rw [List.append_nil] at epr
          subst epr
          have st := s2.weak (fun a o => own_wipe o) (fun a o => own_rest (ρ1 := ρ1) sf o)
          exact h Φ2 H2 (Ra.rest sf R2 s2.f1) st (.ref D) ⟨D, rfl, .lst hacc rf, nD, fun o => oD (own_rest sf o), s1.fresh D hD⟩
  · rw [if_neg sf] at h
    exact h.elim
end
end Z

/-! Z5: defs: their promises, their bodies, their calls. -/
namespace Z
open PySem L2
inductive Kd where
  | I | B | M
  deriving DecidableEq
abbrev Fn := List Sl → Option (Rs Val × Env)
def leave (ρ : Env) : Val → Option Val
  | .slot i => match ρ[i]? with
    | some (some (.imm d)) => some (.imm d)
    | some (some (.own d)) => some (.own d)
    | some (some (.bor d)) => if d.solid = true then some (.imm d) else none
    | _ => none
  | v => some v
def mkFn (n : Nat) (body : M Fl) : Fn := fun sls => match body (sls.map some ++ List.replicate (n - sls.length) none) with
  | some (.ok (.rt v), ρ) => (leave ρ v).map fun w => (.ok w, ρ)
  | some (.ok .nx, ρ) => some (.ok (.imm .non), ρ)
  | some (.err x, ρ) => some (.err x, ρ)
  | _ => none
/-- the lent objects of an argument list -/
inductive Lent : Nat → List V → List Sl → List (Nat × Addr) → Prop
  | nil {i : Nat} : Lent i [] [] []
  | skip {i : Nat} {v : V} {s : Sl} {vs : List V} {ss : List Sl} {l : List (Nat × Addr)} (h : s.isM = false) (t : Lent (i + 1) vs ss l) : Lent i (v :: vs) (s :: ss) l
  | lend {i : Nat} {a : Addr} {d : D} {vs : List V} {ss : List Sl} {l : List (Nat × Addr)} (t : Lent (i + 1) vs ss l) : Lent i (.ref a :: vs) (.mrf d :: ss) ((i, a) :: l)
open Classical in
/-- H without the lent objects -/
noncomputable def less (H : Hp) (l : List (Nat × Addr)) : Hp := fun a => if ∃ j, (j, a) ∈ l then none else H a
theorem less_in {H : Hp} {l : List (Nat × Addr)} {a : Addr} {j : Nat} (h : (j, a) ∈ l) : less H l a = none := by unfold less; rw [if_pos ⟨j, h⟩]
theorem less_out {H : Hp} {l : List (Nat × Addr)} {a : Addr} (h : ∀ j, (j, a) ∉ l) : less H l a = H a := by unfold less; rw [if_neg fun ⟨j, q⟩ => h j q]
theorem less_none {H : Hp} {l : List (Nat × Addr)} {a : Addr} (h : less H l a = none) (n : ∀ j, (j, a) ∉ l) : H a = none := by rw [less_out n] at h; exact h
theorem less_sub {H : Hp} {l : List (Nat × Addr)} : Sub (less H l) H := fun a o e => by
  unfold less at e
  split at e
  · cases e
  · exact .inl e
def ArgR (K : PySem.W.Frag) (Φ Ψ H : Hp) (v : V) : Sl → Prop
  | .imm d => RF K Φ v d
  | .bor d => R1 K Φ Ψ v d
  | .mrf d => ∃ a, v = .ref a ∧ RM K Φ H a d ∧ Φ a = none
  | .own _ => False
inductive ArgsR (K : PySem.W.Frag) (Φ Ψ H : Hp) : List V → List Sl → Prop
  | nil : ArgsR K Φ Ψ H [] []
  | cons {v : V} {s : Sl} {vs : List V} {ss : List Sl} (r : ArgR K Φ Ψ H v s) (t : ArgsR K Φ Ψ H vs ss) : ArgsR K Φ Ψ H (v :: vs) (s :: ss)
structure FEnd (K : PySem.W.Frag) (Φ H : Hp) (l : List (Nat × Addr)) (Φ' H' : Hp) (ρ' : Env) : Prop where
  f1 : Ext Φ Φ'
  sb : Sub Φ' H'
  f2 : ∀ a o, H a = some o → (∀ j, (j, a) ∉ l) → H' a = some o
  f3 : ∀ a o, Φ' a = some o → Φ a = some o ∨ H a = none ∨ ∃ xs, H a = some (.tup xs)
  f5 : ∀ a, H a ≠ none → H' a ≠ none
  ms : ∀ (j : Nat) (a : Addr), (j, a) ∈ l → ∃ d : D, ρ'[j]? = some (some (.mrf d)) ∧ RM K Φ' H' a d ∧ Φ' a = none
def PostF (K : PySem.W.Frag) (Φ H : Hp) (l : List (Nat × Addr)) (Q : VK) (E : XK) : Option (Rs Val × Env) → Prop
  | none => False
  | some (.ok val, ρ') => ∀ Φ' H' v, FEnd K Φ H l Φ' H' ρ' → ResR K Φ' H H' v val → Q v H'
  | some (.err x, ρ') => ∀ Φ' H' c d, FEnd K Φ H l Φ' H' ρ' → ExR K Φ' H' x c d → E c d H'
/-- the promise: called so, the mirror's answer -/
def spF (K : PySem.W.Frag) (n : Nat) (F : Fn) : Sp := fun vs H Q E => ∃ Φ ss l, vs.length = n ∧ Sub Φ H ∧ Lent 0 vs ss l ∧ (l.map (·.2)).Nodup ∧ ArgsR K Φ (less H l) H vs ss ∧ PostF K Φ H l Q E (F ss)

section
variable {K : PySem.W.Frag} {W : St → XK} {Φ Φ' Φ1 Ψ H H' H0 H1 : Hp} {Ms l : List (Nat × Addr)} {ρ ρ' ρ1 : Env} {σ σ1 : St}
theorem ArgsR.length {vs : List V} {ss : List Sl} (h : ArgsR K Φ Ψ H vs ss) : vs.length = ss.length := by
  induction h with
  | nil => rfl
  | cons r t ih => simp [ih]
theorem ArgsR.get {vs : List V} {ss : List Sl} (h : ArgsR K Φ Ψ H vs ss) : ∀ {i : Nat} {s : Sl}, ss[i]? = some s → ∃ v, vs[i]? = some v ∧ ArgR K Φ Ψ H v s := by
  induction h with
  | nil => intro i s e; simp at e
  | cons r t ih =>
    intro i s e
    cases i with
    | zero => simp at e; subst e; exact ⟨_, rfl, r⟩
    | succ i => simpa using ih (i := i) (s := s) (by simpa using e)
theorem Lent.mem {i : Nat} {vs : List V} {ss : List Sl} {l : List (Nat × Addr)} (h : Lent i vs ss l) : ∀ {j : Nat} {a : Addr}, (j, a) ∈ l → i ≤ j ∧ vs[j - i]? = some (.ref a) ∧ ∃ d, ss[j - i]? = some (.mrf d) := by
  induction h with
  | nil => intro j a m; cases m
  | @skip i v s vs ss l h t ih =>
    intro j a m
    obtain ⟨h1, h2, d, h3⟩ := ih m
    have e : j - i = (j - (i + 1)) + 1 := by omega
    exact ⟨by omega, by rw [e]; simpa using h2, d, by rw [e]; simpa using h3⟩
  | @lend i a' d vs ss l t ih =>
    intro j a m
    rcases List.mem_cons.mp m with e | m
    · cases e; exact ⟨Nat.le_refl _, by simp, d, by simp⟩
    · obtain ⟨h1, h2, d, h3⟩ := ih m
      have e : j - i = (j - (i + 1)) + 1 := by omega
      exact ⟨by omega, by rw [e]; simpa using h2, d, by rw [e]; simpa using h3⟩
theorem Lent.has {i : Nat} {vs : List V} {ss : List Sl} {l : List (Nat × Addr)} (h : Lent i vs ss l) : ∀ {j : Nat} {d : D}, ss[j]? = some (.mrf d) → ∃ a, vs[j]? = some (.ref a) ∧ (i + j, a) ∈ l := by
  induction h with
  | nil => intro j d e; simp at e
  | @skip i v s vs ss l h t ih =>
    intro j d e
    cases j with
    | zero => simp at e; subst e; cases h
    | succ j =>
      obtain ⟨a, h1, h2⟩ := ih (j := j) (d := d) (by simpa using e)
      exact ⟨a, by simpa using h1, by rw [show i + (j + 1) = i + 1 + j by omega]; exact h2⟩
  | @lend i a' d' vs ss l t ih =>
    intro j d e
    cases j with
    | zero => exact ⟨a', by simp, by simp⟩
    | succ j =>
      obtain ⟨a, h1, h2⟩ := ih (j := j) (d := d) (by simpa using e)
      exact ⟨a, by simpa using h1, List.mem_cons_of_mem _ (by rw [show i + (j + 1) = i + 1 + j by omega]; exact h2)⟩
theorem nodup_fst {l : List (Nat × Addr)} (h : (l.map (·.2)).Nodup) {i j : Nat} {a : Addr} (hi : (i, a) ∈ l) (hj : (j, a) ∈ l) : i = j := by
  induction l with
  | nil => cases hi
  | cons p l ih =>
    rw [List.map_cons, List.nodup_cons] at h
    have no : ∀ k : Nat, (k, p.2) ∉ l := fun k m => h.1 (List.mem_map.mpr ⟨(k, p.2), m, rfl⟩)
    rcases List.mem_cons.mp hi with e | hi
    · rcases List.mem_cons.mp hj with e' | hj
      · rw [← e] at e'; cases e'; rfl
      · rw [← e] at no; exact absurd hj (no j)
    · rcases List.mem_cons.mp hj with e' | hj
      · rw [← e'] at no; exact absurd hi (no i)
      · exact ih h.2 hi hj
/-- at a def's entry -/
theorem rel_start {vs : List V} {ss : List Sl} {N : List Str} (sf : Sub Φ H) (hl : Lent 0 vs ss l) (nd : (l.map (·.2)).Nodup) (ar : ArgsR K Φ (less H l) H vs ss) :
    Rel K Φ (less H l) l (ss.map some ++ List.replicate (N.length - ss.length) none) (start N vs) H := by
  have el := ar.length
  have geto : ∀ {i : Nat} {s : Sl}, (ss.map some ++ List.replicate (N.length - ss.length) none)[i]? = some (some s) → ss[i]? = some s := fun {i s} e => by
    by_cases hi : i < ss.length
    · rw [List.getElem?_append_left (by simpa using hi), List.getElem?_map] at e
      rw [List.getElem?_eq_getElem hi] at e ⊢
      simpa using e
    · rw [List.getElem?_append_right (by simpa using hi), List.getElem?_replicate] at e
      split at e <;> cases e
  have getv : ∀ {i : Nat} {v : V}, vs[i]? = some v → (start N vs)[i]? = some (some v) := fun {i v} e => by
    have hi : i < vs.length := (List.getElem?_eq_some_iff.mp e).1
    unfold L2.start
    rw [List.getElem?_append_left (by simpa using hi), List.getElem?_map, e]; rfl
  have gets : ∀ {i : Nat} {s : Sl}, ss[i]? = some s → (ss.map some ++ List.replicate (N.length - ss.length) none)[i]? = some (some s) := fun {i s} e => by
    have hi : i < ss.length := (List.getElem?_eq_some_iff.mp e).1
    rw [List.getElem?_append_left (by simpa using hi), List.getElem?_map, e]; rfl
  refine ⟨by simp [L2.start, el], sf, less_sub, fun j a m => ?_, fun i s e => ?_, fun i j s t a ne ei ej ms mt ea eb => ?_⟩
  · obtain ⟨_, h1, d, h2⟩ := hl.mem m
    exact ⟨getv h1, d, gets h2⟩
  · have e' := geto e
    obtain ⟨v, ev, r⟩ := ar.get e'
    refine ⟨v, getv ev, ?_⟩
    cases s with
    | imm d => exact r
    | bor d => exact r
    | own d => exact r.elim
    | mrf d =>
      obtain ⟨a, rfl, rm, n⟩ := r
      obtain ⟨b, h1, h2⟩ := hl.has e'
      rw [ev] at h1; cases h1
      rw [Nat.zero_add] at h2
      exact ⟨a, rfl, rm, n, less_in h2, i, h2⟩
  · have fnd : ∀ {i : Nat} {s : Sl}, (ss.map some ++ List.replicate (N.length - ss.length) none)[i]? = some (some s) → s.isM = true → (start N vs)[i]? = some (some (.ref a)) → (i, a) ∈ l := fun {i s} e m ea => by
      have e' := geto e
      obtain ⟨v, ev, r⟩ := ar.get e'
      rw [getv ev] at ea; cases ea
      cases s with
      | imm d => cases m
      | bor d => cases m
      | own d => exact r.elim
      | mrf d =>
        obtain ⟨b, h1, h2⟩ := hl.has e'
        rw [ev] at h1; cases h1
        rw [Nat.zero_add] at h2; exact h2
    exact ne (nodup_fst nd (fnd ei ms ea) (fnd ej mt eb))
theorem own_start {vs : List V} {ss : List Sl} {N : List Str} {a : Addr} (hl : Lent 0 vs ss l) (ar : ArgsR K Φ (less H l) H vs ss) (o : Own (ss.map some ++ List.replicate (N.length - ss.length) none) (start N vs) a) : ∃ j, (j, a) ∈ l := by
  obtain ⟨i, s, e, m, ea⟩ := o
  have e' : ss[i]? = some s := by
    by_cases hi : i < ss.length
    · rw [List.getElem?_append_left (by simpa using hi), List.getElem?_map] at e
      rw [List.getElem?_eq_getElem hi] at e ⊢
      simpa using e
    · rw [List.getElem?_append_right (by simpa using hi), List.getElem?_replicate] at e
      split at e <;> cases e
  obtain ⟨v, ev, r⟩ := ar.get e'
  have hi : i < vs.length := (List.getElem?_eq_some_iff.mp ev).1
  unfold L2.start at ea
  rw [List.getElem?_append_left (by simpa using hi), List.getElem?_map, ev] at ea
  cases ea
  cases s with
  | imm d => cases m
  | bor d => cases m
  | own d => exact r.elim
  | mrf d =>
    obtain ⟨b, h1, h2⟩ := hl.has e'
    rw [ev] at h1; cases h1
    rw [Nat.zero_add] at h2; exact ⟨i, h2⟩
theorem fend_of {O : Addr → Prop} {σ' : St} (ho : ∀ a, O a → ∃ j, (j, a) ∈ l) (R : Rel K Φ' (less H l) l ρ' σ' H') (s : Step Φ O H Φ' (Own ρ' σ') H') : FEnd K Φ H l Φ' H' ρ' := by
  have ms : ∀ (j : Nat) (a : Addr), (j, a) ∈ l → ∃ d : D, ρ'[j]? = some (some (.mrf d)) ∧ RM K Φ' H' a d ∧ Φ' a = none := fun j a m => by
    obtain ⟨e1, d, e2⟩ := R.ms j a m
    obtain ⟨v, ev, r⟩ := R.sl j _ e2
    rw [e1] at ev; cases ev
    obtain ⟨b, eb, rm, n, _⟩ := r
    cases eb
    exact ⟨d, e2, rm, n⟩
  refine ⟨s.f1, R.sf, fun a o e n => s.f2 a o e fun z => ?_, fun a o e => ?_, s.f5, ms⟩
  · obtain ⟨j, m⟩ := ho a z; exact n j m
  · rcases s.f3 a o e with z | z | z | z
    · exact .inl z
    · exact .inr (.inl z)
    rotate_left
    · exact .inr (.inr z)
    · obtain ⟨j, m⟩ := ho a z
      obtain ⟨_, _, _, n⟩ := ms j a m
      rw [e] at n; cases n
/-- THE BODY: its mirror is kept -/
theorem body_ok {n : Nat} {N : List Str} {t : TS} {body : M Fl} {vs : List V} {Q : VK} {E : XK} (hb : EvS K (fun _ => E) t body) (h : spF K n (mkFn N.length body) vs H Q E) : t { nx := fun _ H' => Q .non H', rt := Q } (start N vs) H := by
  obtain ⟨Φ, ss, l, _, sf, hl, nd, ar, hp⟩ := h
  have R := rel_start (N := N) sf hl nd ar
  refine hb Φ (less H l) l _ _ H _ R ?_
  have ho : ∀ a, Own (ss.map some ++ List.replicate (N.length - ss.length) none) (start N vs) a → ∃ j, (j, a) ∈ l := fun a o => own_start hl ar o
  unfold mkFn at hp
  cases e : body (ss.map some ++ List.replicate (N.length - ss.length) none) with
  | none => rw [e] at hp; exact hp
  | some p =>
    obtain ⟨q, ρ'⟩ := p
    rw [e] at hp
    match q, hp with
    | .err x, hp => exact fun Φ' σ' H' c d R' s' r => hp Φ' H' c d (fend_of ho R' s') r
    | .ok .nx, hp => exact fun Φ' σ' H' R' s' => hp Φ' H' .non (fend_of ho R' s') .non
    | .ok .bk, hp => exact hp.elim
    | .ok .ct, hp => exact hp.elim
    | .ok (.rt val), hp =>
      intro Φ' σ' H' v R' s' r
      simp only at hp
      cases el : leave ρ' val with
      | none => rw [el] at hp; exact hp.elim
      | some w =>
        rw [el] at hp
        refine hp Φ' H' v (fend_of ho R' s') ?_
        cases val with
        | imm d => cases el; exact r
        | own d =>
          cases el
          obtain ⟨a, ea, rm, n1, n2, n3⟩ := r
          exact ⟨a, ea, rm, n3, n1⟩
        | slot i =>
          have ev : σ'[i]? = some (some v) := r
          simp only [leave] at el
          cases q2 : ρ'[i]? with
          | none => rw [q2] at el; cases el
          | some y =>
            cases y with
            | none => rw [q2] at el; cases el
            | some s =>
              rw [q2] at el
              obtain ⟨v', ev', rr⟩ := R'.sl i s q2
              rw [ev] at ev'; cases ev'
              cases s with
              | mrf d => cases el
              | imm d => cases el; exact rr
              | own d =>
                cases el
                obtain ⟨a, ea, rm, n1, n2, n3⟩ := rr
                exact ⟨a, ea, rm, less_none n2 n3, n1⟩
              | bor d =>
                by_cases hs : d.solid = true
                · simp only [hs, if_true] at el
                  cases el
                  have rr' : R1 K Φ' (less H l) v d := rr
                  show RF K Φ' v d
                  cases rr' with
                  | f h => exact h
                  | lst h r => cases hs
                  | dct h r => cases hs
                  | dtt h r => cases hs
                  | ins h r => cases hs
                · simp only [hs] at el; cases el
theorem spF_len {n : Nat} {F : Fn} (vs : List V) (H : Hp) (Q : VK) (E : XK) (h : spF K n F vs H Q E) : vs.length = n := by
  obtain ⟨_, _, _, e, _⟩ := h; exact e
end
end Z

/-! Z6: calls of defs. -/
namespace Z
open PySem L2
/-- the parts that are kept by the callee are shared -/
def keepI : List Kd → List Val → M Unit
  | .I :: ks, v :: vs => bnd (share v) fun _ => keepI ks vs
  | _ :: ks, _ :: vs => keepI ks vs
  | [], [] => ret ()
  | _, _ => fun _ => none
/-- what the callee gets -/
def argS (ρ : Env) : List Kd → List Val → Option (List Sl)
  | .I :: ks, v :: vs => match cont ρ v, argS ρ ks vs with
    | some d, some ss => some (.imm d :: ss)
    | _, _ => none
  | .B :: ks, v :: vs => match cont ρ v, argS ρ ks vs with
    | some d, some ss => some (.bor d :: ss)
    | _, _ => none
  | .M :: ks, .slot i :: vs => match ρ[i]?, argS ρ ks vs with
    | some (some (.own d)), some ss => some (.mrf d :: ss)
    | some (some (.mrf d)), some ss => some (.mrf d :: ss)
    | _, _ => none
  | [], [] => some []
  | _, _ => none
/-- the slots that are lent -/
def lentS : List Kd → List Val → List Nat
  | .M :: ks, .slot i :: vs => i :: lentS ks vs
  | _ :: ks, _ :: vs => lentS ks vs
  | _, _ => []
/-- no lent slot is handed in twice -/
def apart (l : List Nat) : List Kd → List Val → Bool
  | .B :: ks, .slot i :: vs => !l.contains i && apart l ks vs
  | _ :: ks, _ :: vs => apart l ks vs
  | _, _ => true
/-- the lent slots behind the call -/
def backS : Nat → List Kd → List Val → Env → Env → Option Env
  | j, .M :: ks, .slot i :: vs, ρc, ρ => match ρc[j]?, ρ[i]? with
    | some (some (.mrf d)), some (some (.own _)) => backS (j + 1) ks vs ρc (ρ.set i (some (.own d)))
    | some (some (.mrf d)), some (some (.mrf _)) => backS (j + 1) ks vs ρc (ρ.set i (some (.mrf d)))
    | _, _ => none
  | j, _ :: ks, _ :: vs, ρc, ρ => backS (j + 1) ks vs ρc ρ
  | _, _, _, _, ρ => some ρ
def callV (ks : List Kd) (F : Fn) (vals : List Val) : M Val := fun ρ =>
  if (lentS ks vals).Nodup ∧ apart (lentS ks vals) ks vals = true then
    match argS ρ ks vals with
    | some ss => match F ss with
      | some (r, ρc) => (backS 0 ks vals ρc ρ).map fun ρ' => (r, ρ')
      | none => none
    | none => none
  else none
def xCall (ks : List Kd) (F : Fn) (ms : List (M Val)) : M Val := bnd (xArgs ms) fun vals => bnd (keepI ks vals) fun _ => callV ks F vals

section
variable {K : PySem.W.Frag} {W : St → XK} {Φ Φ' Φ1 Ψ H H' H0 H1 : Hp} {Ms l : List (Nat × Addr)} {ρ ρ' ρ1 : Env} {σ σ1 : St}
/-- which arguments stand for their values behind the sharing -/
inductive KeptR (K : PySem.W.Frag) (Φ : Hp) (ρ : Env) (σ : St) (H0 H : Hp) : List Kd → List V → List Val → Prop
  | nil : KeptR K Φ ρ σ H0 H [] [] []
  | i {v : V} {val : Val} {d : D} {ks : List Kd} {vs : List V} {vals : List Val} (r : RF K Φ v d) (e : ∀ d', cont ρ val = some d' → d' = d) (t : KeptR K Φ ρ σ H0 H ks vs vals) : KeptR K Φ ρ σ H0 H (.I :: ks) (v :: vs) (val :: vals)
  | o {k : Kd} {v : V} {val : Val} {ks : List Kd} {vs : List V} {vals : List Val} (n : k ≠ .I) (r : ValR K Φ ρ σ H0 H v val) (t : KeptR K Φ ρ σ H0 H ks vs vals) : KeptR K Φ ρ σ H0 H (k :: ks) (v :: vs) (val :: vals)
theorem share_cont {val : Val} {d : D} (e : share val ρ = some (.ok d, ρ')) : ∀ d', cont ρ' val = some d' → d' = d := by
  intro d' h
  cases val with
  | imm x => cases e; cases h; rfl
  | own x => cases e; cases h; rfl
  | slot i =>
    simp only [share] at e
    cases q : ρ[i]? with
    | none => rw [q] at e; cases e
    | some y =>
      cases y with
      | none => rw [q] at e; cases e
      | some s =>
        rw [q] at e
        cases s with
        | mrf x => cases e
        | imm x => cases e; simp only [cont, q] at h; cases h; rfl
        | own x => cases e; simp only [cont, get_set_self q] at h; cases h; rfl
        | bor x =>
          by_cases hs : x.solid = true
          · simp only [hs, if_true] at e; cases e; simp only [cont, q] at h; cases h; rfl
          · simp only [hs] at e; cases e
/-- contents stay when another value is shared -/
theorem share_same {val wal : Val} {d : D} (e : share val ρ = some (.ok d, ρ')) : cont ρ' wal = cont ρ wal := by
  cases val with
  | imm x => cases e; rfl
  | own x => cases e; rfl
  | slot i =>
    simp only [share] at e
    cases q : ρ[i]? with
    | none => rw [q] at e; cases e
    | some y =>
      cases y with
      | none => rw [q] at e; cases e
      | some s =>
        rw [q] at e
        cases s with
        | mrf x => cases e
        | imm x => cases e; rfl
        | bor x =>
          by_cases hs : x.solid = true
          · simp only [hs, if_true] at e; cases e; rfl
          · simp only [hs] at e; cases e
        | own x =>
          cases e
          cases wal with
          | imm _ => rfl
          | own _ => rfl
          | slot j =>
            by_cases z : j = i
            · subst z; simp only [cont, get_set_self q, q]; rfl
            · simp only [cont, List.getElem?_set_ne (Ne.symm z)]
theorem keepI_ok {Φ0 : Hp} {O0 : Addr → Prop} : ∀ {ks : List Kd} {vs : List V} {vals : List Val} {Φ : Hp} {ρ : Env} {p : Rs Unit × Env}, Rel K Φ Ψ Ms ρ σ H → Step Φ0 O0 H0 Φ (Own ρ σ) H → ValsR K Φ ρ σ H0 H vs vals → keepI ks vals ρ = some p →
    ∃ Φ', p = (.ok (), p.2) ∧ Rel K Φ' Ψ Ms p.2 σ H ∧ Step Φ0 O0 H0 Φ' (Own p.2 σ) H ∧ KeptR K Φ' p.2 σ H0 H ks vs vals ∧ Ext Φ Φ' ∧ (∀ wal, cont p.2 wal = cont ρ wal) ∧
      (∀ w wal, ValR K Φ ρ σ H0 H w wal → (∀ d d', wal = .own d → (w, Val.own d') ∉ vs.zip vals) → ValR K Φ' p.2 σ H0 H w wal)
  | [], _, _, Φ, ρ, p, R, st, .nil, e => by cases e; exact ⟨Φ, rfl, R, st, .nil, Ext.refl _, fun _ => rfl, fun _ _ h _ => h⟩
  | [], _, _, Φ, ρ, p, R, st, .cons _ _ _, e => by cases e
  | k :: ks, _, _, Φ, ρ, p, R, st, .nil, e => by cases k <;> cases e
  | k :: ks, _, _, Φ, ρ, p, R, st, .cons (v := v) (val := val) (vs := vs) (vals := vals) r t n, e => by
    have hk : k = .I ∨ (k ≠ .I ∧ keepI ks vals ρ = some p) := by
      cases k with
      | I => exact .inl rfl
      | B => exact .inr ⟨nofun, e⟩
      | M => exact .inr ⟨nofun, e⟩
    rcases hk with rfl | ⟨nk, e⟩
    · unfold keepI bnd at e
      cases e1 : share val ρ with
      | none => rw [e1] at e; cases e
      | some q =>
        obtain ⟨d, Φ1, eq, R1, s1, rf, x1, keep⟩ := share_ok R st r e1
        rw [e1, eq] at e
        simp only at e
        have e1' : share val ρ = some (.ok d, q.2) := by rw [e1]; exact congrArg some eq
        have key : ∀ {vs' : List V} {vals' : List Val}, ValsR K Φ ρ σ H0 H vs' vals' → (∀ d d', val = .own d → (v, Val.own d') ∉ vs'.zip vals') → ValsR K Φ1 q.2 σ H0 H vs' vals' := by
          intro vs' vals' h
          induction h with
          | nil => intro _; exact .nil
          | @cons w wal ws wals r' t' n2 ih =>
            intro hn
            refine .cons (keep w wal r' fun d d' e1 e2 z => hn d d' e1 ?_) (ih fun d d' e1 hm => hn d d' e1 ?_) n2
            · subst z; subst e2; rw [List.zip_cons_cons]; exact List.mem_cons_self
            · rw [List.zip_cons_cons]; exact List.mem_cons_of_mem _ hm
        obtain ⟨Φ2, eq2, R2, s2, kr, x2, cs, kp⟩ := keepI_ok R1 s1 (key t n) e
        refine ⟨Φ2, eq2, R2, s2, .i (rf.mono x2) (fun d' h => share_cont e1' d' (by rw [← cs]; exact h)) kr, x1.trans x2, fun wal => (cs wal).trans (share_same e1'), fun w wal h hn => ?_⟩
        refine kp w wal (keep w wal h fun d d' e1 e2 z => hn d' d e2 ?_) fun d d' e1 hm => hn d d' e1 ?_
        · subst z; subst e1; rw [List.zip_cons_cons]; exact List.mem_cons_self
        · rw [List.zip_cons_cons]; exact List.mem_cons_of_mem _ hm
    · obtain ⟨Φ2, eq2, R2, s2, kr, x2, cs, kp⟩ := keepI_ok R st t e
      refine ⟨Φ2, eq2, R2, s2, .o nk (kp v val r fun d d' e1 hm => n d d' e1 hm) kr, x2, cs, fun w wal h hn => kp w wal h fun d d' e1 hm => hn d d' e1 ?_⟩
      rw [List.zip_cons_cons]; exact List.mem_cons_of_mem _ hm

/-! ### the arguments handed in -/
theorem lent_ok (R : Rel K Φ Ψ Ms ρ σ H) : ∀ {ks : List Kd} {vs : List V} {vals : List Val} {ss : List Sl} {i : Nat}, KeptR K Φ ρ σ H0 H ks vs vals → argS ρ ks vals = some ss →
    ∃ l, Lent i vs ss l ∧ (∀ j a, (j, a) ∈ l → ∃ k ∈ lentS ks vals, σ[k]? = some (some (.ref a)) ∧ ∃ s, ρ[k]? = some (some s) ∧ s.isM = true) ∧ l.map (fun p => some (some (V.ref p.2))) = (lentS ks vals).map (fun k => σ[k]?)
  | [], _, _, ss, i, .nil, e => by cases e; exact ⟨[], .nil, fun _ _ m => (nomatch m), rfl⟩
  | .I :: ks, _, _, ss, i, .i (val := val) (vals := vals) r e2 t, e => by
    unfold argS at e
    cases ec : cont ρ val with
    | none => rw [ec] at e; cases e
    | some d =>
      cases ea : argS ρ ks vals with
      | none => rw [ec, ea] at e; cases e
      | some ss' =>
        rw [ec, ea] at e; cases e
        obtain ⟨l, h1, h2, h3⟩ := lent_ok (i := i + 1) R t ea
        exact ⟨l, .skip rfl h1, by cases val <;> exact h2, by cases val <;> exact h3⟩
  | .I :: ks, _, _, ss, i, .o n _ _, e => absurd rfl n
  | .B :: ks, _, _, ss, i, .o (val := val) (vals := vals) n r t, e => by
    unfold argS at e
    cases ec : cont ρ val with
    | none => rw [ec] at e; cases e
    | some d =>
      cases ea : argS ρ ks vals with
      | none => rw [ec, ea] at e; cases e
      | some ss' =>
        rw [ec, ea] at e; cases e
        obtain ⟨l, h1, h2, h3⟩ := lent_ok (i := i + 1) R t ea
        exact ⟨l, .skip rfl h1, by cases val <;> exact h2, by cases val <;> exact h3⟩
  | .M :: ks, _, _, ss, i, .o (v := v) (val := val) (vs := vs) (vals := vals) n r t, e => by
    cases val with
    | imm d => cases e
    | own d => cases e
    | slot k =>
      unfold argS at e
      have ev : σ[k]? = some (some v) := r
      cases q : ρ[k]? with
      | none => rw [q] at e; cases e
      | some y =>
        cases y with
        | none => rw [q] at e; cases e
        | some s =>
          rw [q] at e
          cases ea : argS ρ ks vals with
          | none => rw [ea] at e; cases s <;> cases e
          | some ss' =>
            rw [ea] at e
            obtain ⟨l, h1, h2, h3⟩ := lent_ok (i := i + 1) R t ea
            obtain ⟨v', ev', rr⟩ := R.sl k s q
            rw [ev] at ev'; cases ev'
            have fin : ∀ d a, ss = .mrf d :: ss' → v = .ref a → s.isM = true → ∃ l, Lent i (v :: vs) ss l ∧ (∀ j a, (j, a) ∈ l → ∃ k' ∈ lentS (.M :: ks) (.slot k :: vals), σ[k']? = some (some (.ref a)) ∧ ∃ s, ρ[k']? = some (some s) ∧ s.isM = true) ∧ l.map (fun p => some (some (V.ref p.2))) = (lentS (.M :: ks) (.slot k :: vals)).map (fun k => σ[k]?) := by
              intro d a e1 e2 hm
              subst e1; subst e2
              refine ⟨(i, a) :: l, .lend h1, fun j b m => ?_, ?_⟩
              · rcases List.mem_cons.mp m with z | m
                · cases z; exact ⟨k, by simp [lentS], ev, s, q, hm⟩
                · obtain ⟨k', m', z⟩ := h2 j b m
                  exact ⟨k', by simp [lentS, m'], z⟩
              · simp only [lentS, List.map_cons, h3, ev]
            cases s with
            | imm d => cases e
            | bor d => cases e
            | own d => cases e; obtain ⟨a, e1, _⟩ := rr; exact fin d a rfl e1 rfl
            | mrf d => cases e; obtain ⟨a, e1, _⟩ := rr; exact fin d a rfl e1 rfl
theorem nodup_of {l : List (Nat × Addr)} {ns : List Nat} (R : Rel K Φ Ψ Ms ρ σ H) (hm : ∀ k ∈ ns, ∃ s, ρ[k]? = some (some s) ∧ s.isM = true) (h : l.map (fun p => some (some (V.ref p.2))) = ns.map (fun k => σ[k]?)) (nd : ns.Nodup) : (l.map (·.2)).Nodup := by
  induction ns generalizing l with
  | nil => cases l with
    | nil => exact List.nodup_nil
    | cons p l => cases h
  | cons k ns ih =>
    cases l with
    | nil => cases h
    | cons p l =>
      rw [List.map_cons, List.map_cons] at h
      injection h with h1 h2
      rw [List.nodup_cons] at nd
      rw [List.map_cons, List.nodup_cons]
      refine ⟨fun m => ?_, ih (fun k hk => hm k (List.mem_cons_of_mem _ hk)) h2 nd.2⟩
      obtain ⟨p', m', e'⟩ := List.mem_map.mp m
      have m2 : some (some (V.ref p'.2)) ∈ ns.map (fun k => σ[k]?) := by rw [← h2]; exact List.mem_map.mpr ⟨p', m', rfl⟩
      obtain ⟨k', mk', ek'⟩ := List.mem_map.mp m2
      have hne : k ≠ k' := fun z => nd.1 (z ▸ mk')
      obtain ⟨s, es, ms⟩ := hm k List.mem_cons_self
      obtain ⟨s', es', ms'⟩ := hm k' (List.mem_cons_of_mem _ mk')
      exact R.dis k k' s s' p.2 hne es es' ms ms' h1.symm (by rw [ek', e'])
/-- what is not lent is read off the rest -/
theorem r1_less (R : Rel K Φ Ψ Ms ρ σ H) (hl : ∀ j a, (j, a) ∈ l → ∃ k : Nat, σ[k]? = some (some (.ref a)) ∧ ∃ s, ρ[k]? = some (some s) ∧ s.isM = true) {v : V} {val : Val} {d : D} (r : ValR K Φ ρ σ H0 H v val) (e : cont ρ val = some d)
    (ap : ∀ k, val = .slot k → ∀ j a, (j, a) ∈ l → ∀ s, ρ[k]? = some (some s) → s.isM = true → σ[k]? ≠ some (some (.ref a))) : R1 K Φ (less H l) v d := by
  have rm1 : ∀ {a : Addr} {d : D}, RM K Φ H a d → (∀ j, (j, a) ∉ l) → R1 K Φ (less H l) (.ref a) d := fun {a d} h n => by
    have e : less H l a = H a := less_out n
    exact (h.move (Ext.refl _) fun o q => e.trans q).r1
  cases val with
  | imm x => cases e; exact .f r
  | own x =>
    cases e
    obtain ⟨a, rfl, rm, n1, n2, _⟩ := r
    refine rm1 rm fun j m => ?_
    obtain ⟨k, ek, s, es, ms⟩ := hl j a m
    exact n2 ⟨k, s, es, ms, ek⟩
  | slot k =>
    have ev : σ[k]? = some (some v) := r
    simp only [cont] at e
    cases q : ρ[k]? with
    | none => rw [q] at e; cases e
    | some y =>
      cases y with
      | none => rw [q] at e; cases e
      | some s =>
        rw [q] at e; cases e
        obtain ⟨v', ev', rr⟩ := R.sl k s q
        rw [ev] at ev'; cases ev'
        cases s with
        | imm d => exact .f rr
        | bor d =>
          refine R1.sub (fun a o e => ?_) (show R1 K Φ Ψ v d from rr)
          have nl : ∀ j, (j, a) ∉ l := fun j m => by
            obtain ⟨k, ek, s, es, ms⟩ := hl j a m
            have := (R.own ⟨k, s, es, ms, ek⟩).2.2
            rw [e] at this; cases this
          rcases R.sb a o e with z | ⟨lk, ob, z⟩
          · exact .inl ((less_out nl).trans z)
          · exact .inr ⟨lk, ob, (less_out nl).trans z⟩
        | own d =>
          obtain ⟨a, rfl, rm, _⟩ := rr
          exact rm1 rm fun j m => ap k rfl j a m _ q rfl ev
        | mrf d =>
          obtain ⟨a, rfl, rm, _⟩ := rr
          exact rm1 rm fun j m => ap k rfl j a m _ q rfl ev
theorem args_ok {ns : List Nat} (R : Rel K Φ Ψ Ms ρ σ H) (hl : ∀ j a, (j, a) ∈ l → ∃ k ∈ ns, σ[k]? = some (some (.ref a)) ∧ ∃ s, ρ[k]? = some (some s) ∧ s.isM = true) :
    ∀ {ks : List Kd} {vs : List V} {vals : List Val} {ss : List Sl}, KeptR K Φ ρ σ H0 H ks vs vals → argS ρ ks vals = some ss → apart ns ks vals = true → ArgsR K Φ (less H l) H vs ss
  | [], _, _, ss, .nil, e, _ => by cases e; exact .nil
  | .I :: ks, _, _, ss, .i (val := val) (vals := vals) r e2 t, e, ap => by
    unfold argS at e
    have ap' : apart ns ks vals = true := by cases val <;> exact ap
    cases ec : cont ρ val with
    | none => rw [ec] at e; cases e
    | some d =>
      cases ea : argS ρ ks vals with
      | none => rw [ec, ea] at e; cases e
      | some ss' =>
        rw [ec, ea] at e; cases e
        have := e2 d ec
        subst this
        exact .cons r (args_ok R hl t ea ap')
  | .I :: ks, _, _, ss, .o n _ _, e, _ => absurd rfl n
  | .B :: ks, _, _, ss, .o (v := v) (val := val) (vals := vals) n r t, e, ap => by
    unfold argS at e
    have hap : apart ns ks vals = true ∧ ∀ k, val = .slot k → k ∉ ns := by
      cases val with
      | imm d => exact ⟨ap, fun k z => nomatch z⟩
      | own d => exact ⟨ap, fun k z => nomatch z⟩
      | slot k =>
        simp only [apart, Bool.and_eq_true, Bool.not_eq_true', List.contains_iff_mem, decide_eq_false_iff_not] at ap
        refine ⟨ap.2, fun k' z m => ?_⟩
        cases z
        have := ap.1
        rw [List.contains_iff_mem.mpr m] at this
        cases this
    cases ec : cont ρ val with
    | none => rw [ec] at e; cases e
    | some d =>
      cases ea : argS ρ ks vals with
      | none => rw [ec, ea] at e; cases e
      | some ss' =>
        rw [ec, ea] at e; cases e
        refine .cons (r1_less R (fun j a m => by obtain ⟨k, _, z⟩ := hl j a m; exact ⟨k, z⟩) r ec fun k ek j a m s es ms ea' => ?_) (args_ok R hl t ea hap.1)
        obtain ⟨k', mk, ek', s', es', ms'⟩ := hl j a m
        have hne : k ≠ k' := fun z => hap.2 k ek (z ▸ mk)
        exact R.dis k k' s s' a hne es es' ms ms' ea' ek'
  | .M :: ks, _, _, ss, .o (v := v) (val := val) (vals := vals) n r t, e, ap => by
    cases val with
    | imm d => cases e
    | own d => cases e
    | slot k =>
      unfold argS at e
      have ev : σ[k]? = some (some v) := r
      cases q : ρ[k]? with
      | none => rw [q] at e; cases e
      | some y =>
        cases y with
        | none => rw [q] at e; cases e
        | some s =>
          rw [q] at e
          cases ea : argS ρ ks vals with
          | none => rw [ea] at e; cases s <;> cases e
          | some ss' =>
            rw [ea] at e
            have tl := args_ok R hl t ea ap
            obtain ⟨v', ev', rr⟩ := R.sl k s q
            rw [ev] at ev'; cases ev'
            cases s with
            | imm d => cases e
            | bor d => cases e
            | own d => cases e; obtain ⟨a, e1, rm, n1, _⟩ := rr; exact .cons ⟨a, e1, rm, n1⟩ tl
            | mrf d => cases e; obtain ⟨a, e1, rm, n1, _⟩ := rr; exact .cons ⟨a, e1, rm, n1⟩ tl

/-! ### behind the call -/
/-- a lent slot has its new content -/
theorem rel_fend (R : Rel K Φ Ψ Ms ρ σ H) (f : FEnd K Φ H l Φ' H' ρ') (hl : ∀ j a, (j, a) ∈ l → ∃ k : Nat, σ[k]? = some (some (.ref a)) ∧ ∃ s, ρ[k]? = some (some s) ∧ s.isM = true)
    {ρ3 : Env} (hlen : ρ3.length = ρ.length)
    (hb : ∀ (i : Nat) (s3 : Sl), ρ3[i]? = some (some s3) → ∃ s, ρ[i]? = some (some s) ∧ s3.isM = s.isM ∧ (s = s3 ∧ (s.isM = true → ∀ a, σ[i]? = some (some (.ref a)) → ∀ j, (j, a) ∉ l) ∨
      ∃ j a d, σ[i]? = some (some (.ref a)) ∧ (j, a) ∈ l ∧ ρ'[j]? = some (some (.mrf d)) ∧ ((∃ x, s = .own x ∧ s3 = .own d) ∨ ∃ x, s = .mrf x ∧ s3 = .mrf d)))
    (hk : ∀ (i : Nat) (s : Sl), ρ[i]? = some (some s) → ∃ s3, ρ3[i]? = some (some s3)) :
    Rel K Φ' Ψ Ms ρ3 σ H' ∧ Step Φ (Own ρ σ) H Φ' (Own ρ3 σ) H' := by
  have phi : ∀ (a : Addr) (d : D), Φ a = none → RM K Φ H a d → Φ' a = none := fun a d n h => by
    cases q : Φ' a with
    | none => rfl
    | some o =>
      rcases f.f3 a o q with z | z | ⟨xs, z⟩
      · rw [n] at z; cases z
      · exact absurd z h.ne
      · exact absurd z (h.noTup xs)
  have own3 : ∀ a, Own ρ3 σ a → Own ρ σ a := fun a ⟨i, s3, e, m, ea⟩ => by
    obtain ⟨s, es, mm, _⟩ := hb i s3 e
    exact ⟨i, s, es, mm ▸ m, ea⟩
  refine ⟨⟨hlen.trans R.len, f.sb, fun a o e => ?_, fun j a m => ?_, fun i s3 e => ?_, fun i j s t a ne ei ej ms mt ea eb => ?_⟩, f.f1, fun a o e n => f.f2 a o e fun j m => ?_, fun a o e => (f.f3 a o e).imp id fun z => z.elim .inl fun z => .inr (.inr z), fun a o => .inl (own3 a o), f.f5⟩
  · have nl : ∀ j, (j, a) ∉ l := fun j m => by
      obtain ⟨k, ek, s, es, ms⟩ := hl j a m
      have := (R.own ⟨k, s, es, ms, ek⟩).2.2
      rw [e] at this; cases this
    rcases R.sb a o e with z | ⟨lk, ob, z⟩
    · exact .inl (f.f2 a o z nl)
    · exact .inr ⟨lk, ob, f.f2 a _ z nl⟩
  · obtain ⟨e1, d, e2⟩ := R.ms j a m
    obtain ⟨s3, e3⟩ := hk j _ e2
    obtain ⟨s, es, mm, hh⟩ := hb j s3 e3
    rw [e2] at es; cases es
    refine ⟨e1, ?_⟩
    rcases hh with ⟨rfl, _⟩ | ⟨_, _, d', _, _, _, ⟨x, z, _⟩ | ⟨x, z, rfl⟩⟩
    · exact ⟨d, e3⟩
    · cases z
    · exact ⟨d', e3⟩
  · obtain ⟨s, es, mm, hh⟩ := hb i s3 e
    obtain ⟨v, ev, r⟩ := R.sl i s es
    refine ⟨v, ev, ?_⟩
    rcases hh with ⟨rfl, nl⟩ | ⟨j, a, d, ea, ml, er, hd⟩
    · cases s with
      | imm d => exact RF.mono f.f1 r
      | bor d => exact R1.mono r f.f1
      | own d => obtain ⟨a, e1, rm, n1, n2, n3⟩ := r; subst e1; exact ⟨a, rfl, rm.move f.f1 fun o q => f.f2 a o q (nl rfl a ev), phi a _ n1 rm, n2, n3⟩
      | mrf d => obtain ⟨a, e1, rm, n1, n2, n3⟩ := r; subst e1; exact ⟨a, rfl, rm.move f.f1 fun o q => f.f2 a o q (nl rfl a ev), phi a _ n1 rm, n2, n3⟩
    · obtain ⟨d', er', rm', n'⟩ := f.ms j a ml
      rw [er] at er'; cases er'
      rw [ea] at ev; cases ev
      rcases hd with ⟨x, rfl, rfl⟩ | ⟨x, rfl, rfl⟩
      · obtain ⟨b, e1, rm, n1, n2, n3⟩ := r; cases e1; exact ⟨a, rfl, rm', n', n2, n3⟩
      · obtain ⟨b, e1, rm, n1, n2, n3⟩ := r; cases e1; exact ⟨a, rfl, rm', n', n2, n3⟩
  · obtain ⟨s', es, mm, _⟩ := hb i s ei
    obtain ⟨t', et, mm', _⟩ := hb j t ej
    exact R.dis i j s' t' a ne es et (mm ▸ ms) (mm' ▸ mt) ea eb
  · obtain ⟨k, ek, s, es, ms⟩ := hl j a m
    exact n ⟨k, s, es, ms, ek⟩
theorem backS_ok {ρ0 ρc ρ3 : Env} : ∀ {ks : List Kd} {vs : List V} {vals : List Val} {ss : List Sl} {l : List (Nat × Addr)} {j0 : Nat} {ρ : Env}, KeptR K Φ ρ0 σ H0 H ks vs vals → argS ρ0 ks vals = some ss → Lent j0 vs ss l → (lentS ks vals).Nodup → backS j0 ks vals ρc ρ = some ρ3 →
    ρ3.length = ρ.length ∧ (∀ i, i ∉ lentS ks vals → ρ3[i]? = ρ[i]?) ∧ (∀ i, i ∈ lentS ks vals → ∃ j a d, σ[i]? = some (some (.ref a)) ∧ (j, a) ∈ l ∧ ρc[j]? = some (some (.mrf d)) ∧
      ((∃ x, ρ[i]? = some (some (.own x)) ∧ ρ3[i]? = some (some (.own d))) ∨ ∃ x, ρ[i]? = some (some (.mrf x)) ∧ ρ3[i]? = some (some (.mrf d))))
  | [], _, _, ss, l, j0, ρ, .nil, _, _, _, e => by
    have e : some ρ = some ρ3 := e
    cases e
    exact ⟨rfl, fun _ _ => rfl, fun i m => nomatch m⟩
  | .I :: ks, _, _, ss, l, j0, ρ, .i (val := val) (vals := vals) r e2 t, ea, hl, nd, e => by
    unfold argS at ea
    have e' : backS (j0 + 1) ks vals ρc ρ = some ρ3 := by cases val <;> exact e
    have el : lentS (.I :: ks) (val :: vals) = lentS ks vals := by cases val <;> rfl
    rw [el] at nd ⊢
    cases ec : cont ρ0 val with
    | none => rw [ec] at ea; cases ea
    | some d =>
      cases eb : argS ρ0 ks vals with
      | none => rw [ec, eb] at ea; cases ea
      | some ss' =>
        rw [ec, eb] at ea; cases ea
        cases hl with
        | skip h tl => exact backS_ok t eb tl nd e'
  | .I :: ks, _, _, ss, l, j0, ρ, .o n _ _, _, _, _, _ => absurd rfl n
  | .B :: ks, _, _, ss, l, j0, ρ, .o (val := val) (vals := vals) n r t, ea, hl, nd, e => by
    unfold argS at ea
    have e' : backS (j0 + 1) ks vals ρc ρ = some ρ3 := by cases val <;> exact e
    have el : lentS (.B :: ks) (val :: vals) = lentS ks vals := by cases val <;> rfl
    rw [el] at nd ⊢
    cases ec : cont ρ0 val with
    | none => rw [ec] at ea; cases ea
    | some d =>
      cases eb : argS ρ0 ks vals with
      | none => rw [ec, eb] at ea; cases ea
      | some ss' =>
        rw [ec, eb] at ea; cases ea
        cases hl with
        | skip h tl => exact backS_ok t eb tl nd e'
  | .M :: ks, _, _, ss, l, j0, ρ, .o (v := v) (val := val) (vals := vals) n r t, ea, hl, nd, e => by
    cases val with
    | imm d => cases ea
    | own d => cases ea
    | slot k =>
      unfold argS at ea
      have ev : σ[k]? = some (some v) := r
      have hd : ∃ d ss', ss = .mrf d :: ss' ∧ argS ρ0 ks vals = some ss' := by
        cases q : ρ0[k]? with
        | none => rw [q] at ea; cases ea
        | some y =>
          cases y with
          | none => rw [q] at ea; cases ea
          | some s =>
            rw [q] at ea
            cases eb : argS ρ0 ks vals with
            | none => rw [eb] at ea; cases s <;> cases ea
            | some ss' =>
              rw [eb] at ea
              cases s with
              | imm d => cases ea
              | bor d => cases ea
              | own d => cases ea; exact ⟨d, ss', rfl, rfl⟩
              | mrf d => cases ea; exact ⟨d, ss', rfl, rfl⟩
      obtain ⟨d0, ss', rfl, eb⟩ := hd
      simp only [lentS] at nd ⊢
      rw [List.nodup_cons] at nd
      cases hl with
      | skip h tl => cases h
      | @lend _ a _ _ _ l' tl =>
        unfold backS at e
        cases qc : ρc[j0]? with
        | none => rw [qc] at e; cases e
        | some yc =>
          cases yc with
          | none => rw [qc] at e; cases e
          | some sc =>
            cases qk : ρ[k]? with
            | none => rw [qc, qk] at e; cases sc <;> cases e
            | some yk =>
              cases yk with
              | none => rw [qc, qk] at e; cases sc <;> cases e
              | some sk =>
                rw [qc, qk] at e
                have fin : ∀ (s' : Sl) (d : D), sc = .mrf d → backS (j0 + 1) ks vals ρc (ρ.set k (some s')) = some ρ3 → ((∃ x, sk = .own x ∧ s' = .own d) ∨ ∃ x, sk = .mrf x ∧ s' = .mrf d) → _ := fun s' d hsc e hk => by
                  obtain ⟨h1, h2, h3⟩ := backS_ok t eb tl nd.2 e
                  refine (⟨h1.trans (List.length_set ..), fun i hi => ?_, fun i hi => ?_⟩ : ρ3.length = ρ.length ∧ (∀ i, i ∉ k :: lentS ks vals → ρ3[i]? = ρ[i]?) ∧ (∀ i, i ∈ k :: lentS ks vals → ∃ j b d, σ[i]? = some (some (.ref b)) ∧ (j, b) ∈ (j0, a) :: l' ∧ ρc[j]? = some (some (.mrf d)) ∧
                    ((∃ x, ρ[i]? = some (some (.own x)) ∧ ρ3[i]? = some (some (.own d))) ∨ ∃ x, ρ[i]? = some (some (.mrf x)) ∧ ρ3[i]? = some (some (.mrf d)))))
                  · rw [List.mem_cons, not_or] at hi
                    rw [h2 i hi.2, List.getElem?_set_ne (Ne.symm hi.1)]
                  · rcases List.mem_cons.mp hi with rfl | hi
                    · have e3 : ρ3[i]? = some (some s') := by rw [h2 i nd.1]; exact get_set_self qk
                      refine ⟨j0, a, d, ev, List.mem_cons_self, by rw [qc, hsc], ?_⟩
                      rcases hk with ⟨x, rfl, rfl⟩ | ⟨x, rfl, rfl⟩
                      · exact .inl ⟨x, qk, e3⟩
                      · exact .inr ⟨x, qk, e3⟩
                    · obtain ⟨j, b, d', q1, q2, q3, q4⟩ := h3 i hi
                      have hne : k ≠ i := fun z => nd.1 (z ▸ hi)
                      rw [List.getElem?_set_ne hne] at q4
                      exact ⟨j, b, d', q1, List.mem_cons_of_mem _ q2, q3, q4⟩
                cases sc with
                | imm d => cases e
                | bor d => cases e
                | own d => cases e
                | mrf d =>
                  cases sk with
                  | imm x => cases e
                  | bor x => cases e
                  | own x => exact fin _ d rfl e (.inl ⟨x, rfl, rfl⟩)
                  | mrf x => exact fin _ d rfl e (.inr ⟨x, rfl, rfl⟩)
theorem xArgs_len {ms : List (M Val)} {vals : List Val} (e : xArgs ms ρ = some (.ok vals, ρ')) : vals.length = ms.length := xArgs_length e
/-- f(..) of a def whose promise is a mirror -/
theorem evm_call {ks : List Kd} {F : Fn} {n : Nat} {ms : List (M Val)} {ta : TA} (ha : EvA K W ta (xArgs ms)) (hn : ms.length = n) : EvM K W (tCallS (spF K n F) W ta) (xCall ks F ms) := by
  intro Φ Ψ Ms ρ σ H Q R h
  refine ha Φ Ψ Ms ρ σ H _ R ?_
  have h1 := h.bnd'
  cases e0 : xArgs ms ρ with
  | none => rw [e0] at h1; exact h1
  | some p0 =>
    obtain ⟨r0, ρ1⟩ := p0
    rw [e0] at h1
    cases r0 with
    | err x => exact h1
    | ok vals =>
      intro Φ1 H1 R1 s1 vs rs
      have hlv : vs.length = n := by rw [rs.length, xArgs_length e0, hn]
      have h2 : PostG K Ψ Ms σ (W σ) Φ ρ H (gV K σ H Q) (bnd (keepI ks vals) (fun _ => callV ks F vals) ρ1) := h1 Φ1 H1 R1 s1
      unfold bnd at h2
      cases ek : keepI ks vals ρ1 with
      | none => rw [ek] at h2; exact h2.elim
      | some p =>
        obtain ⟨Φ2, eq, R2, s2, kr, x2, _, _⟩ := keepI_ok R1 s1 rs ek
        rw [ek, eq] at h2
        have h2 : PostG K Ψ Ms σ (W σ) Φ ρ H (gV K σ H Q) (callV ks F vals p.2) := h2
        unfold callV at h2
        by_cases hc : (lentS ks vals).Nodup ∧ apart (lentS ks vals) ks vals = true
        · rw [if_pos hc] at h2
          cases ea : argS p.2 ks vals with
          | none => rw [ea] at h2; exact h2.elim
          | some ss =>
            rw [ea] at h2
            simp only at h2
            obtain ⟨l, hl1, hl2, hl3⟩ := lent_ok (i := 0) R2 kr ea
            have hl2' : ∀ j a, (j, a) ∈ l → ∃ k : Nat, σ[k]? = some (some (.ref a)) ∧ ∃ s, (p.2)[k]? = some (some s) ∧ s.isM = true := fun j a m => by obtain ⟨k, _, z⟩ := hl2 j a m; exact ⟨k, z⟩
            have hns : ∀ k ∈ lentS ks vals, ∃ s, (p.2)[k]? = some (some s) ∧ s.isM = true := fun k hk => by
              have m : σ[k]? ∈ (lentS ks vals).map (fun k => σ[k]?) := List.mem_map.mpr ⟨k, hk, rfl⟩
              cases ef : F ss with
              | none => rw [ef] at h2; exact h2.elim
              | some pf =>
                obtain ⟨rf, ρc⟩ := pf
                rw [ef] at h2
                simp only at h2
                cases eb : backS 0 ks vals ρc p.2 with
                | none => rw [eb] at h2; exact h2.elim
                | some ρ3 =>
                  obtain ⟨_, _, h3⟩ := backS_ok kr ea hl1 hc.1 eb
                  obtain ⟨j, a, d, _, _, _, ⟨x, q, _⟩ | ⟨x, q, _⟩⟩ := h3 k hk
                  · exact ⟨_, q, rfl⟩
                  · exact ⟨_, q, rfl⟩
            refine ⟨Φ2, ss, l, hlv, R2.sf, hl1, nodup_of R2 hns hl3 hc.1, args_ok R2 (ns := lentS ks vals) hl2 kr ea hc.2, ?_⟩
            cases ef : F ss with
            | none => rw [ef] at h2; exact h2
            | some pf =>
              obtain ⟨rf, ρc⟩ := pf
              rw [ef] at h2
              simp only at h2
              cases eb : backS 0 ks vals ρc p.2 with
              | none => rw [eb] at h2; exact h2.elim
              | some ρ3 =>
                rw [eb] at h2
                obtain ⟨b1, b2, b3⟩ := backS_ok kr ea hl1 hc.1 eb
                have step : ∀ {Φ' H' : Hp}, FEnd K Φ2 H1 l Φ' H' ρc → Rel K Φ' Ψ Ms ρ3 σ H' ∧ Step Φ2 (Own p.2 σ) H1 Φ' (Own ρ3 σ) H' := fun f => by
                  refine rel_fend R2 f hl2' b1 (fun i s3 e => ?_) (fun i s e => ?_)
                  · by_cases hi : i ∈ lentS ks vals
                    · obtain ⟨j, a, d, q1, q2, q3, q4⟩ := b3 i hi
                      rcases q4 with ⟨x, q5, q6⟩ | ⟨x, q5, q6⟩
                      · rw [q6] at e; cases e
                        exact ⟨_, q5, rfl, .inr ⟨j, a, d, q1, q2, q3, .inl ⟨x, rfl, rfl⟩⟩⟩
                      · rw [q6] at e; cases e
                        exact ⟨_, q5, rfl, .inr ⟨j, a, d, q1, q2, q3, .inr ⟨x, rfl, rfl⟩⟩⟩
                    · rw [b2 i hi] at e
                      refine ⟨s3, e, rfl, .inl ⟨rfl, fun m a ea j mj => ?_⟩⟩
                      obtain ⟨k, mk, ek, s', es', ms'⟩ := hl2 j a mj
                      have hne : i ≠ k := fun z => hi (z ▸ mk)
                      exact R2.dis i k s3 s' a hne e es' m ms' ea ek
                  · by_cases hi : i ∈ lentS ks vals
                    · obtain ⟨j, a, d, q1, q2, q3, q4⟩ := b3 i hi
                      rcases q4 with ⟨x, q5, q6⟩ | ⟨x, q5, q6⟩
                      · exact ⟨_, q6⟩
                      · exact ⟨_, q6⟩
                    · exact ⟨s, by rw [b2 i hi]; exact e⟩
                cases rf with
                | err x =>
                  intro Φ' H' c d f r
                  obtain ⟨R3, s3⟩ := step f
                  exact h2 Φ' H' c d R3 (s2.trans s3) r
                | ok val =>
                  intro Φ' H' v f r
                  obtain ⟨R3, s3⟩ := step f
                  refine h2 Φ' H' R3 (s2.trans s3) v ?_
                  cases val with
                  | imm d => exact r
                  | own d =>
                    obtain ⟨a, ea, rm, n1, n2⟩ := r
                    refine ⟨a, ea, rm, n2, fun o => ?_, s2.fresh a n1⟩
                    rcases s3.f4 a o with z | z
                    · obtain ⟨⟨d', rm'⟩, _⟩ := R2.own z
                      exact rm'.ne n1
                    · -- owned behind the call: a lent object, which stood before
                      obtain ⟨i, s3', e3, m3, ea3⟩ := o
                      by_cases hi : i ∈ lentS ks vals
                      · obtain ⟨j, b, d', q1, q2, q3, q4⟩ := b3 i hi
                        rw [q1] at ea3; cases ea3
                        obtain ⟨k, ek, s', es', ms'⟩ := hl2' j a q2
                        obtain ⟨⟨d2, rm'⟩, _⟩ := R2.own ⟨k, s', es', ms', ek⟩
                        exact rm'.ne n1
                      · rw [b2 i hi] at e3
                        obtain ⟨⟨d2, rm'⟩, _⟩ := R2.own ⟨i, s3', e3, m3, ea3⟩
                        exact rm'.ne n1
                  | slot i => exact r.elim
        · rw [if_neg hc] at h2; exact h2.elim
end
end Z

/-! Z7: defs called where no text is being shown (no guard stands). -/
namespace Z
open PySem L2 PySem.Spec PyProof.Rows
structure FnG (P : Program) (w : World) (K : PySem.W.Frag) (mg : Str → Option Value) (base : Heap) (CX : CXT) (k : Nat) (f : Addr) (n : Nat) (ks : List Str) (sp : Sp) : Prop where
  go : ∀ (A : Around) (fr : List L2.Cx × List PySem.Env) (s : Shared) (H : Hp) (us ws : List Value) (vs zs : List V) (Q : VK) (E : XK), A.guards = some [] → Room k A → Env0 P w K mg base A fr.2 s H → Vals vs us → Vals zs ws →
    vs.length = n → zs.length = ks.length → sp (vs ++ zs) H Q E → codeAny (model P w) A (.call (.ref f) ⟨us, ks.zip ws⟩) (CR CX fr.2 P w H s Q E) s
theorem guards_deeper {A : Around} {env : PySem.Env} : (A.deeper env).guards = A.guards := rfl
section
variable {P : Program} {w : World} {K : PySem.W.Frag} {mg : Str → Option Value} {base : Heap} {CX : CXT} {k n : Nat} {f : Addr} {ks : List Str} {sp : Sp} {fd : FuncData}
/-- a def by its body; sh: how a call's values come to the parameters -/
theorem fnG_of {x qual : Str} {pa : Arguments} {body : List Stmt} {scope : Scope} {dvs : List V} {kws : List (Str × V)} {N ps : List Str} {sp0 : Sp} (F : FunD K x qual pa body scope dvs kws f fd) (S : FnScope N ps scope)
    (arr : List V → List V)
    (bnd : ∀ (st : Shared) (us ws : List Value) (vs zs : List V), K.In st.heap → Vals vs us → Vals zs ws → vs.length = n → zs.length = ks.length → ∃ bs, BindsTo st fd ⟨us, ks.zip ws⟩ (ps.zip bs) ∧ Vals (arr (vs ++ zs)) bs)
    (len : ∀ vs H Q E, sp0 vs H Q E → vs.length = ps.length)
    (run : ∀ (cdv : Value) (A : Around) (fr : List PySem.Env) (s : Shared) (H : Hp) (vs : List V) (Q : VK) (E : XK), A.guards = some [] → Room k (A.deeper (envOfC qual scope s.heap.objs.size f cdv)) → sp0 vs H Q E →
      ∃ t, PSs (cxOf CX P w K mg base N qual scope f cdv A fr s H E) body t ∧ t { nx := fun _ H' => Q .non H', rt := Q } (L2.start N vs) H) :
    FnG P w K mg base CX (k + 1) f n ks (fun vs H Q E => sp0 (arr vs) H Q E) := by
  refine ⟨fun A fr s H us ws vs zs Q E gd hr e0 r1 r2 l1 l2 h => ?_⟩
  obtain ⟨oc, od, dV, kV, doc, pm, an, cdv, ct, osl, rfl, lk, hcd, _, _⟩ := F.ex
  have inK : K.In s.heap := e0.mod.kin.keeps fun b o q => (e0.bs b o q).1
  obtain ⟨bs, hb, rb⟩ := bnd s us ws vs zs inK r1 r2 l1 l2
  refine StX.run_bnd lk hcd S hr e0 (G := fun v H2 => v = arr (vs ++ zs) ∧ H2 = H) (fun A' Ex R kk => hb _ _ _ _ (kk s H _ bs e0 Un.refl rfl (fun _ _ z => z) rb (len _ _ _ _ h) ⟨rfl, rfl⟩)) ?_
  rintro s2 H2 v ⟨rfl, rfl⟩ hr2
  exact run cdv A fr.2 s2 H2 _ Q E gd hr2 h
theorem FnG.imp {sp' : Sp} (F : FnG P w K mg base CX k f n ks sp) (h : ∀ vs H Q E, sp' vs H Q E → sp vs H Q E) : FnG P w K mg base CX k f n ks sp' :=
  ⟨fun A fr s H us ws vs zs Q E g hr e0 r1 r2 l1 l2 q => F.go A fr s H us ws vs zs Q E g hr e0 r1 r2 l1 l2 (h _ _ _ _ q)⟩
theorem FnG.up {j : Nat} (F : FnG P w K mg base CX j f n ks sp) (h : j ≤ k) : FnG P w K mg base CX k f n ks sp :=
  ⟨fun A fr s H us ws vs zs Q E g hr e0 r1 r2 l1 l2 q => F.go A fr s H us ws vs zs Q E g (hr.mono h) e0 r1 r2 l1 l2 q⟩
end
section
variable {X : Cx} {CX : CXT} {k n : Nat} {f : Addr} {ks : List Str} {sp : Sp} {E : L2.St → XK} {x : Str} {p pos : Pos} {e : Expr} {es : List Expr} {kws : List Keyword} {t tk : TA}
theorem callG_run {pins : List (Addr × Obj)} {σ : L2.St} {H : Hp} {s : Shared} {Q : VK} {us ws : List Value} {vs zs : List V} (F : FnG X.prog X.w X.K X.mg X.base CX k f n ks sp) (gd : X.A.guards = some []) (hr : Room k X.A) (ps : PassesAt CX X σ (E σ))
    (I : Inv X pins σ H s) (r1 : Vals vs us) (r2 : Vals zs ws) (l1 : vs.length = n) (l2 : zs.length = ks.length) (h : sp (vs ++ zs) H Q (E σ)) : wpAny (model X.prog X.w) X.A (call (.ref f) us (ks.zip ws)) (EP X pins σ Q) X.xe s := by
  refine wpAny_call (codeAny_mono (F.go X.A ([], X.stack) s H us ws vs zs Q (E σ) gd hr I.env0 r1 r2 l1 l2 h) fun res s' q => ?_)
  match res, q with
  | .error e, q => exact ps pins H s e s' I q
  | .ok (.ret u), q => exact I.after q
  | .ok .next, q => exact q.elim
  | .ok .brk, q => exact q.elim
  | .ok .cont, q => exact q.elim
def tCallG (n m : Nat) (sp : Sp) (E : L2.St → XK) (t tk : TA) : TE := fun σ H Q => t σ H fun vs H1 => tk σ H1 fun zs H2 => vs.length = n ∧ zs.length = m ∧ sp (vs ++ zs) H2 Q (E σ)
theorem pe_callG (F : FnG X.prog X.w X.K X.mg X.base CX k f n [] sp) (gd : X.A.guards = some []) (hr : Room k X.A) (gl : Gl X x) (mf : X.mg x = some (.ref f)) (kf : PySem.W.keepIn X.K (.ref f) = true) (ps : ∀ σ, PassesAt CX X σ (E σ)) (ha : PA X (e :: es) t)
    (d1 : (x == ("__debug__" : Str)) = false := by decide) (d2 : starEach (e :: es) X.env = (false, eval e X.env) :: starEach es X.env := by rfl) (d3 : (backTo pos (starEach es X.env)).any (·.1) = false := by rfl) :
    PE X (.Call (.Name x p) (e :: es) [] pos) (tCallG n 0 sp E t tNil) := by
  refine ⟨fun pins s σ H Q I h => ?_⟩
  refine wpAny_Call_Name_kw (ld_glob I gl mf ?_ d1)
  refine PySem.W.callWith_K (h₀ := X.base) I.ok.mod.kin kf (thn (ha.run pos pins s σ H _ I h) fun us s1 ⟨vs, H1, J, r, l1, l2, q⟩ => ⟨J.kIn, ?_⟩) d2 d3
  exact callG_run (ws := []) (zs := []) F gd hr (ps σ) J r .nil l1 rfl q
theorem pe_callGK (F : FnG X.prog X.w X.K X.mg X.base CX k f n ks sp) (gd : X.A.guards = some []) (hr : Room k X.A) (gl : Gl X x) (mf : X.mg x = some (.ref f)) (kf : PySem.W.keepIn X.K (.ref f) = true) (ps : ∀ σ, PassesAt CX X σ (E σ)) (ha : PA X (e :: es) t)
    (hkw : PK X kws tk) (al : (backToKw pos (keywordEach kws X.env)).all (·.1.isSome) = true := by rfl) (hks : (backToKw pos (keywordEach kws X.env)).filterMap (·.1) = ks := by rfl)
    (d1 : (x == ("__debug__" : Str)) = false := by decide) (d2 : starEach (e :: es) X.env = (false, eval e X.env) :: starEach es X.env := by rfl)
    (d3 : ((backTo pos (starEach (e :: es) X.env)).any (·.1) || (backToKw pos (keywordEach kws X.env)).any (·.1.isNone)) = false := by rfl) :
    PE X (.Call (.Name x p) (e :: es) kws pos) (tCallG n ks.length sp E t tk) := by
  refine ⟨fun pins s σ H Q I h => ?_⟩
  refine wpAny_Call_Name_kw (ld_glob I gl mf ?_ d1)
  refine PySem.W.callWith_KW (h₀ := X.base) I.ok.mod.kin kf al (thn (ha.run pos pins s σ H _ I h) fun us s1 ⟨vs, H1, J, r, q⟩ => ?_) d3 d2
  refine thn (hkw.run pos pins s1 σ H1 _ J q) fun ws s2 ⟨zs, H2, J2, rz, l1, l2, q2⟩ => ⟨J2.kIn, ?_⟩
  rw [hks]
  exact callG_run F gd hr (ps σ) J2 r rz l1 l2 q2
end
/-! ### the law itself -/
section
variable {P : Program} {w : World} {K : PySem.W.Frag} {mg mb : Str → Option Value} {CX : CXT} {k : Nat} {fa a : Addr} {sp : Sp} {s₁ : Shared} {vs : List Value} {ns : List Int}
/-- nothing is tracked but the script's list -/
def scriptH (a : Addr) (o : Obj) (ns : List Int) : Hp := fun b => if b = a then some (.frz o (.lst (ns.map V.int))) else none
theorem lawG_at (H : Hp) (hx : ∀ b, H b = none ∨ ∃ o xs, H b = some (.frz o (.lst xs))) (inK : K.In s₁.heap) (gN : s₁.heap.Ns mainGlobals mg) (gB : s₁.heap.Ns builtinsNs mb) (bB : ∀ x : Str, x ≠ "__name__" → mb x = bootBuiltins x) (nl : s₁.heap.NoLimit) (ng : s₁.gens = #[])
    (ok : HOk P w H s₁.heap) (one : ∀ b o, H b = some o → b = a ∧ K.lookup a = none) (obj : ∃ q, s₁.heap.get? a = some q ∧ ∀ es ep, q.data ≠ .dict es ep) (room : Room k callerA)
    (F : ∀ base : Heap, K.In base → base.Ns mainGlobals mg → FnG P w K mg base CX k fa 1 [] sp) (pr : sp [.ref a] H (fun v _ => v = .bl true) fun _ _ _ => False) (noX : ∀ e s', CX [] H s₁ (fun _ _ _ => False) e s' → False) :
    codeAny (model P w) callerA (.call (.ref fa) ⟨[.ref a], []⟩) (fun r s' => r = .ok (.ret (.bool true)) ∧ OldK s₁.heap s'.heap ∧ s'.os = s₁.os ∧ AllBare s'.gens) s₁ := by
  obtain ⟨q0, hq0, nod⟩ := obj
  have free : ∀ {b : Addr} {o : Obj}, s₁.heap.get? b = some o → (∀ u, H b = some u → False) → H b = none := fun {b o} _ n => by
    cases z : H b with
    | none => rfl
    | some u => exact (n u z).elim
  have nsT : ∀ {b : Addr} {m : Str → Option Value}, s₁.heap.Ns b m → (hidT s₁.heap H).Ns b m := by
    rintro b m ⟨o, es, ep, e1, e2, e3⟩
    refine ⟨o, es, ep, hidT_get e1 (free e1 fun u z => ?_), e2, e3⟩
    obtain ⟨rfl, _⟩ := one b u z
    rw [hq0] at e1; cases e1; exact nod es ep e2
  have kT : K.In (hidT s₁.heap H) := fun b o e => hidT_get (inK b o e) (free (inK b o e) fun u z => by
    obtain ⟨rfl, n⟩ := one b u z
    rw [n] at e; cases e)
  have md : Mod K mg (hidT s₁.heap H) := by
    obtain ⟨mc, n1, n2⟩ := nl
    exact ⟨kT, nsT gN, ⟨mb, nsT gB, bB⟩, ⟨mc, nsT n1, n2⟩⟩
  have ev : Env0 P w K mg (hidT s₁.heap H) callerA [] s₁ H := ⟨rfl, md, fun b o e => of_hidT e, Nat.le_of_eq (hidT_size _ _), trivial, (fun b hb => by cases hb), ok, AllBare.of_eq ng⟩
  have go := (F _ kT (nsT gN)).go callerA ([], []) s₁ H [.ref a] [] [.ref a] [] (fun v _ => v = .bl true) (fun _ _ _ => False) rfl room ev (.cons rfl .nil) .nil rfl rfl pr
  refine codeAny_mono go fun r s' z => ?_
  match r, z with
  | .error e, z => exact (noX e s' z).elim
  | .ok .next, z => exact z.elim
  | .ok .brk, z => exact z.elim
  | .ok .cont, z => exact z.elim
  | .ok (.ret u), z =>
    obtain ⟨v, H', os, br, un, ok2, rv, qv⟩ := z
    subst qv
    cases rv
    refine ⟨rfl, OldK.of_keep fun b o e => ?_, os, br⟩
    rcases hx b with z | ⟨ob, xs, z⟩
    · exact un.keep b o e z (fun m => by cases m) (fun m => by cases m)
    · obtain ⟨g1, _⟩ := ok b _ z
      obtain ⟨g2, _⟩ := ok2 b _ (un.frzs b ob _ z)
      rw [g1] at e; cases e
      exact g2
theorem lawG (inK : K.In s₁.heap) (gN : s₁.heap.Ns mainGlobals mg) (gB : s₁.heap.Ns builtinsNs mb) (bB : ∀ x : Str, x ≠ "__name__" → mb x = bootBuiltins x) (nl : s₁.heap.NoLimit) (ng : s₁.gens = #[])
    (obj : s₁.heap.get? a = some { cls := .type "list", data := .seq vs.toArray }) (iv : IntsAre vs ns) (sz : ns.length ≤ sizeLine) (room : Room k callerA)
    (F : ∀ base : Heap, K.In base → base.Ns mainGlobals mg → FnG P w K mg base CX k fa 1 [] sp)
    (pr : ∀ H : Hp, SqL K H a (ns.map V.int) → sp [.ref a] H (fun v _ => v = .bl true) fun _ _ _ => False)
    (noX : ∀ H e s', CX [] H s₁ (fun _ _ _ => False) e s' → False) :
    codeAny (model P w) callerA (.call (.ref fa) ⟨[.ref a], []⟩) (fun r s' => r = .ok (.ret (.bool true)) ∧ OldK s₁.heap s'.heap ∧ s'.os = s₁.os ∧ AllBare s'.gens) s₁ := by
  have rel := vals_of_ints iv
  have nod : ∃ q, s₁.heap.get? a = some q ∧ ∀ es ep, q.data ≠ .dict es ep := ⟨_, obj, fun es ep => nofun⟩
  by_cases hK : K.lookup a = none
  · refine lawG_at (scriptH a { cls := .type "list", data := .seq vs.toArray } ns) (fun b => ?_) inK gN gB bB nl ng (fun b u z => ?_) (fun b u z => ?_) nod room F (pr _ (.inl (.inr ⟨_, by unfold scriptH; rw [if_pos rfl]⟩))) (noX _)
    · unfold scriptH; split
      · exact .inr ⟨_, _, rfl⟩
      · exact .inl rfl
    · unfold scriptH at z
      split at z
      · rename_i e; cases z; subst e
        exact ⟨obj, by rw [List.length_map]; exact sz, vs, _, rel, obj⟩
      · cases z
    · unfold scriptH at z
      split at z
      · rename_i e; exact ⟨e, hK⟩
      · cases z
  · obtain ⟨o, ho⟩ := Option.ne_none_iff_exists'.mp hK
    have e := inK a o ho
    rw [obj] at e
    cases e
    refine lawG_at (fun _ => none) (fun _ => .inl rfl) inK gN gB bB nl ng (fun b u z => by cases z) (fun b u z => by cases z) nod room F (pr _ (.inr ⟨_, vs.toArray, _, ho, rfl, rfl, rfl, ?_, by simpa using rel⟩)) (noX _)
    rw [List.size_toArray, iv.length]; exact sz
end
theorem walkG {l : PySem.W.OpenLaw} {n k : Nat} {q : Program} {loose : List Str} {XP : (Str → Option Value) → Heap → Prop} {YP : World → Heap → Prop} {d : DefRec} {CX : World → CXT} (hn : l.most = some n) (n2 : n ≤ sizeLine) (nd : d.params.defaults = []) (room : Room k callerA)
    (F : ∀ (w : World) (mg : Str → Option Value) (fa : Addr) (h : Heap), YP w h → h.Ns mainGlobals mg → mg d.name = some (.ref fa) →
      ∃ (K : PySem.W.Frag) (sp : Sp), K.In h ∧ (∀ (H : Hp) (a : Addr) (ns : List Int), ns.length ≤ n → SqL K H a (ns.map V.int) → sp [.ref a] H (fun v _ => v = .bl true) fun _ _ _ => False) ∧
        ∀ base : Heap, K.In base → base.Ns mainGlobals mg → FnG l.prog w K mg base (CX w) k fa 1 [] sp)
    (noX : ∀ (w : World) (H : Hp) (s : Shared) (e : Value) (s' : Shared), CX w [] H s (fun _ _ _ => False) e s' → False) : PySem.W.WalkO q loose XP YP l.row.toRowW d [] (fun f vs => PySem.call f vs) := by
  refine Att.attach_call hn nd fun w s₀ s₁ mg mb fa o pm cd doc a vs ns G Y ho hd hcd hmg hobj hints hlen hg => ?_
  obtain ⟨K, sp, inK, pr, hF⟩ := F w mg fa _ Y G.T.g hmg
  exact lawG inK G.T.g G.T.b G.T.builtins G.T.nolimit hg hobj hints (Nat.le_trans hlen n2) room hF (fun H hS => pr H a ns hlen hS) fun H e s' => noX w H s₁ e s'
end Z

/-! Z8: calls with keywords. -/
namespace Z
open PySem L2
theorem bnd_assoc {α β γ : Type} (m : M α) (f : α → M β) (g : β → M γ) : bnd (bnd m f) g = bnd m fun a => bnd (f a) g := by
  funext ρ
  unfold bnd
  cases m ρ with
  | none => rfl
  | some p => obtain ⟨r, ρ1⟩ := p; cases r <;> rfl
theorem bnd_ret {α β : Type} (a : α) (f : α → M β) : bnd (ret a) f = f a := rfl
theorem xArgs_app : ∀ (ms ks : List (M Val)), xArgs (ms ++ ks) = bnd (xArgs ms) fun a => bnd (xArgs ks) fun b => ret (a ++ b)
  | [], ks => by
    show xArgs ks = bnd (xArgs ks) fun b => ret b
    funext ρ
    unfold bnd
    cases xArgs ks ρ with
    | none => rfl
    | some p => obtain ⟨r, ρ1⟩ := p; cases r <;> rfl
  | m :: ms, ks => by
    show (bnd m fun v => bnd (xArgs (ms ++ ks)) fun vs => ret (v :: vs)) = bnd (bnd m fun v => bnd (xArgs ms) fun vs => ret (v :: vs)) fun a => bnd (xArgs ks) fun b => ret (a ++ b)
    rw [bnd_assoc, xArgs_app ms ks]
    congr 1
    funext v
    rw [bnd_assoc, bnd_assoc]
    congr 1
    funext vs
    rw [bnd_assoc, bnd_ret]
    rfl
section
variable {K : PySem.W.Frag} {W : St → XK} {Φ Φ' Φ1 Ψ H H' H0 H1 : Hp} {Ms l : List (Nat × Addr)} {ρ ρ' ρ1 : Env} {σ σ1 : St}
theorem ValsR.app {vs ws : List V} {vals wals : List Val} (h : ValsR K Φ ρ σ H0 H vs vals) (t : ValsR K Φ ρ σ H0 H ws wals) (n : ∀ v d, (v, Val.own d) ∈ vs.zip vals → ∀ d', (v, Val.own d') ∉ ws.zip wals) : ValsR K Φ ρ σ H0 H (vs ++ ws) (vals ++ wals) := by
  induction h with
  | nil => exact t
  | @cons v val vs vals r t' n' ih =>
    refine .cons r (ih fun w d m => n w d (by rw [List.zip_cons_cons]; exact List.mem_cons_of_mem _ m)) fun d d' e m => ?_
    have m : (v, Val.own d') ∈ (vs ++ ws).zip (vals ++ wals) := m
    rw [List.zip_append t'.length] at m
    rcases List.mem_append.mp m with m | m
    · exact n' d d' e m
    · exact n v d (by rw [List.zip_cons_cons, e]; exact List.mem_cons_self) d' m
theorem evm_callG {ks : List Kd} {F : Fn} {n m : Nat} {ms kms : List (M Val)} {t tk : TA} (ha : EvA K W t (xArgs ms)) (hk : EvA K W tk (xArgs kms)) (hn : ms.length = n) (hm : kms.length = m) :
    EvM K W (tCallG n m (spF K (n + m) F) W t tk) (xCall ks F (ms ++ kms)) := by
  have he : EvA K W (fun σ H Q => t σ H fun vs H1 => tk σ H1 fun zs H2 => vs.length = n ∧ zs.length = m ∧ Q (vs ++ zs) H2) (xArgs (ms ++ kms)) := by
    intro Φ Ψ Ms ρ σ H Q R h
    rw [xArgs_app] at h
    refine ha Φ Ψ Ms ρ σ H _ R ?_
    have h1 := h.bnd
    cases e0 : xArgs ms ρ with
    | none => rw [e0] at h1; exact h1
    | some p0 =>
      obtain ⟨r0, ρ1⟩ := p0
      rw [e0] at h1
      cases r0 with
      | err x => exact h1
      | ok vals =>
        intro Φ1 H1 R1 s1 vs rs
        have h2 : PostG K Ψ Ms σ (W σ) Φ1 ρ1 H1 (gA K σ H Q) (bnd (xArgs kms) (fun b => ret (vals ++ b)) ρ1) := h1 Φ1 H1 R1 s1
        refine hk Φ1 Ψ Ms ρ1 σ H1 _ R1 ?_
        have h3 := h2.bnd
        cases e1 : xArgs kms ρ1 with
        | none => rw [e1] at h3; exact h3
        | some p1 =>
          obtain ⟨r1, ρ2⟩ := p1
          rw [e1] at h3
          cases r1 with
          | err x => exact h3
          | ok wals =>
            intro Φ2 H2 R2 s2 zs rz
            refine ⟨rs.length.trans ((xArgs_length e0).trans hn), rz.length.trans ((xArgs_length e1).trans hm), h3 Φ2 H2 R2 s2 Φ2 H2 R2 Step.refl (vs ++ zs) ((rs.step s2).app (rz.start s1.fresh) fun v d mv d' mz => ?_)⟩
            obtain ⟨a, ea, rm, _⟩ := rs.mem mv
            obtain ⟨b, eb, _, _, _, nb⟩ := rz.mem mz
            rw [ea] at eb; cases eb
            exact rm.ne nb
  exact fun Φ Ψ Ms ρ σ H Q R h => evm_call (n := n + m) (F := F) (ks := ks) he (by rw [List.length_append, hn, hm]) Φ Ψ Ms ρ σ H _ R h
end
end Z

/-! Z9: operators. -/
namespace Z
open PySem L2
section
variable {K : PySem.W.Frag} {W : St → XK} {Φ Φ' Ψ H H' : Hp} {X : Cx} {Q : VK}
theorem ResQ.int {i : Int} (s : Sub Φ H) (q : ResQ K Φ H Q (.imm (.int i))) : Q (.int i) H := q Φ H _ (Gr.refl s) (.int i)
theorem ResQ.bl {i : Bool} (s : Sub Φ H) (q : ResQ K Φ H Q (.imm (.bl i))) : Q (.bl i) H := q Φ H _ (Gr.refl s) (.bl i)
theorem ResQ.str {i : Str} (s : Sub Φ H) (q : ResQ K Φ H Q (.imm (.str i))) : Q (.str i) H := q Φ H _ (Gr.refl s) (.str i)
theorem ResQ.non (s : Sub Φ H) (q : ResQ K Φ H Q (.imm .non)) : Q .non H := q Φ H _ (Gr.refl s) .non
theorem ResQ.old {v : V} {d : D} (s : Sub Φ H) (r : RF K Φ v d) (q : ResQ K Φ H Q (.imm d)) : Q v H := q Φ H _ (Gr.refl s) r
theorem ResQ.tup {vs : List V} {ds : List D} {p : Addr} (s : Sub Φ H) (r : RFs K Φ vs ds) (hp : H p = none) (q : ResQ K Φ H Q (.imm (.tup ds))) : Q (.ref p) (upd H p (.tup vs)) :=
  q (upd Φ p (.tup vs)) _ _ (Gr.newF s hp) (.tup (.inl upd_same) (r.mono (Gr.newF (o := .tup vs) s hp).fx))
theorem ResQ.lst {vs : List V} {ds : List D} {p : Addr} (s : Sub Φ H) (r : RFs K Φ vs ds) (hp : H p = none) (q : ResQ K Φ H Q (.own (.lst ds))) : Q (.ref p) (upd H p (.lst vs)) :=
  q Φ _ _ (Gr.newM s hp) ⟨p, rfl, .lst upd_same r, hp, s.none hp⟩
theorem ResQ.dct {vs : List (Key × V)} {ds : List (D × D)} {p : Addr} (s : Sub Φ H) (r : RFk K Φ vs ds) (hp : H p = none) (q : ResQ K Φ H Q (.own (.dct ds))) : Q (.ref p) (upd H p (.dK vs)) :=
  q Φ _ _ (Gr.newM s hp) ⟨p, rfl, .dct upd_same r, hp, s.none hp⟩
theorem ResQ.dtt {vs : List (List Key × V)} {ds : List (D × D)} {p : Addr} (s : Sub Φ H) (r : RFt K Φ vs ds) (hp : H p = none) (q : ResQ K Φ H Q (.own (.dtt ds))) : Q (.ref p) (upd H p (.dT vs)) :=
  q Φ _ _ (Gr.newM s hp) ⟨p, rfl, .dtt upd_same r, hp, s.none hp⟩
/-- a value read and not opened at the top is frozen -/
theorem R1.solid {v : V} {d : D} (h : R1 K Φ H v d) (s : d.solid = true) : RF K Φ v d := by
  cases h with
  | f h => exact h
  | lst h r => cases s
  | dct h r => cases s
  | dtt h r => cases s
  | ins h r => cases s
theorem R1.tupF {v : V} {ds : List D} (h : R1 K Φ H v (.tup ds)) : RF K Φ v (.tup ds) := h.solid rfl

/-! ### + -/
def rCatLL (K : PySem.W.Frag) : R2 := fun x y H Q => ∃ a b xs ys, x = .ref a ∧ y = .ref b ∧ Rd H a (.lst xs) ∧ Rd H b (.lst ys) ∧ xs.length + ys.length ≤ sizeLine ∧ ∀ p, H p = none → Q (.ref p) (upd H p (.lst (xs ++ ys)))
theorem rdL_obj {pins : List (Addr × Obj)} {σ : St} {s : Shared} {a : Addr} {xs : List V} (I : Inv X pins σ H s) (h : Rd H a (.lst xs)) : ∃ (its : List Value) (n : Nat), Vals xs its ∧ s.heap.get? a = some { cls := .type "list", data := .seq its.toArray n } := by
  obtain ⟨z, its, n, r, e⟩ := rd_of I.hok h
  exact ⟨its, n, r, e⟩
theorem op_catLL : OpR X (binaryOp .Add) (rCatLL X.K) := by
  intro pins s σ H x y v u Q I rx ry h
  obtain ⟨a, b, xs, ys, rfl, rfl, ha, hb, hz, q⟩ := h
  cases rx
  cases ry
  obtain ⟨i1, n1, r1, e1⟩ := rdL_obj I ha
  obtain ⟨i2, n2, r2, e2⟩ := rdL_obj I hb
  have w1 := r1.length
  have w2 := r2.length
  refine PySem.P.add_list e1 e2 ?_ (by rw [List.size_toArray, List.size_toArray]; omega)
  rw [show i1.toArray ++ i2.toArray = (i1 ++ i2).toArray by simp]
  exact ⟨.ref _, _, I.lnew (t' := s.toks) (r1.append r2) (by rw [List.length_append]; omega), rfl, q _ I.fresh⟩
def rAddU (K : PySem.W.Frag) : R2 := fun x y H Q => rI0 (fun i j => .int (i + j)) x y H Q ∨ (∃ i j, x = .str i ∧ y = .str j ∧ i.length + j.length ≤ sizeLine ∧ Q (.str (i ++ j)) H) ∨ rCatA K x y H Q ∨ rCatLL K x y H Q
theorem op_addU : OpR X (binaryOp .Add) (rAddU X.K) := OpR.or op_add (OpR.or op_add_str (OpR.or op_catA op_catLL))
def dAdd : D → D → Option Val
  | .int i, .int j => some (.imm (.int (i + j)))
  | .str i, .str j => if i.length + j.length ≤ sizeLine then some (.imm (.str (i ++ j))) else none
  | .tup xs, .tup ys => if xs.length + ys.length ≤ sizeLine then some (.imm (.tup (xs ++ ys))) else none
  | .lst xs, .lst ys => if xs.length + ys.length ≤ sizeLine then some (.own (.lst (xs ++ ys))) else none
  | _, _ => none
theorem opm_add : OpM K (rAddU K) dAdd := by
  intro Φ H x y a b val Q sf ra rb e q
  unfold dAdd at e
  split at e
  · cases e
    exact .inl ⟨_, _, ra.int, rb.int, q.int sf⟩
  · split at e
    · rename_i hz
      cases e
      exact .inr (.inl ⟨_, _, ra.str, rb.str, hz, q.str sf⟩)
    · cases e
  · split at e
    · rename_i xs ys hz
      cases e
      have fa := ra.tupF
      have fb := rb.tupF
      cases fa with
      | @tup a vs _ h1 r1 =>
        cases fb with
        | @tup b ws _ h2 r2 =>
          have l1 := r1.length
          have l2 := r2.length
          refine .inr (.inr (.inl ⟨a, b, vs, ws, rfl, rfl, sf.sqT h1.sq, sf.sqT h2.sq, by omega, fun z => ?_, fun _ z => ?_, fun _ _ p hp => q.tup sf (r1.app r2) hp⟩))
          · subst z
            cases r1
            exact q.old sf (.tup h2 r2)
          · subst z
            cases r2
            exact q.old sf (by rw [List.append_nil]; exact .tup h1 r1)
    · cases e
  · split at e
    · rename_i hz
      cases e
      obtain ⟨a, vs, rfl, h1, r1⟩ := ra.lsts sf
      obtain ⟨b, ws, rfl, h2, r2⟩ := rb.lsts sf
      have l1 := r1.length
      have l2 := r2.length
      exact .inr (.inr (.inr ⟨a, b, vs, ws, rfl, rfl, h1, h2, by omega, fun p hp => q.lst sf (r1.app r2) hp⟩))
    · cases e
  · cases e

/-! ### numbers -/
def dSub : D → D → Option Val
  | .int i, .int j => some (.imm (.int (i - j)))
  | _, _ => none
theorem opm_sub : OpM K (rI0 fun i j => .int (i - j)) dSub := by
  intro Φ H x y a b val Q sf ra rb e q
  unfold dSub at e
  split at e
  · cases e; exact ⟨_, _, ra.int, rb.int, q.int sf⟩
  · cases e
def mulOk (i j : Int) : Prop := i.natAbs.log2 + j.natAbs.log2 < 1000000
instance (i j : Int) : Decidable (mulOk i j) := by unfold mulOk; infer_instance
/-- a list or a tuple times a number -/
def rRepL (K : PySem.W.Frag) : R2 := fun x y H Q => ∃ l k xs, x = .ref l ∧ y = .int k ∧ SqL K H l xs ∧ -(2 ^ 63) ≤ k ∧ k < 2 ^ 63 ∧ xs.length * k.toNat ≤ sizeLine ∧ ∀ p, H p = none → Q (.ref p) (upd H p (.lst (List.replicate k.toNat xs).flatten))
def rMulU (K : PySem.W.Frag) : R2 := fun x y H Q => rI CMulW (fun i j => .int (i * j)) x y H Q ∨ rRepT K x y H Q ∨ rRep x y H Q
theorem op_mulU : OpR X (binaryOp .Mult) (rMulU X.K) := OpR.or op_mulW (OpR.or op_repT op_rep)
def dMul : D → D → Option Val
  | .int i, .int j => if mulOk i j then some (.imm (.int (i * j))) else none
  | .tup xs, .int k => if xs ≠ [] ∧ 2 ≤ k ∧ k ≤ 1000 ∧ xs.length ≤ 1000 then some (.imm (.tup (List.replicate k.toNat xs).flatten)) else none
  | _, _ => none
theorem RFs.rep {vs : List V} {ds : List D} (h : RFs K Φ vs ds) : ∀ n : Nat, RFs K Φ (List.replicate n vs).flatten (List.replicate n ds).flatten
  | 0 => .nil
  | n + 1 => by
    rw [List.replicate_succ, List.replicate_succ, List.flatten_cons, List.flatten_cons]
    exact h.app (h.rep n)
theorem opm_mul : OpM K (rMulU K) dMul := by
  intro Φ H x y a b val Q sf ra rb e q
  unfold dMul at e
  split at e
  · split at e
    · rename_i hz
      cases e
      exact .inl ⟨_, _, ra.int, rb.int, hz, q.int sf⟩
    · cases e
  · split at e
    · rename_i xs k hz
      cases e
      have fa := ra.tupF
      cases fa with
      | @tup a vs _ h1 r1 =>
        have l1 := r1.length
        refine .inr (.inl ⟨a, k, vs, rfl, rb.int, sf.sqT h1.sq, fun z => hz.1 ?_, hz.2.1, hz.2.2.1, by omega, fun p hp => q.tup sf (r1.rep _) hp⟩)
        subst z; cases r1; rfl
    · cases e
  · cases e
def dMod : D → D → Option Val
  | .int i, .int j => if 0 < j then some (.imm (.int (i % j))) else none
  | _, _ => none
theorem opm_mod : OpM K (rI (fun _ j => 0 < j) fun i j => .int (i % j)) dMod := by
  intro Φ H x y a b val Q sf ra rb e q
  unfold dMod at e
  split at e
  · split at e
    · rename_i hz
      cases e; exact ⟨_, _, ra.int, rb.int, hz, q.int sf⟩
    · cases e
  · cases e
def dDiv : D → D → Option Val
  | .int i, .int j => if 0 < j ∧ j < 1073741824 then some (.imm (.int (i / j))) else none
  | _, _ => none
theorem opm_div : OpM K (rI CDiv fun i j => .int (i / j)) dDiv := by
  intro Φ H x y a b val Q sf ra rb e q
  unfold dDiv at e
  split at e
  · split at e
    · rename_i hz
      cases e; exact ⟨_, _, ra.int, rb.int, hz, q.int sf⟩
    · cases e
  · cases e
def CPowX (i j : Int) : Prop := 0 ≤ j ∧ (Builtin.Int.intBits i : Int) * j ≤ 2 ^ 27
theorem op_powX : OpR X (binaryOp .Pow) (rI CPowX fun i j => .int (i ^ j.toNat)) := opI fun _ _ _ _ _ _ _ hc q => PyProof.Rows.pow_int hc.1 hc.2 q
instance (i j : Int) : Decidable (CPowX i j) := by unfold CPowX; infer_instance
def dPow : D → D → Option Val
  | .int i, .int j => if CPowX i j then some (.imm (.int (i ^ j.toNat))) else none
  | _, _ => none
theorem opm_pow : OpM K (rI CPowX fun i j => .int (i ^ j.toNat)) dPow := by
  intro Φ H x y a b val Q sf ra rb e q
  unfold dPow at e
  split at e
  · split at e
    · rename_i hz
      cases e; exact ⟨_, _, ra.int, rb.int, hz, q.int sf⟩
    · cases e
  · cases e
def dNeg : D → Option Val
  | .int i => some (.imm (.int (-i)))
  | _ => none
theorem unm_neg : UnM K (rU fun i => .int (-i)) dNeg := by
  intro Φ H x a val Q sf ra e q
  unfold dNeg at e
  split at e
  · cases e; exact ⟨_, ra.int, q.int sf⟩
  · cases e

/-! ### order -/
def dCmp (p : Int → Int → Bool) : D → D → Option Val
  | .int i, .int j => some (.imm (.bl (p i j)))
  | _, _ => none
theorem opm_cmp {p : Int → Int → Bool} : OpM K (rI0 fun i j => .bl (p i j)) (dCmp p) := by
  intro Φ H x y a b val Q sf ra rb e q
  unfold dCmp at e
  split at e
  · cases e; exact ⟨_, _, ra.int, rb.int, q.bl sf⟩
  · cases e
def dLt := dCmp fun i j => decide (i < j)
def dLe := dCmp fun i j => decide (i ≤ j)
def dGt := dCmp fun i j => decide (j < i)
def dGe := dCmp fun i j => decide (j ≤ i)
/-- is None, is not None -/
def D.isNon : D → Bool
  | .non => true
  | _ => false
def dIsN : D → D → Option Val
  | a, .non => some (.imm (.bl a.isNon))
  | _, _ => none
def dNotN : D → D → Option Val
  | a, .non => some (.imm (.bl (!a.isNon)))
  | _, _ => none
theorem R1.isN {v : V} {d : D} (h : R1 K Φ H v d) : decide (v = .non) = d.isNon := by
  cases h with
  | f h => cases h <;> simp [D.isNon]
  | lst h r => simp [D.isNon]
  | dct h r => simp [D.isNon]
  | dtt h r => simp [D.isNon]
  | ins h r => simp [D.isNon]
theorem opm_isN : OpM K (fun x y H Q => y = .non ∧ Q (.bl (decide (x = .non))) H) dIsN := by
  intro Φ H x y a b val Q sf ra rb e q
  unfold dIsN at e
  split at e
  · cases e
    exact ⟨rb.non, by rw [ra.isN]; exact q.bl sf⟩
  · cases e
theorem opm_notN : OpM K (fun x y H Q => y = .non ∧ Q (.bl (!decide (x = .non))) H) dNotN := by
  intro Φ H x y a b val Q sf ra rb e q
  unfold dNotN at e
  split at e
  · cases e
    exact ⟨rb.non, by rw [ra.isN]; exact q.bl sf⟩
  · cases e
end
end Z

/-! Z10: data as the library reads it: ==, in, repr. -/
namespace Z
open PySem L2
mutual
def D.py : D → Option PyData
  | .non => some .none
  | .bl b => some (.bool b)
  | .int i => some (.int i)
  | .str x => some (.str x)
  | .tup xs => (pys xs).map .tuple
  | .lst xs => (pys xs).map .list
  | .dct kvs => (pyk kvs).map .dict
  | .dtt kvs => (pyk kvs).map .dict
  | _ => none
def pys : List D → Option (List PyData)
  | [] => some []
  | d :: ds => match d.py, pys ds with
    | some x, some xs => some (x :: xs)
    | _, _ => none
def pyk : List (D × D) → Option (List (PyData × PyData))
  | [] => some []
  | (k, v) :: r => match k.py, v.py, pyk r with
    | some x, some y, some xs => some ((x, y) :: xs)
    | _, _, _ => none
end
section
variable {K : PySem.W.Frag} {Φ Φ' Ψ H H' : Hp} {X : Cx} {Q : VK} {pins : List (Addr × Obj)} {σ : St} {s : Shared}
mutual
theorem rf_dp (sf : Sub Φ H) : ∀ {v : V} {d : D} {p : PyData}, RF K Φ v d → d.py = some p → p.hasDict = false → Dp K H v p
  | _, _, _, .non, e, _ => by simp only [D.py] at e; cases e; exact .non
  | _, _, _, .bl b, e, _ => by simp only [D.py] at e; cases e; exact .bl b
  | _, _, _, .int b, e, _ => by simp only [D.py] at e; cases e; exact .int b
  | _, _, _, .str b, e, _ => by simp only [D.py] at e; cases e; exact .str b
  | _, _, _, .ty b, e, _ => by simp only [D.py] at e; cases e
  | _, _, _, .obj b, e, _ => by simp only [D.py] at e; cases e
  | _, _, _, .tup (ds := ds) h r, e, nd => by
    simp only [D.py] at e
    cases q : pys ds with
    | none => rw [q] at e; cases e
    | some ps =>
      rw [q] at e; cases e
      exact .tup (sf.sqT h.sq) (rfs_dp sf r q (by simpa [PyData.hasDict] using nd))
  | _, _, _, .lst (ds := ds) h r, e, nd => by
    simp only [D.py] at e
    cases q : pys ds with
    | none => rw [q] at e; cases e
    | some ps =>
      rw [q] at e; cases e
      exact .lst (.inl (sf.rd h)) (rfs_dp sf r q (by simpa [PyData.hasDict] using nd))
  | _, _, _, .dct (kvs := ds) h r, e, nd => by
    simp only [D.py] at e
    cases q : pyk ds with
    | none => rw [q] at e; cases e
    | some ps =>
      rw [q] at e; cases e
      simp [PyData.hasDict] at nd
  | _, _, _, .dtt (kvs := ds) h r, e, nd => by
    simp only [D.py] at e
    cases q : pyk ds with
    | none => rw [q] at e; cases e
    | some ps =>
      rw [q] at e; cases e
      simp [PyData.hasDict] at nd
  | _, _, _, .ins h r, e, nd => by simp only [D.py] at e; cases e
theorem rfs_dp (sf : Sub Φ H) : ∀ {vs : List V} {ds : List D} {ps : List PyData}, RFs K Φ vs ds → pys ds = some ps → PyData.hasDictAll ps = false → DpAll K H vs ps
  | _, _, _, .nil, e, _ => by simp only [pys] at e; cases e; exact .nil
  | _, _, _, .cons (d := d) (ds := ds) r t, e, nd => by
    simp only [pys] at e
    cases q : d.py with
    | none => rw [q] at e; cases e
    | some p =>
      cases q2 : pys ds with
      | none => rw [q, q2] at e; cases e
      | some ps =>
        rw [q, q2] at e; cases e
        simp only [PyData.hasDictAll, Bool.or_eq_false_iff] at nd
        exact .cons (rf_dp sf r q nd.1) (rfs_dp sf t q2 nd.2)
end
theorem r1_dp {v : V} {d : D} {p : PyData} (sf : Sub Φ H) (h : R1 K Φ H v d) (e : d.py = some p) (nd : p.hasDict = false) : Dp K H v p := by
  cases h with
  | f h => exact rf_dp sf h e nd
  | @lst a vs ds h r =>
    simp only [D.py] at e
    cases q : pys ds with
    | none => rw [q] at e; cases e
    | some ps =>
      rw [q] at e; cases e
      exact .lst (.inl h) (rfs_dp sf r q (by simpa [PyData.hasDict] using nd))
  | @dct a ks kvs h r =>
    simp only [D.py] at e
    cases q : pyk kvs with
    | none => rw [q] at e; cases e
    | some ps => rw [q] at e; cases e; simp [PyData.hasDict] at nd
  | @dtt a ks kvs h r =>
    simp only [D.py] at e
    cases q : pyk kvs with
    | none => rw [q] at e; cases e
    | some ps => rw [q] at e; cases e; simp [PyData.hasDict] at nd
  | ins h r => simp only [D.py] at e; cases e

/-! ### == -/
def rEqU (K : PySem.W.Frag) : R2 := fun x y H Q => rEq x y H Q ∨ rEqD K x y H Q
def rNeU (K : PySem.W.Frag) : R2 := fun x y H Q => rNe x y H Q ∨ rNeD K x y H Q
theorem op_eqU (hu : X.A.units + 64 < cLine) : OpR X (compareOp .Eq) (rEqU X.K) := OpR.or op_eq (op_eqD hu)
theorem op_neU (hu : X.A.units + 64 < cLine) : OpR X (compareOp .NotEq) (rNeU X.K) := OpR.or op_ne (op_neD hu)
/-- two pieces of data -/
def eqPy (a b : D) : Option Bool := match a.py, b.py with
  | some p, some q => if SeqAt.shaped p = true ∧ SeqAt.shaped q = true then some (PyData.eqv p q) else none
  | _, _ => none
def eqB : D → D → Option Bool
  | .str a, .str b => some (decide (a = b))
  | .int a, .int b => some (decide (a = b))
  | .bl a, .bl b => some (decide (a = b))
  | .non, .non => some true
  | .non, .str _ => some false
  | .str _, .non => some false
  | .non, .int _ => some false
  | .int _, .non => some false
  | a, b => eqPy a b
def dEq (a b : D) : Option Val := (eqB a b).map fun k => .imm (.bl k)
def dNe (a b : D) : Option Val := (eqB a b).map fun k => .imm (.bl (!k))
theorem shaped_noDict {p : PyData} (h : SeqAt.shaped p = true) : p.hasDict = false := PyData.hasDict_of_canLay p (SeqAt.canLay_of_shaped h)
theorem eqPy_ok {x y : V} {a b : D} {k : Bool} (sf : Sub Φ H) (ra : R1 K Φ H x a) (rb : R1 K Φ H y b) (e : eqPy a b = some k) : ∃ d e, Dp K H x d ∧ Dp K H y e ∧ SeqAt.shaped d = true ∧ SeqAt.shaped e = true ∧ PyData.eqv d e = k := by
  unfold eqPy at e
  cases ea : a.py with
  | none => rw [ea] at e; cases e
  | some p =>
    cases eb : b.py with
    | none => rw [ea, eb] at e; cases e
    | some q =>
      rw [ea, eb] at e
      simp only at e
      split at e
      · rename_i h
        cases e
        exact ⟨p, q, r1_dp sf ra ea (shaped_noDict h.1), r1_dp sf rb eb (shaped_noDict h.2), h.1, h.2, rfl⟩
      · cases e
theorem eqB_ok {x y : V} {a b : D} {k : Bool} (sf : Sub Φ H) (ra : R1 K Φ H x a) (rb : R1 K Φ H y b) (e : eqB a b = some k) :
    (scal x y = true ∧ decide (x = y) = k) ∨ ∃ d e, Dp K H x d ∧ Dp K H y e ∧ SeqAt.shaped d = true ∧ SeqAt.shaped e = true ∧ PyData.eqv d e = k := by
  unfold eqB at e
  split at e
  · cases e; have := ra.str; subst this; have := rb.str; subst this
    exact .inl ⟨rfl, by simp⟩
  · cases e; have := ra.int; subst this; have := rb.int; subst this
    exact .inl ⟨rfl, by simp⟩
  · cases e; have := ra.bl; subst this; have := rb.bl; subst this
    exact .inl ⟨rfl, by simp⟩
  · cases e; have := ra.non; subst this; have := rb.non; subst this
    exact .inr ⟨.none, .none, .non, .non, by decide, by decide, by simp [PyData.eqv]⟩
  · cases e; have := ra.non; subst this; have := rb.str; subst this
    exact .inl ⟨rfl, by simp⟩
  · cases e; have := ra.str; subst this; have := rb.non; subst this
    exact .inl ⟨rfl, by simp⟩
  · cases e; have := ra.non; subst this; have := rb.int; subst this
    exact .inl ⟨rfl, by simp⟩
  · cases e; have := ra.int; subst this; have := rb.non; subst this
    exact .inl ⟨rfl, by simp⟩
  · exact .inr (eqPy_ok sf ra rb e)
end
end Z

/-! Z11: in, subscripts, slices, len, isinstance. -/
namespace Z
open PySem L2
section
variable {K : PySem.W.Frag} {W : St → XK} {Φ Φ' Ψ H H' : Hp} {X : Cx} {Q : VK} {pins : List (Addr × Obj)} {σ : St} {s : Shared}
theorem opm_eq : OpM K (rEqU K) dEq := by
  intro Φ H x y a b val Q sf ra rb e q
  unfold dEq at e
  cases h : eqB a b with
  | none => rw [h] at e; cases e
  | some k =>
    rw [h] at e; cases e
    rcases eqB_ok sf ra rb h with ⟨h1, h2⟩ | ⟨d, e, h1, h2, h3, h4, h5⟩
    · exact .inl ⟨h1, by rw [h2]; exact q.bl sf⟩
    · exact .inr ⟨d, e, h1, h2, h3, h4, by rw [h5]; exact q.bl sf⟩
theorem opm_ne : OpM K (rNeU K) dNe := by
  intro Φ H x y a b val Q sf ra rb e q
  unfold dNe at e
  cases h : eqB a b with
  | none => rw [h] at e; cases e
  | some k =>
    rw [h] at e; cases e
    rcases eqB_ok sf ra rb h with ⟨h1, h2⟩ | ⟨d, e, h1, h2, h3, h4, h5⟩
    · exact .inl ⟨h1, by rw [h2]; exact q.bl sf⟩
    · exact .inr ⟨d, e, h1, h2, h3, h4, by rw [h5]; exact q.bl sf⟩

/-! ### dicts: what stands at a key -/
def lookD : List (D × D) → Key → Option D
  | [], _ => none
  | (kd, d) :: r, k => if keyOf kd = some k then some d else lookD r k
theorem RFk.look {k : Key} : ∀ {vs : List (Key × V)} {ds : List (D × D)}, RFk K Φ vs ds → (valV vs k = none ∧ lookD ds k = none) ∨ ∃ v d, valV vs k = some v ∧ lookD ds k = some d ∧ RF K Φ v d
  | _, _, .nil => .inl ⟨rfl, rfl⟩
  | _, _, .cons (k := k1) (v := v) (kd := kd) (d := d) (ks := ks) e r t => by
    unfold lookD
    by_cases h : k1 = k
    · subst h
      rw [if_pos e]
      exact .inr ⟨v, d, by simp [valV], rfl, r⟩
    · rw [if_neg (by rw [e]; exact fun z => h (Option.some.inj z))]
      rw [show valV ((k1, v) :: ks) k = valV ks k by simp [valV, List.find?_cons, h]]
      exact RFk.look t
theorem keyOf_kV {v : V} {kd : D} {k : Key} (h : R1 K Φ H v kd) (e : keyOf kd = some k) : v = kV k := by
  unfold keyOf at e
  split at e
  · cases e; exact h.int
  · cases e; exact h.str
  · cases e

/-- .. where the keys are tuples -/
def keyTn (d : D) : Option (List Key) := match keyT d with
  | some (k :: ks) => some (k :: ks)
  | _ => none
theorem keyTn_ok {d : D} {k : List Key} (e : keyTn d = some k) : keyT d = some k ∧ k ≠ [] := by
  unfold keyTn at e
  split at e
  · rename_i h; cases e; exact ⟨h, nofun⟩
  · cases e
def lookTD : List (D × D) → List Key → Option D
  | [], _ => none
  | (kd, d) :: r, k => if keyT kd = some k then some d else lookTD r k
theorem RFt.look {k : List Key} : ∀ {vs : List (List Key × V)} {ds : List (D × D)}, RFt K Φ vs ds → (valV vs k = none ∧ lookTD ds k = none) ∨ ∃ v d, valV vs k = some v ∧ lookTD ds k = some d ∧ RF K Φ v d
  | _, _, .nil => .inl ⟨rfl, rfl⟩
  | _, _, .cons (k := k1) (v := v) (d := d) e r t => by
    unfold lookTD
    by_cases h : k1 = k
    · subst h; exact .inr ⟨v, d, valV_pos rfl, by rw [if_pos e], r⟩
    · rw [valV_neg h, if_neg (by rw [e]; exact fun z => h (Option.some.inj z))]; exact RFt.look t
theorem RFs.keys : ∀ {vs : List V} {ds : List D} {ks : List Key}, RFs K Φ vs ds → keysOf ds = some ks → vs = ks.map kV
  | _, _, _, .nil, e => by cases e; rfl
  | _, _, _, .cons (d := d) (ds := ds) r t, e => by
    unfold keysOf at e
    cases q : keyOf d with
    | none => simp only [q] at e; cases e
    | some k =>
      cases q2 : keysOf ds with
      | none => simp only [q, q2] at e; cases e
      | some ks2 =>
        simp only [q, q2] at e; cases e
        rw [List.map_cons, ← RFs.keys t q2, keyOf_kV (.f (G := Φ) r) q]
/-- a tuple that is a key stands in the heap -/
theorem keyT_at {v : V} {d : D} {k : List Key} (sf : Sub Φ H) (h : R1 K Φ H v d) (e : keyTn d = some k) : ∃ b, v = .ref b ∧ H b = some (.tup (k.map kV)) ∧ Φ b = some (.tup (k.map kV)) := by
  obtain ⟨e1, n⟩ := keyTn_ok e
  cases d <;> simp only [keyT] at e1 <;> try (cases e1; done)
  cases h with
  | f h1 => cases h1 with
    | tup h2 r2 =>
      have ev := r2.keys e1
      subst ev
      have hb := h2.at_ (fun z => n (by simpa using z))
      refine ⟨_, rfl, ?_, hb⟩
      rcases sf _ _ hb with q | ⟨l, _⟩
      · exact q
      · exact l.elim
/-! ### in -/
def flatD : D → Bool
  | .non => true
  | .bl _ => true
  | .int _ => true
  | .str _ => true
  | _ => false
def flatE : D → D → Bool
  | .non, .non => true
  | .bl a, .bl b => a == b
  | .int a, .int b => decide (a = b)
  | .str a, .str b => decide (a = b)
  | _, _ => false
/-- texts among texts, numbers among numbers -/
def sameK : D → D → Bool
  | .int _, .int _ => true
  | .str _, .str _ => true
  | .str _, .non => true
  | .non, .str _ => true
  | .int _, .non => true
  | .non, .int _ => true
  | _, _ => false
def eqK : D → D → Bool
  | .int i, .int j => decide (i = j)
  | .str i, .str j => decide (i = j)
  | _, _ => false
def rIn1 (K : PySem.W.Frag) (neg : Bool) : R2 := fun x y H Q =>
  rIn K neg x y H Q ∨ (∃ c z, x = .str { cps := #[c] } ∧ y = .str z ∧ Q (.bl (if neg then !decide (c ∈ z.cps.toList) else decide (c ∈ z.cps.toList))) H) ∨ (∃ a o, y = .ref a ∧ DGet H a x o ∧ Q (.bl (if neg then !o.isSome else o.isSome)) H)
theorem op_in1 (hu : X.A.units + 1 < cLine) : OpR X (compareOp .In) (rIn1 X.K false) := by
  refine OpR.or op_in_seq (OpR.or ?_ ?_)
  · intro pins s σ H x y v u Q I rx ry h
    exact op_in_sign pins s σ H x y v u Q I rx ry h
  · intro pins s σ H x y v u Q I rx ry h
    obtain ⟨a, o, rfl, g, q⟩ := h
    cases ry
    exact d_in hu I g rx fun s3 I3 => ⟨.bl o.isSome, H, I3, rfl, q⟩
theorem op_notIn1 (hu : X.A.units + 1 < cLine) : OpR X (compareOp .NotIn) (rIn1 X.K true) := by
  refine OpR.or op_notIn_seq (OpR.or ?_ ?_)
  · intro pins s σ H x y v u Q I rx ry h
    exact op_notIn_sign pins s σ H x y v u Q I rx ry h
  · intro pins s σ H x y v u Q I rx ry h
    obtain ⟨a, o, rfl, g, q⟩ := h
    cases ry
    exact d_notIn hu I g rx fun s3 I3 => ⟨.bl (!o.isSome), H, I3, rfl, q⟩
def oneC : Str → Option Nat
  | ⟨⟨[c]⟩⟩ => some c
  | _ => none
def flatTop : D → Bool
  | .non => true
  | .bl _ => true
  | .int _ => true
  | .str _ => true
  | _ => false
def inB : D → D → Option Bool
  | .str c, .str z => (oneC c).map fun c => decide (c ∈ z.cps.toList)
  | k, .dct kvs => (keyOf k).map fun k => (lookD kvs k).isSome
  | k, .dtt kvs => (keyTn k).map fun k => (lookTD kvs k).isSome
  | x, .lst ds => if flatTop x = true ∧ ds.all (sameK x) = true then some (ds.any (eqK x)) else none
  | x, .tup ds => if flatTop x = true ∧ ds.all (sameK x) = true then some (ds.any (eqK x)) else none
  | _, _ => none
def dIn (neg : Bool) (a b : D) : Option Val := (inB a b).map fun k => .imm (.bl (if neg then !k else k))
theorem sameK_ok {v w : V} {x d : D} (h : R1 K Φ H v x) (r : RF K Φ w d) (e : sameK x d = true) : flatV v = true ∧ flatV w = true ∧ L2.eqV w v = eqK x d := by
  have r' : R1 K Φ H w d := .f r
  unfold sameK at e
  split at e
  · have e1 := h.int; have e2 := r'.int; subst e1 e2; refine ⟨rfl, rfl, ?_⟩; rw [Bool.eq_iff_iff]; simp [L2.eqV, eqK]; exact eq_comm
  · have e1 := h.str; have e2 := r'.str; subst e1 e2; refine ⟨rfl, rfl, ?_⟩; rw [Bool.eq_iff_iff]; simp [L2.eqV, eqK]; exact eq_comm
  · have e1 := h.str; have e2 := r'.non; subst e1 e2; refine ⟨rfl, rfl, ?_⟩; simp [L2.eqV, eqK]
  · have e1 := h.non; have e2 := r'.str; subst e1 e2; refine ⟨rfl, rfl, ?_⟩; simp [L2.eqV, eqK]
  · have e1 := h.int; have e2 := r'.non; subst e1 e2; refine ⟨rfl, rfl, ?_⟩; simp [L2.eqV, eqK]
  · have e1 := h.non; have e2 := r'.int; subst e1 e2; refine ⟨rfl, rfl, ?_⟩; simp [L2.eqV, eqK]
  · cases e
theorem sameKs {v : V} {x : D} (h : R1 K Φ H v x) : ∀ {ws : List V} {ds : List D}, RFs K Φ ws ds → ds.all (sameK x) = true → (ds ≠ [] → flatV v = true) ∧ ws.all flatV = true ∧ L2.inV v ws = ds.any (eqK x)
  | _, _, .nil, _ => ⟨fun z => (z rfl).elim, rfl, rfl⟩
  | _, _, .cons (vs := vs) (ds := ds) r t, e => by
    rw [List.all_cons, Bool.and_eq_true] at e
    obtain ⟨a1, a2, a3⟩ := sameK_ok h r e.1
    obtain ⟨b1, b2, b3⟩ := sameKs h t e.2
    refine ⟨fun _ => a1, by rw [List.all_cons, a2, b2]; rfl, ?_⟩
    unfold L2.inV at b3 ⊢
    rw [List.any_cons, List.any_cons, a3, b3]
theorem flatTop_ok {v : V} {x : D} (h : R1 K Φ H v x) (e : flatTop x = true) : flatV v = true := by
  unfold flatTop at e
  split at e
  · have e1 := h.non; subst e1; rfl
  · have e1 := h.bl; subst e1; rfl
  · have e1 := h.int; subst e1; rfl
  · have e1 := h.str; subst e1; rfl
  · cases e
theorem oneC_ok {c : Str} {n : Nat} (e : oneC c = some n) : c = { cps := #[n] } := by
  unfold oneC at e
  split at e
  · cases e; rfl
  · cases e
theorem opm_in (neg : Bool) : OpM K (rIn1 K neg) (dIn neg) := by
  intro Φ H x y a b val Q sf ra rb e q
  unfold dIn at e
  cases h : inB a b with
  | none => rw [h] at e; cases e
  | some k =>
    rw [h] at e; cases e
    unfold inB at h
    split at h
    · rename_i c z
      cases h2 : oneC c with
      | none => rw [h2] at h; cases h
      | some n =>
        rw [h2] at h; cases h
        have e2 := oneC_ok h2
        subst e2
        exact .inr (.inl ⟨n, z, ra.str, rb.str, q.bl sf⟩)
    · rename_i kk kvs _
      cases h2 : keyOf a with
      | none => rw [h2] at h; cases h
      | some n =>
        rw [h2] at h; cases h
        obtain ⟨p, ks, rfl, hp, rk⟩ := rb.dcts sf
        have e3 := keyOf_kV ra h2
        subst e3
        refine .inr (.inr ⟨p, _, rfl, .inl ⟨ks, n, hp, rfl, rfl⟩, ?_⟩)
        rcases rk.look (k := n) with ⟨u1, u2⟩ | ⟨v, d, u1, u2, u3⟩
        · rw [u1]; simp only [u2] at q; exact q.bl sf
        · rw [u1]; simp only [u2] at q; exact q.bl sf
    · rename_i kk kvs _
      cases h2 : keyTn a with
      | none => rw [h2] at h; cases h
      | some n =>
        rw [h2] at h; cases h
        obtain ⟨p, ks, rfl, hp, rk⟩ := rb.dtts sf
        obtain ⟨b, rfl, hb, _⟩ := keyT_at sf ra h2
        refine .inr (.inr ⟨p, _, rfl, .inr ⟨ks, n, b, hp, rfl, hb, rfl⟩, ?_⟩)
        rcases rk.look (k := n) with ⟨u1, u2⟩ | ⟨v, d, u1, u2, u3⟩
        · rw [u1]; simp only [u2] at q; exact q.bl sf
        · rw [u1]; simp only [u2] at q; exact q.bl sf
    · rename_i ds _
      split at h
      · rename_i hh
        cases h
        obtain ⟨p, vs, rfl, hp, rs⟩ := rb.lsts sf
        obtain ⟨a1, a2, a3⟩ := sameKs ra rs hh.2
        exact .inl ⟨p, vs, rfl, .inl (.inl hp), flatTop_ok ra hh.1, a2, by rw [a3]; exact q.bl sf⟩
      · cases h
    · rename_i ds _
      split at h
      · rename_i hh
        cases h
        obtain ⟨p, vs, rfl, hp, rs⟩ := rb.tup sf
        obtain ⟨a1, a2, a3⟩ := sameKs ra rs hh.2
        exact .inl ⟨p, vs, rfl, .inr hp, flatTop_ok ra hh.1, a2, by rw [a3]; exact q.bl sf⟩
      · cases h
    · cases h

/-! ### subscripts -/
def rIxK (K : PySem.W.Frag) : R2 := fun x y H Q => ∃ a v, x = .ref a ∧ DGet H a y (some v) ∧ Q v H
theorem ix_dk (hu : X.A.units + 1 < cLine) : IxR X (rIxK X.K) := by
  intro value slice pins s σ H x y v u Q I rx ry h hs
  obtain ⟨a, w, rfl, g, q⟩ := h
  cases rx
  exact PyProof.Rows.tail_any (dict_typeIs I g) PySem.F.slot_dict_getitem.lookup (d_getItem hu I g ry fun w' s3 I3 rw' => ⟨w, H, I3, rw', q⟩) hs
def rIxU (K : PySem.W.Frag) : R2 := fun x y H Q => rIx K x y H Q ∨ rIxK K x y H Q
theorem ix_U (hu : X.A.units + 1 < cLine) : IxR X (rIxU X.K) := ix_seq.or (ix_dk hu)
def dIx : D → D → Option Val
  | .lst xs, .int i => (atI xs i).map .imm
  | .tup xs, .int i => (atI xs i).map .imm
  | .str z, .int i => if z.length ≤ sizeLine then (atI z.cps.toList i).map fun c => .imm (.str ⟨#[c]⟩) else none
  | .dct kvs, k => (keyOf k).bind fun k => (lookD kvs k).map .imm
  | .dtt kvs, k => (keyTn k).bind fun k => (lookTD kvs k).map .imm
  | _, _ => none
theorem RFs.atI {vs : List V} {ds : List D} {i : Int} {d : D} (r : RFs K Φ vs ds) (e : L2.atI ds i = some d) : ∃ v, L2.atI vs i = some v ∧ RF K Φ v d := by
  unfold L2.atI at e ⊢
  rw [r.length]
  cases h : ixN ds.length i with
  | none => rw [h] at e; cases e
  | some j => rw [h] at e; exact r.get e
theorem opm_ix : OpM K (rIxU K) dIx := by
  intro Φ H x y a b val Q sf ra rb e q
  unfold dIx at e
  split at e
  · rename_i xs i
    cases h : L2.atI xs i with
    | none => rw [h] at e; cases e
    | some d =>
      rw [h] at e; cases e
      obtain ⟨p, vs, rfl, hp, rs⟩ := ra.lsts sf
      obtain ⟨v, h1, h2⟩ := rs.atI h
      exact .inl (.inl ⟨p, vs, i, v, rfl, rb.int, .inl hp, h1, q.old sf h2⟩)
  · rename_i xs i
    cases h : L2.atI xs i with
    | none => rw [h] at e; cases e
    | some d =>
      rw [h] at e; cases e
      obtain ⟨p, vs, rfl, hp, rs⟩ := ra.tup sf
      obtain ⟨v, h1, h2⟩ := rs.atI h
      exact .inl (.inr (.inl ⟨p, vs, i, v, rfl, rb.int, hp, h1, q.old sf h2⟩))
  · rename_i z i
    split at e
    · rename_i hz
      cases h : L2.atI z.cps.toList i with
      | none => rw [h] at e; cases e
      | some c =>
        rw [h] at e; cases e
        exact .inl (.inr (.inr ⟨z, i, c, ra.str, rb.int, hz, h, q.str sf⟩))
    · cases e
  · rename_i kvs
    cases h2 : keyOf b with
    | none => rw [h2] at e; cases e
    | some n =>
      rw [h2] at e
      simp only [Option.bind_some] at e
      cases h : lookD kvs n with
      | none => rw [h] at e; cases e
      | some d =>
        rw [h] at e; cases e
        obtain ⟨p, ks, rfl, hp, rk⟩ := ra.dcts sf
        have e3 := keyOf_kV rb h2
        subst e3
        rcases rk.look (k := n) with ⟨u1, u2⟩ | ⟨v, d', u1, u2, u3⟩
        · rw [u2] at h; cases h
        · rw [u2] at h; cases h
          exact .inr ⟨p, v, rfl, .inl ⟨ks, n, hp, rfl, u1.symm⟩, q.old sf u3⟩
  · rename_i kvs
    cases h2 : keyTn b with
    | none => rw [h2] at e; cases e
    | some n =>
      rw [h2] at e
      simp only [Option.bind_some] at e
      cases h : lookTD kvs n with
      | none => rw [h] at e; cases e
      | some d =>
        rw [h] at e; cases e
        obtain ⟨p, ks, rfl, hp, rk⟩ := ra.dtts sf
        obtain ⟨bb, rfl, hb, _⟩ := keyT_at sf rb h2
        rcases rk.look (k := n) with ⟨u1, u2⟩ | ⟨v, d', u1, u2, u3⟩
        · rw [u2] at h; cases h
        · rw [u2] at h; cases h
          exact .inr ⟨p, v, rfl, .inr ⟨ks, n, bb, hp, rfl, hb, u1.symm⟩, q.old sf u3⟩
  · cases e

/-! ### slices -/
def EvO (K : PySem.W.Frag) (W : St → XK) (t : TO) (m : M (Option Int)) : Prop :=
  ∀ Φ Ψ Ms ρ σ H (Q : Option Int → Hp → Prop), Rel K Φ Ψ Ms ρ σ H → PostG K Ψ Ms σ (W σ) Φ ρ H (fun o _ _ H' => Q o H') (m ρ) → t σ H Q
def xPart (m : M Val) : M (Option Int) := bnd m fun va => fun ρ => match cont ρ va with
  | some (.int i) => some (.ok (some i), ρ)
  | _ => none
theorem evo_none : EvO K W tNoPart (ret none) := by
  intro Φ Ψ Ms ρ σ H Q R h
  exact h Φ H R Step.refl
theorem evo_some {t : TE} {m : M Val} (he : EvM K W t m) : EvO K W (tPart t) (xPart m) := by
  intro Φ Ψ Ms ρ σ H Q R h
  refine he.then_ R h fun val Φ1 ρ1 H1 v R1 s1 rv h => ?_
  cases e : cont ρ1 val with
  | none => rw [e] at h; exact h.elim
  | some d =>
    rw [e] at h
    cases d with
    | int i =>
      have := rv.read R1 e
      exact ⟨i, this.int, h Φ1 H1 R1 Step.refl⟩
    | _ => exact h.elim
def SlM (K : PySem.W.Frag) (r : V → Option Int → Option Int → Hp → VK → Prop) (f : D → Option Int → Option Int → Option Val) : Prop :=
  ∀ (Φ H : Hp) (x : V) (a : D) (lo hi : Option Int) (val : Val) (Q : VK), Sub Φ H → R1 K Φ H x a → f a lo hi = some val → ResQ K Φ H Q val → r x lo hi H Q
def xSl (f : D → Option Int → Option Int → Option Val) (ma : M Val) (ml mu : M (Option Int)) : M Val := bnd ma fun va => bnd ml fun l => bnd mu fun u => fun ρ => match cont ρ va with
  | some a => match f a l u with
    | some v => some (.ok v, ρ)
    | none => none
  | none => none
theorem EvO.then_ {t : TO} {m : M (Option Int)} {Ψ : Hp} {Ms : List (Nat × Addr)} {ρ : Env} {α : Type} {good : Good α} {f : Option Int → M α} {Q : Option Int → Hp → Prop} (he : EvO K W t m) (R : Rel K Φ Ψ Ms ρ σ H) (h : PostG K Ψ Ms σ (W σ) Φ ρ H good (bnd m f ρ))
    (k : ∀ o Φ1 ρ1 H1, Rel K Φ1 Ψ Ms ρ1 σ H1 → Step Φ (Own ρ σ) H Φ1 (Own ρ1 σ) H1 → PostG K Ψ Ms σ (W σ) Φ1 ρ1 H1 good (f o ρ1) → Q o H1) : t σ H Q :=
  he Φ Ψ Ms ρ σ H Q R (h.bnd.mono fun o Φ1 ρ1 H1 R1 s1 h1 => k o Φ1 ρ1 H1 R1 s1 h1)
theorem evm_sl {r : V → Option Int → Option Int → Hp → VK → Prop} {f : D → Option Int → Option Int → Option Val} {ta : TE} {tl tu : TO} {ma : M Val} {ml mu : M (Option Int)} (o : SlM K r f) (ha : EvM K W ta ma) (hl : EvO K W tl ml) (hu : EvO K W tu mu) :
    EvM K W (tSl r ta tl tu) (xSl f ma ml mu) := by
  intro Φ Ψ Ms ρ σ H Q R h
  refine ha.then_ R h fun va Φ1 ρ1 H1 x R1 s1 r1 h => ?_
  refine hl.then_ R1 h fun l Φ2 ρ2 H2 R2 s2 h => ?_
  refine hu.then_ R2 h fun u Φ3 ρ3 H3 R3 s3 h => ?_
  have r1' := (r1.step s2).step s3
  cases ea : cont ρ3 va with
  | none => rw [ea] at h; exact h.elim
  | some a =>
    rw [ea] at h
    simp only at h
    cases ef : f a l u with
    | none => rw [ef] at h; exact h.elim
    | some val =>
      rw [ef] at h
      have s := (s1.trans s2).trans s3
      refine o Φ3 H3 x a l u val Q R3.sf (r1'.read R3 ea) ef fun Φ' H' v g r => ?_
      exact h Φ' H' (R3.grow g) g.step v (r.val R3 g s.fresh)
def cutD {α : Type} (xs : List α) (lo hi : Option Int) : List α := (xs.drop (HT.sIx xs.length 0 lo)).take (HT.sIx xs.length xs.length hi - HT.sIx xs.length 0 lo)
theorem cutD_whole {α : Type} {xs : List α} {lo hi : Option Int} (h : HT.sIx xs.length 0 lo = 0 ∧ HT.sIx xs.length xs.length hi = xs.length) : cutD xs lo hi = xs := by
  unfold cutD
  rw [h.1, h.2]
  simp
theorem RFs.cut {vs : List V} {ds : List D} (r : RFs K Φ vs ds) (lo hi : Option Int) : RFs K Φ (cutV vs lo hi) (cutD ds lo hi) := by
  unfold cutV cutD
  rw [r.length]
  exact (r.drop _).take _
def rSlU (K : PySem.W.Frag) : V → Option Int → Option Int → Hp → VK → Prop := fun x lo hi H Q => rSlL K x lo hi H Q ∨ rSlA K x lo hi H Q ∨ rSlS x lo hi H Q
theorem sl_U : L2.SlR X (rSlU X.K) := sl_list.or (sl_tupA.or sl_str)
def dSl : D → Option Int → Option Int → Option Val
  | .lst xs, lo, hi => some (.own (.lst (cutD xs lo hi)))
  | .tup xs, lo, hi => some (.imm (.tup (cutD xs lo hi)))
  | .str z, lo, hi => if z.length ≤ sizeLine then some (.imm (.str (cutS z lo hi))) else none
  | _, _, _ => none
theorem slm : SlM K (rSlU K) dSl := by
  intro Φ H x a lo hi val Q sf ra e q
  unfold dSl at e
  split at e
  · cases e
    obtain ⟨p, vs, rfl, hp, rs⟩ := ra.lsts sf
    exact .inl ⟨p, vs, rfl, .inl hp, fun p hp => q.lst sf (rs.cut lo hi) hp⟩
  · cases e
    have fa := ra.tupF
    cases fa with
    | @tup a vs ds h1 r1 =>
      refine .inr (.inl ⟨a, vs, rfl, sf.sqT h1.sq, fun w => ?_, fun _ p hp => q.tup sf (r1.cut lo hi) hp⟩)
      rw [r1.length] at w
      rw [cutD_whole w] at q
      exact q.old sf (.tup h1 r1)
  · split at e
    · rename_i hz
      cases e
      exact .inr (.inr ⟨_, ra.str, hz, q.str sf⟩)
    · cases e
  · cases e

/-! ### len, isinstance -/
def rLenU (K : PySem.W.Frag) : List V → Hp → VK → Prop := fun xs H Q =>
  (∃ p ys, xs = [.ref p] ∧ (SqL K H p ys ∨ SqT K H p ys) ∧ Q (.int ys.length) H) ∨ (∃ z, xs = [.str z] ∧ z.length ≤ sizeLine ∧ Q (.int z.length) H) ∨ ((∃ a kvs, xs = [V.ref a] ∧ Rd H a (.dK kvs) ∧ Q (.int kvs.length) H) ∨ (∃ a kvs, xs = [V.ref a] ∧ Rd H a (.dT kvs) ∧ Q (.int kvs.length) H))
theorem call_lenK : CallR X (.builtin "len") (fun xs H Q => ∃ a kvs, xs = [V.ref a] ∧ Rd H a (.dK kvs) ∧ Q (.int kvs.length) H) := by
  intro pins s σ H xs us Q I r h
  obtain ⟨a, kvs, rfl, ha, q⟩ := h
  cases r with
  | cons r1 t =>
    cases t
    cases r1
    exact d_len I ha fun t s' I' => ⟨.int kvs.length, H, I', ⟨_, rfl⟩, q⟩
theorem call_lenT : CallR X (.builtin "len") (fun xs H Q => ∃ a kvs, xs = [V.ref a] ∧ Rd H a (.dT kvs) ∧ Q (.int kvs.length) H) := by
  intro pins s σ H xs us Q I r h
  obtain ⟨p, kvs, rfl, hp, q⟩ := h
  obtain ⟨u, rfl, rx⟩ := vals1 r
  obtain rfl : u = .ref p := rx
  obtain ⟨z, hd, ys, rel, dd⟩ := dt_rd I.hok hp
  have hl : kvs.length = ys.length := Paired.length rel
  refine call_len_dictH hd dd (by rw [← hl]; rw [sizeLine_eq] at z; omega) ?_
  rw [← hl]
  exact ⟨.int ((kvs.length : Nat) : Int), H, I.tok _, ⟨_, rfl⟩, q⟩
theorem RFt.length : ∀ {vs : List (List Key × V)} {ds : List (D × D)}, RFt K Φ vs ds → vs.length = ds.length
  | _, _, .nil => rfl
  | _, _, .cons _ _ t => congrArg (· + 1) (RFt.length t)
theorem call_lenU : CallR X (.builtin "len") (rLenU X.K) := CallR.or call_len_seq (CallR.or call_len_str (CallR.or call_lenK call_lenT))
def dLen : List D → Option Val
  | [.lst xs] => some (.imm (.int xs.length))
  | [.tup xs] => some (.imm (.int xs.length))
  | [.dct xs] => some (.imm (.int xs.length))
  | [.dtt xs] => some (.imm (.int xs.length))
  | [.str z] => if z.length ≤ sizeLine then some (.imm (.int z.length)) else none
  | _ => none
theorem RFk.length : ∀ {vs : List (Key × V)} {ds : List (D × D)}, RFk K Φ vs ds → vs.length = ds.length
  | _, _, .nil => rfl
  | _, _, .cons _ _ t => congrArg (· + 1) (RFk.length t)
theorem callm_len : CallM K (rLenU K) dLen := by
  intro Φ H xs ds val Q sf rs e q
  unfold dLen at e
  split at e
  · cases e
    cases rs with
    | cons ra t =>
      cases t
      obtain ⟨p, vs, rfl, hp, rs⟩ := ra.lsts sf
      exact .inl ⟨p, vs, rfl, .inl (.inl hp), by rw [rs.length]; exact q.int sf⟩
  · cases e
    cases rs with
    | cons ra t =>
      cases t
      obtain ⟨p, vs, rfl, hp, rs⟩ := ra.tup sf
      exact .inl ⟨p, vs, rfl, .inr hp, by rw [rs.length]; exact q.int sf⟩
  · cases e
    cases rs with
    | cons ra t =>
      cases t
      obtain ⟨p, vs, rfl, hp, rs⟩ := ra.dcts sf
      exact .inr (.inr (.inl ⟨p, vs, rfl, hp, by rw [rs.length]; exact q.int sf⟩))
  · cases e
    cases rs with
    | cons ra t =>
      cases t
      obtain ⟨p, vs, rfl, hp, rs⟩ := ra.dtts sf
      exact .inr (.inr (.inr ⟨p, vs, rfl, hp, by rw [rs.length]; exact q.int sf⟩))
  · split at e
    · rename_i hz
      cases e
      cases rs with
      | cons ra t =>
        cases t
        have e1 := ra.str
        subst e1
        exact .inr (.inl ⟨_, rfl, hz, q.int sf⟩)
    · cases e
  · cases e

def tyN : D → Option String
  | .non => some "NoneType"
  | .bl _ => some "bool"
  | .int _ => some "int"
  | .str _ => some "str"
  | .tup _ => some "tuple"
  | .lst _ => some "list"
  | .dct _ => some "dict"
  | .dtt _ => some "dict"
  | _ => none
/-- .. a locked dict of tuples, too -/
inductive TyZ (K : PySem.W.Frag) (H : Hp) : V → Value → Prop where
  | x {v : V} {t : Value} (h : TyX K H v t) : TyZ K H v t
  | fT {a : Addr} {o : Obj} {kvs : List (List Key × V)} (e : H a = some (.frz o (.dT kvs))) : TyZ K H (.ref a) (.type "dict")
theorem kit_ofZ {x : V} {u t : Value} (I : Inv X pins σ H s) (rx : RelV x u) (ty : TyZ X.K H x t) : ∃ P : Heap → Prop, PySem.W.KitX X.K u t P ∧ P s.heap ∧ u ≠ .builtin "__main__.__loader__#opaque" := by
  cases ty with
  | x h => exact kit_of I rx h
  | @fT a ob kvs ea =>
    cases (show u = Value.ref a from rx)
    obtain ⟨_, _, _, xs, _, o, es, ep, h1, h2, _⟩ := (show ObjOk X.prog X.w H s.heap a (.frz ob (.dT kvs)) from I.hok a _ ea)
    exact ⟨_, PySem.W.kitx_dict, ⟨o, h1, h2.1⟩, fun z => nomatch z⟩
def rIsiZ (K : PySem.W.Frag) : List V → Hp → VK → Prop := fun xs H Q => ∃ (x c : V) (t u : Value) (b : Bool), xs = [x, c] ∧ ClsV c u ∧ TyZ K H x t ∧ PySem.W.kitOne K t u = some b ∧ Q (.bl b) H
theorem call_isiZ : CallR X (.builtin "isinstance") (rIsiZ X.K) := by
  intro pins s σ H xs us Q I r h
  obtain ⟨x, c, t, u, b, rfl, k, ty, e, q⟩ := h
  obtain ⟨u1, u2, rfl, r1, r2⟩ := vals2 r
  have e2 := k.eq r2
  subst e2
  obtain ⟨P, Z, p, hx⟩ := kit_ofZ I r1 ty
  exact PySem.W.kia_one Z I.kIn p e hx fun tk => ⟨.bl b, H, I.tok tk, rfl, q⟩
theorem tyZ_of {v : V} {d : D} {n : String} (sf : Sub Φ H) (h : R1 K Φ H v d) (e : tyN d = some n) : TyZ K H v (.type n) := by
  cases d with
  | non => cases e; have := h.non; subst this; exact .x (.base .non)
  | bl b => cases e; have := h.bl; subst this; exact .x (.base (.bl _))
  | int b => cases e; have := h.int; subst this; exact .x (.base (.int _))
  | str b => cases e; have := h.str; subst this; exact .x (.base (.str _))
  | ty b => cases e
  | obj b => cases e
  | ins c fs => cases e
  | exn c fs => cases e
  | tup ds =>
    cases e
    obtain ⟨p, vs, rfl, hp, rs⟩ := h.tup sf
    rcases hp with (hp | ⟨o, hp⟩) | ⟨o, its, n, h1, h2, _⟩
    · exact .x (.base (.tup hp))
    · exact .x (.fTuple hp)
    · exact .x (.kTuple h1 h2)
  | lst ds =>
    cases e
    obtain ⟨p, vs, rfl, hp, rs⟩ := h.lsts sf
    rcases hp with hp | ⟨o, hp⟩
    · exact .x (.base (.lst hp))
    · exact .x (.base (.frz hp))
  | dct ds =>
    cases e
    obtain ⟨p, vs, rfl, hp, rs⟩ := h.dcts sf
    rcases hp with hp | ⟨o, hp⟩
    · exact .x (.base (.dK hp))
    · exact .x (.fDict hp)
  | dtt ds =>
    cases e
    obtain ⟨p, vs, rfl, hp, rs⟩ := h.dtts sf
    rcases hp with hp | ⟨o, hp⟩
    · exact .x (.base (.dT hp))
    · exact .fT hp
def dIsi : List D → Option Val
  | [d, .ty n] => (tyN d).bind fun m => (kitB m n).map fun b => .imm (.bl b)
  | _ => none
theorem callm_isi : CallM K (rIsiZ K) dIsi := by
  intro Φ H xs ds val Q sf rs e q
  unfold dIsi at e
  split at e
  · rename_i d n
    cases rs with
    | cons ra t =>
      cases t with
      | cons rb t =>
        cases t
        cases h1 : tyN d with
        | none => rw [h1] at e; cases e
        | some m =>
          rw [h1] at e
          simp only [Option.bind_some] at e
          cases h2 : kitB m n with
          | none => rw [h2] at e; cases e
          | some b =>
            rw [h2] at e; cases e
            have e1 := rb.ty
            subst e1
            exact ⟨_, _, _, _, b, rfl, .ty n, tyZ_of sf ra h1, kit_ty h2, q.bl sf⟩
  · cases e
end
end Z

/-! Z12: calls of built-ins by value. -/
namespace Z
open PySem L2
open PyProof.Rows (sortedS risingS sorted_strsAny sortedAll_at sortedAll_old ltCps_eq)

/-! ### texts in order -/
def leS (a b : Str) : Bool := !decide (b.cps.toList < a.cps.toList)
def sortT (xs : List Str) : List Str := xs.mergeSort leS
def sortI (xs : List Int) : List Int := xs.mergeSort (fun a b => decide (a ≤ b))
theorem leS_trans (a b c : Str) (h1 : leS a b = true) (h2 : leS b c = true) : leS a c = true := by
  simp only [leS, Bool.not_eq_true', decide_eq_false_iff_not, List.not_lt] at *
  exact List.le_trans h1 h2
theorem leS_total (a b : Str) : (leS a b || leS b a) = true := by
  simp only [leS, Bool.or_eq_true, Bool.not_eq_true', decide_eq_false_iff_not, List.not_lt]
  exact List.le_total _ _
theorem leS_anti (a b : Str) (h1 : leS a b = true) (h2 : leS b a = true) : a = b := by
  simp only [leS, Bool.not_eq_true', decide_eq_false_iff_not, List.not_lt] at *
  have := List.le_antisymm h1 h2
  cases a; cases b
  simp only [Str.mk.injEq]
  exact Array.toList_inj.mp this
theorem rising_pair : ∀ (l : List Str) (p : Str), risingS p l = true → (p :: l).Pairwise fun a b => leS a b = true
  | [], p, _ => by simp
  | x :: r, p, h => by
    have h' : (!PySem.Spec.ltCps x.cps.toList p.cps.toList && risingS x r) = true := h
    rw [Bool.and_eq_true, ltCps_eq] at h'
    have ih := rising_pair r x h'.2
    have hpx : leS p x = true := h'.1
    refine List.pairwise_cons.mpr ⟨fun y hy => ?_, ih⟩
    rcases List.mem_cons.mp hy with z | z
    · subst z; exact hpx
    · exact leS_trans _ _ _ hpx ((List.pairwise_cons.mp ih).1 y z)
theorem sortedS_pair {l : List Str} (h : sortedS l = true) : l.Pairwise fun a b => leS a b = true := by
  cases l with
  | nil => exact List.Pairwise.nil
  | cons x r => exact rising_pair r x h
theorem sortT_eq {xs ys : List Str} (p : ys.Perm xs) (h : sortedS ys = true) : ys = sortT xs :=
  List.Perm.eq_of_pairwise (fun a b _ _ h1 h2 => leS_anti a b h1 h2) (sortedS_pair h) (List.pairwise_mergeSort leS_trans leS_total xs) (p.trans (List.mergeSort_perm xs leS).symm)
theorem sortI_eq {xs ys : List Int} (p : ys.Perm xs) (h : ys.Pairwise (· ≤ ·)) : ys = sortI xs := by
  refine List.Perm.eq_of_pairwise (le := fun a b => decide (a ≤ b) = true) (fun a b _ _ h1 h2 => ?_) ?_ (List.pairwise_mergeSort ?_ ?_ xs) (p.trans (List.mergeSort_perm xs _).symm)
  · simp at h1 h2; omega
  · exact h.imp fun z => by simpa using z
  · intro a b c h1 h2; simp at *; omega
  · intro a b; simp; omega

section
variable {K : PySem.W.Frag} {W : St → XK} {Φ Φ' Ψ H H' : Hp} {X : Cx} {Q : VK} {pins : List (Addr × Obj)} {σ : St} {s : Shared}
/-! ### all texts, all numbers, all truths -/
def strAll : List D → Option (List Str)
  | [] => some []
  | .str x :: r => (strAll r).map (x :: ·)
  | _ => none
def intAll : List D → Option (List Int)
  | [] => some []
  | .int x :: r => (intAll r).map (x :: ·)
  | _ => none
def blAll : List D → Option (List Bool)
  | [] => some []
  | .bl x :: r => (blAll r).map (x :: ·)
  | _ => none
theorem RF.str' {v : V} {x : Str} (h : RF K Φ v (.str x)) : v = .str x := by cases h; rfl
theorem RF.int' {v : V} {x : Int} (h : RF K Φ v (.int x)) : v = .int x := by cases h; rfl
theorem RF.bl' {v : V} {x : Bool} (h : RF K Φ v (.bl x)) : v = .bl x := by cases h; rfl
theorem strAll_ok : ∀ {vs : List V} {ds : List D} {xs : List Str}, RFs K Φ vs ds → strAll ds = some xs → vs = xs.map V.str
  | _, _, _, .nil, e => by cases e; rfl
  | _, _, _, .cons (d := d) (ds := ds) r t, e => by
    cases d <;> simp only [strAll] at e <;> try (cases e; done)
    cases h : strAll ds with
    | none => rw [h] at e; cases e
    | some ys => rw [h] at e; cases e; rw [strAll_ok t h, r.str']; rfl
theorem intAll_ok : ∀ {vs : List V} {ds : List D} {xs : List Int}, RFs K Φ vs ds → intAll ds = some xs → vs = xs.map V.int
  | _, _, _, .nil, e => by cases e; rfl
  | _, _, _, .cons (d := d) (ds := ds) r t, e => by
    cases d <;> simp only [intAll] at e <;> try (cases e; done)
    cases h : intAll ds with
    | none => rw [h] at e; cases e
    | some ys => rw [h] at e; cases e; rw [intAll_ok t h, r.int']; rfl
theorem blAll_ok : ∀ {vs : List V} {ds : List D} {xs : List Bool}, RFs K Φ vs ds → blAll ds = some xs → vs = xs.map V.bl
  | _, _, _, .nil, e => by cases e; rfl
  | _, _, _, .cons (d := d) (ds := ds) r t, e => by
    cases d <;> simp only [blAll] at e <;> try (cases e; done)
    cases h : blAll ds with
    | none => rw [h] at e; cases e
    | some ys => rw [h] at e; cases e; rw [blAll_ok t h, r.bl']; rfl
theorem rfs_str : ∀ xs : List Str, RFs K Φ (xs.map V.str) (xs.map D.str)
  | [] => .nil
  | x :: r => .cons (.str x) (rfs_str r)
theorem rfs_int : ∀ xs : List Int, RFs K Φ (xs.map V.int) (xs.map D.int)
  | [] => .nil
  | x :: r => .cons (.int x) (rfs_int r)
/-! all, any, sum -/
def dAll : List D → Option Val
  | [.lst ds] => (blAll ds).map fun bs => .imm (.bl (bs.all id))
  | _ => none
def dAny : List D → Option Val
  | [.lst ds] => (blAll ds).map fun bs => .imm (.bl (bs.any id))
  | _ => none
def dSum : List D → Option Val
  | [.lst ds] => (intAll ds).map fun bs => .imm (.int bs.sum)
  | _ => none
theorem callm_all : CallM K (rAll K) dAll := by
  intro Φ H xs ds val Q sf rs e q
  unfold dAll at e
  split at e
  · rename_i ds
    cases h : blAll ds with
    | none => rw [h] at e; cases e
    | some bs =>
      rw [h] at e; cases e
      obtain ⟨v, rfl, r⟩ := rs.one
      obtain ⟨p, vs, rfl, hp, rr⟩ := r.lsts sf
      exact ⟨p, bs, rfl, .inl (by rw [← blAll_ok rr h]; exact hp), q.bl sf⟩
  · cases e
theorem callm_any : CallM K (rAny K) dAny := by
  intro Φ H xs ds val Q sf rs e q
  unfold dAny at e
  split at e
  · rename_i ds
    cases h : blAll ds with
    | none => rw [h] at e; cases e
    | some bs =>
      rw [h] at e; cases e
      obtain ⟨v, rfl, r⟩ := rs.one
      obtain ⟨p, vs, rfl, hp, rr⟩ := r.lsts sf
      exact ⟨p, bs, rfl, .inl (by rw [← blAll_ok rr h]; exact hp), q.bl sf⟩
  · cases e
theorem callm_sum : CallM K (rSum K) dSum := by
  intro Φ H xs ds val Q sf rs e q
  unfold dSum at e
  split at e
  · rename_i ds
    cases h : intAll ds with
    | none => rw [h] at e; cases e
    | some bs =>
      rw [h] at e; cases e
      obtain ⟨v, rfl, r⟩ := rs.one
      obtain ⟨p, vs, rfl, hp, rr⟩ := r.lsts sf
      exact ⟨p, bs, rfl, .inl (by rw [← intAll_ok rr h]; exact hp), q.int sf⟩
  · cases e

/-! list(..), tuple(..) -/
def rListOf (K : PySem.W.Frag) : List V → Hp → VK → Prop := fun xs H Q => ∃ p ys, xs = [.ref p] ∧ (SqL K H p ys ∨ SqT K H p ys) ∧ ∀ l, H l = none → Q (.ref l) (upd H l (.lst ys))
def rTupOf (K : PySem.W.Frag) : List V → Hp → VK → Prop := fun xs H Q => ∃ p ys, xs = [.ref p] ∧ ((SqL K H p ys ∧ ∀ l, H l = none → Q (.ref l) (upd H l (.tup ys))) ∨ (SqT K H p ys ∧ Q (.ref p) H))
theorem call_listOf : CallR X (.type "list") (rListOf X.K) := call_list_of
theorem call_tupOf : CallR X (.type "tuple") (rTupOf X.K) := call_tuple_of
def dList : List D → Option Val
  | [.lst ds] => some (.own (.lst ds))
  | [.tup ds] => some (.own (.lst ds))
  | _ => none
def dTuple : List D → Option Val
  | [.lst ds] => some (.imm (.tup ds))
  | [.tup ds] => some (.imm (.tup ds))
  | _ => none
theorem callm_list : CallM K (rListOf K) dList := by
  intro Φ H xs ds val Q sf rs e q
  unfold dList at e
  split at e
  · cases e
    obtain ⟨v, rfl, r⟩ := rs.one
    obtain ⟨p, vs, rfl, hp, rr⟩ := r.lsts sf
    exact ⟨p, vs, rfl, .inl (.inl hp), fun l hl => q.lst sf rr hl⟩
  · cases e
    obtain ⟨v, rfl, r⟩ := rs.one
    obtain ⟨p, vs, rfl, hp, rr⟩ := r.tup sf
    exact ⟨p, vs, rfl, .inr hp, fun l hl => q.lst sf rr hl⟩
  · cases e
theorem callm_tuple : CallM K (rTupOf K) dTuple := by
  intro Φ H xs ds val Q sf rs e q
  unfold dTuple at e
  split at e
  · cases e
    obtain ⟨v, rfl, r⟩ := rs.one
    obtain ⟨p, vs, rfl, hp, rr⟩ := r.lsts sf
    exact ⟨p, vs, rfl, .inl ⟨.inl hp, fun l hl => q.tup sf rr hl⟩⟩
  · cases e
    obtain ⟨v, rfl, r⟩ := rs.one
    have fr := r.tupF
    obtain ⟨p, vs, rfl, hp, rr⟩ := r.tup sf
    exact ⟨p, vs, rfl, .inr ⟨hp, q.old sf fr⟩⟩
  · cases e

/-! numbers -/
def rAbs : List V → Hp → VK → Prop := fun xs H Q => ∃ i, xs = [.int i] ∧ Q (.int (if i < 0 then -i else i)) H
def rMax2 : List V → Hp → VK → Prop := fun xs H Q => ∃ i j, xs = [.int i, .int j] ∧ Q (.int (if j > i then j else i)) H
def rMin2 : List V → Hp → VK → Prop := fun xs H Q => ∃ i j, xs = [.int i, .int j] ∧ Q (.int (if j < i then j else i)) H
def rInt1 : List V → Hp → VK → Prop := fun xs H Q => (∃ i, xs = [.int i] ∧ Q (.int i) H) ∨ ∃ k, xs = [.bl k] ∧ Q (.int (if k then 1 else 0)) H
theorem call_absZ : CallR X (.builtin "abs") rAbs := call_abs
theorem call_max2Z (hc : X.calm = true) : CallR X (.builtin "max") rMax2 := call_max2 hc
theorem call_min2Z (hc : X.calm = true) : CallR X (.builtin "min") rMin2 := call_min2 hc
theorem call_intZ : CallR X (.type "int") rInt1 := call_int1
def dAbs : List D → Option Val
  | [.int i] => some (.imm (.int (if i < 0 then -i else i)))
  | _ => none
def dMax2 : List D → Option Val
  | [.int i, .int j] => some (.imm (.int (if j > i then j else i)))
  | _ => none
def dMin2 : List D → Option Val
  | [.int i, .int j] => some (.imm (.int (if j < i then j else i)))
  | _ => none
def dInt : List D → Option Val
  | [.int i] => some (.imm (.int i))
  | [.bl k] => some (.imm (.int (if k then 1 else 0)))
  | _ => none
theorem callm_abs : CallM K rAbs dAbs := by
  intro Φ H xs ds val Q sf rs e q
  unfold dAbs at e
  split at e
  · cases e
    obtain ⟨v, rfl, r⟩ := rs.one
    have := r.int; subst this
    exact ⟨_, rfl, q.int sf⟩
  · cases e
theorem callm_max2 : CallM K rMax2 dMax2 := by
  intro Φ H xs ds val Q sf rs e q
  unfold dMax2 at e
  split at e
  · cases e
    obtain ⟨v, w, rfl, r, r2⟩ := rs.two
    have := r.int; subst this
    have := r2.int; subst this
    exact ⟨_, _, rfl, q.int sf⟩
  · cases e
theorem callm_min2 : CallM K rMin2 dMin2 := by
  intro Φ H xs ds val Q sf rs e q
  unfold dMin2 at e
  split at e
  · cases e
    obtain ⟨v, w, rfl, r, r2⟩ := rs.two
    have := r.int; subst this
    have := r2.int; subst this
    exact ⟨_, _, rfl, q.int sf⟩
  · cases e
theorem callm_int : CallM K rInt1 dInt := by
  intro Φ H xs ds val Q sf rs e q
  unfold dInt at e
  split at e
  · cases e
    obtain ⟨v, rfl, r⟩ := rs.one
    have := r.int; subst this
    exact .inl ⟨_, rfl, q.int sf⟩
  · cases e
    obtain ⟨v, rfl, r⟩ := rs.one
    have := r.bl; subst this
    exact .inr ⟨_, rfl, q.int sf⟩
  · cases e

/-! sorted, of texts or of numbers -/
def rSortT (K : PySem.W.Frag) : List V → Hp → VK → Prop := fun vs H Q => ∃ (a : Addr) (xs : List Str), vs = [V.ref a] ∧ SqL K H a (xs.map V.str) ∧ xs.length ≤ sizeLine ∧
  ∀ p : Addr, H p = none → Q (.ref p) (upd H p (.lst ((sortT xs).map V.str)))
def rSortN (K : PySem.W.Frag) : List V → Hp → VK → Prop := fun vs H Q => ∃ (a : Addr) (xs : List Int), vs = [V.ref a] ∧ SqL K H a (xs.map V.int) ∧ xs.length < 64 ∧
  ∀ p : Addr, H p = none → Q (.ref p) (upd H p (.lst ((sortI xs).map V.int)))
theorem sortT_length (xs : List Str) : (sortT xs).length = xs.length := (List.mergeSort_perm xs leS).length_eq
theorem cr_sortT : CallR X (.builtin "sorted") (rSortT X.K) := by
  intro pins s σ H vs us Q I r h
  obtain ⟨a, xs, rfl, hs, hz, q⟩ := h
  obtain ⟨its, rv, hl, _⟩ := I.list hs
  rw [Vals.ref1 r]
  have hlen0 := rv.length
  rw [List.length_map] at hlen0
  refine sorted_strsAny hl.isList rv.strs (by rw [← hlen0]; exact hz) fun out ys h1 h2 h3 => ?_
  obtain ⟨ep, he'⟩ := sortedAll_at s.heap its out
  have e := sortT_eq h2 h3
  subst e
  have hlen : ((sortT xs).map V.str).length ≤ sizeLine := by rw [List.length_map, sortT_length]; exact hz
  have J := I.laid (t' := s.toks) (o := .lst ((sortT xs).map V.str)) (fun _ _ => sortedAll_old) (Nat.le_succ _) ⟨hlen, out.toList, ep, vals_of_strs h1, he'⟩
  exact ⟨.ref _, _, J, rfl, q _ (I.hok.fresh (Nat.le_succ _))⟩
theorem cr_sortN : CallR X (.builtin "sorted") (rSortN X.K) := by
  intro pins s σ H vs us Q I r h
  obtain ⟨a, xs, e, hs, hz, q⟩ := h
  exact cr_sorted pins s σ H vs us Q I r ⟨a, xs, e, hs, hz, fun ys p h1 h2 h3 => by rw [sortI_eq h1 h2]; exact q p h3⟩
def rSortU (K : PySem.W.Frag) : List V → Hp → VK → Prop := fun vs H Q => rSortT K vs H Q ∨ rSortN K vs H Q
theorem cr_sortU : CallR X (.builtin "sorted") (rSortU X.K) := cr_sortT.or cr_sortN
def dSorted : List D → Option Val
  | [.lst ds] => match strAll ds with
    | some xs => if xs.length ≤ sizeLine then some (.own (.lst ((sortT xs).map D.str))) else none
    | none => match intAll ds with
      | some xs => if xs.length < 64 then some (.own (.lst ((sortI xs).map D.int))) else none
      | none => none
  | _ => none
theorem callm_sorted : CallM K (rSortU K) dSorted := by
  intro Φ H xs ds val Q sf rs e q
  unfold dSorted at e
  split at e
  · rename_i ds
    obtain ⟨v, rfl, r⟩ := rs.one
    obtain ⟨p, vs, rfl, hp, rr⟩ := r.lsts sf
    split at e
    · rename_i ys hy
      split at e
      · rename_i hz
        cases e
        have := strAll_ok rr hy
        subst this
        exact .inl ⟨p, ys, rfl, .inl hp, hz, fun l hl => q.lst sf (rfs_str _) hl⟩
      · cases e
    · split at e
      · rename_i ys hy
        split at e
        · rename_i hz
          cases e
          have := intAll_ok rr hy
          subst this
          exact .inr ⟨p, ys, rfl, .inl hp, hz, fun l hl => q.lst sf (rfs_int _) hl⟩
        · cases e
      · cases e
  · cases e
end
end Z

/-! Z13: what is owned is written: methods, items. -/
namespace Z
open PySem L2
def Sl.put : Sl → D → Sl
  | .own _, d => .own d
  | .mrf _, d => .mrf d
  | s, _ => s
theorem Sl.put_isM (s : Sl) (d : D) : (s.put d).isM = s.isM := by cases s <;> rfl
section
variable {K : PySem.W.Frag} {W : St → XK} {Φ Φ' Ψ H H' : Hp} {Ms : List (Nat × Addr)} {ρ ρ' : Env} {σ : St} {X : Cx} {Q : VK}
theorem Sub.updO {a : Addr} {o : HO} (s : Sub Φ H) (n : Φ a = Option.none) : Sub Φ (upd H a o) := fun b u e => by
  have ne : b ≠ a := fun z => by subst z; rw [n] at e; cases e
  rw [upd_ne ne]
  exact s b u e
theorem own_putE {i : Nat} {s : Sl} {d : D} (hi : ρ[i]? = some (some s)) {a : Addr} (o : Own (ρ.set i (some (s.put d))) σ a) : Own ρ σ a := by
  obtain ⟨j, t, e, m, es⟩ := o
  by_cases z : j = i
  · subst z
    rw [get_set_self hi] at e
    cases e
    exact ⟨j, s, hi, by rw [Sl.put_isM] at m; exact m, es⟩
  · rw [List.getElem?_set_ne (Ne.symm z)] at e
    exact ⟨j, t, e, m, es⟩
theorem Rel.mut {i : Nat} {s : Sl} {a : Addr} {o : HO} {d : D} (R : Rel K Φ Ψ Ms ρ σ H) (hi : ρ[i]? = some (some s)) (hm : s.isM = true) (hσ : σ[i]? = some (some (.ref a))) (na : Φ a = none) (nb : Ψ a = none)
    (rm : RM K Φ (upd H a o) a d) : Rel K Φ Ψ Ms (ρ.set i (some (s.put d))) σ (upd H a o) where
  len := by rw [List.length_set]; exact R.len
  sf := R.sf.updO na
  sb := R.sb.updO nb
  ms := fun j b m => by
    obtain ⟨e1, d2, e2⟩ := R.ms j b m
    refine ⟨e1, ?_⟩
    by_cases z : j = i
    · subst z
      rw [hi] at e2
      cases e2
      exact ⟨d, get_set_self hi⟩
    · exact ⟨d2, by rw [List.getElem?_set_ne (Ne.symm z)]; exact e2⟩
  sl := fun j t e => by
    by_cases z : j = i
    · subst z
      rw [get_set_self hi] at e
      cases e
      obtain ⟨v, ev, r⟩ := R.sl j s hi
      rw [hσ] at ev
      cases ev
      refine ⟨_, hσ, ?_⟩
      cases s with
      | imm x => cases hm
      | bor x => cases hm
      | own x => obtain ⟨b, eb, _, n1, n2, n3⟩ := r; cases eb; exact ⟨a, rfl, rm, n1, n2, n3⟩
      | mrf x => obtain ⟨b, eb, _, n1, n2, n3⟩ := r; cases eb; exact ⟨a, rfl, rm, n1, n2, n3⟩
    · rw [List.getElem?_set_ne (Ne.symm z)] at e
      obtain ⟨v, ev, r⟩ := R.sl j t e
      refine ⟨v, ev, ?_⟩
      have ne : ∀ b, v = .ref b → t.isM = true → b ≠ a := fun b eb mt q => by
        subst eb q
        exact R.dis j i t s b z e hi mt hm ev hσ
      cases t with
      | imm x => exact r
      | bor x => exact r
      | own x => obtain ⟨b, eb, r1, n1, n2, n3⟩ := r; exact ⟨b, eb, r1.move (Ext.refl _) (fun u hu => by rw [upd_ne (ne b eb rfl)]; exact hu), n1, n2, n3⟩
      | mrf x => obtain ⟨b, eb, r1, n1, n2, n3⟩ := r; exact ⟨b, eb, r1.move (Ext.refl _) (fun u hu => by rw [upd_ne (ne b eb rfl)]; exact hu), n1, n2, n3⟩
  dis := fun j k t u b ne ej ek mt mu ea eb => by
    have get : ∀ {j : Nat} {t : Sl}, (ρ.set i (some (s.put d)))[j]? = some (some t) → t.isM = true → ∃ t', ρ[j]? = some (some t') ∧ t'.isM = true := fun {j t} e m => by
      by_cases z : j = i
      · subst z
        exact ⟨s, hi, hm⟩
      · rw [List.getElem?_set_ne (Ne.symm z)] at e
        exact ⟨t, e, m⟩
    obtain ⟨t', e1, m1⟩ := get ej mt
    obtain ⟨u', e2, m2⟩ := get ek mu
    exact R.dis j k t' u' b ne e1 e2 m1 m2 ea eb
theorem Step.mut {i : Nat} {s : Sl} {a : Addr} {o : HO} {d : D} (hi : ρ[i]? = some (some s)) (hm : s.isM = true) (hσ : σ[i]? = some (some (.ref a))) : Step Φ (Own ρ σ) H Φ (Own (ρ.set i (some (s.put d))) σ) (upd H a o) where
  f1 := Ext.refl _
  f2 := fun b u e n => by
    rw [upd_ne (fun z => n (by subst z; exact ⟨i, s, hi, hm, hσ⟩))]
    exact e
  f3 := fun b u e => .inl e
  f4 := fun b e => .inl (own_putE hi e)
  f5 := fun b e z => by
    by_cases q : b = a
    · subst q; rw [upd_same] at z; cases z
    · rw [upd_ne q] at z; exact e z
/-- the slot is written -/
def mutS (i : Nat) (f : D → List D → Option (D × D)) (ds : List D) : M Val := fun ρ => match ρ[i]? with
  | some (some s) => if s.isM = true then match f s.d ds with
      | some (d', e) => some (.ok (.imm e), ρ.set i (some (s.put d')))
      | none => none
    else none
  | _ => none
def isT (T : String) : D → Bool
  | .lst _ => T == "list"
  | .dct _ => T == "dict"
  | .dtt _ => T == "dict"
  | _ => false
def isSl (i : Nat) (T : String) : M Unit := fun ρ => match ρ[i]? with
  | some (some s) => if s.isM = true ∧ isT T s.d = true then some (.ok (), ρ) else none
  | _ => none
def xMut (T : String) (i : Nat) (f : D → List D → Option (D × D)) (ms : List (M Val)) : M Val := bnd (isSl i T) fun _ => bnd (xArgs ms) fun vals => bnd (shares vals) fun ds => mutS i f ds
def MutM (K : PySem.W.Frag) (r : V → List V → Hp → VK → Prop) (f : D → List D → Option (D × D)) : Prop :=
  ∀ (Φ H : Hp) (a : Addr) (d : D) (vs : List V) (ds : List D) (d' e : D) (Q : VK), Sub Φ H → RM K Φ H a d → RFs K Φ vs ds → f d ds = some (d', e) →
    (∀ v o, RM K Φ (upd H a o) a d' → RF K Φ v e → Q v (upd H a o)) → r (.ref a) vs H Q
theorem Rel.ofM {i : Nat} {s : Sl} (R : Rel K Φ Ψ Ms ρ σ H) (hi : ρ[i]? = some (some s)) (hm : s.isM = true) : ∃ a, σ[i]? = some (some (.ref a)) ∧ RM K Φ H a s.d ∧ Φ a = none ∧ Ψ a = none := by
  obtain ⟨v, ev, r⟩ := R.sl i s hi
  cases s with
  | imm x => cases hm
  | bor x => cases hm
  | own x => obtain ⟨b, eb, r1, n1, n2, _⟩ := r; subst eb; exact ⟨b, ev, r1, n1, n2⟩
  | mrf x => obtain ⟨b, eb, r1, n1, n2, _⟩ := r; subst eb; exact ⟨b, ev, r1, n1, n2⟩
theorem mutS_ok {i : Nat} {f : D → List D → Option (D × D)} {vs : List V} {ds : List D} {x : V} {Q : VK} {H0 : Hp} {r : V → List V → Hp → VK → Prop} (mm : MutM K r f) (R : Rel K Φ Ψ Ms ρ σ H) (rf : RFs K Φ vs ds) (ex : σ[i]? = some (some x))
    (h : PostG K Ψ Ms σ (W σ) Φ ρ H (gV K σ H0 Q) (mutS i f ds ρ)) : r x vs H Q := by
  unfold mutS at h
  cases q : ρ[i]? with
  | none => rw [q] at h; exact h.elim
  | some y =>
    cases y with
    | none => rw [q] at h; exact h.elim
    | some s =>
      rw [q] at h
      simp only at h
      by_cases hm : s.isM = true
      · rw [if_pos hm] at h
        cases ef : f s.d ds with
        | none => rw [ef] at h; exact h.elim
        | some p =>
          obtain ⟨d', e⟩ := p
          rw [ef] at h
          obtain ⟨a, e1, rm, n1, n2⟩ := R.ofM q hm
          rw [ex] at e1
          cases e1
          refine mm Φ H a s.d vs ds d' e Q R.sf rm rf ef fun v o rm' re => ?_
          exact h Φ _ (R.mut q hm ex n1 n2 rm') (Step.mut q hm ex) v re
      · rw [if_neg hm] at h; exact h.elim
theorem evm_bm {T : String} {r : V → List V → Hp → VK → Prop} {f : D → List D → Option (D × D)} {i : Nat} {ta : TA} {ms : List (M Val)} (mm : MutM K r f) (ha : EvA K W ta (xArgs ms)) : EvM K W (tBM K T r (tVar i) ta) (xMut T i f ms) := by
  intro Φ Ψ Ms ρ σ H Q R h
  unfold xMut Z.bnd isSl at h
  cases q : ρ[i]? with
  | none => rw [q] at h; exact h.elim
  | some y =>
    cases y with
    | none => rw [q] at h; exact h.elim
    | some s =>
      rw [q] at h
      simp only at h
      by_cases hc : s.isM = true ∧ isT T s.d = true
      · rw [if_pos hc] at h
        obtain ⟨a, e1, rm, n1, n2⟩ := R.ofM q hc.1
        refine ⟨_, e1, ?_, ?_⟩
        · revert rm
          have ht := hc.2
          revert ht
          generalize s.d = dd
          intro ht rm
          cases rm with
          | lst h1 r1 => exact .inl ⟨by simpa [isT] using ht, _, .inl (.inl h1)⟩
          | dct h1 r1 => exact .inr (.inr (.inl ⟨by simpa [isT] using ht, .inl ⟨_, h1⟩⟩))
          | dtt h1 r1 => exact .inr (.inr (.inl ⟨by simpa [isT] using ht, .inr ⟨_, h1⟩⟩))
          | ins h1 r1 => cases ht
        · exact ha.kept R h fun ds Φ1 ρ1 H1 vs R1 s1 rf hl h => mutS_ok mm R1 rf e1 h
      · rw [if_neg hc] at h; exact h.elim

/-! list methods -/
def fAppend : D → List D → Option (D × D)
  | .lst xs, [x] => if xs.length < sizeLine then some (.lst (xs ++ [x]), .non) else none
  | _, _ => none
def fPopAt : D → List D → Option (D × D)
  | .lst xs, [.int i] => if -(2 ^ 63) ≤ i ∧ i < 2 ^ 63 then (seqIndex? i xs.length).bind fun k => (xs[k]?).map fun x => (.lst (xs.eraseIdx k), x) else none
  | _, _ => none
theorem mutm_append : MutM K rAppend fAppend := by
  intro Φ H a d vs ds d' e Q sf rm rf ef q
  unfold fAppend at ef
  split at ef
  · rename_i xs x
    split at ef
    · rename_i hz
      cases ef
      cases rm with
      | @lst ws _ h1 r1 =>
        cases rf with
        | cons r t =>
          cases t
          exact ⟨a, ws, _, rfl, rfl, h1, by rw [r1.length]; exact hz, q _ _ (.lst upd_same (r1.app (.cons r .nil))) .non⟩
    · cases ef
  · cases ef
theorem mutm_popAt : MutM K rPopAt fPopAt := by
  intro Φ H a d vs ds d' e Q sf rm rf ef q
  unfold fPopAt at ef
  split at ef
  · rename_i xs i
    split at ef
    · rename_i hz
      cases hk : seqIndex? i xs.length with
      | none => rw [hk] at ef; cases ef
      | some k =>
        rw [hk] at ef
        simp only [Option.bind_some] at ef
        cases hx : xs[k]? with
        | none => rw [hx] at ef; cases ef
        | some x =>
          rw [hx] at ef
          cases ef
          cases rm with
          | @lst ws _ h1 r1 =>
            cases rf with
            | cons r t =>
              cases t
              cases r
              obtain ⟨v, hv, rv⟩ := r1.get hx
              exact ⟨a, ws, i, k, v, rfl, rfl, h1, hz.1, hz.2, by rw [r1.length]; exact hk, hv, q _ _ (.lst upd_same (r1.erase k)) rv⟩
    · cases ef
  · cases ef

/-! ### o[k] = v -/
def putD (kvs : List (D × D)) (k : Key) (kd d : D) : List (D × D) := if (lookD kvs k).isSome = true then kvs.map (fun p => if keyOf p.1 = some k then (p.1, d) else p) else kvs ++ [(kd, d)]
theorem RFk.any {k : Key} : ∀ {vs : List (Key × V)} {ds : List (D × D)}, RFk K Φ vs ds → (vs.any fun kv => decide (kv.1 = k)) = (lookD ds k).isSome
  | _, _, .nil => rfl
  | _, _, .cons (k := k1) (ks := ks) (kvs := ds) e r t => by
    unfold lookD
    rw [List.any_cons, RFk.any t]
    by_cases h : k1 = k
    · subst h; rw [if_pos e]; simp
    · rw [if_neg (by rw [e]; exact fun z => h (Option.some.inj z))]; simp [h]
theorem RFk.app {ws : List (Key × V)} : ∀ {vs : List (Key × V)} {ds : List (D × D)} {es : List (D × D)}, RFk K Φ vs ds → RFk K Φ ws es → RFk K Φ (vs ++ ws) (ds ++ es)
  | _, _, _, .nil, h => h
  | _, _, _, .cons e r t, h => .cons e r (RFk.app t h)
theorem RFk.repl {k : Key} {v : V} {d : D} (q : RF K Φ v d) : ∀ {vs : List (Key × V)} {ds : List (D × D)}, RFk K Φ vs ds → RFk K Φ (vs.map fun kv => if kv.1 = k then (kv.1, v) else kv) (ds.map fun p => if keyOf p.1 = some k then (p.1, d) else p)
  | _, _, .nil => .nil
  | _, _, .cons (k := k1) e r t => by
    rw [List.map_cons, List.map_cons]
    by_cases h : k1 = k
    · subst h; rw [if_pos rfl, if_pos e]; exact .cons e q (RFk.repl q t)
    · rw [if_neg h, if_neg (by rw [e]; exact fun z => h (Option.some.inj z))]; exact .cons e r (RFk.repl q t)
theorem RFk.put {k : Key} {kd d : D} {v : V} {vs : List (Key × V)} {ds : List (D × D)} (r : RFk K Φ vs ds) (e : keyOf kd = some k) (q : RF K Φ v d) : RFk K Φ (putK vs k v) (putD ds k kd d) := by
  unfold putK putD
  rw [r.any (k := k)]
  cases h : (lookD ds k).isSome with
  | true => simp only [if_true]; exact r.repl q
  | false => simp only [Bool.false_eq_true, if_false]; exact RFk.app r (.cons e q .nil)
def putTD (kvs : List (D × D)) (k : List Key) (kd d : D) : List (D × D) := if (lookTD kvs k).isSome = true then kvs.map (fun p => if keyT p.1 = some k then (p.1, d) else p) else kvs ++ [(kd, d)]
theorem RFt.any {k : List Key} : ∀ {vs : List (List Key × V)} {ds : List (D × D)}, RFt K Φ vs ds → (vs.any fun kv => decide (kv.1 = k)) = (lookTD ds k).isSome
  | _, _, .nil => rfl
  | _, _, .cons (k := k1) (ks := ks) (kvs := ds) e r t => by
    unfold lookTD
    rw [List.any_cons, RFt.any t]
    by_cases h : k1 = k
    · subst h; rw [if_pos e]; simp
    · rw [if_neg (by rw [e]; exact fun z => h (Option.some.inj z))]; simp [h]
theorem RFt.app {ws : List (List Key × V)} : ∀ {vs : List (List Key × V)} {ds : List (D × D)} {es : List (D × D)}, RFt K Φ vs ds → RFt K Φ ws es → RFt K Φ (vs ++ ws) (ds ++ es)
  | _, _, _, .nil, h => h
  | _, _, _, .cons e r t, h => .cons e r (RFt.app t h)
theorem RFt.repl {k : List Key} {v : V} {d : D} (q : RF K Φ v d) : ∀ {vs : List (List Key × V)} {ds : List (D × D)}, RFt K Φ vs ds → RFt K Φ (vs.map fun kv => if kv.1 = k then (kv.1, v) else kv) (ds.map fun p => if keyT p.1 = some k then (p.1, d) else p)
  | _, _, .nil => .nil
  | _, _, .cons (k := k1) e r t => by
    rw [List.map_cons, List.map_cons]
    by_cases h : k1 = k
    · subst h; rw [if_pos rfl, if_pos e]; exact .cons e q (RFt.repl q t)
    · rw [if_neg h, if_neg (by rw [e]; exact fun z => h (Option.some.inj z))]; exact .cons e r (RFt.repl q t)
theorem RFt.put {k : List Key} {kd d : D} {v : V} {vs : List (List Key × V)} {ds : List (D × D)} (r : RFt K Φ vs ds) (e : keyT kd = some k) (q : RF K Φ v d) : RFt K Φ (putK vs k v) (putTD ds k kd d) := by
  unfold putK putTD
  rw [r.any (k := k)]
  cases h : (lookTD ds k).isSome with
  | true => simp only [if_true]; exact r.repl q
  | false => simp only [Bool.false_eq_true, if_false]; exact RFt.app r (.cons e q .nil)
def fSet : D → D → D → Option D
  | .lst xs, .int i, d => (ixN xs.length i).map fun j => .lst (xs.set j d)
  | .dct kvs, k, d => (keyOf k).bind fun kk => if kvs.length < sizeLine then some (.dct (putD kvs kk k d)) else none
  | .dtt kvs, k, d => (keyTn k).bind fun kk => if kvs.length < sizeLine then some (.dtt (putTD kvs kk k d)) else none
  | _, _, _ => none
def rSetU : TSet := fun o i v H Q => rSetL o i v H Q ∨ rSetD o i v H Q
theorem set_U (hu : X.A.units + 1 < cLine) : PSet X rSetU := by
  intro pins s σ H o i v ov iv u Q I ro ri rv h
  rcases h with h | h
  · exact set_list pins s σ H o i v ov iv u Q I ro ri rv h
  · exact set_dict hu pins s σ H o i v ov iv u Q I ro ri rv h
theorem fSet_ok {a : Addr} {d d' kd e : D} {i v : V} {G : Hp → Prop} (sf : Sub Φ H) (rm : RM K Φ H a d) (ri : R1 K Φ H i kd) (rv : RF K Φ v e) (ef : fSet d kd e = some d') (q : ∀ o, RM K Φ (upd H a o) a d' → G (upd H a o)) : rSetU (.ref a) i v H G := by
  unfold fSet at ef
  split at ef
  · rename_i xs k
    cases hj : ixN xs.length k with
    | none => rw [hj] at ef; cases ef
    | some j =>
      rw [hj] at ef
      cases ef
      cases rm with
      | @lst ws _ h1 r1 =>
        exact .inl ⟨a, ws, k, j, rfl, ri.int, h1, by rw [r1.length]; exact hj, q _ (.lst upd_same (r1.set rv j))⟩
  · rename_i kvs
    cases hk : keyOf kd with
    | none => rw [hk] at ef; cases ef
    | some kk =>
      rw [hk] at ef
      simp only [Option.bind_some] at ef
      split at ef
      · rename_i hz
        cases ef
        cases rm with
        | @dct ws _ h1 r1 =>
          have e3 := keyOf_kV ri hk
          subst e3
          exact .inr ⟨a, _, rfl, .k h1 (by rw [r1.length]; exact hz), q _ (.dct upd_same (r1.put hk rv))⟩
      · cases ef
  · rename_i kvs
    cases hk : keyTn kd with
    | none => rw [hk] at ef; cases ef
    | some kk =>
      rw [hk] at ef
      simp only [Option.bind_some] at ef
      split at ef
      · rename_i hz
        cases ef
        cases rm with
        | @dtt ws _ h1 r1 =>
          obtain ⟨b, rfl, hb, _⟩ := keyT_at sf ri hk
          exact .inr ⟨a, _, rfl, .t h1 hb (by rw [r1.length]; exact hz), q _ (.dtt upd_same (r1.put (keyTn_ok hk).1 rv))⟩
      · cases ef
  · cases ef
def isM (i : Nat) : M Unit := fun ρ => match ρ[i]? with
  | some (some s) => if s.isM = true then some (.ok (), ρ) else none
  | _ => none
def sPut (i : Nat) (mi mv : M Val) : M Fl := bnd mv fun v => bnd (share v) fun d => bnd (isM i) fun _ => bnd mi fun w => fun ρ => match cont ρ w with
  | some k => match ρ[i]? with
    | some (some s) => if s.isM = true then match fSet s.d k d with
        | some d' => some (.ok .nx, ρ.set i (some (s.put d')))
        | none => none
      else none
    | _ => none
  | none => none
theorem evs_put {i : Nat} {te ti : TE} {mi mv : M Val} (hv : EvM K W te mv) (hi : EvM K W ti mi) : EvS K W (tAsg te (gSub (tVar i) ti rSetU)) (sPut i mi mv) := fun Φ Ψ Ms ρ σ H Dn R h => by
  refine hv.thenS R h fun val Φ1 ρ1 H1 v R1 s1 r1 h => ?_
  unfold Z.bnd at h
  cases e : share val ρ1 with
  | none => rw [e] at h; exact h.elim
  | some p =>
    obtain ⟨d, Φ2, e1, R2, s2, rf, x2⟩ := share_ok R1 s1 r1 e
    rw [e, e1] at h
    simp only at h
    unfold isM at h
    cases q : p.2[i]? with
    | none => rw [q] at h; exact h.elim
    | some y =>
      cases y with
      | none => rw [q] at h; exact h.elim
      | some s =>
        rw [q] at h
        simp only at h
        by_cases hm : s.isM = true
        · rw [if_pos hm] at h
          obtain ⟨a, ea, _⟩ := R2.ofM q hm
          refine ⟨_, ea, ?_⟩
          have h' := PostS.from_ s2 h
          refine hi.thenS R2 h' fun wal Φ3 ρ3 H3 w R3 s3 r3 h => ?_
          cases ew : cont ρ3 wal with
          | none => rw [ew] at h; exact h.elim
          | some k =>
            rw [ew] at h
            simp only at h
            cases q3 : ρ3[i]? with
            | none => rw [q3] at h; exact h.elim
            | some y =>
              cases y with
              | none => rw [q3] at h; exact h.elim
              | some t =>
                rw [q3] at h
                simp only at h
                by_cases ht : t.isM = true
                · rw [if_pos ht] at h
                  cases ef : fSet t.d k d with
                  | none => rw [ef] at h; exact h.elim
                  | some d' =>
                    rw [ef] at h
                    obtain ⟨b, eb, rm, n1, n2⟩ := R3.ofM q3 ht
                    rw [ea] at eb
                    cases eb
                    refine fSet_ok R3.sf rm (r3.read R3 ew) (rf.mono s3.f1) ef fun o rm' => ?_
                    exact h Φ3 σ _ (R3.mut q3 ht ea n1 n2 rm') (s3.trans (Step.mut q3 ht ea))
                · rw [if_neg ht] at h; exact h.elim
        · rw [if_neg hm] at h; exact h.elim
end
end Z

/-! Z14: repr. -/
namespace Z
open PySem L2
/-- the table of loaded modules stands among the written things: it is no list -/
def smB (K : PySem.W.Frag) : Bool := match K.lookup sysModules with
  | some o => decide (o.cls = .type "dict")
  | none => false
theorem smB_not {K : PySem.W.Frag} {h : Heap} {a : Addr} {o : Obj} (sm : smB K = true) (X : K.In h) (e : h.get? a = some o) (c : o.cls = .type "list") (z : sysModules = a) : False := by
  unfold smB at sm
  split at sm
  · rename_i u q
    have q2 := X _ _ q
    rw [z, e] at q2
    cases q2
    have := of_decide_eq_true sm
    rw [c] at this
    exact absurd this (by decide)
  · cases sm
section
variable {K : PySem.W.Frag} {Φ H : Hp} {X : Cx} {Q : VK} {pins : List (Addr × Obj)} {σ : L2.St} {s : Shared}
theorem key_reads {k : Key} {kd : D} {u : Value} {p : PyData} (e : keyOf kd = some k) (is : keyIs k u = true) (ep : kd.py = some p) : Reads s.heap u p [] := by
  rcases keyIs_shape is with ⟨i, t, rfl, rfl⟩ | ⟨x, t, rfl, rfl⟩
  · cases kd <;> simp only [keyOf] at e <;> cases e
    simp only [D.py] at ep; cases ep
    exact .int _ _
  · cases kd <;> simp only [keyOf] at e <;> cases e
    simp only [D.py] at ep; cases ep
    exact .str _ _
theorem keys_reads : ∀ {ds : List D} {ks : List Key} {us : List Value} {ps : List PyData}, keysOf ds = some ks → Vals (ks.map kV) us → pys ds = some ps → ReadsAll s.heap us ps []
  | [], ks, us, ps, e, r, ep => by
    cases e; cases r; simp only [pys] at ep; cases ep; exact .nil
  | d :: ds, ks, us, ps, e, r, ep => by
    unfold keysOf at e
    cases q : keyOf d with
    | none => simp only [q] at e; cases e
    | some k =>
      cases q2 : keysOf ds with
      | none => simp only [q, q2] at e; cases e
      | some ks2 =>
        simp only [q, q2] at e; cases e
        cases r with
        | @cons _ u0 _ _ r1 r2 =>
          simp only [pys] at ep
          cases q3 : d.py with
          | none => rw [q3] at ep; cases ep
          | some p =>
            cases q4 : pys ds with
            | none => rw [q3, q4] at ep; cases ep
            | some ps2 =>
              rw [q3, q4] at ep; cases ep
              have is : keyIs k u0 = true := by
                cases k with
                | inl i => obtain ⟨t, rfl⟩ := r1; exact keyIs_int i t
                | inr x => obtain ⟨t, rfl⟩ := r1; exact keyIs_str x t
              exact .cons (as := []) (key_reads q is q3) (keys_reads q2 r2 q4)
mutual
theorem rf_reads (I : Inv X pins σ H s) (sf : Sub Φ H) : ∀ {v : V} {d : D} {u : Value} {p : PyData}, RF X.K Φ v d → RelV v u → d.py = some p → ∃ as, Reads s.heap u p as ∧ (smB X.K = true → sysModules ∉ as)
  | _, _, _, _, .non, r, e => by cases r; simp only [D.py] at e; cases e; exact ⟨_, .none, fun _ => nofun⟩
  | _, _, _, _, .bl b, r, e => by cases r; simp only [D.py] at e; cases e; exact ⟨_, .bool _, fun _ => nofun⟩
  | _, _, _, _, .int b, r, e => by obtain ⟨t, rfl⟩ := r; simp only [D.py] at e; cases e; exact ⟨_, .int _ _, fun _ => nofun⟩
  | _, _, _, _, .str b, r, e => by obtain ⟨t, rfl⟩ := r; simp only [D.py] at e; cases e; exact ⟨_, .str _ _, fun _ => nofun⟩
  | _, _, _, _, .ty b, r, e => by simp only [D.py] at e; cases e
  | _, _, _, _, .obj b, r, e => by simp only [D.py] at e; cases e
  | _, _, _, _, .tup (ds := ds) h t, r, e => by
    cases r
    simp only [D.py] at e
    cases q : pys ds with
    | none => rw [q] at e; cases e
    | some ps =>
      rw [q] at e; cases e
      obtain ⟨its, rv, ⟨o, h1, h2, n, h3⟩, _⟩ := I.tuple (sf.sqT h.sq)
      obtain ⟨as, ra, ns⟩ := rfs_reads I sf t rv q
      exact ⟨as, .tuple h1 h2 h3 (by simpa using ra), ns⟩
  | _, _, _, _, .lst (a := a) (ds := ds) h t, r, e => by
    cases r
    simp only [D.py] at e
    cases q : pys ds with
    | none => rw [q] at e; cases e
    | some ps =>
      rw [q] at e; cases e
      obtain ⟨its, rv, ⟨o, n, h1, h2, _, h3⟩, _⟩ := I.list (.inl (sf.rd h))
      obtain ⟨as, ra, ns⟩ := rfs_reads I sf t rv q
      exact ⟨a :: as, .list h1 h2 h3 (by simpa using ra), fun z m => by
        rcases List.mem_cons.mp m with m | m
        · exact smB_not z I.kIn h1 h2 m
        · exact ns z m⟩
  | _, _, _, _, .dct (a := a) (kvs := ds) h t, r, e => by
    cases r
    simp only [D.py] at e
    cases q : pyk ds with
    | none => rw [q] at e; cases e
    | some ps =>
      rw [q] at e; cases e
      obtain ⟨_, hd, vs, rel, o, es, ep, h1, h2, h3, _, hp, _⟩ := dk_rd I.hok (sf.rd h)
      obtain ⟨as, bs, ra, rb, ns⟩ := rfk_reads I sf t rel hp q
      refine ⟨a :: as ++ bs, .dict h1 h2.1 h3 ra rb, fun z m => ?_⟩
      obtain ⟨n1, n2⟩ := ns z
      simp only [List.cons_append, List.mem_cons, List.mem_append] at m
      rcases m with m | m | m
      · rw [← m] at hd; simp at hd
      · exact n1 m
      · exact n2 m
  | _, _, _, _, .dtt (a := a) (kvs := ds) h t, r, e => by
    cases r
    simp only [D.py] at e
    cases q : pyk ds with
    | none => rw [q] at e; cases e
    | some ps =>
      rw [q] at e; cases e
      obtain ⟨_, hd, xs, rel, o, es, ep, h1, h2, h3, h4, _⟩ := (show ObjOk X.prog X.w H s.heap a (.dT _) from (sf.rd h).ok I.hok)
      obtain ⟨as, bs, ra, rb, ns⟩ := rft_reads I sf t rel q
      rw [← h4] at ra rb
      refine ⟨a :: as ++ bs, .dict h1 h2.1 h3 ra rb, fun z m => ?_⟩
      obtain ⟨n1, n2⟩ := ns z
      simp only [List.cons_append, List.mem_cons, List.mem_append] at m
      rcases m with m | m | m
      · rw [← m] at hd; simp at hd
      · exact n1 m
      · exact n2 m
  | _, _, _, _, .ins h t, r, e => by simp only [D.py] at e; cases e
theorem rfs_reads (I : Inv X pins σ H s) (sf : Sub Φ H) : ∀ {vs : List V} {ds : List D} {us : List Value} {ps : List PyData}, RFs X.K Φ vs ds → Vals vs us → pys ds = some ps → ∃ as, ReadsAll s.heap us ps as ∧ (smB X.K = true → sysModules ∉ as)
  | _, _, _, _, .nil, .nil, e => by simp only [pys] at e; cases e; exact ⟨_, .nil, fun _ => nofun⟩
  | _, _, _, _, .cons (d := d) (ds := ds) r t, .cons rv tv, e => by
    simp only [pys] at e
    cases q : d.py with
    | none => rw [q] at e; cases e
    | some p =>
      cases q2 : pys ds with
      | none => rw [q, q2] at e; cases e
      | some ps =>
        rw [q, q2] at e; cases e
        obtain ⟨as, ra, na⟩ := rf_reads I sf r rv q
        obtain ⟨bs, rb, nb⟩ := rfs_reads I sf t tv q2
        refine ⟨_, .cons ra rb, fun z m => ?_⟩
        rcases List.mem_append.mp m with m | m
        · exact na z m
        · exact nb z m
theorem rfk_reads (I : Inv X pins σ H s) (sf : Sub Φ H) : ∀ {vs : List (Key × V)} {ds : List (D × D)} {us : List (Key × Value)} {es : List DictEntry} {ps : List (PyData × PyData)}, RFk X.K Φ vs ds → KV vs us → Pairs (mixKind X.prog X.w) es us → pyk ds = some ps →
    ∃ as bs, ReadsAll s.heap (es.map (·.key)) (ps.map (·.1)) as ∧ ReadsAll s.heap (es.map (·.val)) (ps.map (·.2)) bs ∧ (smB X.K = true → sysModules ∉ as ∧ sysModules ∉ bs)
  | _, _, _, _, _, .nil, .nil, .nil, e => by simp only [pyk] at e; cases e; exact ⟨[], [], .nil, .nil, fun _ => ⟨nofun, nofun⟩⟩
  | _, _, _, _, _, .cons (kd := kd) (d := d) (kvs := ds) ek r t, .cons (b := b) rv tv, .cons is ev tp, e => by
    simp only [pyk] at e
    cases q0 : kd.py with
    | none => rw [q0] at e; cases e
    | some p0 =>
      cases q : d.py with
      | none => rw [q0, q] at e; cases e
      | some p =>
        cases q2 : pyk ds with
        | none => rw [q0, q, q2] at e; cases e
        | some ps =>
          rw [q0, q, q2] at e; cases e
          obtain ⟨rv1, rv2⟩ := rv
          simp only at rv1
          rw [← ev] at rv2
          obtain ⟨as, ra, na⟩ := rf_reads I sf r rv2 q
          obtain ⟨as', bs, rb, rc, nb⟩ := rfk_reads I sf t tv tp q2
          refine ⟨[] ++ as', as ++ bs, .cons (key_reads ek (rv1.symm ▸ is) q0) rb, .cons ra rc, fun z => ?_⟩
          obtain ⟨n1, n2⟩ := nb z
          refine ⟨by simpa using n1, fun m => ?_⟩
          rcases List.mem_append.mp m with m | m
          · exact na z m
          · exact n2 m
theorem rft_reads (I : Inv X pins σ H s) (sf : Sub Φ H) : ∀ {vs : List (List Key × V)} {ds : List (D × D)} {xs : List (List Key × Addr × Value)} {ps : List (PyData × PyData)}, RFt X.K Φ vs ds →
    Paired (fun (p : List Key × V) (q : List Key × Addr × Value) => p.1 = q.1 ∧ H q.2.1 = some (.tup (p.1.map kV)) ∧ RelV p.2 q.2.2) vs xs → pyk ds = some ps →
    ∃ as bs, ReadsAll s.heap ((xs.map (entryOfKey (tupleKind (mixKind X.prog X.w)))).map (·.key)) (ps.map (·.1)) as ∧ ReadsAll s.heap ((xs.map (entryOfKey (tupleKind (mixKind X.prog X.w)))).map (·.val)) (ps.map (·.2)) bs ∧ (smB X.K = true → sysModules ∉ as ∧ sysModules ∉ bs)
  | _, _, _, _, .nil, .nil, e => by simp only [pyk] at e; cases e; exact ⟨[], [], .nil, .nil, fun _ => ⟨nofun, nofun⟩⟩
  | _, _, _, _, .cons (kd := kd) (d := d) (kvs := ds) ek r t, .cons (b := b) rv tv, e => by
    simp only [pyk] at e
    cases q0 : kd.py with
    | none => rw [q0] at e; cases e
    | some p0 =>
      cases q : d.py with
      | none => rw [q0, q] at e; cases e
      | some p =>
        cases q2 : pyk ds with
        | none => rw [q0, q, q2] at e; cases e
        | some ps =>
          rw [q0, q, q2] at e; cases e
          obtain ⟨rv1, rv2, rv3⟩ := rv
          obtain ⟨as, ra, na⟩ := rf_reads I sf r rv3 q
          obtain ⟨as', bs, rb, rc, nb⟩ := rft_reads I sf t tv q2
          cases kd with
          | tup kds =>
            simp only [D.py] at q0
            cases q5 : pys kds with
            | none => rw [q5] at q0; cases q0
            | some kps =>
              rw [q5] at q0; cases q0
              obtain ⟨_, its, rw_, o, h1, h2, n, h3⟩ := (show ObjOk X.prog X.w H s.heap b.2.1 (.tup _) from I.hok _ _ rv2)
              have kr := keys_reads (s := s) (show keysOf kds = some _ from ek) rw_ q5
              refine ⟨[] ++ as', as ++ bs, .cons (.tuple h1 h2 h3 (by simpa using kr)) rb, .cons ra rc, fun z => ?_⟩
              obtain ⟨n1, n2⟩ := nb z
              refine ⟨by simpa using n1, fun m => ?_⟩
              rcases List.mem_append.mp m with m | m
              · exact na z m
              · exact n2 m
          | _ => cases ek
end
theorem r1_reads (I : Inv X pins σ H s) (sf : Sub Φ H) {v : V} {d : D} {u : Value} {p : PyData} (h : R1 X.K Φ H v d) (r : RelV v u) (e : d.py = some p) : ∃ as, Reads s.heap u p as ∧ (smB X.K = true → sysModules ∉ as) := by
  cases h with
  | f h => exact rf_reads I sf h r e
  | @lst a vs ds h t =>
    cases r
    simp only [D.py] at e
    cases q : pys ds with
    | none => rw [q] at e; cases e
    | some ps =>
      rw [q] at e; cases e
      obtain ⟨its, rv, ⟨o, n, h1, h2, _, h3⟩, _⟩ := I.list (.inl h)
      obtain ⟨as, ra, ns⟩ := rfs_reads I sf t rv q
      exact ⟨a :: as, .list h1 h2 h3 (by simpa using ra), fun z m => by
        rcases List.mem_cons.mp m with m | m
        · exact smB_not z I.kIn h1 h2 m
        · exact ns z m⟩
  | @dct a ks ds h t =>
    cases r
    simp only [D.py] at e
    cases q : pyk ds with
    | none => rw [q] at e; cases e
    | some ps =>
      rw [q] at e; cases e
      obtain ⟨_, hd, vs, rel, o, es, ep, h1, h2, h3, _, hp, _⟩ := dk_rd I.hok h
      obtain ⟨as, bs, ra, rb, ns⟩ := rfk_reads I sf t rel hp q
      refine ⟨a :: as ++ bs, .dict h1 h2.1 h3 ra rb, fun z m => ?_⟩
      obtain ⟨n1, n2⟩ := ns z
      simp only [List.cons_append, List.mem_cons, List.mem_append] at m
      rcases m with m | m | m
      · rw [← m] at hd; simp at hd
      · exact n1 m
      · exact n2 m
  | @dtt a ks ds h t =>
    cases r
    simp only [D.py] at e
    cases q : pyk ds with
    | none => rw [q] at e; cases e
    | some ps =>
      rw [q] at e; cases e
      obtain ⟨_, hd, xs, rel, o, es, ep, h1, h2, h3, h4, _⟩ := (show ObjOk X.prog X.w H s.heap a (.dT _) from h.ok I.hok)
      obtain ⟨as, bs, ra, rb, ns⟩ := rft_reads I sf t rel q
      rw [← h4] at ra rb
      refine ⟨a :: as ++ bs, .dict h1 h2.1 h3 ra rb, fun z m => ?_⟩
      obtain ⟨n1, n2⟩ := ns z
      simp only [List.cons_append, List.mem_cons, List.mem_append] at m
      rcases m with m | m | m
      · rw [← m] at hd; simp at hd
      · exact n1 m
      · exact n2 m
  | ins h t => simp only [D.py] at e; cases e
def smallI : D → Bool
  | .int i => decide (i.natAbs.log2 < 1920)
  | _ => true
/-- what repr shows -/
def reprS (d : D) : Option Str := match d.py with
  | some p => if p.showable = true ∧ p.depth ≤ 64 ∧ p.shown.length ≤ sizeLine ∧ smallI d = true then some p.shown else none
  | none => none
def rRepr (K : PySem.W.Frag) : List V → Hp → VK → Prop := fun xs H Q => ∃ v Φ d x, xs = [v] ∧ Sub Φ H ∧ R1 K Φ H v d ∧ reprS d = some x ∧ Q (.str x) H
theorem call_reprD (sm : smB X.K = true) (gd : X.A.guards = some []) (hu : X.A.units + 66 < cLine) : CallR X (.builtin "repr") (rRepr X.K) := by
  intro pins s σ H xs us Q I r h
  obtain ⟨v, Φ, d, x, rfl, sf, r1, e, q⟩ := h
  cases r with
  | cons rv t =>
    cases t
    rename_i u
    unfold reprS at e
    cases ep : d.py with
    | none => rw [ep] at e; cases e
    | some p =>
      rw [ep] at e
      simp only at e
      split at e
      · rename_i hc
        cases e
        obtain ⟨as, rd, ns⟩ := r1_reads I sf r1 rv ep
        have fin : ∀ (h' : Heap) (t : Tok) (tk : Nat), (∀ b o, s.heap.get? b = some o → h'.get? b = some o) → EP X pins σ Q (.str p.shown t) { s with heap := h', toks := tk } := fun h' t tk kk =>
          ⟨.str _, H, I.kept kk, ⟨_, rfl⟩, q⟩
        cases rd with
        | none => exact P.repr_of_none (fin s.heap _ _ fun _ _ z => z)
        | bool b => exact P.repr_of_bool (fin s.heap _ _ fun _ _ z => z)
        | int i t =>
          have hi : i.natAbs.log2 < 1920 := by
            have h5 := hc.2.2.2
            cases d <;> simp only [D.py] at ep <;> try (cases ep; done)
            · cases ep; simpa [smallI] using h5
            all_goals (simp only [Option.map_eq_some_iff] at ep; obtain ⟨_, _, ep⟩ := ep; cases ep)
          exact P.repr_of_int hi (fin s.heap _ _ fun _ _ z => z)
        | str y t => exact P.repr_of_str (fin s.heap _ _ fun _ _ z => z) hc.2.2.1
        | list h1 h2 h3 h4 =>
          exact repr_of_reads' (.list h1 h2 h3 h4) hc.1 (fun _ => ns sm) gd (by have := hc.2.1; omega) (fun _ _ z => z) (fun h' t tk kk => fin h' t tk kk) hc.2.2.1
        | tuple h1 h2 h3 h4 =>
          exact repr_of_reads' (.tuple h1 h2 h3 h4) hc.1 (fun _ => ns sm) gd (by have := hc.2.1; omega) (fun _ _ z => z) (fun h' t tk kk => fin h' t tk kk) hc.2.2.1
        | dict h1 h2 h3 h4 h5 =>
          exact repr_of_reads' (.dict h1 h2 h3 h4 h5) hc.1 (fun _ => ns sm) gd (by have := hc.2.1; omega) (fun _ _ z => z) (fun h' t tk kk => fin h' t tk kk) hc.2.2.1
      · cases e
def dRepr : List D → Option Val
  | [d] => (reprS d).map fun x => .imm (.str x)
  | _ => none
theorem callm_repr : CallM K (rRepr K) dRepr := by
  intro Φ H xs ds val Q sf rs e q
  unfold dRepr at e
  split at e
  · rename_i d
    cases h : reprS d with
    | none => rw [h] at e; cases e
    | some x =>
      rw [h] at e; cases e
      obtain ⟨v, rfl, r⟩ := rs.one
      exact ⟨v, Φ, d, x, rfl, sf, r, h, q.str sf⟩
  · cases e
end
end Z

/-! Z15: sorted of what is gathered: texts of a dict, of a set. -/
namespace Z
open PySem PySem.Spec PyProof.Rows
section
variable {P : Program} {w : World} {A : Around} {E : Value → Shared → Prop} {s : Shared} {a : Addr}
theorem sorted_coll {ss : List Str} {Q : Value → Shared → Prop}
    (col : ∀ {E' : Value → Shared → Prop} {G : List Value → Shared → Prop}, (∀ s1 vs ss1, (∀ b o, s.heap.get? b = some o → s1.heap.get? b = some o) → s1.gens = s.gens → s1.os = s.os → StrsAre vs ss1 → ss1.Perm ss → G vs s1) →
      wpAny (model P w) A.in1 (collect (.ref a)) G E' s) (hz : ss.length ≤ sizeLine)
    (hQ : ∀ s' p (out : Array Value) (c : Nat), (∀ b o, s.heap.get? b = some o → s'.heap.get? b = some o) → s'.gens = s.gens → s'.os = s.os → s.heap.get? p = none →
      s'.heap.get? p = some (seqObj "list" out c) → StrsAre out.toList (sortT ss) → Q (.ref p) s') : wpAny (model P w) A (call (.builtin "sorted") [.ref a]) Q E s := by
  refine Calls.call_function_entry kind_sorted plain_sorted entry_sorted (args_sorted1 _) ?_
  unfold Builtin.«sorted»
  refine wpAny_bind (m := checkCount "sorted" 1 1 _) (wpAny_pure ?_)
  refine wpAny_bind (col fun s1 vs ss1 k1 g1 o1 sa pm => ?_)
  have vl : vs.length ≤ sizeLine := by rw [sa.len_eq, pm.length_eq]; exact hz
  refine wpAny_bind (wpAny_newList ?_ vl)
  have at1 : (s1.heap.push (seqObj "list" vs.toArray 0)).get? s1.heap.objs.size = some (seqObj "list" vs.toArray 0) := Heap.get?_push_size _ rfl
  refine wpAny_bind (wpAny_holding (wpAny_call_entry slot_list_sort ⟨_, at1, rfl⟩ entry_list_sort
    (list_sort_treeKAny strKind_oneLt at1 sa.keysOf (fun v₁ v₂ rest e => keyKind_strs (by rw [← e]; exact sa)) vl fun st' hp hs => ⟨_, rfl, ?_⟩) (args_list_sort _)))
  obtain ⟨ss', h1, h2, h3⟩ := sorted_out_str sa hp hs
  obtain ⟨c, hc⟩ := sortedHeap_at (vs := vs) (out := (arrOf st').map (·.2)) at1
  refine wpAny_pure ⟨_, rfl, hQ _ s1.heap.objs.size _ c (fun b u e => ?_) g1 o1 (Option.eq_none_iff_forall_ne_some.mpr fun u e => absurd (Heap.lt_size (k1 _ u e)) (Nat.lt_irrefl _)) hc (by rw [← sortT_eq (h2.trans pm) h3]; exact h1)⟩
  have lt := Heap.lt_size (k1 b u e)
  show (sortedHeap (s1.heap.push (seqObj "list" vs.toArray 0)) s1.heap.objs.size vs _).get? b = some u
  rw [sortedHeap_old (Nat.ne_of_lt lt) (by rw [Heap.size_push]; exact Nat.lt_succ_of_lt lt)]
  exact Heap.get?_push_of_some _ (k1 b u e)
end
end Z
namespace Z
open PySem L2
section
variable {K : PySem.W.Frag} {Φ H : Hp} {X : Cx} {Q : VK} {pins : List (Addr × Obj)} {σ : L2.St} {s : Shared}
/-- the keys, all texts -/
def keyStrs : List Key → Option (List Str)
  | [] => some []
  | .inr x :: r => (keyStrs r).map (x :: ·)
  | _ => none
theorem keyStrs_map : ∀ {ks : List Key} {xs : List Str}, keyStrs ks = some xs → ks = xs.map Sum.inr
  | [], _, e => by cases e; rfl
  | .inl i :: r, _, e => by cases e
  | .inr x :: r, _, e => by
    simp only [keyStrs] at e
    cases h : keyStrs r with
    | none => rw [h] at e; cases e
    | some ys => rw [h] at e; cases e; rw [keyStrs_map h]; rfl
def rSortDk : List V → Hp → VK → Prop := fun vs H Q => ∃ (a : Addr) (kvs : List (Key × V)) (xs : List Str), vs = [V.ref a] ∧ Rd H a (.dK kvs) ∧ kvs.map (·.1) = xs.map Sum.inr ∧
  ∀ p : Addr, H p = none → Q (.ref p) (upd H p (.lst ((sortT xs).map V.str)))
theorem strs_at {ys : List Str} : ∀ {us : List Value}, us.length = ys.length → (∀ (j : Nat) (u : Value), us[j]? = some u → ∃ x t, ys[j]? = some x ∧ u = .str x t) → PyProof.Rows.StrsAre us ys := by
  induction ys with
  | nil => intro us hl _; cases us with
    | nil => exact .nil
    | cons u us => simp at hl
  | cons y ys ih =>
    intro us hl h
    cases us with
    | nil => simp at hl
    | cons u us =>
      obtain ⟨x, t, e1, e2⟩ := h 0 u rfl
      simp at e1; subst e1 e2
      exact .cons _ t (ih (by simpa using hl) fun j u hu => by
        obtain ⟨x, t, e1, e2⟩ := h (j + 1) u (by simpa using hu)
        exact ⟨x, t, by simpa using e1, e2⟩)
/-- what a sort has laid -/
theorem sorted_laid {xs : List Str} (I : Inv X pins σ H s) (hz : xs.length ≤ sizeLine) (q : ∀ p : Addr, H p = none → Q (.ref p) (upd H p (.lst ((sortT xs).map V.str)))) {s' : Shared} {p : Addr} {out : Array Value} {c : Nat}
    (k : ∀ b o, s.heap.get? b = some o → s'.heap.get? b = some o) (g : s'.gens = s.gens) (o : s'.os = s.os) (hp : s.heap.get? p = none) (hg : s'.heap.get? p = some (PyProof.Rows.seqObj "list" out c)) (sa : PyProof.Rows.StrsAre out.toList (sortT xs)) : EP X pins σ Q (.ref p) s' := by
  have hn : H p = none := I.hok.gone hp
  have hlen : ((sortT xs).map V.str).length ≤ sizeLine := by rw [List.length_map, sortT_length]; exact hz
  have J : Inv X pins σ (upd H p (.lst ((sortT xs).map V.str))) { s with heap := s'.heap, gens := s'.gens, drawn := s'.drawn, toks := s'.toks } :=
    I.call (ch := []) (Un.laidN k hp hn) (I.hok.laidN k hn ⟨hlen, out.toList, c, vals_of_strs sa, hg⟩) (by rw [g]; exact I.bare) (fun _ z => nomatch z)
  have e : s' = { s with heap := s'.heap, gens := s'.gens, drawn := s'.drawn, toks := s'.toks } := by
    cases s'; cases s; cases o; rfl
  rw [e]
  exact ⟨.ref p, _, J, rfl, q p hn⟩
theorem cr_sortDk (hc : X.calm = true) : CallR X (.builtin "sorted") rSortDk := by
  intro pins s σ H vs us Q I r h
  obtain ⟨a, kvs, xs, rfl, ha, ek, q⟩ := h
  rw [Vals.ref1 r]
  obtain ⟨z, lo, ws, rel, dd⟩ := dk_rd I.hok ha
  obtain ⟨ep, hat⟩ := dd.dictAt
  have hl : kvs.length = ws.length := Paired.length rel
  have xl : xs.length = kvs.length := by rw [← List.length_map (f := (·.1)) (as := kvs), ek, List.length_map]
  refine sorted_coll (ss := xs) (fun {E' G} hG => ?_) (by rw [xl]; exact z) fun s' p out c k g o hp hg sa => sorted_laid I (by rw [xl]; exact z) q k g o hp hg sa
  refine PySem.W.kdu_collect (PySem.W.kdl_dict (knd := mixKind X.prog X.w) (kvs := ws) (ep := ep) lo) (I.ok.hd hc) hat (by rw [← hl]; exact z) fun h' tk acc hk hacc => ?_
  refine hG _ acc.toList xs hk rfl rfl (strs_at (by rw [Array.length_toList, hacc.1, ← hl, xl]) fun j u hu => ?_) (List.Perm.refl _)
  · obtain ⟨k, y, hky, hi⟩ := hacc.2 j u (by rw [← Array.getElem?_toList]; exact hu)
    have e1 : (kvs.map (·.1))[j]? = some k := by rw [KV.keys rel, List.getElem?_map, hky]; rfl
    rw [ek, List.getElem?_map] at e1
    cases ex : xs[j]? with
    | none => rw [ex] at e1; cases e1
    | some x =>
      rw [ex] at e1; cases e1
      obtain ⟨t, e2⟩ := (show ∃ t, u = .str x t from keyIs_rel (k := .inr x) hi)
      exact ⟨x, t, rfl, e2⟩
end
end Z

/-! Z16: set(list of texts), its length, sorted of it. -/
namespace Z
open PySem PySem.Spec
def txtOf (e : Int × Value) : Str := match e.2 with | .str x _ => x | _ => Str.empty
def TxtE (w : World) (e : Int × Value) : Prop := ∃ x t, e.2 = Value.str x t ∧ e.1 = hashStr w x
/-- the set at a has the texts xs; its table rises and can be walked -/
def TxS (w : World) (h : Heap) (a : Addr) (xs : List Str) : Prop :=
  ∃ o es ep t, h.get? a = some o ∧ o.ExactSet ∧ o.data = .set es ep t ∧ (∀ e ∈ es.toList, TxtE w e) ∧ (es.toList.map txtOf).Perm xs ∧ xs.Nodup ∧ es.size < scanBound ∧ t.fits es.size = true ∧
    L2.Ris t.place.toList ∧ (w.params.followText "set-order" = true ∨ t.led = true)
def addT (xs : List Str) (x : Str) : List Str := if x ∈ xs then xs else xs ++ [x]
section
variable {P : Program} {w : World} {A : Around} {E : Value → Shared → Prop} {s : Shared} {h h' : Heap} {a : Addr} {xs : List Str} {x : Str}
theorem TxS.keep (R : TxS w h a xs) (k : ∀ o, h.get? a = some o → h'.get? a = some o) : TxS w h' a xs := let ⟨o, es, ep, t, e, r⟩ := R; ⟨o, es, ep, t, k o e, r⟩
theorem TxtE.elems {l : List (Int × Value)} (g : ∀ e ∈ l, TxtE w e) : ElemsOf (strKind P w) l := fun e he => by
  obtain ⟨y, u, q1, q2⟩ := g e he
  exact ⟨⟨y, by rw [q1]; exact strKind_is P w y u, q2⟩, by rw [q1]; rfl⟩
theorem TxtE.is {e : Int × Value} (g : TxtE w e) (y : Str) : (strKind P w).is y e.2 = true ↔ txtOf e = y := by
  obtain ⟨z, u, q, _⟩ := g
  have q3 : txtOf e = z := by unfold txtOf; rw [q]
  rw [q, q3]
  constructor
  · intro c; exact (strKind P w).inj _ _ _ (strKind_is P w z u) c
  · intro c; subst c; exact strKind_is P w z u
theorem TxS.size (R : TxS w h a xs) : xs.length < scanBound := by
  obtain ⟨o, es, ep, t, _, _, _, _, pm, _, b, _⟩ := R
  rw [← pm.length_eq, List.length_map, Array.length_toList]; exact b
/-- an entry more, the table grown where it must -/
theorem TxS.store {g : Bool → Sem Unit} (hg : ∀ (b : Bool) (s₁ : Shared) (Q' : Unit → Shared → Prop), Q' () s₁ → wpAny (model P w) A (g b) Q' E s₁) {o : Obj} {es es1 : Array (Int × Value)} {ep : Nat} {t t2 : SetTable} {wd : Bool} {R : Option Bool → Shared → Prop}
    (ho : s.heap.get? a = some o) (hex : o.ExactSet) (hd : o.data = .set es ep t) (g1 : ∀ e ∈ es1.toList, TxtE w e) (pm1 : (es1.toList.map txtOf).Perm xs) (nd : xs.Nodup) (hb1 : es1.size < scanBound) (hf2 : t2.fits es1.size = true)
    (hr : L2.Ris t2.place.toList) (hl : w.params.followText "set-order" = true ∨ t2.led = true) (hR : ∀ h', Heap.SameBut a s.heap h' → TxS w h' a xs → R (some true) { s with heap := h' }) :
    wpAny (model P w) A (do
        storeSet a es1 t2
        if (!wd && t2.tooFull) = true then do
            g (relayAll t2 es1 (SetTable.grown es1.size)).2.2
            storeSet a (relayAll t2 es1 (SetTable.grown es1.size)).1 (relayAll t2 es1 (SetTable.grown es1.size)).2.1
            pure (some true)
          else pure (some true)) R E s := by
  have fit : es1.size ≤ sizeLine := fits_of_scanBound hb1
  refine wpAny_bind (wpAny_storeSet_of ho hd ?_ fit)
  have at1 := L2.store_at (es' := es1) (t' := t2) ho hd
  have sb := Heap.SameBut.update s.heap a (Obj.putSet es1 t2)
  by_cases c : (!wd && t2.tooFull) = true
  · rw [if_pos c]
    have p3 := relayAll_perm t2 es1 (SetTable.grown es1.size)
    have f3 := relayAll_fits t2 es1 (SetTable.grown es1.size)
    have r3 := L2.relayAll_ris t2 es1 (SetTable.grown es1.size)
    have l3 := L2.relayAll_led t2 es1 (SetTable.grown es1.size)
    revert p3 f3 r3 l3
    generalize relayAll t2 es1 (SetTable.grown es1.size) = Z
    obtain ⟨es2, t3, gv⟩ := Z
    intro p3 f3 r3 l3
    dsimp only at p3 f3 r3 l3 ⊢
    have z2 : es2.size = es1.size := by simpa using p3.length_eq
    have at2 := L2.store_at (es' := es2) (t' := t3) at1 rfl
    refine wpAny_bind (hg _ _ _ (wpAny_bind (wpAny_storeSet_of at1 rfl ?_ (by rw [z2]; exact fit))))
    exact wpAny_pure (hR _ (sb.trans (Heap.SameBut.update _ a _)) ⟨_, es2, _, t3, at2, hex, rfl, fun e he => g1 e (p3.mem_iff.mp he), (p3.map txtOf).trans pm1, nd, by rw [z2]; exact hb1, f3, r3, hl.imp id fun z => by rw [l3]; exact z⟩)
  · rw [if_neg c]
    exact wpAny_pure (hR _ sb ⟨_, es1, _, t2, at1, hex, rfl, g1, pm1, nd, hb1, hf2, hr, hl⟩)
theorem TxS.add {tk : Tok} {Q : Bool → Shared → Prop} (R : TxS w s.heap a xs) (room : xs.length + 1 < scanBound) (hQ : ∀ b h', Heap.SameBut a s.heap h' → TxS w h' a (addT xs x) → Q b { s with heap := h' }) :
    wpAny (model P w) A (setAddHashed a (.str x tk) ((strKind P w).hash x)) Q E s := by
  obtain ⟨o, es, ep, t, ho, hex, hd, g, pm, nd, hb, hf, hr, hl⟩ := R
  have el : ElemsOf (strKind P w) es.toList := TxtE.elems g
  have key : (strKind P w).is x (.str x tk) = true := strKind_is P w x tk
  have scn : (Value.str x tk).scannable = true := rfl
  have szn : es.size = xs.length := by rw [← pm.length_eq, List.length_map, Array.length_toList]
  unfold setAddHashed setAddHashedIn; refine wpAny_holding (wpAny_bind (wpAny_setState_of ho hd hf ?_))
  dsimp only; rw [byScan_of scn hb el]; simp only [↓reduceIte]
  unfold setAddByScan; refine wpAny_bind (wpAny_bind (wpAny_rule (wpAny_bind (wpAny_setScan_of key ho hd hf el ?_))))
  cases fi : es.toList.findIdx? (fun e => (strKind P w).is x e.2) with
  | some j =>
    obtain ⟨lt, at_, _⟩ := List.findIdx?_eq_some_iff_getElem.mp fi
    have mem : x ∈ xs := pm.mem_iff.mp (List.mem_map.mpr ⟨es.toList[j], List.getElem_mem lt, ((g _ (List.getElem_mem lt)).is (P := P) x).mp at_⟩)
    dsimp only; refine wpAny_pure (wpAny_pure (hQ _ s.heap (Heap.SameBut.refl a s.heap) ?_))
    unfold addT; rw [if_pos mem]
    exact ⟨o, es, ep, t, ho, hex, hd, g, pm, nd, hb, hf, hr, hl⟩
  | none =>
    have nm : x ∉ xs := fun m => by
      obtain ⟨e, he, q⟩ := List.mem_map.mp (pm.mem_iff.mpr m)
      have c := List.findIdx?_eq_none_iff.mp fi e he
      rw [((g e he).is (P := P) x).mpr q] at c; cases c
    have gw : ∀ (b : Bool) (s₁ : Shared) (Q' : Unit → Shared → Prop), Q' () s₁ → wpAny (model P w) A (match b with | true => rule "set.scan.the-table-gave-way" | false => pure ()) Q' E s₁ := fun b s₁ Q' q => by
      cases b
      · exact wpAny_pure q
      · exact wpAny_rule q
    dsimp only
    have p1 := layNew_perm t es ((strKind P w).hash x) (.str x tk)
    have f1 := layNew_fits t es ((strKind P w).hash x) (.str x tk)
    have r1 := L2.layNew_ris t es ((strKind P w).hash x) (.str x tk) hr
    have l1 := L2.layNew_led t es ((strKind P w).hash x) (.str x tk)
    revert p1 f1 r1 l1
    generalize layNew t es ((strKind P w).hash x) (.str x tk) = Z
    obtain ⟨es1, t1, wd, gv⟩ := Z
    intro p1 f1 r1 l1
    dsimp only at p1 f1 r1 l1 ⊢
    rw [Array.toList_push] at p1
    have g1 : ∀ e ∈ es1.toList, TxtE w e := fun e he => by
      rcases List.mem_append.mp (p1.mem_iff.mp he) with z | z
      · exact g e z
      · rw [List.mem_singleton.mp z]; exact ⟨x, tk, rfl, rfl⟩
    have pm1 : (es1.toList.map txtOf).Perm (addT xs x) := by
      unfold addT; rw [if_neg nm]
      refine (p1.map txtOf).trans ?_
      rw [List.map_append]
      exact pm.append_right _
    have nd1 : (addT xs x).Nodup := by
      unfold addT; rw [if_neg nm]
      exact List.nodup_append.mpr ⟨nd, by simp, fun y hy z hz e => nm (by rw [List.mem_singleton.mp hz] at e; exact e ▸ hy)⟩
    have b1 : es1.size < scanBound := by
      have : es1.size = es.size + 1 := by simpa using p1.length_eq
      rw [this, szn]; exact room
    have led1 : w.params.followText "set-order" = true ∨ t1.led = true := hl.imp id fun z => by rw [l1]; exact z
    refine wpAny_bind (gw _ _ _ ?_)
    split
    · refine wpAny_bind ?_
      rw [hashByValue_scannable 8 scn]
      refine wpAny_pure (TxS.store (xs := addT xs x) (fun b s₁ Q' q => gw b s₁ Q' q) ho hex hd g1 pm1 nd1 b1 ?_ ?_ ?_ fun h' sb r => ?_)
      · first | (split <;> first | exact f1 | exact SetTable.fits_plain_off f1) | exact f1
      · first | (split <;> exact r1) | exact r1
      · first | (split <;> exact led1) | exact led1
      · dsimp only; exact wpAny_pure (hQ _ h' sb r)
    · refine wpAny_bind (wpAny_pure ?_)
      simp only [↓reduceIte]
      refine TxS.store (xs := addT xs x) (fun b s₁ Q' q => gw b s₁ Q' q) ho hex hd g1 pm1 nd1 b1 f1 r1 led1 fun h' sb r => ?_
      dsimp only; exact wpAny_pure (hQ _ h' sb r)
end
def dedT (xs : List Str) : List Str := xs.foldl addT []
theorem addT_length (xs : List Str) (x : Str) : (addT xs x).length ≤ xs.length + 1 := by unfold addT; split <;> simp
theorem dedT_length (xs : List Str) : (dedT xs).length ≤ xs.length := by
  suffices h : ∀ (ys acc : List Str), (ys.foldl addT acc).length ≤ acc.length + ys.length by simpa [dedT] using h xs []
  intro ys
  induction ys with
  | nil => intro acc; simp
  | cons y ys ih =>
    intro acc
    have h1 := ih (addT acc y)
    have h2 := addT_length acc y
    simp only [List.foldl_cons, List.length_cons]
    omega
theorem dedT_take {xs : List Str} {i : Nat} {x : Str} (e : xs[i]? = some x) : dedT (xs.take (i + 1)) = addT (dedT (xs.take i)) x := by
  have : xs.take (i + 1) = xs.take i ++ [x] := by
    rw [List.take_add_one, e]; rfl
  rw [this, dedT, List.foldl_append]
  rfl
section
variable {P : Program} {w : World} {A : Around} {R : Result → Shared → Prop} {I : Addr} {fp wr : List Addr} {G : Array GenState → Array GenState → Prop} {n : Nat} {Pv : Nat → Value → Prop} {St : Nat → Shared → Prop}
theorem loopT (W : WalksS P w A.in1 I fp wr G n Pv St) {S : Addr} (nS : S ∉ fp) {xs : List Str} (hn : xs.length = n) (hb : n + 1 < scanBound) (hv : ∀ i v, Pv i v → ∃ x t, xs[i]? = some x ∧ v = .str x t) :
    ∀ (k i : Nat) (s : Shared), n - i = k → i ≤ n → St i s → TxS w s.heap S (dedT (xs.take i)) → (∀ s', Moved (S :: wr) G s s' → TxS w s'.heap S (dedT xs) → R (.ok (.ret .none)) s') →
      codeAny (model P w) A (.builtin "set.update.loop" ⟨[.ref S, .ref I], []⟩) R s
  | 0, i, s, hk, hi, st, hS, hR => by
    have e : i = n := Nat.le_antisymm hi (by omega)
    have ex : xs.take i = xs := by rw [e, ← hn, List.take_length]
    rw [ex] at hS
    refine codeAny_builtin PyProof.Rows.F.entry_set_update_loop ?_
    rw [Around.under_plainId PyProof.Rows.F.plain_set_update_loop _]
    show wpAny _ A.in1 (pyNext (.ref I) >>= _) _ _ s
    refine wpAny_bind (W.done s _ _ (by rw [← e]; exact st) fun s' m => wpAny_pure (hR s' (m.mono fun b hb => List.mem_cons_of_mem _ hb) ?_))
    exact hS.keep fun o q => m.heap S o (fun z => nS (W.sub _ z)) q
  | k + 1, i, s, hk, hi, st, hS, hR => by
    have lt : i < n := by omega
    refine codeAny_builtin PyProof.Rows.F.entry_set_update_loop ?_
    rw [Around.under_plainId PyProof.Rows.F.plain_set_update_loop _]
    show wpAny _ A.in1 (pyNext (.ref I) >>= _) _ _ s
    refine wpAny_bind (W.item i s _ _ lt st fun v s1 pv st1 m1 => ?_)
    obtain ⟨x, t, ex, rfl⟩ := hv i v pv
    have hS1 : TxS w s1.heap S (dedT (xs.take i)) := hS.keep fun o q => m1.heap S o (fun z => nS (W.sub _ z)) q
    show wpAny _ A.in1 (holding [Value.str x t] (setAdd S (.str x t)) >>= _) _ _ s1
    refine wpAny_bind (wpAny_holding ?_)
    unfold setAdd
    refine wpAny_holding (wpAny_bind ((strKind P w).pyHash (k := x) (strKind_is _ _ _ _) ?_))
    have rm : (dedT (xs.take i)).length + 1 < scanBound := by
      have := dedT_length (xs.take i)
      rw [List.length_take] at this
      omega
    refine TxS.add (s := { s1 with toks := s1.toks + 1 }) hS1 rm fun b h' sb r => ?_
    rw [← dedT_take ex] at r
    refine wpAny_pure ⟨plainId_quiet PyProof.Rows.F.plain_set_update_loop _, loopT W nS hn hb hv k (i + 1) _ (by omega) lt (W.frame _ s1 _ _ st1 (Nat.le_succ _) fun b hb o e => ?_) r fun s2 m2 r2 => hR s2 ?_ r2⟩
    · rw [sb.2 b (fun z => nS (z ▸ hb))]; exact e
    · refine Moved.trans W.gtrans ((m1.mono fun b hb => List.mem_cons_of_mem _ hb).then_heap (Nat.le_succ _) fun b o hb e => ?_) m2
      rw [sb.2 b (fun z => hb (z ▸ List.mem_cons_self))]; exact e
end
section
variable {P : Program} {w : World} {A : Around} {E : Value → Shared → Prop} {s : Shared}
theorem new_set_led (a : Value) {G : Value → Shared → Prop} (h : G (.ref s.heap.objs.size) { s with heap := s.heap.push { cls := .type "set", dict := none, data := .set #[] 0 (.fresh 0 0 (!w.params.followText "set-order")) } }) :
    codeAny (model P w) A (.call (.builtin "set.__new__") ⟨[.type "set", a], []⟩) (wants G E) s := by
  refine codeAny_of_tree ?_
  show wpAny _ A.in1 (do checkBuiltinCall "set.__new__" ⟨[.type "set", a], []⟩; again (.builtin "set.__new__" ⟨[.type "set", a], []⟩)) _ _ s
  refine wpAny_bind (wpAny_of_eq (F.newCall_set_1 a) (wpAny_pure ⟨plainId_quiet F.plain_set_new _, codeAny_builtin F.entry_set_new ?_⟩))
  rw [Around.under_plainId F.plain_set_new _]
  have sub := sub_set_self
  unfold Builtin.«set.__new__» Builtin.Frozenset.newClass
  obtain ⟨hp, gn, dr, tk, os⟩ := s
  dsimp only
  wp_walk
  refine wpAny_askSetting (wpAny_pure ?_)
  simp only [newObj]
  exact wpAny_bind (wpAny_alloc (wpAny_pure (wpAny_pure h)))
theorem TxS.fresh {h : Heap} : TxS w (h.push { cls := .type "set", dict := none, data := .set #[] 0 (.fresh 0 0 (!w.params.followText "set-order")) }) h.objs.size [] :=
  ⟨_, #[], 0, _, Heap.get?_push_size _ rfl, ⟨rfl, rfl, rfl⟩, rfl, (fun e he => by simp at he), .nil, List.nodup_nil, by decide, by rfl, List.Pairwise.nil, by
    show _ ∨ (!w.params.followText "set-order") = true
    cases w.params.followText "set-order" with
    | false => exact .inr rfl
    | true => exact .inl rfl⟩
theorem set_texts {l : Addr} {items : Array Value} {xs : List Str} {Q : Value → Shared → Prop} (hh : A.handled = none) (hl : s.heap.IsList l items) (sa : PyProof.Rows.StrsAre items.toList xs) (hb : xs.length + 1 < scanBound)
    (h : ∀ (h' : Heap) (tk : Nat), TxS w h' s.heap.objs.size (dedT xs) → (∀ b o, b < s.heap.objs.size → s.heap.get? b = some o → h'.get? b = some o) → Q (.ref s.heap.objs.size) { s with heap := h', toks := tk }) :
    wpAny (model P w) A (call (.type "set") [.ref l]) Q E s := by
  let fr : Obj := { cls := .type "set", dict := none, data := .set #[] 0 (.fresh 0 0 (!w.params.followText "set-order")) }
  obtain ⟨c, tl, mro⟩ := F.called_set.mro
  have made := F.called_set.made
  have sub := F.called_set.sub
  refine wpAny_call (codeAny_of_tree ?_)
  show wpAny _ _ (callAny (.type "set") _) _ _ _
  refine wpAny_pure ⟨Code.quiet_builtin _ (by decide +kernel), codeAny_builtin F.entry_type_call ?_⟩
  rw [Around.under_plain (weight_type_call_type "set" [.ref l] []) rfl]
  have nt := F.called_set.notType
  have cc := F.called_set.canCreate
  have tc := F.typeCall_set_1 (.ref l)
  repeat (any_goals (first | assumption | wp_step))
  refine codeAny_mono (new_set_led (.ref l) (E := E) (G := fun obj s1 => obj = .ref s.heap.objs.size ∧ s1 = { s with heap := s.heap.push fr }) ⟨rfl, rfl⟩) fun r s1 hr => ?_
  match r, hr with
  | .error e, hr => exact hr
  | .ok .next, hr => exact hr.elim
  | .ok .brk, hr => exact hr.elim
  | .ok .cont, hr => exact hr.elim
  | .ok (.ret obj), hr =>
    obtain ⟨rfl, rfl⟩ := hr
    have at0 : (s.heap.push fr).get? s.heap.objs.size = some fr := Heap.get?_push_size _ rfl
    have ty : Shared.TypeIs { s with heap := s.heap.push fr } (.ref s.heap.objs.size) "set" := ⟨_, at0, rfl⟩
    have il := F.called_set.init.lookup
    have ib := F.called_set.init.bind (.ref s.heap.objs.size)
    repeat (any_goals (first | assumption | wp_step))
    refine codeAny_mono (codeAny_call_builtin (R := wants (fun r s2 => r = .none ∧ ∃ h' tk, s2 = { s with heap := h', toks := tk } ∧ TxS w h' s.heap.objs.size (dedT xs) ∧
      (∀ b o, b < s.heap.objs.size → s.heap.get? b = some o → h'.get? b = some o)) E) F.called_set.init.plain F.entry_set_init (check_set_init_1 ty ?_)) fun r2 s2 hr2 => ?_
    · obtain ⟨ol, hol, hcl, nl, hdl⟩ := hl
      obtain ⟨ocls, odict, odata, oslots⟩ := ol
      simp only at hcl hdl
      subst hcl; subst hdl
      have hol' : (s.heap.push fr).get? l = some { cls := .type "list", dict := odict, data := .seq items nl, slots := oslots } := Heap.get?_push_of_some _ hol
      have q1 := F.sub_list_set
      have q2 := F.sub_list_frozenset
      have q3 : (Value.type "list" == Value.type "dict") = false := by decide
      have il1 : (s.heap.push fr).IsList l items := ⟨_, hol', rfl, nl, rfl⟩
      unfold Builtin.«set.__init__» noKeywords Builtin.Frozenset.updateFrom
      generalize hPI : pyIter = PI
      wp_walk
      subst hPI
      have lS : l < s.heap.objs.size := Heap.lt_size hol
      have sz1 : (s.heap.push fr).objs.size = s.heap.objs.size + 1 := Heap.size_push ..
      have nI : l ≠ (s.heap.push fr).objs.size := by rw [sz1]; exact Nat.ne_of_lt (Nat.lt_succ_of_lt lS)
      have nS : s.heap.objs.size ∉ [(s.heap.push fr).objs.size, l] := by
        rw [sz1]; intro m
        rcases List.mem_cons.mp m with z | z
        · exact absurd z (Nat.ne_of_lt (Nat.lt_succ_self _))
        · exact absurd (List.mem_singleton.mp z) (Nat.ne_of_gt lS)
      have hn : xs.length = items.size := by rw [← sa.len_eq, Array.length_toList]
      refine wpAny_pyIter_list il1 (wpAny_bind (wpAny_runValue ?_))
      refine loopT ((Walks.list (A := A.in1.in1.in1) (by simp [hh]) _ l nI items).toS) nS hn (by rw [← hn]; exact hb) (fun i v hv => ?_) (items.size - 0) 0 _ (by omega) (Nat.zero_le _) ⟨⟨_, Heap.get?_push_size _ rfl, rfl, rfl⟩, il1.push _⟩ (TxS.fresh.keep fun o q => Heap.get?_push_of_some _ q) fun s' m r => ?_
      · have hv' : items.toList[i]? = some v := by rw [Array.getElem?_toList]; exact hv
        obtain ⟨t, e⟩ := SS.strs_at sa i v hv'
        have li : i < xs.length := by rw [hn]; exact (Array.getElem?_eq_some_iff.mp hv).1
        exact ⟨_, t, by rw [List.getElem?_eq_getElem li, List.getD_eq_getElem?_getD, List.getElem?_eq_getElem li]; rfl, e⟩
      · obtain ⟨h', g', d', tk', os'⟩ := s'
        obtain rfl : g' = s.gens := m.gens
        obtain rfl : d' = s.drawn := m.drawn
        obtain rfl : os' = s.os := m.os
        show wpAny _ _ _ _ _ _
        refine wpAny_pure ?_
        show wpAny _ _ (PySem.ret Value.none) _ _ _
        refine wpAny_pure ⟨rfl, h', tk', rfl, r, fun b o lb e => m.heap b o (fun z => ?_) (Heap.get?_push_of_some _ (Heap.get?_push_of_some _ e))⟩
        rcases List.mem_cons.mp z with z | z
        · exact absurd z (Nat.ne_of_lt lb)
        · have z := List.mem_singleton.mp z
          rw [sz1] at z
          exact absurd z (Nat.ne_of_lt (Nat.lt_succ_of_lt lb))
    · match r2, hr2 with
      | .error e, hr2 => exact hr2
      | .ok .next, hr2 => exact hr2.elim
      | .ok .brk, hr2 => exact hr2.elim
      | .ok .cont, hr2 => exact hr2.elim
      | .ok (.ret r), hr2 =>
        obtain ⟨rfl, h', tk, rfl, t1, t2⟩ := hr2
        repeat (any_goals (first | assumption | wp_step))
        exact h _ _ t1 t2
end
end Z

/-! Z17: sorted(set(xs)), len(set(xs)) of texts; sorted(dict); all of sorted. -/
namespace Z
open PySem L2 PySem.Spec
section
variable {K : PySem.W.Frag} {W : L2.St → XK} {Φ H : Hp} {X : Cx} {Q : VK} {pins : List (Addr × Obj)} {σ : L2.St} {s : Shared}
/-- sorted(set(a)), by values -/
def rSortSet (K : PySem.W.Frag) : V → Hp → VK → Prop := fun x H Q => ∃ l, ∃ xs : List Str, x = .ref l ∧ SqL K H l (xs.map V.str) ∧ xs.length + 1 < scanBound ∧ ∀ p : Addr, H p = none → Q (.ref p) (upd H p (.lst ((sortT (dedT xs)).map V.str)))
def rLenSet (K : PySem.W.Frag) : V → Hp → VK → Prop := fun x H Q => ∃ l, ∃ xs : List Str, x = .ref l ∧ SqL K H l (xs.map V.str) ∧ xs.length + 1 < scanBound ∧ Q (.int (dedT xs).length) H
theorem set_made {E : Value → Shared → Prop} {l : Addr} {xs : List Str} {G : Value → Shared → Prop} (hc : X.calm = true) (I : Inv X pins σ H s) (hq : SqL X.K H l (xs.map V.str)) (hb : xs.length + 1 < scanBound)
    (h : ∀ (h' : Heap) (tk : Nat), Inv X pins σ H { s with heap := h', toks := tk } → TxS X.w h' s.heap.objs.size (dedT xs) → G (.ref s.heap.objs.size) { s with heap := h', toks := tk }) :
    wpAny (model X.prog X.w) X.A (call (.type "set") [.ref l]) G E s := by
  obtain ⟨its, r, pl, hz⟩ := I.list hq
  exact set_texts (I.ok.hd hc) pl.isList (by simpa using L2.strsAre_of r) hb fun h' tk ts k => h h' tk (I.kept fun b o e => k b o (Heap.lt_size e) e) ts
theorem pe_sortSet {a : Expr} {ta : TE} {p p2 q pos : Pos} (hc : X.calm = true) (hg : Gl X "sorted") (hm : X.mg "sorted" = none) (hg2 : Gl X "set") (hm2 : X.mg "set" = none) (ha : PE X a ta)
    (na : starEach [a] X.env = (false, eval a X.env) :: starEach [] X.env := by rfl) : PE X (.Call (.Name "sorted" p) [.Call (.Name "set" p2) [a] [] q] [] pos) (tUn (rSortSet X.K) ta) := by
  refine ⟨fun pins s σ H Q I h => ?_⟩
  refine PyProof.Rows.Call_ (ld_blt I hg hm (by rfl) ?_)
  refine PyProof.Rows.callWith_builtin1 (PyProof.Rows.args_cons ?_ rfl) rfl rfl
  refine PyProof.Rows.Call_ (ld_blt I hg2 hm2 PyProof.Rows.boot_set ?_)
  refine PyProof.Rows.callWith_type1 (PyProof.Rows.args_cons (thn (ha.run pins s σ H _ I h) fun v s1 ⟨x, H1, I1, r1, q1⟩ => PyProof.Rows.args_nil ?_) na) na rfl
  obtain ⟨l, xs, rfl, hq, hb, q1⟩ := q1
  cases r1
  refine set_made hc I1 hq hb fun h' tk I2 ts => PyProof.Rows.args_nil ?_
  obtain ⟨o, es, ep, t, ho, hex, hd, g, pm, nd, bd, hf, hr, hl⟩ := id ts
  have hz : (dedT xs).length ≤ sizeLine := fits_of_scanBound ts.size
  refine sorted_coll (ss := dedT xs) (s := { s1 with heap := h', toks := tk }) (fun {E' G} hG => ?_) hz fun s' p out c k g o hp hg sa => sorted_laid I2 hz q1 k g o hp hg sa
  refine collect_set (I1.ok.hd hc) ⟨o, ho, hex.1, hd⟩ hf bd hr hl fun s2 out k _ g2 o2 po => ?_
  have all : ∀ v ∈ out, ∃ x t, v = Value.str x t := fun v hv => by
    obtain ⟨e, he, q⟩ := List.mem_map.mp (po.mem_iff.mp hv)
    obtain ⟨x, t, e1, _⟩ := g e he
    exact ⟨x, t, by rw [← q]; exact e1⟩
  refine hG s2 out (out.map fun v => txtOf (0, v)) k g2 o2 ?_ ?_
  · clear po
    induction out with
    | nil => exact .nil
    | cons v out ih =>
      obtain ⟨x, t, rfl⟩ := all v List.mem_cons_self
      exact .cons x t (ih fun u hu => all u (List.mem_cons_of_mem _ hu))
  · refine (po.map _).trans ?_
    rw [List.map_map]
    exact pm
theorem pe_lenSetT {a : Expr} {ta : TE} {p p2 q pos : Pos} (hc : X.calm = true) (hg : Gl X "len") (hm : X.mg "len" = none) (hg2 : Gl X "set") (hm2 : X.mg "set" = none) (ha : PE X a ta)
    (na : starEach [a] X.env = (false, eval a X.env) :: starEach [] X.env := by rfl) : PE X (.Call (.Name "len" p) [.Call (.Name "set" p2) [a] [] q] [] pos) (tUn (rLenSet X.K) ta) := by
  refine ⟨fun pins s σ H Q I h => ?_⟩
  refine PyProof.Rows.Call_ (ld_blt I hg hm boot_len ?_)
  refine PyProof.Rows.callWith_builtin1 (PyProof.Rows.args_cons ?_ rfl) rfl rfl
  refine PyProof.Rows.Call_ (ld_blt I hg2 hm2 PyProof.Rows.boot_set ?_)
  refine PyProof.Rows.callWith_type1 (PyProof.Rows.args_cons (thn (ha.run pins s σ H _ I h) fun v s1 ⟨x, H1, I1, r1, q1⟩ => PyProof.Rows.args_nil ?_) na) na rfl
  obtain ⟨l, xs, rfl, hq, hb, q1⟩ := q1
  cases r1
  refine set_made hc I1 hq hb fun h' tk I2 ts => PyProof.Rows.args_nil ?_
  have hz := ts.size
  obtain ⟨o, es, ep, t, ho, hex, hd, g, pm, nd, bd, hf, hr, hl⟩ := id ts
  have n : es.size = (dedT xs).length := by rw [← pm.length_eq, List.length_map, Array.length_toList]
  exact call_len_set ho hex hd hf (by have := line63; have := fits_of_scanBound hz; omega) ⟨.int (dedT xs).length, H1, I2.tok _, ⟨_, by rw [n]⟩, q1⟩
def dSortSet : D → Option Val
  | .lst ds => (strAll ds).bind fun xs => if xs.length + 1 < scanBound then some (.own (.lst ((sortT (dedT xs)).map D.str))) else none
  | _ => none
def dLenSet : D → Option Val
  | .lst ds => (strAll ds).bind fun xs => if xs.length + 1 < scanBound then some (.imm (.int (dedT xs).length)) else none
  | _ => none
theorem unm_sortSet : UnM K (rSortSet K) dSortSet := by
  intro Φ H x a val Q sf ra e q
  unfold dSortSet at e
  split at e
  · rename_i ds
    cases h : strAll ds with
    | none => rw [h] at e; cases e
    | some xs =>
      rw [h] at e; simp only [Option.bind_some] at e
      split at e
      · rename_i hb
        cases e
        obtain ⟨p, vs, rfl, hp, rr⟩ := ra.lsts sf
        exact ⟨p, xs, rfl, .inl (by rw [← strAll_ok rr h]; exact hp), hb, fun l hl => q.lst sf (rfs_str _) hl⟩
      · cases e
  · cases e
theorem unm_lenSet : UnM K (rLenSet K) dLenSet := by
  intro Φ H x a val Q sf ra e q
  unfold dLenSet at e
  split at e
  · rename_i ds
    cases h : strAll ds with
    | none => rw [h] at e; cases e
    | some xs =>
      rw [h] at e; simp only [Option.bind_some] at e
      split at e
      · rename_i hb
        cases e
        obtain ⟨p, vs, rfl, hp, rr⟩ := ra.lsts sf
        exact ⟨p, xs, rfl, .inl (by rw [← strAll_ok rr h]; exact hp), hb, q.int sf⟩
      · cases e
  · cases e
/-! sorted of a dict with text keys, of a list -/
def rSortA (K : PySem.W.Frag) : List V → Hp → VK → Prop := fun vs H Q => rSortU K vs H Q ∨ rSortDk vs H Q
theorem cr_sortA (hc : X.calm = true) : CallR X (.builtin "sorted") (rSortA X.K) := cr_sortU.or (cr_sortDk hc)
def keysT : List (D × D) → Option (List Str)
  | [] => some []
  | (.str x, _) :: r => (keysT r).map (x :: ·)
  | _ => none
theorem keysT_ok : ∀ {vs : List (Key × V)} {ds : List (D × D)} {xs : List Str}, RFk K Φ vs ds → keysT ds = some xs → vs.map (·.1) = xs.map Sum.inr
  | _, _, _, .nil, e => by cases e; rfl
  | _, _, _, .cons (k := k) (kd := kd) (kvs := ds) ek r t, e => by
    cases kd <;> simp only [keysT] at e <;> try (cases e; done)
    cases h : keysT ds with
    | none => rw [h] at e; cases e
    | some ys =>
      rw [h] at e; cases e
      cases ek
      rw [List.map_cons, List.map_cons, keysT_ok t h]
def dSortA : List D → Option Val
  | [.dct kvs] => (keysT kvs).map fun xs => .own (.lst ((sortT xs).map D.str))
  | ds => dSorted ds
theorem callm_sortA : CallM K (rSortA K) dSortA := by
  intro Φ H xs ds val Q sf rs e q
  unfold dSortA at e
  split at e
  · rename_i kvs
    cases h : keysT kvs with
    | none => rw [h] at e; cases e
    | some ys =>
      rw [h] at e; cases e
      obtain ⟨v, rfl, r⟩ := rs.one
      obtain ⟨p, ks, rfl, hp, rk⟩ := r.dcts sf
      exact .inr ⟨p, ks, ys, rfl, hp, keysT_ok rk h, fun l hl => q.lst sf (rfs_str _) hl⟩
  · exact .inl (callm_sorted Φ H xs ds val Q sf rs e q)
end
end Z

/-! Z18: enumerate of lists and tuples, zip. -/
namespace Z
open PySem
theorem enum_new_tup (a : Addr) (items : Array Value) :
    Meets (Builtin.«enumerate.__new__» ⟨[.type "enumerate", .ref a], []⟩) (fun _ R s => s.heap.IsTuple a items ∧
      R (.ok (.ret (.ref (s.heap.push { cls := .type "tuple_iterator", data := .fields #[.ref a, .int 0 0] }).objs.size)))
        { s with heap := (s.heap.push { cls := .type "tuple_iterator", data := .fields #[.ref a, .int 0 0] }).push { cls := .type "enumerate", data := .fields #[.none, .bool false, .ref s.heap.objs.size, rawInt 0, .none, .none] } }) :=
  .of_wp fun prog w A R s h => by
    obtain ⟨hp, g, d, tk, os⟩ := s
    obtain ⟨ht, h⟩ := h
    have sub := sub_enumerate
    wp_walk
    refine wpAny_stack_any fun st => wpAny_pure ?_
    split
    · rename_i c _ _ _ _ _
      cases (c == Value.type "enumerate")
      · wp_walk using wpAny_pyIter_tuple ht
        exact ⟨_, rfl, h⟩
      · wp_walk using wpAny_pyIter_tuple ht
        exact ⟨_, rfl, h⟩
    · wp_walk using wpAny_pyIter_tuple ht
      exact ⟨_, rfl, h⟩
section
variable {prog : Program} {w : World} {A : Around} {E : Value → Shared → Prop} {s : Shared}
theorem enum_tup {t : Addr} {items : Array Value} {Q : Value → Shared → Prop} (ht : s.heap.IsTuple t items)
    (h : ∀ h', IsEnum h' (s.heap.objs.size + 1) s.heap.objs.size 0 .none → h'.IsTupleIter s.heap.objs.size t 0 → (∀ b o, s.heap.get? b = some o → h'.get? b = some o) → Q (.ref (s.heap.objs.size + 1)) { s with heap := h' }) :
    wpAny (model prog w) A (call (.type "enumerate") [.ref t]) Q E s := by
  refine callType_new F.called_enumerate (by decide) (F.typeCall_enumerate_1 _) (F.newCall_enumerate_1 _) (fun ob => F.args_object_init_2 ob _) F.entry_enumerate_new (enum_new_tup t items) ⟨ht, ?_⟩
  generalize hit : ({ cls := .type "tuple_iterator", data := .fields #[.ref t, .int 0 0] } : Obj) = it
  have fr : it.isFreed = false := by subst hit; rfl
  have hz : (s.heap.push it).objs.size = s.heap.objs.size + 1 := Heap.size_push ..
  show _ ∧ _
  rw [hz]
  have at1 := Heap.get?_push_size (s.heap.push it) (o := { cls := .type "enumerate", data := .fields #[.none, .bool false, .ref s.heap.objs.size, rawInt 0, .none, .none] }) rfl
  rw [hz] at at1
  refine ⟨⟨_, at1, rfl⟩, h _ at1 ⟨it, Heap.get?_push_of_some _ (Heap.get?_push_size _ fr), by subst hit; exact ⟨rfl, rfl⟩⟩ fun b o x => Heap.get?_push_of_some _ (Heap.get?_push_of_some _ x)⟩
end
end Z
namespace Z
open PySem L2
/-- the tuple at a, each item in a new pair behind its place -/
def IteT (K : PySem.W.Frag) (a : Addr) : It :=
  ⟨fun i H => ∃ (xs : List V) (x : V), SqT K H a xs ∧ xs[i]? = some x, fun i H v H' => ∃ T x, v = .ref T ∧ H T = none ∧ H' = upd H T (.tup [.int (i : Nat), x]) ∧ ∀ xs, SqT K H a xs → xs[i]? = some x, fun i H => ∃ xs : List V, SqT K H a xs ∧ xs.length = i⟩
theorem turn_enumT {P : Program} {w : World} {K : PySem.W.Frag} {elts : List Expr} {kk : Nat} {tpos : Pos} (a e it : Addr) (ne : a ≠ it) :
    Turn P w K (.Tuple elts kk tpos) (IteT K a) [e, it] e (fun i h => (∃ old, IsEnum h e it ((i : Nat) : Int) old) ∧ h.IsTupleIter it a i ∧ e ≠ it ∧ e ≠ a) where
  mem := by simp
  obj := fun i h st b hb => by
    obtain ⟨⟨old, he⟩, ⟨o, ho, hc, hd⟩, _, _⟩ := st
    rcases (show b = e ∨ b = it by simpa using hb) with z | z
    · rw [z]; exact ⟨_, he, fun v q => nomatch q⟩
    · rw [z]; exact ⟨o, ho, fun v q => by rw [hd] at q; cases q⟩
  keep := fun i h h' st k => by
    obtain ⟨⟨old, he⟩, hi, n1, n2⟩ := st
    exact ⟨⟨old, k e (by simp) _ he⟩, hi.at fun o q => k it (by simp) o q, n1, n2⟩
  item := by
    intro X eP ew eK hc i pins s σ H E I hf st hg
    subst eP ew eK
    obtain ⟨⟨old, he⟩, hit, hne, hea⟩ := st
    obtain ⟨xs, x, hq, hx⟩ := hg
    obtain ⟨its, rv, p, hz⟩ := I.tuple hq
    obtain ⟨u, hu, ru⟩ := rv.get hx
    have p' : s.heap.IsTuple a its.toArray := p
    have hel : e < s.heap.objs.size := Heap.lt_size he
    have hil : it < s.heap.objs.size := by obtain ⟨_, q, _⟩ := hit; exact Heap.lt_size q
    have li : i < its.toArray.size := by
      rw [List.size_toArray]; exact (List.getElem?_eq_some_iff.mp hu).1
    refine wpAny_pyNext_enum_itemD (Draws.tuple (A := X.A.in1) (by simpa using I.ok.hd hc) it a ne its.toArray) he ⟨hit, p'⟩ li hne (by simp [hne, hea]) fun y h' tk py eo st' hT sz hk => ?_
    have yu : y = u := by
      have py' : its.toArray[i]? = some y := py
      rw [show its.toArray[i]? = some u by simpa using hu] at py'
      exact (Option.some.inj py').symm
    subst yu
    refine ⟨_, rfl, wpAny_letOwnedTupleGo_enum (s := { s with heap := h', toks := tk + 1 }) eo fun h'' he' sb => ?_⟩
    have hT2 : h''.get? s.heap.objs.size = some { cls := .type "tuple", data := .seq #[.int i tk, y] } := (sb.2 _ (Nat.ne_of_gt hel)).trans hT
    have new : ObjOk X.prog X.w (upd H s.heap.objs.size (.tup [.int (i : Nat), x])) h'' s.heap.objs.size (.tup [.int (i : Nat), x]) :=
      ⟨by show 2 ≤ sizeLine; decide, [.int i tk, y], .cons ⟨_, rfl⟩ (.cons ru .nil), ⟨_, hT2, rfl, _, rfl⟩⟩
    have I1 : Inv X pins σ (upd H s.heap.objs.size (.tup [.int (i : Nat), x])) { s with heap := h'', toks := tk + 1 } :=
      I.turnedNew (ch := [e, it]) (fun b ob hb q => (sb.2 b (fun z => hb (by simp [z]))).trans (hk b ob (fun z => hb (by simp [z])) (fun z => hb (by simp [z])) q)) hf (Nat.le_refl _) new
    refine ⟨.ref s.heap.objs.size, _, I1, rfl, ⟨_, x, rfl, I.hok.fresh (Nat.le_refl _), rfl, fun ys hy => by rw [I.tuple_inj hy hq]; exact hx⟩, ⟨⟨y, ?_⟩, st'.1.at fun o q => (sb.2 it (Ne.symm hne)).trans q, hne, hea⟩, fun b hb => ?_⟩
    · rw [show ((i + 1 : Nat) : Int) = (i : Int) + 1 by omega]; exact he'
    · have lb : b < s.heap.objs.size := by
        rcases (show b = e ∨ b = it by simpa using hb) with z | z
        · rw [z]; exact hel
        · rw [z]; exact hil
      rw [upd_ne (Nat.ne_of_lt lb)]
      exact (hf b hb).1
  done := by
    intro X eP ew eK hc i pins s σ H E I hf st hg
    subst eP ew eK
    obtain ⟨⟨old, he⟩, hit, hne, hea⟩ := st
    obtain ⟨xs, hq, hx⟩ := hg
    obtain ⟨its, rv, p, hz⟩ := I.tuple hq
    obtain ⟨f0, f1, f2, f3, f4, f5⟩ := hf it (by simp)
    have hl := rv.length
    have p' : s.heap.IsTuple a its.toArray := p
    have sz : its.toArray.size = i := by rw [List.size_toArray]; omega
    have D := Draws.tuple (prog := X.prog) (w := X.w) (A := X.A.in1) (by simpa using I.ok.hd hc) it a ne its.toArray
    rw [sz] at D
    exact wpAny_pyNext_enum_endD D he ⟨hit, p'⟩ fun h' eb => ⟨rfl, I.turned (t' := s.toks) (fun b o hb q => eb b o hb q) f0 f1 f3 f4 f5⟩
  self := fun A i s Q E st h => let ⟨⟨_, he⟩, _⟩ := st; wpAny_pyIter_enum he h
theorem walk_enumT {K : PySem.W.Frag} {a : Addr} {xs : List V} : Walk (IteT K a) xs.length (fun H => SqT K H a xs) (YPair (fun i => some (.int (i : Nat))) (fun i => xs[i]?)) := by
  refine ⟨fun i _ hi q => ⟨xs, xs[i], q, by simp [hi]⟩, fun _ q => ⟨xs, q, rfl⟩, fun i H v H' _ q y => ?_⟩
  obtain ⟨T, x, h1, h2, h3, h4⟩ := y
  exact ⟨T, .int (i : Nat), x, h1, h2, h3, rfl, h4 xs q⟩
def iEnumA (K : PySem.W.Frag) (ta : TA) : TI := fun σ H R => ta σ H fun vs H1 => ∃ a xs, vs = [.ref a] ∧ ((SqL K H1 a xs ∧ R (Ite K a) H1) ∨ (SqT K H1 a xs ∧ R (IteT K a) H1))
theorem pi_enumA {X : Cx} {e : Expr} {ta : TA} {p pos tpos : Pos} {elts : List Expr} {kk : Nat} (hg : Gl X "enumerate") (hm : X.mg "enumerate" = none) (ha : PA X [e] ta) (hs : starEach [e] X.env = [(false, eval e X.env)] := by rfl) :
    PI X (.Tuple elts kk tpos) (.Call (.Name "enumerate" p) [e] [] pos) (iEnumA X.K ta) := by
  refine ⟨fun pins s σ H R I h => ?_⟩
  refine PyProof.Rows.Call_ (ld_blt I hg hm PyProof.Rows.boot_enumerate (PyProof.Rows.callWith_type1 (thn (ha.run pos pins s σ H _ I h) fun us s1 ⟨vs, H1, I1, r1, q1⟩ => ?_) hs rfl))
  obtain ⟨a, xs, ex, q⟩ := q1
  subst ex
  cases r1 with
  | cons r rr =>
    cases rr
    cases r
    have fp : ∀ b, b ∈ [s1.heap.objs.size + 1, s1.heap.objs.size] → FpOk X pins H1 b := fun b hb => by
      have le : s1.heap.objs.size ≤ b := by
        rcases (show b = s1.heap.objs.size + 1 ∨ b = s1.heap.objs.size by simpa using hb) with z | z
        · rw [z]; exact Nat.le_add_right _ _
        · rw [z]; exact Nat.le_refl _
      exact I1.fpOk le (I1.hok.fresh le)
    rcases q with ⟨hq, q⟩ | ⟨hq, q⟩
    · obtain ⟨its, rv, pl, hz⟩ := I1.list hq
      refine call_enumerate_list pl.isList fun h' he hit hsz hk => wpAny_pyIter_enum he ?_
      exact ⟨s1.heap.objs.size + 1, [s1.heap.objs.size + 1, s1.heap.objs.size], _, _, H1, rfl, I1.kept (t' := s1.toks) hk, turn_enum a (s1.heap.objs.size + 1) s1.heap.objs.size, ⟨⟨.none, he⟩, hit, Nat.succ_ne_self _⟩, fp, q⟩
    · obtain ⟨its, rv, pl, hz⟩ := I1.tuple hq
      have lt : a < s1.heap.objs.size := by obtain ⟨o, e, _⟩ := pl; exact Heap.lt_size e
      refine enum_tup (show s1.heap.IsTuple a its.toArray from pl) fun h' he hit hk => wpAny_pyIter_enum he ?_
      exact ⟨s1.heap.objs.size + 1, [s1.heap.objs.size + 1, s1.heap.objs.size], _, _, H1, rfl, I1.kept (t' := s1.toks) hk, turn_enumT a (s1.heap.objs.size + 1) s1.heap.objs.size (Nat.ne_of_lt lt),
        ⟨⟨.none, he⟩, hit, Nat.succ_ne_self _, Nat.ne_of_gt (Nat.lt_succ_of_lt lt)⟩, fp, q⟩
section
variable {K : PySem.W.Frag} {W : L2.St → XK} {Φ Φ' Ψ H H' : Hp} {X : Cx} {Q : VK}
/-! ### the items, in pairs -/
def pairsD : List D → List D → List D
  | x :: xs, y :: ys => .tup [x, y] :: pairsD xs ys
  | _, _ => []
theorem pairsD_length : ∀ xs ys : List D, (pairsD xs ys).length = min xs.length ys.length
  | [], _ => by simp [pairsD]
  | _ :: _, [] => by simp [pairsD]
  | x :: xs, y :: ys => by simp [pairsD, pairsD_length xs ys]
theorem pairsD_get : ∀ {xs ys : List D} {i : Nat} {x y : D}, xs[i]? = some x → ys[i]? = some y → (pairsD xs ys)[i]? = some (.tup [x, y])
  | [], _, _, _, _, e, _ => by simp at e
  | _ :: _, [], _, _, _, _, e => by simp at e
  | a :: xs, b :: ys, 0, x, y, e1, e2 => by simp at e1 e2; subst e1 e2; rfl
  | a :: xs, b :: ys, i + 1, x, y, e1, e2 => by
    simp only [List.getElem?_cons_succ] at e1 e2
    simpa [pairsD] using pairsD_get e1 e2
theorem walks_pair {J : It} {n : Nat} {xs ys : List D} {G : Hp → Prop} {f g : Nat → Option V} (w : Walk J n G (YPair f g)) (hn : n = min xs.length ys.length) (hG : ∀ Φ2 H2, Ext Φ Φ2 → Sub Φ2 H2 → G H2)
    (hf : ∀ i v, f i = some v → i < n → ∃ d, xs[i]? = some d ∧ RF K Φ v d) (hg : ∀ i v, g i = some v → i < n → ∃ d, ys[i]? = some d ∧ RF K Φ v d) : Walks K Φ J (pairsD xs ys) := by
  have e : (pairsD xs ys).length = n := by rw [pairsD_length, hn]
  refine ⟨G, YPair f g, by rw [e]; exact w, fun Φ2 H2 x s => ⟨hG Φ2 H2 x s, fun i v H' hi y => ?_⟩⟩
  rw [e] at hi
  obtain ⟨T, p, q, rfl, hT, rfl, h1, h2⟩ := y
  obtain ⟨d1, e1, r1⟩ := hf i p h1 hi
  obtain ⟨d2, e2, r2⟩ := hg i q h2 hi
  have gr : Gr Φ2 H2 (upd Φ2 T (.tup [p, q])) (upd H2 T (.tup [p, q])) := Gr.newF s hT
  exact ⟨_, .tup [d1, d2], gr, pairsD_get e1 e2, .tup (.inl upd_same) (.cons ((r1.mono x).mono gr.fx) (.cons ((r2.mono x).mono gr.fx) .nil))⟩
def iEnumM (ma : M (List Val)) : M (List D) := bnd ma fun vs => bnd (shares vs) fun ds => fun ρ => match ds with
  | [d] => (itemsOf d).map fun xs => (.ok (pairsD (rngD 0 xs.length) xs), ρ)
  | _ => none
theorem EvA.keptI {t : TA} {ms : List (M Val)} {Ψ : Hp} {Ms : List (Nat × Addr)} {ρ : Env} {σ : L2.St} {α : Type} {good : Good α} {f : List D → M α} {Q : List V → Hp → Prop} (ha : EvA K W t (xArgs ms)) (R : Rel K Φ Ψ Ms ρ σ H) (h : PostG K Ψ Ms σ (W σ) Φ ρ H good (bnd (xArgs ms) (fun vs => bnd (shares vs) f) ρ))
    (k : ∀ ds Φ1 ρ1 H1 vs, Rel K Φ1 Ψ Ms ρ1 σ H1 → Step Φ (Own ρ σ) H Φ1 (Own ρ1 σ) H1 → RFs K Φ1 vs ds → PostG K Ψ Ms σ (W σ) Φ1 ρ1 H1 good (f ds ρ1) → Q vs H1) : t σ H Q := by
  refine ha Φ Ψ Ms ρ σ H Q R ?_
  have h1 := h.bnd'
  cases e0 : xArgs ms ρ with
  | none => rw [e0] at h1; exact h1
  | some p0 =>
    obtain ⟨r0, ρ1⟩ := p0
    rw [e0] at h1
    cases r0 with
    | err x => exact h1
    | ok vals =>
      intro Φ1 H1 R1 s1 vs rs
      have h2 : PostG K Ψ Ms σ (W σ) Φ ρ H good (Z.bnd (shares vals) f ρ1) := h1 Φ1 H1 R1 s1
      unfold Z.bnd at h2
      cases e : shares vals ρ1 with
      | none => rw [e] at h2; exact h2.elim
      | some p =>
        obtain ⟨ds, Φ2, eq, R2, s2, rf, x⟩ := shares_ok R1 s1 rs e
        rw [e, eq] at h2
        exact k ds Φ2 p.2 H1 vs R2 s2 rf (h2.from_ s2)
theorem rng_get {n i : Nat} (h : i < n) : (rngD 0 n)[i]? = some (.int (i : Int)) := by simp [rngD, h]
theorem rng_len {lo : Int} {n : Nat} : (rngD lo n).length = n := by simp [rngD]
theorem evi_enum {t : TA} {ms : List (M Val)} (h : EvA K W t (xArgs ms)) : EvI K W (tHBI K (iEnumA K t)) (iEnumM (xArgs ms)) := by
  intro Φ Ψ Ms ρ σ H R Rl hp
  refine h.keptI Rl hp fun ds Φ1 ρ1 H1 vs R1 s1 rf h => ?_
  match ds, rf, h with
  | [], _, h => exact h.elim
  | _ :: _ :: _, _, h => exact h.elim
  | [.lst xs], .cons (.lst (a := a) (vs := vs) hs r) .nil, h =>
    refine ⟨a, vs, rfl, .inl ⟨.inl (R1.sf.rd hs), fun hb => h Φ1 H1 R1 Step.refl ?_ _ ?_⟩⟩
    · have := hb a vs (.inl (.inl (R1.sf.rd hs)))
      have l := r.length
      rw [pairsD_length, rng_len]; omega
    · refine walks_pair walk_enum (by rw [rng_len, r.length]; omega) (fun Φ2 H2 x s => .inl (s.rd (x.rd hs))) (fun i v e hi => ?_) fun i v e hi => ?_
      · cases e
        exact ⟨_, rng_get (by rw [← r.length]; exact hi), .int _⟩
      · exact r.getV e
  | [.tup xs], .cons (.tup (a := a) (vs := vs) hs r) .nil, h =>
    refine ⟨a, vs, rfl, .inr ⟨R1.sf.sqT hs.sq, fun hb => h Φ1 H1 R1 Step.refl ?_ _ ?_⟩⟩
    · have := hb a vs (.inr (R1.sf.sqT hs.sq))
      have l := r.length
      rw [pairsD_length, rng_len]; omega
    · refine walks_pair walk_enumT (by rw [rng_len, r.length]; omega) (fun Φ2 H2 x s => s.sqT (x.sub.sqT hs.sq)) (fun i v e hi => ?_) fun i v e hi => ?_
      · cases e
        exact ⟨_, rng_get (by rw [← r.length]; exact hi), .int _⟩
      · exact r.getV e
  | [.non], _, h => exact h.elim
  | [.bl _], _, h => exact h.elim
  | [.int _], _, h => exact h.elim
  | [.str _], _, h => exact h.elim
  | [.ty _], _, h => exact h.elim
  | [.obj _], _, h => exact h.elim
  | [.dct _], _, h => exact h.elim
  | [.ins _ _], _, h => exact h.elim
def iZipM (ma : M (List Val)) : M (List D) := bnd ma fun vs => bnd (shares vs) fun ds => fun ρ => match ds with
  | [.lst xs, .lst ys] => some (.ok (pairsD xs ys), ρ)
  | [.tup xs, .tup ys] => some (.ok (pairsD xs ys), ρ)
  | _ => none
theorem walk_zipT {a b : Addr} {xs ys : List V} : Walk (RZ.ItzT K a b) (min xs.length ys.length) (fun H => SqT K H a xs ∧ SqT K H b ys) (YPair (fun i => xs[i]?) (fun i => ys[i]?)) := by
  refine ⟨fun i _ hi q => ?_, fun _ q => ⟨xs, ys, q.1, q.2, by omega⟩, fun i H v H' _ q y => ?_⟩
  · exact ⟨xs, ys, xs[i]'(by omega), ys[i]'(by omega), q.1, q.2, by simp [show i < xs.length by omega], by simp [show i < ys.length by omega]⟩
  · obtain ⟨T, x, z, h1, h2, h3, h4, h5⟩ := y
    exact ⟨T, x, z, h1, h2, h3, h4 xs q.1, h5 ys q.2⟩
theorem evi_zip {t : TA} {ms : List (M Val)} (h : EvA K W t (xArgs ms)) : EvI K W (tHBI K (RZ.iZipA K t)) (iZipM (xArgs ms)) := by
  intro Φ Ψ Ms ρ σ H R Rl hp
  refine h.keptI Rl hp fun ds Φ1 ρ1 H1 vs R1 s1 rf h => ?_
  split at h
  · rename_i xs ys
    cases rf with
    | cons r1 t =>
      cases t with
      | cons r2 t =>
        cases t
        cases r1 with
        | @lst a vs _ h1 r1 =>
          cases r2 with
          | @lst b ws _ h2 r2 =>
            refine ⟨a, b, vs, ws, rfl, .inl ⟨.inl (R1.sf.rd h1), .inl (R1.sf.rd h2), fun hb => h Φ1 H1 R1 Step.refl ?_ _ ?_⟩⟩
            · have := hb a vs (.inl (.inl (R1.sf.rd h1)))
              have l := r1.length
              rw [pairsD_length]; omega
            · exact walks_pair (walk_zip rfl) (by rw [r1.length, r2.length]) (fun Φ2 H2 x s => ⟨.inl (s.rd (x.rd h1)), .inl (s.rd (x.rd h2))⟩) (fun i v e hi => r1.getV e) fun i v e hi => r2.getV e
  · rename_i xs ys
    cases rf with
    | cons r1 t =>
      cases t with
      | cons r2 t =>
        cases t
        cases r1 with
        | @tup a vs _ h1 r1 =>
          cases r2 with
          | @tup b ws _ h2 r2 =>
            refine ⟨a, b, vs, ws, rfl, .inr ⟨R1.sf.sqT h1.sq, R1.sf.sqT h2.sq, fun hb => h Φ1 H1 R1 Step.refl ?_ _ ?_⟩⟩
            · have := hb a vs (.inr (R1.sf.sqT h1.sq))
              have l := r1.length
              rw [pairsD_length]; omega
            · exact walks_pair walk_zipT (by rw [r1.length, r2.length]) (fun Φ2 H2 x s => ⟨s.sqT (x.sub.sqT h1.sq), s.sqT (x.sub.sqT h2.sq)⟩) (fun i v e hi => r1.getV e) fun i v e hi => r2.getV e
  · exact h.elim
end
end Z

/-! Z19: chains of tests, what is never reached, pairs of stores, t[::-1]. -/
namespace Z
open PySem L2
section
variable {K : PySem.W.Frag} {W : L2.St → XK} {Φ Φ' Ψ H H' : Hp} {X : Cx} {Q : VK} {pos : Pos}
/-! never reached -/
def tNo : TE := fun _ _ _ => False
def sNo : L2.TS := fun _ _ _ => False
theorem pe_no {e : Expr} : PE X e tNo := ⟨fun _ _ _ _ _ _ h => h.elim⟩
theorem ps_no {e : Stmt} : PS X e sNo := ⟨fun _ _ _ _ _ _ h => h.elim⟩
def xNo : M Val := fun _ => none
theorem evm_no {t : TE} : EvM K W t xNo := fun Φ Ψ Ms ρ σ H Q R h => h.elim

/-! a op b op c -/
def blOf : D → Option Bool
  | .bl b => some b
  | _ => none
def xChain (f g : D → D → Option Val) (ma mb mc : M Val) : M Val := bnd ma fun va => bnd mb fun vb => fun ρ => match cont ρ va, cont ρ vb with
  | some a, some b => match f a b with
    | some (.imm (.bl true)) => bnd mc (fun vc => fun ρ => match cont ρ vb, cont ρ vc with
      | some b, some c => match g b c with
        | some v => some (.ok v, ρ)
        | none => none
      | _, _ => none) ρ
    | some (.imm (.bl false)) => some (.ok (.imm (.bl false)), ρ)
    | _ => none
  | _, _ => none
theorem evm_chain {r r' : R2} {f g : D → D → Option Val} {ta tb tc : TE} {ma mb mc : M Val} (o : OpM K r f) (o' : OpM K r' g) (ha : EvM K W ta ma) (hb : EvM K W tb mb) (hc : EvM K W tc mc) : EvM K W (tChain r r' ta tb tc) (xChain f g ma mb mc) := by
  intro Φ Ψ Ms ρ σ H Q R h
  refine ha.then_ R h fun va Φ1 ρ1 H1 x R1 s1 r1 h => ?_
  refine hb.then_ R1 h fun vb Φ2 ρ2 H2 y R2 s2 r2 h => ?_
  have r1' := r1.step s2
  cases ea : cont ρ2 va with
  | none => rw [ea] at h; exact h.elim
  | some a =>
    cases eb : cont ρ2 vb with
    | none => rw [ea, eb] at h; exact h.elim
    | some b =>
      rw [ea, eb] at h
      simp only at h
      cases ef : f a b with
      | none => rw [ef] at h; exact h.elim
      | some val =>
        rw [ef] at h
        refine o Φ2 H2 x y a b val _ R2.sf (r1'.read R2 ea) (r2.read R2 eb) ef fun Φ' H' v gr rr => ?_
        match val, rr, h with
        | .imm (.bl true), rr, h =>
          have ev : v = .bl true := (show RF K Φ' v (.bl true) from rr).bl'
          refine ⟨true, ev, ?_⟩
          rw [if_pos rfl]
          have R2' := R2.grow gr
          have s12 := s1.trans s2
          refine hc.then_ R2' (h.from_ gr.step) fun vc Φ3 ρ3 H3 z R3 s3 r3 h => ?_
          have r2' := (r2.step gr.step).step s3
          cases ey : cont ρ3 vb with
          | none => rw [ey] at h; exact h.elim
          | some b' =>
            cases ez : cont ρ3 vc with
            | none => rw [ey, ez] at h; exact h.elim
            | some c =>
              rw [ey, ez] at h
              simp only at h
              cases eg : g b' c with
              | none => rw [eg] at h; exact h.elim
              | some wal =>
                rw [eg] at h
                refine o' Φ3 H3 y z b' c wal Q R3.sf (r2'.read R3 ey) (r3.read R3 ez) eg fun Φ4 H4 v4 g4 rr4 => ?_
                exact h Φ4 H4 (R3.grow g4) g4.step v4 (rr4.val R3 g4 (((s12.trans gr.step).trans s3).fresh))
        | .imm (.bl false), rr, h =>
          have ev : v = .bl false := (show RF K Φ' v (.bl false) from rr).bl'
          refine ⟨false, ev, ?_⟩
          rw [if_neg (by decide)]
          exact h Φ' H' (R2.grow gr) gr.step (.bl false) (.bl false)
        | .imm .non, _, h => exact h.elim
        | .imm (.int _), _, h => exact h.elim
        | .imm (.str _), _, h => exact h.elim
        | .imm (.ty _), _, h => exact h.elim
        | .imm (.obj _), _, h => exact h.elim
        | .imm (.tup _), _, h => exact h.elim
        | .imm (.lst _), _, h => exact h.elim
        | .imm (.dct _), _, h => exact h.elim
        | .imm (.ins _ _), _, h => exact h.elim
        | .own _, _, h => exact h.elim
        | .slot _, _, h => exact h.elim

end
/-! x, y = a, b -/
def kdOf : Val → Kd
  | .own _ => .B
  | _ => .I
def newS (ρ : Env) : List Val → Option (List Sl)
  | [] => some []
  | .own d :: r => (newS ρ r).map (.own d :: ·)
  | v :: r => match cont ρ v, newS ρ r with
    | some d, some ss => some (.imm d :: ss)
    | _, _ => none
def putAll : List Nat → List Sl → M Unit
  | i :: is, s :: ss => bnd (putS i s) fun _ => putAll is ss
  | [], [] => ret ()
  | _, _ => fun _ => none
def sPar (is : List Nat) (ms : List (M Val)) : M Fl := bnd (xArgs ms) fun vals => bnd (keepI (vals.map kdOf) vals) fun _ => fun ρ => match newS ρ vals with
  | some ss => bnd (putAll is ss) (fun _ => ret .nx) ρ
  | none => none
def setAll : L2.St → List Nat → List V → L2.St
  | σ, i :: is, v :: vs => setAll (σ.set i (some v)) is vs
  | σ, _, _ => σ
section
variable {K : PySem.W.Frag} {W : L2.St → XK} {Φ Φ' Φ0 Ψ H H' H0 : Hp} {Ms : List (Nat × Addr)} {ρ ρ' : Env} {σ : L2.St} {X : Cx} {Q : VK} {O0 : Addr → Prop}
inductive NewR (K : PySem.W.Frag) (Φ : Hp) (ρ : Env) (σ : L2.St) (H0 H : Hp) : List V → List Sl → Prop
  | nil : NewR K Φ ρ σ H0 H [] []
  | imm {v : V} {d : D} {vs : List V} {ss : List Sl} (r : RF K Φ v d) (t : NewR K Φ ρ σ H0 H vs ss) : NewR K Φ ρ σ H0 H (v :: vs) (.imm d :: ss)
  | own {a : Addr} {d : D} {vs : List V} {ss : List Sl} (r : RM K Φ H a d) (n1 : Φ a = none) (n2 : ¬ Own ρ σ a) (n3 : H0 a = none) (t : NewR K Φ ρ σ H0 H vs ss) (nd : ∀ d', (V.ref a, Sl.own d') ∉ vs.zip ss) : NewR K Φ ρ σ H0 H (.ref a :: vs) (.own d :: ss)
theorem newS_own {ρ : Env} : ∀ {vals : List Val} {ss : List Sl} {vs : List V} {v : V} {d : D}, newS ρ vals = some ss → (v, Sl.own d) ∈ vs.zip ss → (v, Val.own d) ∈ vs.zip vals
  | [], _, _, _, _, e, m => by cases e; simp at m
  | val :: vals, ss, vs, v, d, e, m => by
    cases vs with
    | nil => simp at m
    | cons w vs =>
      cases val with
      | own d0 =>
        simp only [newS] at e
        cases h : newS ρ vals with
        | none => rw [h] at e; cases e
        | some ss' =>
          rw [h] at e; cases e
          rw [List.zip_cons_cons] at m ⊢
          rcases List.mem_cons.mp m with z | z
          · cases z; exact List.mem_cons_self
          · exact List.mem_cons_of_mem _ (newS_own h z)
      | imm d0 =>
        simp only [newS] at e
        cases h : newS ρ vals with
        | none => rw [h] at e; cases e
        | some ss' =>
          rw [h] at e; cases e
          rw [List.zip_cons_cons] at m ⊢
          rcases List.mem_cons.mp m with z | z
          · cases z
          · exact List.mem_cons_of_mem _ (newS_own h z)
      | slot k =>
        simp only [newS] at e
        cases h0 : cont ρ (.slot k) with
        | none => rw [h0] at e; cases e
        | some d1 =>
          cases h : newS ρ vals with
          | none => rw [h0, h] at e; cases e
          | some ss' =>
            rw [h0, h] at e; cases e
            rw [List.zip_cons_cons] at m ⊢
            rcases List.mem_cons.mp m with z | z
            · cases z
            · exact List.mem_cons_of_mem _ (newS_own h z)
theorem newR_of {Φ1 : Hp} {ρ1 : Env} : ∀ {vs : List V} {vals : List Val} {ss : List Sl}, ValsR K Φ1 ρ1 σ H0 H vs vals → KeptR K Φ ρ σ H0 H (vals.map kdOf) vs vals → newS ρ vals = some ss → NewR K Φ ρ σ H0 H vs ss
  | _, _, _, .nil, _, e => by cases e; exact .nil
  | _, _, _, .cons (v := v) (val := val) (vals := vals) r t n, k, e => by
    cases val with
    | own d0 =>
      simp only [newS] at e
      cases h : newS ρ vals with
      | none => rw [h] at e; cases e
      | some ss' =>
        rw [h] at e; cases e
        rw [List.map_cons] at k
        cases k with
        | o nk r' t' =>
          obtain ⟨a, rfl, rm, n1, n2, n3⟩ := r'
          exact .own rm n1 n2 n3 (newR_of t t' h) fun d' m => n d0 d' rfl (newS_own h m)
    | imm d0 =>
      simp only [newS] at e
      cases h : newS ρ vals with
      | none => rw [h] at e; cases e
      | some ss' =>
        rw [h] at e; cases e
        rw [List.map_cons] at k
        cases k with
        | i r' ec t' => rw [ec d0 rfl]; exact .imm r' (newR_of t t' h)
        | o nk r' t' => exact absurd rfl nk
    | slot j =>
      simp only [newS] at e
      cases h0 : cont ρ (.slot j) with
      | none => rw [h0] at e; cases e
      | some d1 =>
        cases h : newS ρ vals with
        | none => rw [h0, h] at e; cases e
        | some ss' =>
          rw [h0, h] at e; cases e
          rw [List.map_cons] at k
          cases k with
          | i r' ec t' => rw [ec d1 h0]; exact .imm r' (newR_of t t' h)
          | o nk r' t' => exact absurd rfl nk
/-- one store -/
theorem put1_ok {v : V} {s : Sl} {i : Nat} {p : Rs Unit × Env} (R : Rel K Φ Ψ Ms ρ σ H) (st : Step Φ0 O0 H0 Φ (Own ρ σ) H) (sr : SlR K Φ Ψ Ms H v s) (hm : s.isM = true → ∀ a, v = .ref a → ¬ Own ρ σ a ∧ H0 a = none) (e : putS i s ρ = some p) :
    p = (.ok (), ρ.set i (some s)) ∧ Rel K Φ Ψ Ms (ρ.set i (some s)) (σ.set i (some v)) H ∧ Step Φ0 O0 H0 Φ (Own (ρ.set i (some s)) (σ.set i (some v))) H ∧
      ∀ a, Own (ρ.set i (some s)) (σ.set i (some v)) a → Own ρ σ a ∨ (s.isM = true ∧ v = .ref a) := by
  unfold putS at e
  cases q : ρ[i]? with
  | none => rw [q] at e; cases e
  | some x =>
    rw [q] at e
    have nx : ∀ d, x ≠ some (.mrf d) := fun d z => by rw [z] at e; cases e
    have ep : p = (.ok (), ρ.set i (some s)) := by
      cases x with
      | none => cases e; rfl
      | some y => cases y with
        | mrf d => cases e
        | imm d => cases e; rfl
        | own d => cases e; rfl
        | bor d => cases e; rfl
    have hi : ∀ a, (i, a) ∉ Ms := fun a m => by
      obtain ⟨_, d, z⟩ := R.ms i a m
      rw [q] at z; cases z; exact nx d rfl
    have ow : ∀ a, Own (ρ.set i (some s)) (σ.set i (some v)) a → Own ρ σ a ∨ (s.isM = true ∧ v = .ref a) := fun a o => by
      obtain ⟨j, t, ej, mt, es⟩ := o
      by_cases z : j = i
      · subst z
        rw [get_set_self q] at ej
        cases ej
        have : (σ.set j (some v))[j]? = some (some v) := List.getElem?_set_self (by rw [← R.len]; exact (List.getElem?_eq_some_iff.mp q).1)
        rw [this] at es
        cases es
        exact .inr ⟨mt, rfl⟩
      · rw [List.getElem?_set_ne (Ne.symm z)] at ej es
        exact .inl ⟨j, t, ej, mt, es⟩
    refine ⟨ep, R.put sr (fun z a ea => fun o => (hm z a ea).1 (own_drop o)) fun a m => absurd m (hi a), ⟨st.f1, st.f2, st.f3, fun a o => ?_, st.f5⟩, ow⟩
    rcases ow a o with z | ⟨z, ea⟩
    · exact st.f4 a z
    · exact .inr (hm z a ea).2
theorem putAll_ok (hΨ : ∀ a, H0 a = none → Ψ a = none ∧ ∀ j, (j, a) ∉ Ms) : ∀ {is : List Nat} {vs : List V} {ss : List Sl} {ρ : Env} {σ : L2.St} {p : Rs Unit × Env}, Rel K Φ Ψ Ms ρ σ H → Step Φ0 O0 H0 Φ (Own ρ σ) H → NewR K Φ ρ σ H0 H vs ss → putAll is ss ρ = some p →
    p = (.ok (), p.2) ∧ Rel K Φ Ψ Ms p.2 (setAll σ is vs) H ∧ Step Φ0 O0 H0 Φ (Own p.2 (setAll σ is vs)) H
  | [], _, _, ρ, σ, p, R, st, .nil, e => by cases e; exact ⟨rfl, R, st⟩
  | [], _, _, ρ, σ, p, R, st, .imm _ _, e => by cases e
  | [], _, _, ρ, σ, p, R, st, .own _ _ _ _ _ _, e => by cases e
  | _ :: _, _, _, ρ, σ, p, R, st, .nil, e => by cases e
  | i :: is, _, _, ρ, σ, p, R, st, .imm (v := v) (d := d) (vs := vs) (ss := ss) r t, e => by
    unfold putAll Z.bnd at e
    cases e1 : putS i (.imm d) ρ with
    | none => rw [e1] at e; cases e
    | some q =>
      obtain ⟨eq, R1, st1, ow⟩ := put1_ok (s := .imm d) R st r (fun z => by cases z) e1
      rw [e1, eq] at e
      have key : ∀ {vs : List V} {ss : List Sl}, NewR K Φ ρ σ H0 H vs ss → NewR K Φ (ρ.set i (some (.imm d))) (σ.set i (some v)) H0 H vs ss := fun {vs ss} t => by
        induction t with
        | nil => exact .nil
        | imm r t ih => exact .imm r ih
        | own r n1 n2 n3 t nd ih => exact .own r n1 (fun o => (ow _ o).elim n2 fun z => by cases z.1) n3 ih nd
      have z := putAll_ok hΨ (is := is) R1 st1 (key t) e
      exact z
  | i :: is, _, _, ρ, σ, p, R, st, .own (a := a) (d := d) (vs := vs) (ss := ss) r n1 n2 n3 t nd, e => by
    unfold putAll Z.bnd at e
    cases e1 : putS i (.own d) ρ with
    | none => rw [e1] at e; cases e
    | some q =>
      obtain ⟨eq, R1, st1, ow⟩ := put1_ok (s := .own d) R st ⟨a, rfl, r, n1, hΨ a n3⟩ (fun _ b eb => by cases eb; exact ⟨n2, n3⟩) e1
      rw [e1, eq] at e
      have key : ∀ {vs : List V} {ss : List Sl}, NewR K Φ ρ σ H0 H vs ss → (∀ d', (V.ref a, Sl.own d') ∉ vs.zip ss) → NewR K Φ (ρ.set i (some (.own d))) (σ.set i (some (.ref a))) H0 H vs ss := fun {vs ss} t => by
        induction t with
        | nil => intro _; exact .nil
        | imm r t ih => intro n; exact .imm r (ih fun d' m => n d' (by rw [List.zip_cons_cons]; exact List.mem_cons_of_mem _ m))
        | @own b d2 vs2 ss2 r n1 n2 n3 t nd ih =>
          intro n
          refine .own r n1 (fun o => (ow _ o).elim n2 fun z => ?_) n3 (ih fun d' m => n d' (by rw [List.zip_cons_cons]; exact List.mem_cons_of_mem _ m)) nd
          have := z.2
          cases this
          exact n d2 (by rw [List.zip_cons_cons]; exact List.mem_cons_self)
      have z := putAll_ok hΨ (is := is) R1 st1 (key t nd) e
      exact z
theorem sPar_ok {is : List Nat} {ms : List (M Val)} {ta : TA} {Dn : Ends} (ha : EvA K W ta (xArgs ms)) (R : Rel K Φ Ψ Ms ρ σ H) (h : PostS K Ψ Ms W Φ ρ σ H Dn (sPar is ms ρ)) {G : List V → Hp → Prop}
    (k : ∀ vs Φ2 ρ2 H2, vs.length = ms.length → Rel K Φ2 Ψ Ms ρ2 (setAll σ is vs) H2 → Step Φ (Own ρ σ) H Φ2 (Own ρ2 (setAll σ is vs)) H2 → (∀ Φ' σ' H', Rel K Φ' Ψ Ms ρ2 σ' H' → Step Φ (Own ρ σ) H Φ' (Own ρ2 σ') H' → Dn.nx σ' H') → G vs H2) : ta σ H G := by
  unfold sPar at h
  have h0 := PostS.bnd h
  cases ex : xArgs ms ρ with
  | none => rw [ex] at h0; exact h0.elim
  | some p0 =>
    obtain ⟨r0, ρ1⟩ := p0
    cases r0 with
    | err x => exact ha Φ Ψ Ms ρ σ H G R (by rw [ex] at h0 ⊢; exact h0)
    | ok vals =>
      refine ha Φ Ψ Ms ρ σ H G R ?_
      rw [ex] at h0 ⊢
      intro Φ1 H1 R1 s1 vs rs
      have h1 : PostS K Ψ Ms W Φ ρ σ H Dn ((Z.bnd (keepI (vals.map kdOf) vals) fun _ => fun ρ => match newS ρ vals with
        | some ss => Z.bnd (putAll is ss) (fun _ => ret .nx) ρ
        | none => none) ρ1) := h0 Φ1 H1 R1 s1
      unfold Z.bnd at h1
      cases ek : keepI (vals.map kdOf) vals ρ1 with
      | none => rw [ek] at h1; exact h1.elim
      | some p =>
        obtain ⟨Φ2, e1, R2, s2, kr, _, _, _⟩ := keepI_ok R1 s1 rs ek
        rw [ek, e1] at h1
        simp only at h1
        cases en : newS p.2 vals with
        | none => rw [en] at h1; exact h1.elim
        | some ss =>
          rw [en] at h1
          simp only at h1
          cases ep : putAll is ss p.2 with
          | none => rw [ep] at h1; exact h1.elim
          | some q =>
            have nr := newR_of rs kr en
            obtain ⟨e2, R3, s3⟩ := putAll_ok (fun a z => R.young z) R2 s2 nr ep
            rw [ep, e2] at h1
            exact k vs Φ2 q.2 H1 (rs.length.trans (xArgs_length ex)) R3 s3 h1
theorem evs_par2 {i j : Nat} {m m' : M Val} {ta : TA} (ha : EvA K W ta (xArgs [m, m'])) : EvS K W (tPar i j ta) (sPar [i, j] [m, m']) := fun Φ Ψ Ms ρ σ H Dn R h => by
  refine sPar_ok ha R h fun vs Φ2 ρ2 H2 hl R2 s2 k => ?_
  match vs, hl, R2, s2 with
  | [v, w], _, R2, s2 => exact ⟨v, w, rfl, k Φ2 _ H2 R2 s2⟩
theorem evs_par3 {i j l : Nat} {m m' m'' : M Val} {ta : TA} (ha : EvA K W ta (xArgs [m, m', m''])) : EvS K W (tPar3 i j l ta) (sPar [i, j, l] [m, m', m'']) := fun Φ Ψ Ms ρ σ H Dn R h => by
  refine sPar_ok ha R h fun vs Φ2 ρ2 H2 hl R2 s2 k => ?_
  match vs, hl, R2, s2 with
  | [v, w, u], _, R2, s2 => exact ⟨v, w, u, rfl, k Φ2 _ H2 R2 s2⟩
/-- more than three: by way of a tuple -/
def gNames : List Nat → TGs
  | [] => gNil
  | i :: is => gCons (gName i) (gNames is)
theorem gNames_ok {Qs : L2.St → Hp → Prop} : ∀ {is : List Nat} {vs : List V} {σ : L2.St} {H : Hp}, vs.length = is.length → Qs (setAll σ is vs) H → gNames is vs σ H Qs
  | [], [], _, _, _, q => ⟨rfl, q⟩
  | [], _ :: _, _, _, e, _ => by simp at e
  | _ :: _, [], _, _, e, _ => by simp at e
  | i :: is, v :: vs, σ, H, e, q => ⟨v, vs, rfl, gNames_ok (is := is) (by simpa using e) q⟩
theorem evs_parN {is : List Nat} {ms : List (M Val)} {ta : TA} {n : Nat} (hn : ms.length = n) (hi : is.length = n) (hz : n ≤ sizeLine) (ha : EvA K W ta (xArgs ms)) : EvS K W (tAsg (tTup ta) (gTup K n (gNames is))) (sPar is ms) := fun Φ Ψ Ms ρ σ H Dn R h => by
  refine sPar_ok ha R h fun vs Φ2 ρ2 H2 hl R2 s2 k => ⟨by rw [hl, hn]; exact hz, fun p hp => ⟨p, vs, rfl, SqT.of upd_same, hl.trans hn, gNames_ok (by rw [hl, hn, hi]) ?_⟩⟩
  have g : Gr Φ2 H2 Φ2 (upd H2 p (.tup vs)) := Gr.newM R2.sf hp
  exact k Φ2 _ _ (R2.grow g) (s2.trans g.step)
end
end Z

/-! Z20: x, y = v; t[::-1]; *args. -/
namespace Z
open PySem PySem.Spec PyProof.Rows
theorem fm_congr {α β : Type} {f g : α → Option β} : ∀ {l : List α}, (∀ m ∈ l, f m = g m) → l.filterMap f = l.filterMap g
  | [], _ => rfl
  | x :: l, h => by
    rw [List.filterMap_cons, List.filterMap_cons, h x List.mem_cons_self, fm_congr (l := l) fun m hm => h m (List.mem_cons_of_mem _ hm)]
section
variable {prog : Program} {w : World} {A : Around} {E : Value → Shared → Prop} {s : Shared}
theorem applied_rev {sl : Addr} {vk : Value} {n : Nat} {Q : Int × Int × Nat → Shared → Prop} (hs : s.heap.IsSliceOf sl .none .none vk) (pk : IsPart vk (some (-1))) (h : Q ((n : Int) - 1, -1, n) s) :
    wpAny (model prog w) A (Builtin.Slice.sliceApplied (.ref sl) (pure (n : Int))) Q E s := by
  obtain ⟨o, ho, _, hd⟩ := hs
  unfold Builtin.Slice.sliceApplied Builtin.Slice.sliceFields
  refine wpAny_bind (wpAny_bind (wpAny_field ho hd (x := .none) rfl (wpAny_bind (wpAny_field ho hd (x := .none) rfl (wpAny_bind (wpAny_field ho hd (x := vk) rfl (wpAny_pure ?_)))))))
  refine wpAny_bind (HT.slicePart_ pk ?_)
  show wpAny _ _ (if ((-1 : Int) == 0) = true then _ else _) _ _ s
  rw [if_neg (by decide)]
  refine wpAny_bind (HT.slicePart_ .none (wpAny_bind (HT.slicePart_ .none (wpAny_bind (wpAny_pure ?_)))))
  have e : Builtin.Slice.sliceAdjust none none (-1) (n : Int) = ((n : Int) - 1, -1) := by
    unfold Builtin.Slice.sliceAdjust
    rfl
  have e2 : Builtin.Slice.slicePlaces ((n : Int) - 1) (-1) (-1) = n := by
    unfold Builtin.Slice.slicePlaces
    simp
    omega
  show wpAny _ _ (match Builtin.Slice.sliceAdjust none none (-1) (n : Int) with | (lo, hi) => pure (lo, (-1 : Int), Builtin.Slice.slicePlaces lo hi (-1))) _ _ s
  rw [e]
  show wpAny _ _ (pure ((n : Int) - 1, (-1 : Int), Builtin.Slice.slicePlaces ((n : Int) - 1) (-1) (-1))) _ _ s
  rw [e2]
  exact wpAny_pure h
theorem pick_rev (xs : Array Value) : ((List.range xs.size).filterMap fun (m : Nat) => xs[(((xs.size : Int) - 1) + (m : Int) * (-1)).toNat]?).toArray = xs.toList.reverse.toArray := by
  have h := PySem.W.krv_all xs
  congr 1
  have e : (List.range xs.size).filterMap (fun (m : Nat) => xs[(((xs.size : Int) - 1) + (m : Int) * (-1)).toNat]?) = ((List.range xs.size).map (fun k => xs.size - 1 - k)).filterMap (xs[·]?) := by
    rw [List.filterMap_map]
    apply fm_congr
    intro m hm
    have := List.mem_range.mp hm
    show xs[_]? = xs[xs.size - 1 - m]?
    congr 1
    omega
  rw [e, PySem.W.krv_range, List.filterMap_reverse, h]
theorem item_tup_rev {t sl : Addr} {items : Array Value} {vk : Value} {Q : Value → Shared → Prop} (ht : IsTup s.heap t items) (hs : s.heap.IsSliceOf sl .none .none vk) (pk : IsPart vk (some (-1)))
    (h : Q (.ref s.heap.objs.size) { s with heap := s.heap.push { cls := .type "tuple", data := .seq items.toList.reverse.toArray } }) (hz : items.size ≤ sizeLine) : wpAny (model prog w) A (getItem (.ref t) (.ref sl)) Q E s := by
  have fit : sizeOk (.seq items.toList.reverse.toArray) := by
    show items.toList.reverse.toArray.size ≤ sizeLine
    simpa using hz
  have ty : s.TypeIs (.ref sl) "slice" := let ⟨o, e, c, _⟩ := hs; ⟨o, e, c⟩
  unfold getItem
  try with_reducible refine wpAny_holding ?_
  first | refine wpAny_bind (wpAny_pure ?_) | skip
  refine wpAny_bind (wpAny_sequenceKey ht.typeIs (by decide) ?_)
  refine wpAny_bind (wpAny_callSpecial?_slot (name := Str.ofString "__getitem__") ht.typeIs PyProof.Rows.slot_tuple_getitem (wpAny_call_entry PyProof.Rows.slot_tuple_getitem ht.typeIs PyProof.Rows.entry_tuple_getitem ?_ (PyProof.Rows.args_tuple_getitem _ _)))
  show wpAny _ _ (Builtin.Tuple.tupleItemsOf (.ref t) >>= _) _ _ s
  refine wpAny_bind (tupleItemsOf_ ht (wpAny_bind (wpAny_typeOf ty ?_)))
  rw [if_pos (by decide)]
  refine wpAny_bind (applied_rev hs pk ?_)
  have no : ¬ ((((items.size : Int) - 1) == 0 && (-1 : Int) == 1 && items.size == items.size) = true) := by simp
  show wpAny _ _ (if (((items.size : Int) - 1) == 0 && (-1 : Int) == 1 && items.size == items.size) = true then _ else _) _ _ s
  rw [if_neg no, pick_rev]
  first
    | exact wpAny_bind (m := Builtin.Tuple.tupleExact _) (wpAny_newObj_type (wpAny_pure ⟨_, rfl, wpAny_pure h⟩) fit)
    | exact wpAny_bind (m := Builtin.Tuple.tupleExact _) (wpAny_newObj_type (wpAny_bind (wpAny_pure (wpAny_pure ⟨_, rfl, wpAny_pure h⟩))) fit)
    | exact wpAny_bind (wpAny_bind (m := Builtin.Tuple.tupleExact _) (wpAny_newObj_type (wpAny_pure (wpAny_pure ⟨_, rfl, wpAny_pure h⟩)) fit))
    | exact wpAny_bind (wpAny_bind (m := Builtin.Tuple.tupleExact _) (wpAny_newObj_type (wpAny_pure ⟨_, rfl, wpAny_pure h⟩) fit))
end
end Z
namespace Z
open PySem L2
section
variable {K : PySem.W.Frag} {W : L2.St → XK} {Φ Φ' Ψ H H' : Hp} {X : Cx} {Q : VK}
/-- a[::-1] -/
def rRevS (K : PySem.W.Frag) : V → Hp → VK → Prop := fun x H Q => ∃ a xs, x = .ref a ∧ ((SqL K H a xs ∧ ∀ p, H p = none → Q (.ref p) (upd H p (.lst xs.reverse))) ∨ (SqT K H a xs ∧ ∀ p, H p = none → Q (.ref p) (upd H p (.tup xs.reverse))))
theorem pe_revS {e st : Expr} {te : TE} {pos p2 : Pos} (he : PE X e te) (hst : PE X st (tC (.int (-1)))) : PE X (.Subscript e (.Slice none none (some st) p2) pos) (tUn (rRevS X.K) te) := by
  refine ⟨fun pins s σ H Q I h => ?_⟩
  refine PyProof.Rows.Subscript_ (thn (he.run pins s σ H _ I h) fun v s1 ⟨x, H1, I1, r1, a, xs, ex, q⟩ => ?_)
  subst ex
  cases r1
  refine wpAny_Slice ?_
  rw [evalPart_none]
  refine wpAny_pure (wpAny_pure ?_)
  rw [evalPart_some]
  refine thn (hst.run pins s1 σ H1 (fun y H2 => y = .int (-1) ∧ H2 = H1) I1 ⟨rfl, rfl⟩) fun vk s2 ⟨y, H2, I2, ry, ey, eh⟩ => ?_
  subst ey eh
  obtain ⟨tk, rfl⟩ := ry
  have I3 : Inv X pins σ H2 { s2 with heap := s2.heap.push { cls := .type "slice", data := .fields #[.none, .none, .int (-1) tk] } } := I2.kept (t' := s2.toks) fun b ob q => Heap.get?_push_of_some _ q
  have hs := Heap.IsSliceOf.new s2.heap .none .none (.int (-1) tk)
  rcases q with ⟨hq, q⟩ | ⟨hq, q⟩
  · obtain ⟨its, rv, pl, hz⟩ := I3.list hq
    have hl := rv.length
    refine PyProof.Rows.tail_any (ops := [.ref a, .ref s2.heap.objs.size]) pl.isList.typeIs slot_list_getitem.lookup ?_ (by with_unfolding_all rfl)
    refine wpAny_getItem_list_slice pl.isList hs .none .none (.int (-1) tk) (by decide) ?_ (by rw [List.size_toArray]; omega)
    rw [PySem.W.krv_pick]
    refine ⟨.ref _, _, I3.laid (t' := s2.toks) (o := .lst xs.reverse) (fun b ob q => Heap.get?_push_of_some _ q) (Nat.le_refl _) ⟨by rw [List.length_reverse]; exact hz, its.reverse, 0, rv.reverse, Heap.get?_push_size _ rfl⟩, rfl, q _ (I3.hok.fresh (Nat.le_refl _))⟩
  · obtain ⟨its, rv, pl, hz⟩ := I3.tuple hq
    have hl := rv.length
    refine PyProof.Rows.tail_any (ops := [.ref a, .ref s2.heap.objs.size]) pl.typeIs PyProof.Rows.slot_tuple_getitem.lookup ?_ (by with_unfolding_all rfl)
    refine item_tup_rev pl hs (.int (-1) tk) ?_ (by rw [List.size_toArray]; omega)
    refine ⟨.ref _, _, I3.laid (t' := s2.toks) (o := .tup xs.reverse) (fun b ob q => Heap.get?_push_of_some _ q) (Nat.le_refl _) ⟨by rw [List.length_reverse]; exact hz, its.reverse, rv.reverse, PyProof.Rows.IsTup.new _ _⟩, rfl, q _ (I3.hok.fresh (Nat.le_refl _))⟩
def dRevS : D → Option Val
  | .lst xs => some (.own (.lst xs.reverse))
  | .tup xs => some (.imm (.tup xs.reverse))
  | _ => none
theorem unm_revS : UnM K (rRevS K) dRevS := by
  intro Φ H x a val Q sf ra e q
  unfold dRevS at e
  split at e
  · cases e
    obtain ⟨p, vs, rfl, hp, rr⟩ := ra.lsts sf
    exact ⟨p, vs, rfl, .inl ⟨.inl hp, fun l hl => q.lst sf rr.rev hl⟩⟩
  · cases e
    obtain ⟨p, vs, rfl, hp, rr⟩ := ra.tup sf
    exact ⟨p, vs, rfl, .inr ⟨hp, fun l hl => q.tup sf rr.rev hl⟩⟩
  · cases e
/-- x, y = v -/
def sUnp (g : D → M Unit) (m : M Val) : M Fl := bnd m fun v => bnd (share v) fun d => fun ρ => match g d ρ with
  | some (.ok _, ρ') => some (.ok .nx, ρ')
  | _ => none
theorem evs_unp {vs : List Nat} {te : TE} {tg : TG} {m : M Val} {g : D → M Unit} (hm : EvM K W te m) (hg : EvG K vs tg g) : EvS K W (tAsg te tg) (sUnp g m) := fun Φ Ψ Ms ρ σ H Dn R h => by
  refine hm.thenS R h fun val Φ1 ρ1 H1 v R1 s1 r1 h => ?_
  unfold Z.bnd at h
  cases e : share val ρ1 with
  | none => rw [e] at h; exact h.elim
  | some p =>
    obtain ⟨d, Φ2, e1, R2, s2, rf, x2, _⟩ := share_ok R1 s1 r1 e
    rw [e, e1] at h
    simp only at h
    refine hg Φ2 Ψ Ms p.2 σ H1 v d Dn.nx R2 rf ?_
    cases eg : g d p.2 with
    | none => rw [eg] at h; exact h.elim
    | some q =>
      obtain ⟨r, ρ3⟩ := q
      rw [eg] at h
      cases r with
      | err x => exact h.elim
      | ok u => exact fun Φ' σ' H' R' s' _ _ => h Φ' σ' H' R' (s2.trans s')
end
end Z

/-! Z21: defs with *args. -/
namespace Z
open PySem L2 PySem.Spec PyProof.Rows
def Sl.isI : Sl → Bool
  | .imm _ => true
  | _ => false
def starFn (m : Nat) (F : Fn) : Fn := fun ss => if (ss.drop m).all Sl.isI = true then F (ss.take m ++ [.imm (.tup ((ss.drop m).map Sl.d))]) else none
section
variable {K : PySem.W.Frag} {Φ H : Hp} {Q : VK} {E : XK} {l : List (Nat × Addr)}
theorem Lent.star {p : Addr} {d : D} : ∀ {ws rest : List V} {ss ss2 : List Sl} {i : Nat} {l : List (Nat × Addr)}, Lent i (ws ++ rest) (ss ++ ss2) l → ws.length = ss.length → ss2.all Sl.isI = true → Lent i (ws ++ [.ref p]) (ss ++ [.imm d]) l
  | [], rest, [], ss2, i, l, h, _, a => by
    have e : l = [] := by
      have h' : Lent i rest ss2 l := h
      clear h
      induction h' with
      | nil => rfl
      | skip h t ih => exact ih (by rw [List.all_cons, Bool.and_eq_true] at a; exact a.2)
      | lend t ih => rw [List.all_cons] at a; cases a
    subst e
    exact .skip rfl .nil
  | [], _, _ :: _, _, _, _, _, e, _ => by simp at e
  | _ :: _, _, [], _, _, _, _, e, _ => by simp at e
  | _ :: ws, rest, _ :: ss, ss2, i, l, h, e, a => by
    cases h with
    | skip h t => exact .skip h (Lent.star t (by simpa using e) a)
    | lend t => exact .lend (Lent.star t (by simpa using e) a)
theorem argsR_split {Ψ : Hp} : ∀ {ws rest : List V} {ss ss2 : List Sl}, ArgsR K Φ Ψ H (ws ++ rest) (ss ++ ss2) → ws.length = ss.length → ss2.all Sl.isI = true → ArgsR K Φ Ψ H ws ss ∧ RFs K Φ rest (ss2.map Sl.d)
  | [], rest, [], ss2, h, _, a => by
    refine ⟨.nil, ?_⟩
    have h' : ArgsR K Φ Ψ H rest ss2 := h
    clear h
    induction h' with
    | nil => exact .nil
    | @cons v s vs ss r t ih =>
      rw [List.all_cons, Bool.and_eq_true] at a
      cases s with
      | imm d => exact .cons r (ih a.2)
      | own d => cases a.1
      | bor d => cases a.1
      | mrf d => cases a.1
  | [], _, _ :: _, _, _, e, _ => by simp at e
  | _ :: _, _, [], _, _, e, _ => by simp at e
  | _ :: ws, rest, _ :: ss, ss2, h, e, a => by
    cases h with
    | cons r t =>
      obtain ⟨h1, h2⟩ := argsR_split t (by simpa using e) a
      exact ⟨.cons r h1, h2⟩
theorem spF_star {m n : Nat} {F : Fn} {ws rest : List V} (hw : ws.length = m) (h : spF K n (starFn m F) (ws ++ rest) H Q E) {p : Addr} (hp : H p = none) : spF K (m + 1) F (ws ++ [.ref p]) (upd H p (.tup rest)) Q E := by
  obtain ⟨Φ, ss, l, len, sf, hl, nd, ar, po⟩ := h
  have al := ar.length
  have es : ss = ss.take m ++ ss.drop m := (List.take_append_drop m ss).symm
  have tl : ws.length = (ss.take m).length := by
    rw [List.length_take, ← al, List.length_append]; omega
  unfold starFn at po
  by_cases c : (ss.drop m).all Sl.isI = true
  · rw [if_pos c] at po
    rw [es] at hl ar
    obtain ⟨a1, a2⟩ := argsR_split ar tl c
    have np : Φ p = none := sf.none hp
    have gr : Gr Φ H (upd Φ p (.tup rest)) (upd H p (.tup rest)) := Gr.newF sf hp
    have nl : ∀ j, (j, p) ∉ l := fun j m => by
      obtain ⟨_, h1, d, h2⟩ := hl.mem m
      obtain ⟨v, h3, r⟩ := ar.get h2
      rw [h1] at h3; cases h3
      obtain ⟨b, eb, rm, _⟩ := r
      cases eb
      exact rm.ne hp
    have sb : Sub (less H l) (less (upd H p (.tup rest)) l) := fun a o e => by
      by_cases q : ∃ j, (j, a) ∈ l
      · obtain ⟨j, q⟩ := q; rw [less_in q] at e; cases e
      · have q' : ∀ j, (j, a) ∉ l := fun j z => q ⟨j, z⟩
        rw [less_out q'] at e
        rw [less_out q', upd_ne (fun z => by subst z; rw [hp] at e; cases e)]
        exact .inl e
    refine ⟨upd Φ p (.tup rest), ss.take m ++ [.imm (.tup ((ss.drop m).map Sl.d))], l, by rw [List.length_append, hw]; rfl, gr.sb, hl.star tl c, nd, ?_, ?_⟩
    · have last : ArgR K (upd Φ p (.tup rest)) (less (upd H p (.tup rest)) l) (upd H p (.tup rest)) (.ref p) (.imm (.tup ((ss.drop m).map Sl.d))) := .tup (.inl upd_same) (a2.mono gr.fx)
      clear hl nd po al es tl len hw ar
      revert last a1
      generalize ss.take m = tk
      generalize Sl.imm (.tup ((ss.drop m).map Sl.d)) = z
      intro a1 last
      induction a1 with
      | nil => exact .cons last .nil
      | @cons v t vs ts r _ ih =>
        refine .cons ?_ ih
        cases t with
        | imm d => exact RF.mono gr.fx r
        | bor d => exact R1.sub sb (R1.mono r gr.fx)
        | own d => exact r.elim
        | mrf d =>
          obtain ⟨b, eb, rm, nb⟩ := r
          refine ⟨b, eb, rm.move gr.fx (fun o e => gr.hx _ _ e), ?_⟩
          rw [upd_ne (fun z => by subst z; exact rm.ne hp)]
          exact nb
    · have fe : ∀ {Φ2 H2 : Hp} {ρ2 : Env}, FEnd K (upd Φ p (.tup rest)) (upd H p (.tup rest)) l Φ2 H2 ρ2 → FEnd K Φ H l Φ2 H2 ρ2 := fun {Φ2 H2 ρ2} f =>
        ⟨gr.fx.trans f.f1, f.sb, fun a o e n => f.f2 a o (gr.hx a o e) n, fun a o e => by
          rcases f.f3 a o e with q | q | ⟨xs, q⟩
          · exact (gr.fn a o q).elim .inl fun z => .inr (.inl z)
          · exact .inr (.inl (Ext.back gr.hx q))
          · cases hh : H a with
            | none => exact .inr (.inl rfl)
            | some u =>
              have := gr.hx a u hh
              rw [q] at this; cases this
              exact .inr (.inr ⟨xs, rfl⟩), fun a e => f.f5 a fun z => e (Ext.back gr.hx z), f.ms⟩
      revert po
      generalize F (ss.take m ++ [.imm (.tup ((ss.drop m).map Sl.d))]) = r
      intro po
      match r, po with
      | some (.ok val, ρ2), po =>
        refine fun Φ2 H2 v f r => po Φ2 H2 v (fe f) ?_
        cases val with
        | imm d => exact r
        | own d => obtain ⟨b, eb, rm, n1, n2⟩ := r; exact ⟨b, eb, rm, Ext.back gr.hx n1, n2⟩
        | slot i => exact r
      | some (.err x, ρ2), po => exact fun Φ2 H2 c d f r => po Φ2 H2 c d (fe f) r
  · rw [if_neg c] at po; exact po.elim
end
section
variable {P : Program} {w : World} {K : PySem.W.Frag} {mg : Str → Option Value} {base : Heap} {CX : CXT} {k n : Nat} {f : Addr} {sp : Sp} {fd : FuncData}
theorem fnG_star {x qual pv : Str} {pa : Arguments} {body : List Stmt} {scope : Scope} {dvs : List V} {kws : List (Str × V)} {N ps : List Str} {sp0 : Sp} (F : FunD K x qual pa body scope dvs kws f fd) (S : FnScope N (ps ++ [pv]) scope) (hCX : StX.CXUp CX) (hz : n ≤ sizeLine)
    (hb : ∀ us rest : List Value, us.length = ps.length → rest.length + ps.length = n → bindArgs fd ⟨us ++ rest, []⟩ = (newTuple rest >>= fun t => pure (ps.zip us ++ [(pv, t)])))
    (run : ∀ (cdv : Value) (A : Around) (fr : List PySem.Env) (s : Shared) (H : Hp) (vs : List V) (Q : VK) (E : XK), A.guards = some [] → Room k (A.deeper (envOfC qual scope s.heap.objs.size f cdv)) → sp0 vs H Q E →
      ∃ t, PSs (cxOf CX P w K mg base N qual scope f cdv A fr s H E) body t ∧ t { nx := fun _ H' => Q .non H', rt := Q } (L2.start N vs) H) :
    FnG P w K mg base CX (k + 1) f n [] (fun vs H Q E => ∃ ws rest, vs = ws ++ rest ∧ ws.length = ps.length ∧ ∀ p, H p = Option.none → sp0 (ws ++ [V.ref p]) (upd H p (.tup rest)) Q E) := by
  refine ⟨fun A fr s H us ks vs zs Q E gd hr e0 r1 r2 l1 l2 h => ?_⟩
  have z0 : zs = [] := List.length_eq_zero_iff.mp l2
  subst z0
  cases r2
  obtain ⟨oc, od, dV, kV, doc, pm, an, cdv, ct, osl, rfl, lk, hcd, _, _⟩ := F.ex
  obtain ⟨ws, rest, ev, hl, hq⟩ := h
  rw [List.append_nil] at ev
  subst ev
  obtain ⟨u1, u2, rfl, q1, q2⟩ := StX.vals_split r1
  have hn : H s.heap.objs.size = Option.none := e0.hok.fresh (Nat.le_refl _)
  have l3 : u1.length = ps.length := by rw [← q1.length]; exact hl
  have l4 : rest.length ≤ sizeLine := by rw [List.length_append] at l1; omega
  refine StX.run_bnd lk hcd S hr e0 (G := fun xs H2 => ∃ p, H p = Option.none ∧ xs = ws ++ [V.ref p] ∧ H2 = upd H p (.tup rest)) (fun A' Ex Q' h => ?_) fun s2 H2 xs ⟨p, hp, ex, eH⟩ hr' => ?_
  · show wpAny _ _ (bindArgs _ ⟨u1 ++ u2, []⟩) _ _ _
    rw [hb u1 u2 l3 (by rw [← q2.length, ← hl, ← l1, List.length_append]; omega)]
    refine wpAny_bind (wpAny_newTuple (wpAny_pure ?_) (by rw [← q2.length]; exact l4))
    have new : ObjOk P w (upd H s.heap.objs.size (.tup rest)) (s.heap.push ({ cls := .type "tuple", data := .seq u2.toArray } : Obj)) s.heap.objs.size (.tup rest) := ⟨l4, u2, q2, ⟨_, Heap.get?_push_size _ rfl, rfl, _, rfl⟩⟩
    have un := StX.un_laid (fs := frs fr.2) (s := s) (o := ({ cls := .type "tuple", data := .seq u2.toArray } : Obj)) (u := .tup rest) hn
    have z := h _ _ (ws ++ [V.ref s.heap.objs.size]) (u1 ++ [Value.ref s.heap.objs.size]) (StX.env0_laid e0 new) un rfl (fun e s' => hCX fr.2 s H _ _ E e s' un (fun b o q => Heap.get?_push_of_some _ q) rfl) (q1.append (.cons rfl .nil))
      (by rw [List.length_append, List.length_append, hl]; rfl) ⟨_, hn, rfl, rfl⟩
    rw [List.zip_append l3.symm] at z
    exact z
  · subst ex eH
    exact run cdv A fr.2 s2 _ _ Q E gd hr' (hq p hp)
end
end Z

/-! Z22: small words for the printed walks; keywords in another order. -/
namespace Z
open PySem L2
section
variable {K : PySem.W.Frag} {W : L2.St → XK} {X : Cx}
theorem pv_ {i : Nat} {x : Str} {pos : Pos} (hN : X.N[i]? = some x) (hv : Vis X.env.scope x := by first | exact Or.inl rfl | exact Or.inr (Or.inl rfl) | exact Or.inr (Or.inr rfl)) (hd : (x == ("__debug__" : Str)) = false := by decide) (hc : (x == ("__classdict__" : Str)) = false := by decide) :
    PE X (.Name x pos) (tVar i) := pe_var hN hv hd hc
theorem pe_neg1 {j : Nat} {p q : Pos} : PE X (.UnaryOp .USub (.Constant (.int 1) j p) q) (tC (.int (-1))) := ⟨fun pins s σ H Q I h => (pe_un un_neg pe_int).run pins s σ H Q I ⟨1, rfl, h⟩⟩
theorem evb_yes : EvB K W tYes (ret true) := fun Φ Ψ Ms ρ σ H Q R h => h Φ H R Step.refl
theorem ps0 {E : L2.St → XK} : ∀ σ, PassesAt L2.CX0 X σ (E σ) := fun _ _ _ _ _ _ _ h => h.elim
theorem pas0 {M : Model} {A : Around} {env : PySem.Env} : PassesOwn M A env (fun _ _ => False) := fun _ _ h => h.elim
end
/-! ### the arguments in another order -/
def permL {α : Type} (idx : List Nat) (vs : List α) : List α := idx.filterMap fun i => vs[i]?
def permFn (idx : List Nat) (F : Fn) : Fn := fun ss => if ss.all (fun s => !s.isM) = true then F (permL idx ss) else none
theorem perm_vals {idx : List Nat} {vs : List V} {us bs : List Value} (r : Vals vs us) (e : permL idx us = bs) : Vals (permL idx vs) bs := by
  subst e
  unfold permL
  induction idx with
  | nil => exact .nil
  | cons i idx ih =>
    rw [List.filterMap_cons, List.filterMap_cons]
    have hl := r.length
    by_cases h : i < vs.length
    · obtain ⟨u, hu, ru⟩ := r.get (List.getElem?_eq_getElem h)
      rw [List.getElem?_eq_getElem h, hu]
      exact .cons ru ih
    · rw [List.getElem?_eq_none_iff.mpr (by omega), List.getElem?_eq_none_iff.mpr (by omega)]
      exact ih
section
variable {K : PySem.W.Frag} {Φ H : Hp} {Q : VK} {E : XK} {l : List (Nat × Addr)}
theorem lent_none : ∀ {i : Nat} {vs : List V} {ss : List Sl} {l : List (Nat × Addr)}, Lent i vs ss l → ss.all (fun s => !s.isM) = true → l = [] ∧ Lent i vs ss []
  | _, _, _, _, .nil, _ => ⟨rfl, .nil⟩
  | _, _, _, _, .skip h t, a => by
    rw [List.all_cons, Bool.and_eq_true] at a
    obtain ⟨e, t'⟩ := lent_none t a.2
    exact ⟨e, .skip h t'⟩
  | _, _, _, _, .lend t, a => by rw [List.all_cons] at a; cases a
theorem lent_free : ∀ {vs : List V} {ss : List Sl} {i : Nat}, vs.length = ss.length → ss.all (fun s => !s.isM) = true → Lent i vs ss []
  | [], [], _, _, _ => .nil
  | [], _ :: _, _, e, _ => by simp at e
  | _ :: _, [], _, e, _ => by simp at e
  | v :: vs, s :: ss, i, e, a => by
    rw [List.all_cons, Bool.and_eq_true] at a
    exact .skip (by simpa using a.1) (lent_free (by simpa using e) a.2)
theorem spF_perm {n : Nat} {idx : List Nat} {F : Fn} {vs : List V} (hi : idx.length = n ∧ idx.all (fun i => decide (i < n)) = true) (h : spF K n (permFn idx F) vs H Q E) : spF K n F (permL idx vs) H Q E := by
  obtain ⟨Φ, ss, l, len, sf, hl, nd, ar, po⟩ := h
  unfold permFn at po
  by_cases c : ss.all (fun s => !s.isM) = true
  · rw [if_pos c] at po
    obtain ⟨rfl, hl'⟩ := lent_none hl c
    have al := ar.length
    have key : ∀ {idx : List Nat}, idx.all (fun i => decide (i < n)) = true → ArgsR K Φ (less H []) H (permL idx vs) (permL idx ss) ∧ (permL idx vs).length = idx.length ∧ (permL idx ss).all (fun s => !s.isM) = true := fun {idx} hi => by
      induction idx with
      | nil => exact ⟨.nil, rfl, rfl⟩
      | cons i idx ih =>
        rw [List.all_cons, Bool.and_eq_true] at hi
        obtain ⟨i1, i2, i3⟩ := ih hi.2
        have lt : i < n := of_decide_eq_true hi.1
        have ls : i < ss.length := by omega
        obtain ⟨v, ev, r⟩ := ar.get (List.getElem?_eq_getElem ls)
        have es : permL (i :: idx) ss = ss[i] :: permL idx ss := by unfold permL; rw [List.filterMap_cons, List.getElem?_eq_getElem ls]
        have ez : permL (i :: idx) vs = v :: permL idx vs := by unfold permL; rw [List.filterMap_cons, ev]
        rw [es, ez]
        refine ⟨.cons r i1, by rw [List.length_cons, List.length_cons, i2], ?_⟩
        rw [List.all_cons, i3, Bool.and_true]
        exact List.all_eq_true.mp c _ (List.getElem_mem ls)
    obtain ⟨k1, k2, k3⟩ := key hi.2
    exact ⟨Φ, permL idx ss, [], by rw [k2]; exact hi.1, sf, lent_free k1.length k3, nd, k1, po⟩
  · rw [if_neg c] at po; exact po.elim
end
end Z

/-! Z23: the law's end: a hook that knows that no list stands among the program's own objects. -/
namespace Z
open PySem L2 PySem.Spec PyProof.Rows
def noL (K : PySem.W.Frag) : Bool := K.all fun p => match p.2.cls with
  | .type c => c != "list"
  | _ => true
def frM (n : Nat) (g : Addr → Option Obj) : PySem.W.Frag := He.frG g (sysModules :: He.asD g n)
def obsL (ex : PySem.W.Frag → Bool) (n : Nat) (fa : List He.Fa) (fn : List He.DefD) (g : Addr → Option Obj) : Bool × He.AlD := (noL (frM n g) && (smB (frM n g) && ex (frM n g)), He.obsD fa fn (frM n g))
def hookL (ex : PySem.W.Frag → Bool) (n : Nat) (fa : List He.Fa) (fn : List He.DefD) : PySem.W.Hook where
  α := Bool × He.AlD
  obs := fun s => obsL ex n fa fn s.heap.get?
  val := fun _ => (true, He.valD fn)
  says := fun _ h => ∃ K : PySem.W.Frag, K.In h ∧ He.SaysD fa fn K ∧ noL K = true ∧ smB K = true ∧ ex K = true
  of := fun _ _ e => by
    obtain ⟨h1, h2⟩ := He.ba (congrArg (fun z : Bool × He.AlD => z.1) e)
    obtain ⟨h2, h3⟩ := He.ba h2
    exact ⟨_, He.frG_in, congrArg (fun z : Bool × He.AlD => z.2) e, h1, h2, h3⟩
  keeps := fun _ _ _ ⟨K, hK, c⟩ k => ⟨K, PySem.W.Frag.In.keeps hK k, c⟩
theorem obsL_eq {ex : PySem.W.Frag → Bool} {n : Nat} {fa : List He.Fa} {fn : List He.DefD} {g : Addr → Option Obj} {s : Shared} (h : ∀ a, g a = s.heap.get? a) : obsL ex n fa fn g = (hookL ex n fa fn).obs s := by
  have e : g = s.heap.get? := funext h
  rw [e]; rfl
theorem noL_not {K : PySem.W.Frag} {a : Addr} {o : Obj} (h : noL K = true) (e : K.lookup a = some o) (c : o.cls = .type "list") : False := by
  have m : (a, o) ∈ K := by
    clear h
    induction K with
    | nil => cases e
    | cons p K ih =>
      obtain ⟨b, u⟩ := p
      rw [List.lookup_cons] at e
      split at e
      · rename_i q
        cases e
        have : a = b := by simpa using q
        subst this
        exact List.mem_cons_self
      · exact List.mem_cons_of_mem _ (ih e)
  have z := List.all_eq_true.mp h _ m
  simp only [c] at z
  exact absurd z (by decide)
theorem law_sp {K : PySem.W.Frag} {F : Fn} {H : Hp} {a : Addr} {ns : List Int} (nl : noL K = true) (hS : SqL K H a (ns.map V.int)) (ok : ∃ ρ, F [.bor (.lst (ns.map D.int))] = some (.ok (.imm (.bl true)), ρ)) :
    spF K 1 F [.ref a] H (fun v _ => v = .bl true) fun _ _ _ => False := by
  rcases hS with hS | ⟨o, its, n, e, c, _⟩
  · obtain ⟨ρ, e⟩ := ok
    have ls : less H [] = H := by
      funext b
      exact less_out fun j m => by cases m
    refine ⟨fun _ => none, [.bor (.lst (ns.map D.int))], [], rfl, (fun a o z => by cases z), .skip rfl .nil, List.nodup_nil, .cons ?_ .nil, ?_⟩
    · rw [ls]
      exact .lst hS (rfs_int ns)
    · rw [e]
      exact fun Φ' H' v _ r => (show RF K Φ' v (.bl true) from r).bl'
  · exact (noL_not nl e c).elim
theorem walkZ {F : Fn} {l : PySem.W.OpenLaw} {n k : Nat} {q : Program} {loose : List Str} {XP : (Str → Option Value) → Heap → Prop} {YP : World → Heap → Prop} {d : DefRec} {CX : World → CXT} (hn : l.most = some n) (n2 : n ≤ sizeLine) (nd : d.params.defaults = []) (room : Room k callerA)
    (G : ∀ (w : World) (mg : Str → Option Value) (fa : Addr) (h : Heap), YP w h → h.Ns mainGlobals mg → mg d.name = some (.ref fa) →
      ∃ K : PySem.W.Frag, K.In h ∧ noL K = true ∧ ∀ base : Heap, K.In base → base.Ns mainGlobals mg → FnG l.prog w K mg base (CX w) k fa 1 [] (spF K 1 F))
    (ok : ∀ ns : List Int, ns.length ≤ n → ∃ ρ, F [.bor (.lst (ns.map D.int))] = some (.ok (.imm (.bl true)), ρ))
    (noX : ∀ (w : World) (H : Hp) (s : Shared) (e : Value) (s' : Shared), CX w [] H s (fun _ _ _ => False) e s' → False) : PySem.W.WalkO q loose XP YP l.row.toRowW d [] (fun f vs => PySem.call f vs) :=
  walkG hn n2 nd room (fun w mg fa h Y N m => by
    obtain ⟨K, X, nl, g⟩ := G w mg fa h Y N m
    exact ⟨K, spF K 1 F, X, fun H a ns hl hS => law_sp nl hS (ok ns hl), g⟩) noX
end Z

/-! Z24: dict(list of pairs), keys texts and numbers or tuples of them. -/
namespace Z
open PySem L2
/-- the pairs of a list -/
def pairAll : List D → Option (List (D × D))
  | [] => some []
  | .tup [k, v] :: r => (pairAll r).map ((k, v) :: ·)
  | _ => none
def putsT : List (D × D) → List (D × D) → Option (List (D × D))
  | acc, [] => some acc
  | acc, (k, v) :: r => (keyTn k).bind fun kk => putsT (putTD acc kk k v) r
def putsK : List (D × D) → List (D × D) → Option (List (D × D))
  | acc, [] => some acc
  | acc, (k, v) :: r => (keyOf k).bind fun kk => putsK (putD acc kk k v) r
def dDictT : List D → Option Val
  | [.lst ds] => (pairAll ds).bind fun ps => if ps.length ≤ sizeLine then (putsT [] ps).map fun l => .own (.dtt l) else none
  | _ => none
def dDictK : List D → Option Val
  | [.lst ds] => (pairAll ds).bind fun ps => if ps.length ≤ sizeLine then (putsK [] ps).map fun l => .own (.dct l) else none
  | _ => none
def mergeT (kvs more : List (List Key × V)) : List (List Key × V) := more.foldl (fun acc kv => putK acc kv.1 kv.2) kvs
theorem mergeT_len : ∀ (more kvs : List (List Key × V)), (mergeT kvs more).length ≤ kvs.length + more.length
  | [], kvs => by show kvs.length ≤ kvs.length + 0; omega
  | q :: more, kvs => by
    have := mergeT_len more (putK kvs q.1 q.2)
    have := length_putK kvs q.1 q.2
    show (mergeT (putK kvs q.1 q.2) more).length ≤ kvs.length + (more.length + 1)
    omega
section
variable {K : PySem.W.Frag} {Φ H : Hp} {X : Cx} {Q : VK} {pins : List (Addr × Obj)} {σ : L2.St} {s : Shared}
/-- pairs whose keys are tuples that stand -/
inductive PrT (K : PySem.W.Frag) (H : Hp) : List Addr → List (List Key × V) → Prop
  | nil : PrT K H [] []
  | cons {p b : Addr} {k : List Key} {v : V} {ps : List Addr} {kvs : List (List Key × V)} (h : SqT K H p [.ref b, v]) (hb : H b = some (.tup (k.map kV))) (t : PrT K H ps kvs) : PrT K H (p :: ps) ((k, v) :: kvs)
def rDictT (K : PySem.W.Frag) : List V → Hp → VK → Prop := fun xs H Q => ∃ (a : Addr) (ps : List Addr) (kvs : List (List Key × V)), xs = [V.ref a] ∧ SqL K H a (ps.map V.ref) ∧ PrT K H ps kvs ∧ kvs.length ≤ sizeLine ∧
  ∀ p, H p = none → Q (.ref p) (upd H p (.dT (mergeT [] kvs)))
theorem PrT.length {ps : List Addr} {kvs : List (List Key × V)} (h : PrT K H ps kvs) : ps.length = kvs.length := by
  induction h with
  | nil => rfl
  | cons _ _ _ ih => rw [List.length_cons, List.length_cons, ih]
/-- what the library reads of them -/
theorem PrT.reads (I : Inv X pins σ H s) : ∀ {ps : List Addr} {kvs : List (List Key × V)}, PrT X.K H ps kvs → ∃ xs : List (List Key × Addr × Value), KT H kvs xs ∧ xs.length = ps.length ∧
    ∀ (j : Nat) (x : List Key × Addr × Value), xs[j]? = some x → ∃ p, ps[j]? = some p ∧ s.heap.IsTuple p #[.ref x.2.1, x.2.2]
  | _, _, .nil => ⟨[], .nil, rfl, fun j x e => by simp at e⟩
  | _, _, .cons (p := p) (b := b) (k := k) h hb t => by
    obtain ⟨xs, kt, l, g⟩ := PrT.reads I t
    obtain ⟨its, rv, ht, _⟩ := I.tuple h
    obtain ⟨u, y, ei, ru, ry⟩ := vals2 rv
    subst ei
    cases (show u = Value.ref b from ru)
    refine ⟨(k, b, y) :: xs, .cons ⟨rfl, hb, ry⟩ kt, by rw [List.length_cons, List.length_cons, l], fun j x e => ?_⟩
    cases j with
    | zero =>
      cases (Option.some.inj e : (k, b, y) = x)
      exact ⟨p, rfl, ht⟩
    | succ j => simpa using g j x (by simpa using e)
theorem KT.merge : ∀ {more : List (List Key × V)} {xs : List (List Key × Addr × Value)} {kvs : List (List Key × V)} {ys : List (List Key × Addr × Value)}, KT H more xs → KT H kvs ys → KT H (mergeT kvs more) (storedAllH ys xs)
  | _, _, _, _, .nil, g => g
  | _, _, kvs, ys, .cons (a := q) (b := x) h t, g => by
    obtain ⟨e, hb, rv⟩ := h
    have step := KT.put g q.1 hb rv
    have := KT.merge t step
    unfold mergeT storedAllH
    rw [List.foldl_cons, List.foldl_cons, ← e]
    exact this
theorem KT.keys {kvs : List (List Key × V)} {xs : List (List Key × Addr × Value)} (I : Inv X pins σ H s) (h : KT H kvs xs) : ∀ x ∈ xs, (tupleKind (mixKind X.prog X.w)).is s.heap x.1 x.2.1 := by
  induction h with
  | nil => intro x hx; cases hx
  | cons h t ih =>
    intro x hx
    rcases List.mem_cons.mp hx with e | hx
    · subst e; rw [← h.1]; exact key_of I.hok h.2.1
    · exact ih x hx
theorem call_dictT (hc : X.calm = true) (hu : X.A.units + 2 < cLine) : CallR X (.type "dict") (rDictT X.K) := by
  intro pins s σ H xs us Q I r q
  obtain ⟨a, ps, kvs, rfl, hq, hp, hz, q⟩ := q
  obtain ⟨u, rfl, rx⟩ := vals1 r
  cases (show u = Value.ref a from rx)
  obtain ⟨its, rv, pl, hz2⟩ := I.list hq
  have ei := refs_at rv
  subst ei
  obtain ⟨ys, kt, hl, g⟩ := hp.reads I
  obtain ⟨o, n, ho, hcl, hd, hdat⟩ := pl
  have lk : kvs.length = ys.length := Paired.length kt
  let pv : List (Value × Value) := ys.map fun y => (.ref y.2.1, y.2.2)
  have hpv : pv.length = ys.length := List.length_map ..
  have PA := PairArg.list (prog := X.prog) (w := X.w) a (ps.map Value.ref).toArray (fun j => ps.getD j 0) pv
  have his := KT.keys I kt
  refine call_dict_pairsH (knd := tupleKind (mixKind X.prog X.w)) (ps := ys) PA (I.ok.hd hc) (show X.A.in1.in1.units < cLine from hu) ⟨⟨o, n, ho, hcl, hd, hdat⟩, ?_, ?_⟩ ⟨hpv.symm, fun i key v e => ?_⟩ (fun h' k x hx => ?_) (by rw [hpv, ← lk]; exact hz) fun h' tk hd' k => ?_
  · simp [hpv, hl]
  · intro j k v e
    have e1 : pv[j]? = some (k, v) := e
    rw [List.getElem?_map] at e1
    cases q2 : ys[j]? with
    | none => rw [q2] at e1; cases e1
    | some y =>
      rw [q2] at e1; cases e1
      obtain ⟨p, e3, ht⟩ := g j y q2
      have e4 : ps.getD j 0 = p := by rw [List.getD_eq_getElem?_getD, e3]; rfl
      refine ⟨by simp [e3], .inl (by show s.heap.IsTuple (ps.getD j 0) _; rw [e4]; exact ht)⟩
  · have e1 : pv[i]? = some (key, v) := e
    rw [List.getElem?_map] at e1
    cases q2 : ys[i]? with
    | none => rw [q2] at e1; cases e1
    | some y => rw [q2] at e1; cases e1; exact ⟨y.1, y.2.1, rfl, rfl⟩
  · have hx' := his x hx
    obtain ⟨o2, its2, n2, h1, h2, h3, h4⟩ := hx'
    exact ⟨o2, its2, n2, k _ _ (Nat.ne_of_lt (Heap.lt_size h1)) (by simp) h1, h2, h3, h4⟩
  · have hm : (s.heap.objs.size == sysModules) = false := beq_eq_false_iff_ne.mpr (Nat.ne_of_gt I.big)
    have hlen : (mergeT [] kvs).length ≤ sizeLine := Nat.le_trans (mergeT_len kvs []) (by rw [List.length_nil, Nat.zero_add]; exact hz)
    have hn : H s.heap.objs.size = none := I.hok.fresh (Nat.le_refl _)
    have kk : ∀ b o, s.heap.get? b = some o → h'.get? b = some o := fun b o e => k b o (by simp) e
    refine ⟨.ref s.heap.objs.size, upd H s.heap.objs.size (.dT (mergeT [] kvs)), I.laid (t' := tk) kk (Nat.le_refl _) ?_, rfl, q _ hn⟩
    obtain ⟨o3, es, ep, e1, e2, e3, e4, _, e6⟩ := hd'
    have kt2 : KT H (mergeT [] kvs) (storedAllH [] ys) := KT.merge kt .nil
    exact ⟨hlen, hm, storedAllH [] ys, KT.keeps kt2 fun b xs e => by rw [upd_ne (ne_of_none e hn)]; exact e, o3, es, ep, e1, e2, e3, e4, e6⟩
/-! by values -/
theorem pairAll_ok (sf : Sub Φ H) : ∀ {vs : List V} {ds : List D} {ps : List (D × D)}, RFs K Φ vs ds → pairAll ds = some ps → ∃ as : List Addr, vs = as.map V.ref ∧ Paired (fun a (p : D × D) => ∃ k v, SqT K H a [k, v] ∧ RF K Φ k p.1 ∧ RF K Φ v p.2) as ps
  | _, _, _, .nil, e => by cases e; exact ⟨[], rfl, .nil⟩
  | _, _, ps, .cons (v := v) (d := d) (ds := ds) r t, e => by
    unfold pairAll at e
    split at e
    · rename_i h; cases h
    · rename_i kd vd rr heq
      cases heq
      cases q : pairAll ds with
      | none => rw [q] at e; cases e
      | some ps2 =>
        rw [q] at e; cases e
        obtain ⟨as, e1, pr⟩ := pairAll_ok sf t q
        cases r with
        | tup h2 r2 =>
          cases r2 with
          | cons r3 r4 => cases r4 with
            | cons r5 r6 =>
              cases r6
              exact ⟨_ :: as, by rw [e1]; rfl, .cons ⟨_, _, sf.sqT h2.sq, r3, r5⟩ pr⟩
    · cases e
theorem putsT_ok (sf : Sub Φ H) : ∀ {as : List Addr} {ps : List (D × D)} {acc l : List (D × D)} {kvs : List (List Key × V)}, Paired (fun a (p : D × D) => ∃ k v, SqT K H a [k, v] ∧ RF K Φ k p.1 ∧ RF K Φ v p.2) as ps → putsT acc ps = some l → RFt K Φ kvs acc →
    ∃ more, PrT K H as more ∧ RFt K Φ (mergeT kvs more) l
  | _, _, acc, l, kvs, .nil, e, r => by cases e; exact ⟨[], .nil, r⟩
  | _, _, acc, l, kvs, .cons (a := a) (b := p) h t, e, r => by
    obtain ⟨pk, pv⟩ := p
    unfold putsT at e
    cases q : keyTn pk with
    | none => rw [q] at e; cases e
    | some kk =>
      rw [q] at e
      simp only [Option.bind_some] at e
      obtain ⟨k, v, h1, h2, h3⟩ := h
      obtain ⟨b, rfl, hb, _⟩ := keyT_at sf (R1.f (G := H) h2) q
      obtain ⟨more, m1, m2⟩ := putsT_ok sf t e (r.put (keyTn_ok q).1 h3)
      exact ⟨(kk, v) :: more, .cons h1 hb m1, m2⟩
theorem callm_dictT : CallM K (rDictT K) dDictT := by
  intro Φ H xs ds val Q sf rs e q
  unfold dDictT at e
  split at e
  · rename_i ls
    obtain ⟨v, rfl, r⟩ := rs.one
    obtain ⟨p, vs, rfl, hp, rr⟩ := r.lsts sf
    cases h : pairAll ls with
    | none => rw [h] at e; cases e
    | some ps =>
      rw [h] at e
      simp only [Option.bind_some] at e
      split at e
      · rename_i hz
        cases h2 : putsT [] ps with
        | none => rw [h2] at e; cases e
        | some l =>
          rw [h2] at e; cases e
          obtain ⟨as, rfl, pr⟩ := pairAll_ok sf rr h
          obtain ⟨more, m1, m2⟩ := putsT_ok sf pr h2 .nil
          exact ⟨p, as, more, rfl, .inl hp, m1, by rw [← m1.length, Paired.length pr]; exact hz, fun d hd => q.dtt sf m2 hd⟩
      · cases e
  · cases e
def rDictP (K : PySem.W.Frag) : List V → Hp → VK → Prop := fun xs H Q => ∃ (a : Addr) (ps : List Addr) (kvs : List (Key × V)), xs = [.ref a] ∧ SqL K H a (ps.map V.ref) ∧ Paired (fun p kv => SqT K H p [kV kv.1, kv.2]) ps kvs ∧
    ∀ p, H p = none → Q (.ref p) (upd H p (.dK (mergeK [] kvs)))
theorem call_dictPZ (hc : X.calm = true) : CallR X (.type "dict") (rDictP X.K) := call_dictP hc
theorem putsK_ok (sf : Sub Φ H) : ∀ {as : List Addr} {ps : List (D × D)} {acc l : List (D × D)} {kvs : List (Key × V)}, Paired (fun a (p : D × D) => ∃ k v, SqT K H a [k, v] ∧ RF K Φ k p.1 ∧ RF K Φ v p.2) as ps → putsK acc ps = some l → RFk K Φ kvs acc →
    ∃ more : List (Key × V), Paired (fun p kv => SqT K H p [kV kv.1, kv.2]) as more ∧ RFk K Φ (mergeK kvs more) l
  | _, _, acc, l, kvs, .nil, e, r => by cases e; exact ⟨[], .nil, r⟩
  | _, _, acc, l, kvs, .cons (a := a) (b := p) h t, e, r => by
    obtain ⟨pk, pv⟩ := p
    unfold putsK at e
    cases q : keyOf pk with
    | none => rw [q] at e; cases e
    | some kk =>
      rw [q] at e
      simp only [Option.bind_some] at e
      obtain ⟨k, v, h1, h2, h3⟩ := h
      have ek := keyOf_kV (R1.f (G := Φ) h2) q
      subst ek
      obtain ⟨more, m1, m2⟩ := putsK_ok sf t e (r.put q h3)
      exact ⟨(kk, v) :: more, .cons h1 m1, m2⟩
theorem callm_dictK : CallM K (rDictP K) dDictK := by
  intro Φ H xs ds val Q sf rs e q
  unfold dDictK at e
  split at e
  · rename_i ls
    obtain ⟨v, rfl, r⟩ := rs.one
    obtain ⟨p, vs, rfl, hp, rr⟩ := r.lsts sf
    cases h : pairAll ls with
    | none => rw [h] at e; cases e
    | some ps =>
      rw [h] at e
      simp only [Option.bind_some] at e
      split at e
      · rename_i hz
        cases h2 : putsK [] ps with
        | none => rw [h2] at e; cases e
        | some l =>
          rw [h2] at e; cases e
          obtain ⟨as, rfl, pr⟩ := pairAll_ok sf rr h
          obtain ⟨more, m1, m2⟩ := putsK_ok sf pr h2 .nil
          exact ⟨p, as, more, rfl, .inl hp, m1, fun d hd => q.dct sf m2 hd⟩
      · cases e
  · cases e
end
end Z

/-! Z25: walks over dicts: items where the keys are tuples. -/
namespace Z
open PySem L2 PySem.Spec PyProof.Rows
section
variable {P : Program} {w : World} {K : PySem.W.Frag} {X : Cx} {pins : List (Addr × Obj)} {σ : L2.St} {H : Hp} {s : Shared} {d : Addr} {o : Obj} {es : Array DictEntry} {ep : Nat}
/-- a locked dict of tuples, entry by entry -/
theorem frzTv {kvs : List (List Key × V)} (I : Inv X pins σ H s) (h : H d = some (.frz o (.dT kvs))) :
    (d == sysModules) = false ∧ kvs.length ≤ sizeLine ∧ ∃ (es : Array DictEntry) (ep : Nat), o.data = .dict es ep ∧ es.size = kvs.length ∧ s.heap.DictRaw d es ep ∧
      ∀ (i : Nat) (k : List Key) (v : V), kvs[i]? = some (k, v) → ∃ (e : DictEntry) (q : Addr), es[i]? = some e ∧ e.key = .ref q ∧ H q = some (.tup (k.map kV)) ∧ RelV v e.val := by
  obtain ⟨hd, z, hs, xs, pr, o', es, ep, ho, hx, hdt, he, _⟩ := I.hok d _ h
  rw [hd] at ho
  cases ho
  refine ⟨hs, z, es, ep, hdt, ?_, ⟨o, hd, hx, hdt⟩, fun i k v e => ?_⟩
  · have l1 : es.size = xs.length := size_of_entries he
    have l2 : kvs.length = xs.length := Paired.length pr
    omega
  · obtain ⟨b, hb, e1, e2, e3⟩ := paired_get pr e
    have q := entry_at he i
    rw [hb] at q
    exact ⟨_, b.2.1, q, rfl, e2, e3⟩
/-- the pairs, each a new tuple of the key's own tuple and the value -/
def ItiT (d : Addr) (o : Obj) (kvs : List (List Key × V)) : It where
  go := fun i H => H d = some (.frz o (.dT kvs)) ∧ i < kvs.length
  yld := fun i H x H' => ∃ (T q : Addr) (k : List Key) (v : V), kvs[i]? = some (k, v) ∧ x = .ref T ∧ H q = some (.tup (k.map kV)) ∧ H T = none ∧ H' = upd H T (.tup [.ref q, v])
  stop := fun i H => H d = some (.frz o (.dT kvs)) ∧ kvs.length ≤ i
theorem same_ep {es es' : Array DictEntry} {ep ep' : Nat} (h : o.data = .dict es ep) (h' : o.data = .dict es' ep') : es' = es ∧ ep' = ep := by
  rw [h] at h'; cases h'; exact ⟨rfl, rfl⟩
theorem turn_itemsT {kvs : List (List Key × V)} {elts : List Expr} {kk : Nat} {tpos : Pos} (it : Addr) (hod : o.data = .dict es ep) (hsz : es.size = kvs.length) :
    Turn P w K (.Tuple elts kk tpos) (ItiT d o kvs) [it] it (fun i h => ∃ ok ov, IsItemIter h it d i es.size ep ok ov) where
  mem := by simp
  obj := fun i h st b hb => by
    obtain ⟨ok, ov, e⟩ := st
    cases (show b = it by simpa using hb)
    exact ⟨_, e, fun v z => nomatch z⟩
  keep := fun i h h' st k => let ⟨ok, ov, e⟩ := st; ⟨ok, ov, k it (by simp) _ e⟩
  item := by
    intro X hP hw hK hc i pn s σ H E I hf st hg
    subst hP hw hK
    obtain ⟨hd, hi⟩ := hg
    obtain ⟨hs, hz, es2, ep2, hdt, hsz2, hm, ent⟩ := frzTv I hd
    obtain ⟨rfl, rfl⟩ := same_ep hod hdt
    obtain ⟨⟨k, v⟩, hkv⟩ : ∃ p, kvs[i]? = some p := ⟨kvs[i], List.getElem?_eq_getElem hi⟩
    obtain ⟨en, q, hen, hkey, hq, rv⟩ := ent i k v hkv
    obtain ⟨ok, ov, he⟩ := st
    have hi2 : i < es2.size := by rw [hsz2]; exact hi
    have een : es2[i] = en := by rw [Array.getElem?_eq_getElem hi2] at hen; exact Option.some.inj hen
    have hlt : it < s.heap.objs.size := Heap.lt_size he
    refine wpAny_pyNext_items_item_raw he hm hi2 fun h' ho hT hzz hk => ?_
    rw [een] at ho hT
    refine ⟨_, rfl, wpAny_letOwnedTupleGo_items (s := { s with heap := h' }) ho fun h'' he' sb => ?_⟩
    have hT2 : h''.get? s.heap.objs.size = some { cls := .type "tuple", data := .seq #[en.key, en.val] } := (sb.2 _ (Nat.ne_of_gt hlt)).trans hT
    have new : ObjOk X.prog X.w (upd H s.heap.objs.size (.tup [.ref q, v])) h'' s.heap.objs.size (.tup [.ref q, v]) :=
      ⟨by show 2 ≤ sizeLine; decide, [en.key, en.val], .cons (show en.key = .ref q from hkey) (.cons rv .nil), ⟨_, hT2, rfl, _, rfl⟩⟩
    have I1 : Inv X pn σ (upd H s.heap.objs.size (.tup [.ref q, v])) { s with heap := h'' } :=
      I.turnedNew (t' := s.toks) (ch := [it]) (fun b ob hb e => (sb.2 b (by simpa using hb)).trans (hk b ob (by simpa using hb) e)) hf (Nat.le_refl _) new
    refine ⟨.ref s.heap.objs.size, _, I1, rfl, ⟨_, q, k, v, hkv, rfl, hq, I.hok.fresh (Nat.le_refl _), rfl⟩, ⟨en.key, en.val, he'⟩, fun b hb => ?_⟩
    cases (show b = it by simpa using hb)
    rw [upd_ne (Nat.ne_of_lt hlt)]
    exact (hf it (by simp)).1
  done := by
    intro X hP hw hK hc i pn s σ H E I hf st hg
    subst hP hw hK
    obtain ⟨hd, hi⟩ := hg
    obtain ⟨f0, f1, f2, f3, f4, f5⟩ := hf it (by simp)
    obtain ⟨hs, hz, es2, ep2, hdt, hsz2, hm, ent⟩ := frzTv I hd
    obtain ⟨rfl, rfl⟩ := same_ep hod hdt
    obtain ⟨ok, ov, he⟩ := st
    exact wpAny_pyNext_items_end_raw (I.ok.hd hc) he hm (by omega) fun h' eb => ⟨rfl, I.turned (t' := s.toks) (fun b ob hb e => eb b ob hb e) f0 f1 f3 f4 f5⟩
  self := fun A i s Q E st h => let ⟨_, _, e⟩ := st; PySem.W.kcp_self e h
/-- d.items() of a locked dict of tuples -/
def iItemsT (td : TE) : TI := fun σ H R => td σ H fun x H1 => ∃ d o kvs, x = .ref d ∧ H1 d = some (.frz o (.dT kvs)) ∧ R (ItiT d o kvs) H1
theorem pi_itemsT {e : Expr} {td : TE} {apos cpos : Pos} {elts : List Expr} {kk : Nat} {tpos : Pos} (he : PE X e td) (hbase : attributeBase e "items" X.env (eval e X.env) = eval e X.env := by rfl) (hline : (apos.endLine == cpos.line) = true := by rfl) :
    PI X (.Tuple elts kk tpos) (.Call (.Attribute e "items" apos) [] [] cpos) (iItemsT td) := by
  refine ⟨fun pn s σ H R I h => ?_⟩
  refine wpAny_Call_method (T := "dict") (id := "dict.items") hbase rfl hline PySem.F.plainAttrs_dict PySem.F.slot_dict_items PySem.F.type_dict_items (thn (he.run pn s σ H _ I h) fun u s1 ⟨x, H1, I1, rx, d, o, kvs, ex, hd, q⟩ => ?_)
  subst ex
  cases (show u = Value.ref d from rx)
  obtain ⟨hs, hz, es, ep, hdt, hsz, hm, ent⟩ := frzTv I1 hd
  refine ⟨hm.typeIs, ?_, ?_⟩
  · obtain ⟨ob, h1, h2, _⟩ := id hm
    exact fun a ea => by cases ea; exact ⟨ob, h1, h2.2.1⟩
  have I2 : Inv X pn σ H1 { s1 with heap := s1.heap.push { cls := .type "dict_items", data := .fields #[.ref d] } } := I1.kept (t' := s1.toks) fun b ob q => Heap.get?_push_of_some _ q
  have fin : wpAny (model X.prog X.w) X.A (pyIter (.ref s1.heap.objs.size)) (PIE X pn σ (.Tuple elts kk tpos) R) X.xe { s1 with heap := s1.heap.push { cls := .type "dict_items", data := .fields #[.ref d] } } :=
    wpAny_pyIter_items_raw (d := d) ⟨_, Heap.get?_push_size _ rfl, rfl, rfl⟩ (hm.at fun ob e => Heap.get?_push_of_some _ e) (pi_one (tk := s1.toks) I2 _ (turn_itemsT _ hdt hsz) ⟨.none, .none, Heap.get?_push_size _ rfl⟩ q)
  show wpAny _ _ (callWith cpos (.builtin "dict.items") [.ref d] [] []) _ X.xe s1
  exact method_meetsIn PySem.F.slot_dict_items PySem.F.entry_dict_items rfl (PySem.evalArgs_none ⟨rfl, hm.typeIs, PySem.F.args_dict_items_1 _, _, meets_dict_items_raw d hs, ⟨es, ep, hm⟩, fin⟩)
/-- either of the two -/
theorem pi_or {tg e : Expr} {w1 w2 : TI} (h1 : PI X tg e w1) (h2 : PI X tg e w2) : PI X tg e (fun σ H R => w1 σ H R ∨ w2 σ H R) := ⟨fun pn s σ H R I h => h.elim (h1.run pn s σ H R I) (h2.run pn s σ H R I)⟩
theorem ps_or {st : Stmt} {t1 t2 : TS} (h1 : PS X st t1) (h2 : PS X st t2) : PS X st (fun D σ H => t1 D σ H ∨ t2 D σ H) := ⟨fun pn s σ H D I h => h.elim (h1.run pn s σ H D I) (h2.run pn s σ H D I)⟩
theorem pe_or2 {e : Expr} {t1 t2 : TE} (h1 : PE X e t1) (h2 : PE X e t2) : PE X e (fun σ H Q => t1 σ H Q ∨ t2 σ H Q) := ⟨fun pn s σ H Q I h => h.elim (h1.run pn s σ H Q I) (h2.run pn s σ H Q I)⟩
end
end Z

/-! Z26: exceptions of own classes right below any built-in one, whose __init__ keeps one value: made, held as values. -/
namespace Z
open PySem PySem.Spec PySem.Calls PyProof.Rows PySem.HandSPX Builtin Builtin.ObjectAttr
/-- what a row of built-in classes says, below which an own exception class may stand; B: the one whose __new__ makes it -/
structure Row (tl : List Value) (B nw ini : String) (bB : List Value) : Prop where
  F : ExcBaseFacts B nw ini bB
  cB : tl.contains (.type B) = true
  cE : tl.contains (.type "BaseException") = true
  cA : tl.contains (.type "AttributeError") = false
  cN : tl.contains (.type "NameError") = false
  cO : tl.contains (.type "object") = true
  st : ∀ x : Value, refuseLoop x "__setattr__" tl = pure ()
theorem Row.ne {tl : List Value} {B nw ini : String} {bB : List Value} (r : Row tl B nw ini bB) : tl.isEmpty = false := by
  cases tl with
  | nil => exact absurd r.cB (by simp)
  | cons _ _ => rfl
section
variable {prog : Program} {w : World} {M : Model} {A : Around} {E : Value → Shared → Prop} {R : Result → Shared → Prop} {hp : Heap} {gs : Array GenState} {dr : Drawn} {tk : Nat} {os : OsState}
variable {nm qn : Str} {C N : Addr} {bs tl bB : List Value} {sn : List Str} {sub : List Value} {ab : Bool} {col : Option Bool} {dd : Option Addr} {k0 k1 k2 k3 k5 : Option Value} {B nw ini : String} {xs : List Value}
theorem own_check (r : Row tl B nw ini bB) {Q : Unit → Shared → Prop} (hC : hp.get? C = some (excClassObj nm qn C N bs tl true sn sub ab col dd k0 k1 k2 k3 k5 nw)) (fin : Q () ⟨hp, gs, dr, tk, os⟩) :
    wpAny M A (checkBuiltinCall nw ⟨.ref C :: xs, []⟩) Q E ⟨hp, gs, dr, tk, os⟩ := by
  have z1 : (Value.ref C :: tl).contains (.type B) = true := by rw [List.contains_cons, r.cB, Bool.or_true]
  have z2 := r.F.noStar
  simp only [checkBuiltinCall, r.F.newKind, r.F.newSplit, r.F.newRow]
  repeat (first
    | refine wpAny_loadPart_at hC ?_
    | (refine wpAny_isSubtype_exc hC ?_; rw [z1])
    | refine wpAny_staticBase_exc hC ?_
    | refine wpAny_madeBy_exc hC ?_
    | simp only [bne_self_eq_false, Bool.false_eq_true, if_false]
    | wp_step)
  exact fin
theorem own_new (r : Row tl B nw ini bB) (hC : hp.get? C = some (excClassObj nm qn C N bs tl true sn sub ab col dd k0 k1 k2 k3 k5 nw))
    (fin : R (.ok (.ret (.ref (hp.objs.size + 1)))) ⟨(hp.push (W.kdv_tup xs)).push (excO C hp.objs.size), gs, dr, tk, os⟩) (few : xs.length ≤ sizeLine) :
    codeAny (model prog w) A (.builtin nw ⟨.ref C :: xs, []⟩) R ⟨hp, gs, dr, tk, os⟩ := by
  have z0 := r.F.ends
  have z1 : (Value.ref C :: tl).contains (.type B) = true := by rw [List.contains_cons, r.cB, Bool.or_true]
  have z2 : (Value.ref C :: tl).contains (.type "AttributeError") = false := by rw [List.contains_cons, r.cA]; rfl
  have z3 : (Value.ref C :: tl).contains (.type "NameError") = false := by rw [List.contains_cons, r.cN]; rfl
  refine codeAny_builtinAt r.F.entry ?_
  unfold Builtin.«BaseException.__new__»
  refine PySem.wpAt_bind ?_
  show PySem.wpAt _ _ _ (stack >>= _) _ _ _
  refine PySem.wpAt_bind (PySem.wpAt_stack fun _ _ => PySem.wpAt_of_wpAny ?_)
  wp_walk
  refine PySem.wpAt_of_wpAny ?_
  rw [r.F.owner]
  repeat (first
    | with_reducible refine wpAny_madeHere_exc r.F.canon hC ?_
    | with_reducible refine wpAny_loadPart_at hC ?_
    | (with_reducible refine wpAny_isSubtype_exc hC ?_; first | rw [z1] | rw [z2] | rw [z3])
    | wp_step)
  show R _ _
  rw [Heap.size_push]
  exact fin
theorem own_type (r : Row tl B nw ini bB) {fI : Addr} {Q : Fin → Shared → Prop} (hC : hp.get? C = some (excClassObj nm qn C N bs tl true sn sub ab col dd k0 k1 k2 k3 k5 nw))
    (li : W.Looks (model prog w) hp (typeLookup (.ref C) "__init__") (some (.ref fI))) (lb : ∀ x, W.Looks (model prog w) hp (bindSpecial (.ref fI) x) (.ref fI, [x])) (few : xs.length ≤ sizeLine)
    (fin : codeAny (model prog w) A (.call (.ref fI) ⟨.ref (hp.objs.size + 1) :: xs, []⟩)
      (fun y u => match y with | .ok (.ret v) => v = .none ∧ Q (.done (.ret (.ref (hp.objs.size + 1)))) u | .ok _ => False | .error e => E e u)
      ⟨(hp.push (W.kdv_tup xs)).push (excO C hp.objs.size), gs, dr, tk, os⟩) :
    wpAny (model prog w) A (Builtin.«type.__call__» ⟨.ref C :: xs, []⟩) Q E ⟨hp, gs, dr, tk, os⟩ := by
  repeat (first
    | with_reducible refine wpAny_loadPart_at hC ?_
    | with_reducible refine wpAny_madeBy_exc hC ?_
    | wp_step)
  refine codeAny_call_builtin_code (Code.quiet_builtin _ r.F.quiet) (own_check r hC (own_new r hC ?_ few))
  show wpAny _ _ _ _ _ _
  have up : ∀ b o, hp.get? b = some o → ((hp.push (W.kdv_tup xs)).push (excO C hp.objs.size)).get? b = some o := fun b o e => Heap.get?_push_of_some _ (Heap.get?_push_of_some _ e)
  have hC2 := up _ _ hC
  have new : ((hp.push (W.kdv_tup xs)).push (excO C hp.objs.size)).get? (hp.objs.size + 1) = some (excO C hp.objs.size) := by heap_get
  have z1 : (Value.ref C :: tl).contains (.ref C) = true := by simp
  have li2 := li.keeps up
  have lb2 := (lb (.ref (hp.objs.size + 1))).keeps up
  unfold isInstance
  repeat (first
    | with_reducible refine wpAny_loadPart_at new ?_
    | (with_reducible refine wpAny_isSubtype_exc hC2 ?_; rw [z1])
    | wp_step)
  show wpAny _ _ (typeLookup (.ref C) _) _ _ _
  refine li2.at (wpAny_holding (wpAny_bind (lb2.at ?_)))
  refine wpAny_bind (wpAny_call (codeAny_mono fin fun y u z => ?_))
  rcases y with e | (v | _ | _ | _) <;> first | exact z | exact z.elim | skip
  obtain ⟨rfl, z⟩ := z
  first | exact wpAny_pure (wpAny_pure z) | (wp_walk; exact z)
theorem own_call (r : Row tl B nw ini bB) {fI : Addr} (hC : hp.get? C = some (excClassObj nm qn C N bs tl true sn sub ab col dd k0 k1 k2 k3 k5 nw))
    (li : W.Looks (model prog w) hp (typeLookup (.ref C) "__init__") (some (.ref fI))) (lb : ∀ x, W.Looks (model prog w) hp (bindSpecial (.ref fI) x) (.ref fI, [x])) (few : xs.length ≤ sizeLine)
    (fin : codeAny (model prog w) (A.under (.builtin "type.__call__" ⟨.ref C :: xs, []⟩)) (.call (.ref fI) ⟨.ref (hp.objs.size + 1) :: xs, []⟩) (W.InitBack (hp.objs.size + 1) R)
      ⟨(hp.push (W.kdv_tup xs)).push (excO C hp.objs.size), gs, dr, tk, os⟩) :
    codeAny (model prog w) A (.call (.ref C) ⟨xs, []⟩) R ⟨hp, gs, dr, tk, os⟩ := by
  have z1 := tc_lookup
  have z2 := tc_bind (.ref C)
  have z3 : (⟨hp, gs, dr, tk, os⟩ : Shared).TypeIs (.ref C) "type" := ⟨_, hC, rfl⟩
  refine codeAny_of_tree ?_
  show wpAny _ _ (callAny (.ref C) _) _ _ _
  repeat (any_goals (first | assumption | with_reducible refine wpAny_loadPart_at hC ?_ | wp_step))
  refine ⟨rfl, codeAny_call_builtin_at (Code.quiet_builtin _ (by decide +kernel)) entry_typeCall (wpAny_check_type_call_sub hC (own_type r hC li lb few ?_))⟩
  refine codeAny_mono fin fun y u z => ?_
  rcases y with e | (v | _ | _ | _) <;> exact z
theorem own_store {K : W.Frag} {name : Str} {t1 : Tok} {v : Value} {x : Addr} {fv : Array Value} {cd : ClassData} (r : Row tl B nw ini bB) (X : K.In hp) (hx : hp.get? x = some { cls := .ref C, data := .fields fv }) (hcd : W.clsIn K C = some cd)
    (hm : cd.mro = .ref C :: tl) (hh : cd.hasDict = true) (no : W.findIn K (.ref C) name = some none)
    (fin : ∀ h2 t2 dx, (∀ b o, b ≠ x → hp.get? b = some o → h2.get? b = some o) → hp.objs.size ≤ dx → dx ≠ x → h2.get? x = some { cls := .ref C, dict := some dx, data := .fields fv } →
      h2.Ns1 dx (fun y => if y = name then some v else none) → R (.ok (.ret .none)) ⟨h2, gs, dr, t2, os⟩) :
    codeAny (model prog w) A (.call (.builtin "object.__setattr__") ⟨[.ref x, .str name t1, v], []⟩) R ⟨hp, gs, dr, tk, os⟩ := by
  have I0 : W.InstAt hp x { cls := .ref C, data := .fields fv } C none := ⟨hx, rfl, rfl, trivial⟩
  have SF := F.store_object
  have z1 : cd.mro.contains (.type "object") = true := by rw [hm, List.contains_cons, r.cO, Bool.or_true]
  have z2 : cd.mro.isEmpty = false := by rw [hm]; rfl
  have far : x ≠ hp.objs.size := Nat.ne_of_lt (Heap.lt_size hx)
  have isO : W.Looks (model prog w) hp (isInstance (.ref x) (.type "object")) true := I0.type.andThen (W.looks_mroIn X (by unfold W.mroIn; rw [hcd, Option.bind_some, if_neg (by rw [z2]; decide), z1]))
  refine codeAny_call_builtin SF.slot.plain SF.entry (@W.check_slot (model prog w) _ _ ⟨hp, gs, dr, tk, os⟩ "object.__setattr__" "object" "__setattr__" (.ref x) [.str name t1, v] [] _ SF.kind SF.split isO (SF.args (.ref x) (.str name t1) v) ?_)
  have l1 : W.Looks (model prog w) hp (mroOf (.ref C)) cd.mro := (W.looks_clsIn X hcd).andThen .now
  have l2 : W.Looks (model prog w) hp (storeTaker? none) none := .now
  have l3 : W.Looks (model prog w) hp (classData C) cd := W.looks_clsIn X hcd
  rw [W.osa_eq, refuse_eq]
  refine wpAny_bind (wpAny_bind (I0.type.at (wpAny_bind (l1.at ?_))))
  rw [hm, refuseLoop_ref, r.st]
  refine wpAny_pure (wpAny_bind (I0.type.at (wpAny_bind ((W.looks_findIn X no).at (wpAny_bind (l2.at ?_))))))
  show wpAny _ _ (storeInOwnDict (.ref x) (.ref C) (.str name t1) name v false) _ _ _
  obtain ⟨_, _, _, _, _, hd, _, _, _, _, _⟩ := cd
  dsimp only at hh
  subst hh
  unfold storeInOwnDict ownDictForStores
  repeat (first
    | with_reducible refine store_in_new ?_ ?_
    | with_reducible refine wpAny_loadPart_at hx ?_
    | with_reducible refine l3.at ?_
    | wp_step)
  · exact ⟨_, #[], _, (Heap.get?_update_ne _ _ _ _ far.symm).trans (Heap.get?_push_at rfl rfl), rfl, fun e he => absurd he (by simp), fun _ => rfl⟩
  · intro h2 t2 hn sb
    have hx2 : (hp.push { cls := .type "dict", data := .dict #[] }).get? x = some { cls := .ref C, data := .fields fv } := Heap.get?_push_of_some _ hx
    refine fin h2 t2 hp.objs.size (fun b o hb ho => ?_) (Nat.le_refl _) far.symm ?_ hn
    · exact (sb.2 b (Nat.ne_of_lt (Heap.lt_size ho))).trans ((Heap.get?_update_ne _ _ _ _ hb).trans (Heap.get?_push_of_some _ ho))
    · exact (sb.2 x far).trans (Heap.get?_update_self _ hx2 rfl)
end
/-! ### the rows -/
abbrev tlIndex : List Value := [.type "IndexError", .type "LookupError", .type "Exception", .type "BaseException", .type "object"]
abbrev tlKey : List Value := [.type "KeyError", .type "LookupError", .type "Exception", .type "BaseException", .type "object"]
abbrev tlOver : List Value := [.type "OverflowError", .type "ArithmeticError", .type "Exception", .type "BaseException", .type "object"]
abbrev tlArith : List Value := [.type "ArithmeticError", .type "Exception", .type "BaseException", .type "object"]
abbrev tlRun : List Value := [.type "RuntimeError", .type "Exception", .type "BaseException", .type "object"]
abbrev tlLook : List Value := [.type "LookupError", .type "Exception", .type "BaseException", .type "object"]
theorem row_Index : Row tlIndex "IndexError" "IndexError.__new__" "IndexError.__init__" tlIndex := ⟨F.excBase_IndexError, by decide +kernel, by decide +kernel, by decide +kernel, by decide +kernel, by decide +kernel, fun x => by kernel_rfl⟩
theorem row_Key : Row tlKey "LookupError" "LookupError.__new__" "LookupError.__init__" tlLook := ⟨F.excBase_LookupError, by decide +kernel, by decide +kernel, by decide +kernel, by decide +kernel, by decide +kernel, fun x => by kernel_rfl⟩
theorem row_Over : Row tlOver "OverflowError" "OverflowError.__new__" "OverflowError.__init__" tlOver := ⟨F.excBase_OverflowError, by decide +kernel, by decide +kernel, by decide +kernel, by decide +kernel, by decide +kernel, fun x => by kernel_rfl⟩
theorem row_Arith : Row tlArith "ArithmeticError" "ArithmeticError.__new__" "ArithmeticError.__init__" tlArith := ⟨F.excBase_ArithmeticError, by decide +kernel, by decide +kernel, by decide +kernel, by decide +kernel, by decide +kernel, fun x => by kernel_rfl⟩
theorem row_Run : Row tlRun "RuntimeError" "RuntimeError.__new__" "RuntimeError.__init__" tlRun := ⟨F.excBase_RuntimeError, by decide +kernel, by decide +kernel, by decide +kernel, by decide +kernel, by decide +kernel, fun x => by kernel_rfl⟩
theorem row_Look : Row tlLook "LookupError" "LookupError.__new__" "LookupError.__init__" tlLook := ⟨F.excBase_LookupError, by decide +kernel, by decide +kernel, by decide +kernel, by decide +kernel, by decide +kernel, fun x => by kernel_rfl⟩
end Z

/-! Z27: exceptions as values: made with one value kept, asked for their class, a field read. -/
namespace Z
open PySem PySem.Spec L2 PyProof.Rows
/-- what the written part says of an own exception class whose __init__ keeps one value at f -/
structure OwnX (K : PySem.W.Frag) (C fI : Addr) (f : Str) (tl : List Value) (B nw ini : String) (bB : List Value) : Prop where
  row : Row tl B nw ini bB
  cls : ∃ nm q N bs sn sub ab col dd k0 k1 k2 k3 k5, K.lookup C = some (excClassObj nm q C N bs tl true sn sub ab col dd k0 k1 k2 k3 k5 nw)
  sa : PySem.W.findIn K (.ref C) "__setattr__" = some (some (.builtin "object.__setattr__"))
  iC : PySem.W.findIn K (.ref C) "__init__" = some (some (.ref fI))
  tI : PySem.W.typeIn K (.ref fI) = some (.type "function")
  kC : PySem.W.keepIn K (.ref C) = true
  no : PySem.W.findIn K (.ref C) f = some none
section
variable {X : Cx} {pins : List (Addr × Obj)} {σ : L2.St} {H : Hp} {s : Shared} {a C fI : Addr} {f : Str} {y : V} {u : Value} {Q : Unit → Shared → Prop} {E : Value → Shared → Prop} {A : Around} {tl bB : List Value} {B nw ini : String}
theorem keep_one (T : OwnX X.K C fI f tl B nw ini bB) (I : Inv X pins σ H s) (e : H a = some (exo a C none)) (ry : RelV y u)
    (fin : ∀ dx s2, H dx = none → dx ≠ a → Inv X pins σ (upd (upd H dx (exd dx [(f, y)])) a (exo a C (some dx))) s2 → Q () s2) : wpAny (model X.prog X.w) A (setAttr (.ref a) f u) Q E s := by
  obtain ⟨nm, q, N, bs, sn, sub, ab, col, dd, k0, k1, k2, k3, k5, hC⟩ := T.cls
  have at_ : PySem.W.clsIn X.K C = some { name := nm, bases := bs, mro := .ref C :: tl, ns := N, qualname := q, hasDict := true, slotNames := sn, subclasses := sub, abstract := ab, collection := col, hasDel := false } := by
    unfold PySem.W.clsIn; rw [hC] <;> rfl
  obtain ⟨t1, ho⟩ := exo_at I.hok e
  obtain ⟨hp, g, d, t, os⟩ := s
  refine PySem.W.set_plain I.kIn (ox := { cls := .ref C, dict := none, data := .fields #[.ref t1, .none, .none, .none, .bool false, .none] }) (od := none) ⟨ho, rfl, rfl, trivial⟩ T.sa ?_
  refine own_store T.row I.kIn ho at_ rfl rfl T.no (fun h2 t2 dx k dn dne hx hn => ?_)
  have free : H dx = none := I.hok.fresh dn
  have far : ∀ {b : Addr} {o : Obj}, hp.get? b = some o → b ≠ dx := fun q => Nat.ne_of_lt (Nat.lt_of_lt_of_le (Heap.lt_size q) dn)
  have off : ∀ {b : Addr}, H b = none → b ≠ a := fun n z => by subst z; rw [e] at n; cases n
  have U : Un X.fs [] H (upd (upd H dx (exd dx [(f, y)])) a (exo a C (some dx))) hp h2 := by
    constructor
    · exact fun b o q n _ _ => k b o (off n) q
    · exact fun b o q n _ _ => ⟨o.slots, k b o (off n) q⟩
    · intro b o q n _
      rw [upd_ne (off n), upd_ne (far q)]; exact n
    · intro b o q _
      by_cases hb : b = a
      · subst hb; exact ⟨_, hx⟩
      · exact ⟨o, k b o hb q⟩
    · intro b xs q
      rw [upd_ne (at_ne e q exo_tup), upd_ne (ne_of_none q free)]; exact q
    · intro b o v q
      rw [upd_ne (at_ne e q exo_frz), upd_ne (ne_of_none q free)]; exact q
    · intro b ps q
      exact ⟨#[], by rw [upd_ne (at_ne e q exo_tbl), upd_ne (ne_of_none q free), q]; simp⟩
  refine fin dx _ free dne (I.un (t' := t2) U fun b o q => ?_)
  by_cases hb : b = a
  · subst hb; rw [upd_same] at q; cases q; exact exo_ok hx
  rw [upd_ne hb] at q
  by_cases hd : b = dx
  · subst hd; rw [upd_same] at q; cases q
    exact exd_ok hn (relO_put (fs := []) ry fun _ => trivial)
  rw [upd_ne hd] at q
  refine (I.hok b o q).stay (fun c v hc z => k c v ?_ z) (fun c hc => ?_) fun c xs hc => ?_
  · rcases hc with hc | hc
    · rw [hc]; exact hb
    · exact at_ne e hc exo_own
  · rw [upd_ne (at_ne e hc exo_own), upd_ne (ne_of_none hc free)]; exact hc
  · rw [upd_ne (at_ne e hc exo_tup), upd_ne (ne_of_none hc free)]; exact hc
/-- self.f = e in such an __init__ -/
def tKeep1 (C : Addr) (f : Str) (to te : TE) : TS := fun D σ H => te σ H fun y H1 => to σ H1 fun x H2 => ∃ a : Addr, x = .ref a ∧ H2 a = some (exo a C none) ∧
  ∀ dx, H2 dx = none → dx ≠ a → D.nx σ (upd (upd H2 dx (exd dx [(f, y)])) a (exo a C (some dx)))
theorem ps_keep1 {o e : Expr} {to te : TE} {p1 pos : Pos} (T : OwnX X.K C fI f tl B nw ini bB) (ho : PE X o to) (he : PE X e te) (hs : swapsWith e (some (.Attribute o f p1)) pos.line X.env = pure false := by rfl) : PS X (.Assign [.Attribute o f p1] e pos) (tKeep1 C f to te) := by
  refine ⟨fun pn s σ H D I h => plainObj_wpAny_Assign_Attribute (thn (he.run pn s σ H _ I h) fun v s1 ⟨y, H1, I1, r1, q1⟩ => thn (ho.run pn s1 σ H1 _ I1 q1) fun u s2 ⟨x, H2, I2, r2, a, ex, ea, q⟩ => ?_) hs⟩
  subst ex
  obtain rfl : u = Value.ref a := r2
  exact keep_one T I2 ea r1 fun dx s2 n ne J => ⟨σ, _, J, q dx n ne⟩
/-- what such an __init__ promises -/
def keepSp (C : Addr) (f : Str) : Sp := fun vs H Q _ => ∃ (a : Addr) (y : V), vs = [.ref a, y] ∧ H a = some (exo a C none) ∧ ∀ dx, H dx = none → dx ≠ a → Q .non (upd (upd H dx (exd dx [(f, y)])) a (exo a C (some dx)))
theorem fn_keep {P : Program} {w : World} {K : PySem.W.Frag} {mg : Str → Option Value} {base : Heap} {CX : CXT} {x qual z : Str} {pa : Arguments} {body : List Stmt} {sc : Scope} {fd : FuncData} {p1 p2 p3 p4 : Pos} (T : OwnX K C fI f tl B nw ini bB)
    (F : FunD K x qual pa body sc [] [] fI fd) (S : FnScope ["self", z] ["self", z] sc) (hb : body = [.Assign [.Attribute (.Name "self" p1) f p2] (.Name z p3) p4]) (v1 : Vis sc "self") (v2 : Vis sc z) (z1 : (z == ("__debug__" : Str)) = false) (z2 : (z == ("__classdict__" : Str)) = false) : FnOk P w K mg base CX 1 fI fd ["self", z] (keepSp C f) := by
  subst hb
  refine F.ok S (fun vs H Q E h => ?_) fun cdv A fr s H vs Q E hr h => ?_
  · obtain ⟨a, y, rfl, _⟩ := h; rfl
  · obtain ⟨a, y, rfl, ea, q⟩ := h
    exact ⟨_, pss_one (ps_keep1 (X := cxOf CX P w K mg base ["self", z] qual sc fI cdv A fr s H E) T (pv_ (i := 0) rfl v1) (pv_ (i := 1) rfl v2 z1 z2)), by
      show ∃ v, _
      refine ⟨y, rfl, V.ref a, rfl, a, rfl, ea, fun dx n ne => q dx n ne⟩⟩
end
/-! ### C(e) -/
section
variable {X : Cx} {C fI : Addr} {f : Str} {tl bB : List Value} {B nw ini : String}
def rMk1 (C : Addr) (f : Str) : List V → Hp → VK → Prop := fun xs H Q => ∃ y, xs = [y] ∧ ∀ a d, H a = none → H d = none → d ≠ a → Q (.ref a) (upd (upd H d (exd d [(f, y)])) a (exo a C (some d)))
theorem call_mk1 {CX : CXT} {k : Nat} {fd : FuncData} {ps : List Str} (T : OwnX X.K C fI f tl B nw ini bB) (F1 : FnOk X.prog X.w X.K X.mg X.base CX k fI fd ps (keepSp C f)) (hp2 : ps.length = 2) (hr : Room (k + 1) X.A) (hb : Binds X.K fd ps []) (hx : Passes CX X (fun _ _ _ => False)) :
    CallR X (.ref C) (rMk1 C f) := by
  intro pn s σ H xs us Q I r h
  obtain ⟨y, rfl, q⟩ := h
  obtain ⟨nm, qn, N, bs, sn, sub, ab, col, dd, k0, k1, k2, k3, k5, hC⟩ := T.cls
  obtain ⟨hp, g, dr, tk, os⟩ := s
  have le1 : hp.objs.size ≤ hp.objs.size + 1 := Nat.le_succ _
  have n1 : H (hp.objs.size + 1) = none := I.hok.fresh le1
  have up : ∀ b o, hp.get? b = some o → ((hp.push (PySem.W.kdv_tup us)).push (PySem.HandSPX.excO C hp.objs.size)).get? b = some o := fun b o e => Heap.get?_push_of_some _ (Heap.get?_push_of_some _ e)
  have new : ((hp.push (PySem.W.kdv_tup us)).push (PySem.HandSPX.excO C hp.objs.size)).get? (hp.objs.size + 1) = some (PySem.HandSPX.excO C hp.objs.size) := by heap_get
  have I2 : Inv X pn σ (upd H (hp.objs.size + 1) (exo (hp.objs.size + 1) C none)) ⟨(hp.push (PySem.W.kdv_tup us)).push (PySem.HandSPX.excO C hp.objs.size), g, dr, tk, os⟩ :=
    I.laid (t' := tk) (a := hp.objs.size + 1) (o := exo (hp.objs.size + 1) C none) (h' := (hp.push (PySem.W.kdv_tup us)).push (PySem.HandSPX.excO C hp.objs.size)) up le1 (exo_ok new)
  have r2 : Vals (V.ref (hp.objs.size + 1) :: [y]) (Value.ref (hp.objs.size + 1) :: us) := .cons rfl r
  have l2 : us.length = 1 := r.length.symm
  have hl : (Value.ref (hp.objs.size + 1) :: us ++ ([] : List Value)).length = ps.length := by
    rw [List.append_nil, List.length_cons, l2, hp2]
  have sp : keepSp C f [.ref (hp.objs.size + 1), y] (upd H (hp.objs.size + 1) (exo (hp.objs.size + 1) C none)) (fun v H2 => v = .non ∧ ∃ d, H d = none ∧ d ≠ hp.objs.size + 1 ∧ H2 = upd (upd (upd H (hp.objs.size + 1) (exo (hp.objs.size + 1) C none)) d (exd d [(f, y)])) (hp.objs.size + 1) (exo (hp.objs.size + 1) C (some d))) (fun _ _ _ => False) :=
    ⟨_, y, rfl, upd_same, fun d n ne => ⟨rfl, d, by rw [upd_ne ne] at n; exact n, ne, rfl⟩⟩
  have bb := hb _ (Value.ref (hp.objs.size + 1) :: us) I2.kIn hl
  rw [List.append_nil] at bb
  refine wpAny_call (own_call T.row (I.kIn _ _ hC) (PySem.W.looks_findIn I.kIn T.iC) (fun x => PySem.W.bind_fn I.kIn x T.tI) (by rw [l2, sizeLine_eq]; omega)
    (codeAny_mono (F1.run _ X.stack _ _ ⟨Value.ref (hp.objs.size + 1) :: us, []⟩ (Value.ref (hp.objs.size + 1) :: us) [.ref (hp.objs.size + 1), y] _ (fun _ _ _ => False) (hr.make C us []) (I2.env0.make C us []) bb r2 sp) fun z s2 w => ?_))
  cases z with
  | error er => exact hx pn σ _ _ er s2 I2 w
  | ok fl =>
    cases fl with
    | ret u =>
      obtain ⟨v, H2, I3, rv, ev, d, nd, ne, rfl⟩ := I2.after w
      subst ev
      refine ⟨rv, .ref (hp.objs.size + 1), _, I3, rfl, ?_⟩
      have := q (hp.objs.size + 1) d n1 nd ne
      have e : upd (upd (upd H (hp.objs.size + 1) (exo (hp.objs.size + 1) C none)) d (exd d [(f, y)])) (hp.objs.size + 1) (exo (hp.objs.size + 1) C (some d)) = upd (upd H d (exd d [(f, y)])) (hp.objs.size + 1) (exo (hp.objs.size + 1) C (some d)) := by
        funext b
        by_cases hb : b = hp.objs.size + 1
        · rw [hb, upd_same, upd_same]
        · rw [upd_ne hb, upd_ne hb]
          by_cases hd : b = d
          · rw [hd, upd_same, upd_same]
          · rw [upd_ne hd, upd_ne hd, upd_ne hb]
      rw [e]; exact this
    | next => exact False.elim w
    | brk => exact False.elim w
    | cont => exact False.elim w
/-- a call of a class that a global names -/
theorem pe_callC {x : Str} {e : Expr} {es : List Expr} {t : TA} {p pos : Pos} {r : List V → Hp → VK → Prop} (hc : CallR X (.ref C) r) (hg : Gl X x) (hm : X.mg x = some (.ref C)) (hk : PySem.W.keepIn X.K (.ref C) = true) (ha : PA X (e :: es) t)
    (hd : (x == ("__debug__" : Str)) = false := by decide) (he : starEach (e :: es) X.env = (false, eval e X.env) :: starEach es X.env := by rfl) (hpl : (backTo pos (starEach es X.env)).any (·.1) = false := by rfl) : PE X (.Call (.Name x p) (e :: es) [] pos) (tCB r t) := by
  refine ⟨fun pn s σ H Q I h => wpAny_Call_Name_kw (ld_glob I hg hm ?_ hd)⟩
  exact PySem.W.callWith_K (h₀ := X.base) I.ok.mod.kin hk (thn (ha.run pos pn s σ H _ I h) fun us s1 ⟨vs, H1, I1, r1, q1⟩ => ⟨I1.kIn, hc pn s1 σ H1 vs us Q I1 r1 q1⟩) he hpl
variable {K : PySem.W.Frag} {W : L2.St → XK}
/-- the mirror -/
def xMk1 (c f : Str) (m : M Val) : M Val := bnd (xArgs [m]) fun vs => bnd (shares vs) fun ds => match ds with
  | [d] => ret (.imm (.exn c [(f, d)]))
  | _ => fun _ => none
theorem evm_mk1 {c : Str} {t : TA} {m : M Val} (ha : EvA K W t (xArgs [m])) : EvM K W (tCB (rMk1 (He.ga K c) f) t) (xMk1 c f m) := by
  intro Φ Ψ Ms ρ σ H Q R h
  refine ha.kept R h fun ds Φ1 ρ1 H1 vs R1 s1 rf hl h => ?_
  cases rf with
  | nil => cases hl
  | @cons v d vs ds r rf =>
    cases rf with
    | cons _ _ => cases hl
    | nil =>
      refine ⟨v, rfl, fun a b ha hb ne => ?_⟩
      have g1 : Gr Φ1 H1 (upd Φ1 b (exd b [(f, v)])) (upd H1 b (exd b [(f, v)])) := Gr.newF R1.sf hb
      have ha2 : upd H1 b (exd b [(f, v)]) a = none := by rw [upd_ne (Ne.symm ne)]; exact ha
      have R2 := R1.grow g1
      have g2 : Gr _ _ (upd (upd Φ1 b (exd b [(f, v)])) a (exo a (He.ga K c) (some b))) (upd (upd H1 b (exd b [(f, v)])) a (exo a (He.ga K c) (some b))) := Gr.newF R2.sf ha2
      refine h _ _ (R2.grow g2) (g1.step.trans g2.step) (.ref a) (.exn (.inr ⟨b, upd_same, ?_⟩) (.cons (r.mono (g1.fx.trans g2.fx)) .nil))
      rw [upd_ne ne, upd_same]
/-- C(e) of a class without own __init__: the value is taken, nothing of it is kept here -/
def xMk0 (c : Str) (m : M Val) : M Val := bnd m fun _ => ret (.imm (.exn c []))
theorem evm_mk0 {c : Str} {t : TE} {m : M Val} (ha : EvM K W t m) : EvM K W (fun σ H Q => t σ H fun _ H1 => ∀ a, H1 a = none → Q (.ref a) (upd H1 a (ExO (.ref (He.ga K c)) a))) (xMk0 c m) := by
  intro Φ Ψ Ms ρ σ H Q R h
  refine ha Φ Ψ Ms ρ σ H _ R (PostG.bnd h |>.mono fun v Φ1 ρ1 H1 R1 s1 h x rx a hn => ?_)
  have g : Gr Φ1 H1 (upd Φ1 a (ExO (.ref (He.ga K c)) a)) (upd H1 a (ExO (.ref (He.ga K c)) a)) := Gr.newF R1.sf hn
  exact h _ _ (R1.grow g) g.step (.ref a) (.exn (.inl ⟨rfl, upd_same⟩) .nil)
end
end Z

/-! Z28: isinstance of an exception that is held as a value; its field. -/
namespace Z
open PySem PySem.Spec PySem.Calls PyProof.Rows PySem.W
/-- a class of exceptions, asked by isinstance: what the written part says (as a Bool) -/
def excB (K : Frag) (C : Addr) : Bool := decide (findIn K (.ref C) "__getattribute__" = some (some (.builtin "BaseException.__getattribute__"))) && (decide (findIn K (.ref C) "__getattr__" = some none) && (decide (subIn K (.ref C) (.type "BaseException") = some true) &&
  (hasDictIn K C && (decide (findIn K (.ref C) "__class__" = some (some (.builtin "object.__class__"))) && (decide (specialIn K (.builtin "object.__class__") "__get__" = some (some (.builtin "getset_descriptor.__get__"))) &&
  (decide (takesIn K (.builtin "object.__class__") = some true) && decide (mroIn K C (.type "object") = some true)))))))
theorem excB_ok {K : Frag} {C : Addr} (h : excB K C = true) : L2.ExcC K C := by
  unfold excB at h
  simp only [Bool.and_eq_true, decide_eq_true_eq] at h
  obtain ⟨h1, h2, h3, h4, h5, h6, h7, h8⟩ := h
  exact ⟨h1, h2, h3, h4, h5, h6, h7, h8⟩
section
variable {prog : Program} {w : World} {A : Around} {E : Value → Shared → Prop} {s : Shared} {K : Frag} {x D : Addr} {ox : Obj} {od : Option Obj}
theorem cls_found (T : L2.ExcC K D) : findObj K D od "__class__" = some (.bind (.builtin "getset_descriptor.__get__") (.builtin "object.__class__")) := by
  obtain ⟨cd, hc, _⟩ := any_some T.hd
  have hs : (clsIn K D).isSome = true := by rw [hc]; rfl
  cases od with
  | none => exact findObj_dataN hs T.ha T.hn T.ht
  | some o => exact findObj_data hs T.ha T.hn T.ht
theorem cls_asked (T : L2.ExcC K D) {Q : Option Value → Shared → Prop} (X : K.In s.heap) (I : InstAt s.heap x ox D od) (fin : Q (some (.ref D)) { s with toks := s.toks + 1 }) : wpAny (model prog w) A (getAttr? (.ref x) "__class__") Q E s := by
  have found := cls_found (od := od) T
  obtain ⟨hp, gs, dr, tk, os⟩ := s
  have a0 := I.type (M := model prog w)
  have a1 := looks_findIn (M := model prog w) X T.hg
  have a2 := looks_findIn (M := model prog w) X T.hk
  have a3 := looks_find (M := model prog w) X I found
  have isE : Looks (model prog w) hp (isInstance (.ref x) (.type "BaseException")) true := a0.andThen (looks_subIn X T.hs)
  have b0 : (false && onTheHeap (Value.builtin "BaseException.__getattribute__")) = false := rfl
  have b2 : (Value.builtin "BaseException.__getattribute__" == Value.builtin "object.__getattribute__") = false := by decide +kernel
  have b1 : (onTheHeap (Value.ref D) && Value.builtin "BaseException.__getattribute__" == Value.builtin "object.__getattribute__") = false := by rw [b2]; rfl
  unfold getAttr? getAttrBy? getAttrBy
  refine wpAny_bind (wpAny_mkText (wpAny_bind (wpAny_attempt (wpAny_holding (wpAny_bind (a0.at (wpAny_bind (a1.at ?_))))))))
  show wpAny _ _ (if (onTheHeap (Value.ref D) && Value.builtin "BaseException.__getattribute__" == Value.builtin "object.__getattribute__") = true then _ else _) _ _ _
  rw [b1, if_neg Bool.false_ne_true]; unfold getAttrByItsOwn hookBefore
  refine wpAny_bind ?_
  rw [if_pos (show onTheHeap (Value.ref D) = true from rfl)]
  refine a2.at (wpAny_bind (wpAny_attempt (wpAny_holding ?_)))
  unfold callGetattribute
  rw [b0, if_neg Bool.false_ne_true]; unfold boundAndCalled
  rw [PySem.F.excAttr_ValueError.ga.bind (.ref x)]
  refine wpAny_bind (wpAny_pure ?_)
  show wpAny _ _ (call (.builtin "BaseException.__getattribute__") [.ref x, .str "__class__" tk]) _ _ _
  refine wpAny_call (codeAny_call_builtin PySem.F.excAttr_ValueError.ga.plain PySem.F.entry_bexc_ga ?_)
  refine @check_slot (model prog w) _ _ ⟨hp, gs, dr, tk + 1, os⟩ "BaseException.__getattribute__" "BaseException" "__getattribute__" (.ref x) [.str "__class__" tk] [] _ (by decide +kernel) (by decide +kernel) isE (PySem.F.args_bexc_ga (.ref x) (.str "__class__" tk)) ?_
  unfold Builtin.«object.__getattribute__»
  refine wpAny_bind (wpAny_of_eq (a := ((Value.ref x : Value), [Value.str "__class__" tk])) (by first | rfl | (simp only [slotArgs]; rfl)) (wpAny_bind (wpAny_pure (wpAny_bind (a0.at (wpAny_bind (a3.at ?_)))))))
  show wpAny _ _ (holding [Value.builtin "object.__class__"] (call (.builtin "getset_descriptor.__get__") [.builtin "object.__class__", .ref x, .ref D]) >>= PySem.ret) _ _ _
  refine wpAny_bind (wpAny_holding (wpAny_call (class_get (s := ⟨hp, gs, dr, tk + 1, os⟩) (ox := ox) (od := od) X I T.hm (wpAny_pure ?_))))
  show wpAny _ _ (handedOut (.ref D)) _ _ _
  rw [handedOut_of (v := .ref D) rfl]
  first | exact wpAny_pure (wpAny_pure fin) | exact wpAny_pure fin | exact wpAny_pure (wpAny_bind (wpAny_pure (wpAny_pure fin)))
theorem kit_exn (T : L2.ExcC K D) : KitX K (.ref x) (.ref D) (fun h => ∃ (oe : Obj) (oo : Option Obj), InstAt h x oe D oo) := by
  obtain ⟨cd, hc, _⟩ := any_some T.hd
  have hold : ∃ c' d' cd' sl', K.lookup D = some ⟨c', d', .cls cd', sl'⟩ := by
    unfold clsIn at hc
    split at hc
    · exact ⟨_, _, _, _, by assumption⟩
    · cases hc
  obtain ⟨c', d', cd', sl', ho⟩ := hold
  constructor
  · exact fun _ _ _ ⟨_, _, I⟩ => I.type
  · intro M h X _ A' Q' E' s' k q
    unfold isType loadHead
    exact wpAny_bind (wpAny_loadPart (k _ _ (X _ _ ho)) (wpAny_pure q))
  · intro h tp dd its n sl X htp
    refine Bool.eq_false_iff.mpr fun q => ?_
    have e : D = tp := Value.ref.inj (beq_iff_eq.mp q)
    subst e
    have z := (X _ _ ho).symm.trans htp
    cases z
  · exact fun X ⟨_, _, I⟩ k => cls_asked T X I k
end
end Z
namespace Z
open PySem L2 PySem.Spec PyProof.Rows
section
variable {X : Cx} {pn : List (Addr × Obj)} {σ : L2.St} {H : Hp} {s : Shared} {a C : Addr} {fs : List (Str × V)} {K : PySem.W.Frag} {W : L2.St → XK} {Φ : Hp}
theorem exAt_inst (I : Inv X pn σ H s) (h : ExAt H a C fs) : ∃ (oe : Obj) (od : Option Obj), PySem.W.InstAt s.heap a oe C od ∧ (fs ≠ [] → ∃ (o : Obj) (mA : Str → Option Value), od = some o ∧ (∀ n, PySem.W.lookIn n o = some (mA n)) ∧ ∀ n, RelO (fs.lookup n) (mA n)) := by
  rcases h with ⟨rfl, h⟩ | ⟨d, h1, h2⟩
  · obtain ⟨⟨oe, vs, e, ⟨z1, z2⟩, dd, _⟩, _⟩ := (show ObjOk X.prog X.w H s.heap a (ExO (.ref C) a) from I.hok a _ h)
    refine ⟨oe, none, ⟨e, z1, by unfold PySem.W.notCls; rw [dd], ?_⟩, fun z => absurd rfl z⟩
    rw [z2]; trivial
  · obtain ⟨t1, e⟩ := exo_at I.hok h1
    obtain ⟨mA, hn, hr⟩ := exd_at I.hok h2
    obtain ⟨od, ho, hl⟩ := lookIn_ns hn
    exact ⟨_, some od, ⟨e, rfl, rfl, ho⟩, fun _ => ⟨od, mA, rfl, hl, hr⟩⟩
/-- a class in a test -/
inductive Cl where
  | own (x : Str)
  | blt (n : String)
deriving DecidableEq
def Cl.val (K : PySem.W.Frag) : Cl → Value
  | .own x => .ref (He.ga K x)
  | .blt n => .type n
def clOf : D → Option Cl
  | .obj x => some (.own x)
  | .ty n => some (.blt n)
  | _ => none
/-- the classes: their names, what stands above each; the tests -/
def isaB (ups : List (Str × List Cl)) (tests : List Cl) (K : PySem.W.Frag) : Bool := ups.all fun p => excB K (He.ga K p.1) && tests.all fun t => decide (PySem.W.kitOne K (.ref (He.ga K p.1)) (t.val K) = some (p.2.contains t))
def rIsx (K : PySem.W.Frag) : List V → Hp → VK → Prop := fun xs H Q => ∃ (a C : Addr) (fs : List (Str × V)) (c : V) (cv : Value) (b : Bool), xs = [.ref a, c] ∧ ExAt H a C fs ∧ ExcC K C ∧ (∀ u, RelV c u → u = cv) ∧ PySem.W.kitOne K (.ref C) cv = some b ∧ Q (.bl b) H
theorem call_isx : CallR X (.builtin "isinstance") (rIsx X.K) := by
  intro pn s σ H xs us Q I r h
  obtain ⟨a, C, fs, c, cv, b, rfl, ha, T, hcv, e, q⟩ := h
  obtain ⟨u1, u2, rfl, r1, r2⟩ := vals2 r
  cases (show u1 = Value.ref a from r1)
  have e2 := hcv _ r2
  subst e2
  obtain ⟨oe, od, J, _⟩ := exAt_inst I ha
  exact PySem.W.kia_one (kit_exn T) I.kIn ⟨oe, od, J⟩ e (fun z => nomatch z) fun tk => ⟨.bl b, H, I.tok tk, rfl, q⟩
def dIsx (ups : List (Str × List Cl)) (tests : List Cl) : List D → Option Val
  | [.exn c _, t] => (clOf t).bind fun t => if tests.contains t = true then (ups.lookup c).map fun l => .imm (.bl (l.contains t)) else none
  | _ => none
theorem callm_isx {ups : List (Str × List Cl)} {tests : List Cl} (ok : isaB ups tests K = true) : CallM K (rIsx K) (dIsx ups tests) := by
  intro Φ H xs ds val Q sf rs e q
  unfold dIsx at e
  split at e
  · rename_i c gs t
    cases rs with
    | cons ra r2 =>
      cases r2 with
      | cons rb r3 =>
        cases r3
        obtain ⟨a, fs, rfl, ha, rf⟩ := ra.exns sf
        cases h1 : clOf t with
        | none => rw [h1] at e; cases e
        | some cl =>
          rw [h1] at e
          simp only [Option.bind_some] at e
          split at e
          · rename_i ht
            cases h2 : ups.lookup c with
            | none => rw [h2] at e; cases e
            | some l =>
              rw [h2] at e; cases e
              have m : (c, l) ∈ ups := by
                clear ok
                induction ups with
                | nil => cases h2
                | cons p ups ih =>
                  obtain ⟨c2, l2⟩ := p
                  rw [List.lookup_cons] at h2
                  split at h2
                  · rename_i z
                    cases h2
                    have : c = c2 := by simpa using z
                    subst this
                    exact List.mem_cons_self
                  · exact List.mem_cons_of_mem _ (ih h2)
              obtain ⟨k1, k2⟩ := He.ba (List.all_eq_true.mp ok _ m)
              have k3 := of_decide_eq_true (List.all_eq_true.mp k2 cl (List.contains_iff_mem.mp ht))
              refine ⟨a, _, fs, _, cl.val K, l.contains cl, rfl, ha, excB_ok k1, fun u ru => ?_, k3, q.bl sf⟩
              cases t with
              | obj x => cases h1; cases rb with | f h => cases h; exact ru
              | ty n => cases h1; cases rb with | f h => cases h; exact ru
              | _ => cases h1
          · cases e
  · cases e
/-- isinstance of plain values and of exceptions -/
def rIsU (K : PySem.W.Frag) : List V → Hp → VK → Prop := fun xs H Q => rIsiZ K xs H Q ∨ rIsx K xs H Q
theorem call_isU : CallR X (.builtin "isinstance") (rIsU X.K) := call_isiZ.or call_isx
def dIsU (ups : List (Str × List Cl)) (tests : List Cl) (ds : List D) : Option Val := match dIsx ups tests ds with
  | some v => some v
  | none => dIsi ds
theorem callm_isU {ups : List (Str × List Cl)} {tests : List Cl} (ok : isaB ups tests K = true) : CallM K (rIsU K) (dIsU ups tests) := by
  intro Φ H xs ds val Q sf rs e q
  unfold dIsU at e
  split at e
  · rename_i v h
    cases e
    exact .inr (callm_isx ok Φ H xs ds val Q sf rs h q)
  · exact .inl (callm_isi Φ H xs ds val Q sf rs e q)
/-! ### e.f -/
/-- what the written part says, so that f is read from an instance's own dict -/
def fldB (K : PySem.W.Frag) (C : Addr) (f : Str) : Bool := excB K C && decide (PySem.W.findIn K (.ref C) f = some none)
def tXfl (K : PySem.W.Frag) (f : Str) (te : TE) : TE := fun σ H Q => te σ H fun x H1 => ∃ (a C : Addr) (fs : List (Str × V)) (v : V), x = .ref a ∧ ExAt H1 a C fs ∧ fldB K C f = true ∧ fs.lookup f = some v ∧ Q v H1
theorem pe_xfl {e : Expr} {te : TE} {pos : Pos} {f : Str} (he : PE X e te) (hb : attributeBase e f X.env (eval e X.env) = eval e X.env := by rfl) : PE X (.Attribute e f pos) (tXfl X.K f te) := by
  refine ⟨fun pn s σ H Q I h => attr_of hb (thn (he.run pn s σ H _ I h) fun u s1 hh => ?_)⟩
  obtain ⟨x, H1, I1, rx, a, C, fs, v, ex, ha, kf, l, q⟩ := hh
  subst ex
  obtain rfl : u = Value.ref a := rx
  obtain ⟨k1, k2⟩ := He.ba kf
  have T := excB_ok k1
  have no := of_decide_eq_true k2
  obtain ⟨oe, od, J, hf⟩ := exAt_inst I1 ha
  obtain ⟨o, mA, rfl, hl, hr⟩ := hf (fun z => by rw [z] at l; cases l)
  obtain ⟨u, hu, ru⟩ := RelO.some_of (v := v) (o := mA f) (by rw [← l]; exact hr f)
  exact HandSPX.exc_get I1.kIn J T.hg T.hk T.hs (PySem.W.findObj_own T.hd no rfl (by rw [hl, hu])) (handed_of ru) ⟨v, H1, I1.tok _, ru, q⟩
/-- the fields that are read: of which class, its name -/
def fldsB (fl : List (Str × Str)) (K : PySem.W.Frag) : Bool := fl.all fun p => fldB K (He.ga K p.1) p.2
def xXfl (fl : List (Str × Str)) (f : Str) (m : M Val) : M Val := bnd m fun v => fun ρ => match cont ρ v with
  | some (.exn c gs) => if fl.contains (c, f) = true then (gs.lookup f).map fun d => (.ok (.imm d), ρ) else none
  | _ => none
theorem RFf.look {fs : List (Str × V)} {gs : List (Str × D)} (r : RFf K Φ fs gs) {f : Str} {d : D} (e : gs.lookup f = some d) : ∃ v, fs.lookup f = some v ∧ RF K Φ v d := by
  match fs, gs, r with
  | _, _, .nil => cases e
  | _, _, .cons (x := x) (v := v) r t =>
    rw [List.lookup_cons] at e ⊢
    split at e
    · cases e; exact ⟨v, rfl, r⟩
    · exact RFf.look t e
theorem evm_xfl {fl : List (Str × Str)} {f : Str} {t : TE} {m : M Val} (ok : fldsB fl K = true) (ha : EvM K W t m) : EvM K W (tXfl K f t) (xXfl fl f m) := by
  intro Φ Ψ Ms ρ σ H Q R h
  refine ha Φ Ψ Ms ρ σ H _ R (PostG.bnd h |>.mono fun val Φ1 ρ1 H1 R1 s1 h x rx => ?_)
  cases e : cont ρ1 val with
  | none => simp only [e] at h; exact h.elim
  | some d =>
    simp only [e] at h
    split at h
    · rename_i c gs z
      cases z
      split at h
      · rename_i hc
        cases hg : gs.lookup f with
        | none => rw [hg] at h; exact h.elim
        | some d =>
          rw [hg] at h
          obtain ⟨a, fs, rfl, hx, rf⟩ := (rx.read R1 e).exns R1.sf
          obtain ⟨v, hv, rv⟩ := rf.look hg
          exact ⟨a, _, fs, v, rfl, hx, List.all_eq_true.mp ok (c, f) (List.contains_iff_mem.mp hc), hv, h _ _ R1 Step.refl v rv⟩
      · exact h.elim
    · exact h.elim
end
end Z

/-! Z29: dict displays (keys texts and numbers, or tuples of them); text.join(list). -/
namespace Z
open PySem L2
section
variable {K : PySem.W.Frag} {W : L2.St → XK} {Φ Ψ H H0 : Hp} {Ms : List (Nat × Addr)} {ρ : Env} {σ : L2.St} {X : Cx}
/-! ### pairs, laid flat -/
def flatP {α : Type} : List (α × α) → List α
  | [] => []
  | p :: r => p.1 :: p.2 :: flatP r
def foldP {α : Type} : List α → List (α × α)
  | a :: b :: r => (a, b) :: foldP r
  | _ => []
theorem fold_flat {α : Type} : ∀ l : List (α × α), foldP (flatP l) = l
  | [] => rfl
  | p :: r => by rw [flatP, foldP, fold_flat r]
def tFlat : List (TE × TE) → TA
  | [] => tNil
  | (tk, tv) :: r => tCons tk (tCons tv (tFlat r))
theorem tFlat_eq : ∀ (trs : List (TE × TE)) {σ : L2.St} {H : Hp} {Q : List V → Hp → Prop}, tFlat trs σ H Q = tPairs trs σ H (fun ps => Q (flatP ps))
  | [], _, _, _ => rfl
  | (tk, tv) :: r, σ, H, Q => by
    show tk σ H (fun x H1 => tv σ H1 fun y H2 => tFlat r σ H2 fun vs H3 => Q (x :: y :: vs) H3) = tk σ H (fun x H1 => tv σ H1 fun y H2 => tPairs r σ H2 fun ps H3 => Q (x :: y :: flatP ps) H3)
    congr 1; funext x H1; congr 1; funext y H2
    exact tFlat_eq r (Q := fun vs H3 => Q (x :: y :: vs) H3)
/-- an object that nobody holds is written anew -/
theorem Rel.patch {p : Addr} {o : HO} (R : Rel K Φ Ψ Ms ρ σ H) (n : Φ p = none) (nb : Ψ p = none) (no : ¬ Own ρ σ p) : Rel K Φ Ψ Ms ρ σ (upd H p o) where
  len := R.len
  sf := R.sf.updO n
  sb := R.sb.updO nb
  ms := R.ms
  sl := fun i s e => by
    obtain ⟨v, ev, r⟩ := R.sl i s e
    refine ⟨v, ev, ?_⟩
    cases s with
    | imm d => exact r
    | bor d => exact r
    | own d =>
      obtain ⟨a, ea, rm, z⟩ := r
      subst ea
      exact ⟨a, rfl, rm.move (Ext.refl _) fun u q => by rw [upd_ne (fun w => by subst w; exact no ⟨i, _, e, rfl, ev⟩)]; exact q, z⟩
    | mrf d =>
      obtain ⟨a, ea, rm, z⟩ := r
      subst ea
      exact ⟨a, rfl, rm.move (Ext.refl _) fun u q => by rw [upd_ne (fun w => by subst w; exact no ⟨i, _, e, rfl, ev⟩)]; exact q, z⟩
  dis := R.dis
/-- arguments kept, from a heap a step further on -/
theorem EvA.kept3 {H2 : Hp} {t : TA} {ms : List (M Val)} {f : List D → M Val} {Q : List V → Hp → Prop} {good : Good Val} (ha : EvA K W t (xArgs ms)) (R : Rel K Φ Ψ Ms ρ σ H2) (st : Step Φ (Own ρ σ) H Φ (Own ρ σ) H2)
    (h : PostG K Ψ Ms σ (W σ) Φ ρ H good (bnd (xArgs ms) (fun vs => bnd (shares vs) f) ρ))
    (k : ∀ ds Φ1 ρ1 H1 vs, Rel K Φ1 Ψ Ms ρ1 σ H1 → Step Φ (Own ρ σ) H2 Φ1 (Own ρ1 σ) H1 → RFs K Φ1 vs ds → vs.length = ms.length → PostG K Ψ Ms σ (W σ) Φ ρ H good (f ds ρ1) → Q vs H1) : t σ H2 Q := by
  refine ha Φ Ψ Ms ρ σ H2 Q R ?_
  have h1 := PostG.from_ st h.bnd'
  cases e0 : xArgs ms ρ with
  | none => rw [e0] at h1; exact h1
  | some p0 =>
    obtain ⟨r0, ρ1⟩ := p0
    rw [e0] at h1
    cases r0 with
    | err x => exact h1
    | ok vals =>
      intro Φ1 H1 R1 s1 vs rs
      have h2 : PostG K Ψ Ms σ (W σ) Φ ρ H good (bnd (shares vals) f ρ1) := h1 Φ1 H1 R1 s1
      unfold bnd at h2
      cases e : shares vals ρ1 with
      | none => rw [e] at h2; exact h2.elim
      | some p =>
        obtain ⟨ds, Φ2, eq, R2, s2, rf, x⟩ := shares_ok R1 s1 rs e
        rw [e, eq] at h2
        exact k ds Φ2 p.2 H1 vs R2 s2 rf (rs.length.trans (xArgs_length e0)) h2
/-- a new object, written once more at the end -/
theorem fill {p : Addr} {u o : HO} {ρ1 : Env} {Φ1 H1 : Hp} (R : Rel K Φ Ψ Ms ρ σ H) (hp : H p = none) (nt : ∀ xs, u ≠ .tup xs) (R1 : Rel K Φ1 Ψ Ms ρ1 σ H1) (s1 : Step Φ (Own ρ σ) (upd H p u) Φ1 (Own ρ1 σ) H1) :
    H1 p = some u ∧ Φ1 p = none ∧ ¬ Own ρ1 σ p ∧ Rel K Φ1 Ψ Ms ρ1 σ (upd H1 p o) ∧ Step Φ (Own ρ σ) H Φ1 (Own ρ1 σ) (upd H1 p o) := by
  have np : ¬ Own ρ σ p := fun o => by obtain ⟨⟨d', rm⟩, _⟩ := R.own o; exact rm.ne hp
  have e1 : H1 p = some u := s1.f2 p _ upd_same np
  have n1 : Φ1 p = none := by
    cases z : Φ1 p with
    | none => rfl
    | some o =>
      rcases s1.f3 p o z with q | q | q | ⟨xs, q⟩
      · rw [R.sf.none hp] at q; cases q
      · rw [upd_same] at q; cases q
      · exact absurd q np
      · rw [upd_same] at q; cases q; exact absurd rfl (nt xs)
  have no1 : ¬ Own ρ1 σ p := fun o => by
    rcases s1.f4 p o with q | q
    · exact np q
    · rw [upd_same] at q; cases q
  refine ⟨e1, n1, no1, R1.patch n1 (R.sb.none hp) no1, ?_⟩
  constructor
  · exact s1.f1
  · intro a o' e no
    have ne : a ≠ p := fun z => by rw [z, hp] at e; cases e
    rw [upd_ne ne]; exact s1.f2 a o' (by rw [upd_ne ne]; exact e) no
  · intro a o' e
    by_cases ne : a = p
    · subst ne; rw [n1] at e; cases e
    · rcases s1.f3 a o' e with q | q | q | ⟨xs, q⟩
      · exact .inl q
      · rw [upd_ne ne] at q; exact .inr (.inl q)
      · exact .inr (.inr (.inl q))
      · rw [upd_ne ne] at q; exact .inr (.inr (.inr ⟨xs, q⟩))
  · intro a o'
    rcases s1.f4 a o' with q | q
    · exact .inl q
    · by_cases ne : a = p
      · subst ne; exact .inr hp
      · rw [upd_ne ne] at q; exact .inr q
  · intro a e
    by_cases ne : a = p
    · subst ne; exact absurd hp e
    · rw [upd_ne ne]; exact s1.f5 a (by rw [upd_ne ne]; exact e)
/-! ### keys texts and numbers -/
def xDisp (put : List (D × D) → List (D × D) → Option (List (D × D))) (mk : List (D × D) → D) (ms : List (M Val)) : M Val := bnd (xArgs ms) fun vs => bnd (shares vs) fun ds => match put [] (foldP ds) with
  | some l => if ms.length ≤ 30 then ret (.own (mk l)) else fun _ => none
  | none => fun _ => none
theorem foldP_len {α : Type} : ∀ l : List α, (foldP l).length * 2 ≤ l.length
  | [] => by simp [foldP]
  | [a] => by simp [foldP]
  | a :: b :: r => by simp only [foldP, List.length_cons]; have := foldP_len r; omega
theorem disp_keys : ∀ {vs : List V} {ds : List D} {l acc : List (D × D)} {kvs : List (Key × V)}, RFs K Φ vs ds → putsK acc (foldP ds) = some l → RFk K Φ kvs acc → ∃ more : List (Key × V), foldP vs = more.map (fun kv => (kV kv.1, kv.2)) ∧ RFk K Φ (mergeK kvs more) l
  | _, _, l, acc, kvs, .nil, e, r => by cases e; exact ⟨[], rfl, r⟩
  | _, _, l, acc, kvs, .cons _ .nil, e, r => by cases e; exact ⟨[], rfl, r⟩
  | _, _, l, acc, kvs, .cons (v := v) (d := d) r1 (.cons (v := v2) (d := d2) r2 t), e, r => by
    simp only [foldP, putsK] at e
    cases q : keyOf d with
    | none => rw [q] at e; cases e
    | some kk =>
      rw [q] at e
      simp only [Option.bind_some] at e
      have ek := keyOf_kV (R1.f (G := Φ) r1) q
      subst ek
      obtain ⟨more, m1, m2⟩ := disp_keys t e (r.put q r2)
      exact ⟨(kk, v2) :: more, by simp only [foldP, m1, List.map_cons], m2⟩
theorem evm_disp {trs : List (TE × TE)} {ms : List (M Val)} (ha : EvA K W (tFlat trs) (xArgs ms)) : EvM K W (tDisp trs) (xDisp putsK .dct ms) := by
  intro Φ Ψ Ms ρ σ H Q R h p hp
  have g : Gr Φ H Φ (upd H p (.dK [])) := Gr.newM R.sf hp
  have key : tFlat trs σ (upd H p (.dK [])) fun vs H2 => H2 p = some (.dK []) ∧ ∃ kvs : List (Key × V), foldP vs = kvs.map (fun kv => (kV kv.1, kv.2)) ∧ kvs.length ≤ 15 ∧ Q (.ref p) (upd H2 p (.dK (mergeK [] kvs))) := by
    refine ha.kept3 (R.grow g) g.step h fun ds Φ1 ρ1 H1 vs R1 s1 rf hl h => ?_
    cases hk : putsK [] (foldP ds) with
    | none => simp only [hk] at h; exact h.elim
    | some l =>
      simp only [hk] at h
      split at h
      · rename_i h30
        obtain ⟨more, m1, m2⟩ := disp_keys rf hk .nil
        obtain ⟨e1, n1, no1, R3, s3⟩ := fill (o := .dK (mergeK [] more)) R hp (fun xs z => by cases z) R1 s1
        refine ⟨e1, more, m1, ?_, ?_⟩
        · have := foldP_len vs
          rw [m1, List.length_map, hl] at this
          omega
        · exact h _ _ R3 s3 (.ref p) ⟨p, rfl, .dct upd_same m2, n1, no1, hp⟩
      · exact h.elim
  rw [tFlat_eq] at key
  simp only [fold_flat] at key
  exact key
/-! ### keys tuples -/
/-- {(..): v, ..} -/
def tDispT (trs : List (TE × TE)) : TE := fun σ H Q => ∀ p, H p = none → tPairs trs σ (upd H p (.dT [])) fun ps H2 => H2 p = some (.dT []) ∧ ∃ kvs : List (List Key × V), kvs.length ≤ 15 ∧ Paired (fun q kv => q.2 = kv.2 ∧ ∃ b, q.1 = V.ref b ∧ H2 b = some (.tup (kv.1.map kV))) ps kvs ∧
  Q (.ref p) (upd H2 p (.dT (mergeT [] kvs)))
theorem carryT {pn : List (Addr × Obj)} {s : Shared} (I : Inv X pn σ H s) : ∀ {ps : List (V × V)} {kvs : List (List Key × V)} {ws : List (Value × Value)}, Paired (fun q kv => q.2 = kv.2 ∧ ∃ b, q.1 = V.ref b ∧ H b = some (.tup (kv.1.map kV))) ps kvs → VV ps ws →
    ∃ xs : List (List Key × Addr × Value), CarriesH (tupleKind (mixKind X.prog X.w)) s.heap ws xs ∧ KT H kvs xs
  | _, _, _, .nil, .nil => ⟨[], trivial, .nil⟩
  | _, _, _, .cons (a := q) (b := kv) h t, .cons (b := w) hv tv => by
    obtain ⟨e2, b, e1, hb⟩ := h
    obtain ⟨r1, r2⟩ := hv
    rw [e1] at r1
    obtain ⟨xs, c, kt⟩ := carryT I t tv
    obtain ⟨w1, w2⟩ := w
    cases (show w1 = Value.ref b from r1)
    exact ⟨(kv.1, b, w2) :: xs, ⟨rfl, rfl, key_of I.hok hb, c⟩, .cons ⟨rfl, hb, e2 ▸ r2⟩ kt⟩
theorem pe_dispT {pos : Pos} {keys : List (Option Expr)} {values : List Expr} {trs : List (TE × TE)} (hu : X.A.units < cLine) (h : PPs X pos keys values trs) (hall : keys.all (·.isSome) = true) (hl : keys.length = values.length) (h0 : keys ≠ [])
    (h15 : keys.length ≤ 15) : PE X (.Dict keys values pos) (tDispT trs) := by
  refine ⟨fun pn s σ H Q I q => ?_⟩
  have hn := I.hok.fresh (Nat.le_refl s.heap.objs.size)
  have I1 := I.laid (a := s.heap.objs.size) (o := .dT []) (h' := s.heap.push { cls := .type "dict", data := .dict #[] }) (t' := s.toks) (fun _ _ q => Heap.get?_push_of_some _ q) (Nat.le_refl _) (dt_empty s.heap I.big)
  have hn2 := pairTrees_length keys values X.env pos hall hl
  rw [arm_eval_Dict, zip_pairTrees keys values X.env pos hall hl, dictDisplay_pairs _ (fun e => h0 (List.length_eq_zero_iff.mp (by rw [← hn2, e]; rfl))) (by omega)]
  refine wpAny_bind (wpAny_standAt (wpAny_bind (wpAny_subDictH (knd := tupleKind (mixKind X.prog X.w)) hu (by omega) (thn (h.run pn _ σ _ _ I1 (q _ hn)) fun ws s2 ⟨ps, H2, I2, rel, e, kvs, lk, pr, q2⟩ => ?_))))
  obtain ⟨xs, c, kt⟩ := carryT I2 pr rel
  obtain ⟨z, hd, xs0, k0, dd⟩ := dt_of I2.hok e
  cases k0
  refine ⟨xs, c, dd, fun h' tk dd' hs => wpAny_pure ⟨.ref s.heap.objs.size, _, ?_, rfl, q2⟩⟩
  have he : ∃ q, h'.get? s.heap.objs.size = some q := let ⟨q, _, _, hq, _⟩ := dd'; ⟨q, hq⟩
  have ml := mergeT_len kvs []
  rw [List.length_nil] at ml
  obtain ⟨o3, es, ep, f1, f2, f3, f4, _, f6⟩ := dd'
  refine d_write I2 (by rw [e]; exact True.intro) hs he ⟨by rw [sizeLine_eq]; omega, hd, storedAllH [] xs, KT.keeps (KT.merge kt .nil) fun b ys eb => ?_, o3, es, ep, f1, f2, f3, f4, f6⟩
  rw [upd_ne (fun w => by subst w; rw [e] at eb; cases eb)]; exact eb
theorem disp_keysT (sf : Sub Φ H) : ∀ {vs : List V} {ds : List D} {l acc : List (D × D)} {kvs : List (List Key × V)}, RFs K Φ vs ds → putsT acc (foldP ds) = some l → RFt K Φ kvs acc →
    ∃ more : List (List Key × V), Paired (fun q kv => q.2 = kv.2 ∧ ∃ b, q.1 = V.ref b ∧ H b = some (.tup (kv.1.map kV))) (foldP vs) more ∧ RFt K Φ (mergeT kvs more) l
  | _, _, l, acc, kvs, .nil, e, r => by cases e; exact ⟨[], .nil, r⟩
  | _, _, l, acc, kvs, .cons _ .nil, e, r => by cases e; exact ⟨[], .nil, r⟩
  | _, _, l, acc, kvs, .cons (v := v) (d := d) r1 (.cons (v := v2) (d := d2) r2 t), e, r => by
    simp only [foldP, putsT] at e
    cases q : keyTn d with
    | none => rw [q] at e; cases e
    | some kk =>
      rw [q] at e
      simp only [Option.bind_some] at e
      obtain ⟨b, eb, hb, _⟩ := keyT_at sf (R1.f (G := H) r1) q
      obtain ⟨more, m1, m2⟩ := disp_keysT sf t e (r.put (keyTn_ok q).1 r2)
      exact ⟨(kk, v2) :: more, .cons ⟨rfl, b, eb, hb⟩ m1, m2⟩
theorem paired_len {α β : Type} {R : α → β → Prop} {as : List α} {bs : List β} (h : Paired R as bs) : bs.length = as.length := (Paired.length h).symm
theorem evm_dispT {trs : List (TE × TE)} {ms : List (M Val)} (ha : EvA K W (tFlat trs) (xArgs ms)) : EvM K W (tDispT trs) (xDisp putsT .dtt ms) := by
  intro Φ Ψ Ms ρ σ H Q R h p hp
  have g : Gr Φ H Φ (upd H p (.dT [])) := Gr.newM R.sf hp
  have key : tFlat trs σ (upd H p (.dT [])) fun vs H2 => H2 p = some (.dT []) ∧ ∃ kvs : List (List Key × V), kvs.length ≤ 15 ∧ Paired (fun q kv => q.2 = kv.2 ∧ ∃ b, q.1 = V.ref b ∧ H2 b = some (.tup (kv.1.map kV))) (foldP vs) kvs ∧ Q (.ref p) (upd H2 p (.dT (mergeT [] kvs))) := by
    refine ha.kept3 (R.grow g) g.step h fun ds Φ1 ρ1 H1 vs R1 s1 rf hl h => ?_
    cases hk : putsT [] (foldP ds) with
    | none => simp only [hk] at h; exact h.elim
    | some l =>
      simp only [hk] at h
      split at h
      · rename_i h30
        obtain ⟨more, m1, m2⟩ := disp_keysT R1.sf rf hk .nil
        obtain ⟨e1, n1, no1, R3, s3⟩ := fill (o := .dT (mergeT [] more)) R hp (fun xs z => by cases z) R1 s1
        refine ⟨e1, more, ?_, m1, ?_⟩
        · have := foldP_len vs
          rw [paired_len m1]
          omega
        · exact h _ _ R3 s3 (.ref p) ⟨p, rfl, .dtt upd_same m2, n1, no1, hp⟩
      · exact h.elim
  rw [tFlat_eq] at key
  simp only [fold_flat] at key
  exact key
/-! ### text.join(list of texts) -/
def allStr : List D → Option (List Str)
  | [] => some []
  | .str x :: r => (allStr r).map (x :: ·)
  | _ => none
theorem allStr_ok : ∀ {vs : List V} {ds : List D} {ys : List Str}, RFs K Φ vs ds → allStr ds = some ys → vs = ys.map V.str
  | _, _, _, .nil, e => by cases e; rfl
  | _, _, _, .cons (d := d) r t, e => by
    cases d <;> simp only [allStr] at e <;> try (cases e; done)
    rename_i x
    simp only [Option.map_eq_some_iff] at e
    obtain ⟨zs, e1, rfl⟩ := e
    cases r
    rw [allStr_ok t e1]; rfl
def dJoin (a : Str) : D → Option Val
  | .lst ds => (allStr ds).bind fun ys => if (ys.map (·.length)).sum + ys.length * a.length ≤ 16777216 then some (.imm (.str (Txt.join a ys))) else none
  | _ => none
theorem evm_join {a : Str} {te : TE} {m : M Val} (ha : EvM K W te m) : EvM K W (tM1 (fun x xs H Q => ∃ a p, ∃ ys : List Str, x = .str a ∧ xs = [.ref p] ∧ (SqL K H p (ys.map V.str) ∨ SqT K H p (ys.map V.str)) ∧
      (ys.map (·.length)).sum + ys.length * a.length ≤ 16777216 ∧ Q (.str (Txt.join a ys)) H) (tC (.str a)) te) (xUn (dJoin a) m) := by
  have un : UnM K (fun y H Q => ∃ b p, ∃ ys : List Str, V.str a = .str b ∧ [y] = [V.ref p] ∧ (SqL K H p (ys.map V.str) ∨ SqT K H p (ys.map V.str)) ∧ (ys.map (·.length)).sum + ys.length * b.length ≤ 16777216 ∧ Q (.str (Txt.join b ys)) H) (dJoin a) := by
    intro Φ H x d val Q sf r e q
    unfold dJoin at e
    split at e
    · rename_i ds
      obtain ⟨p, vs, rfl, hp, rr⟩ := r.lsts sf
      cases q2 : allStr ds with
      | none => rw [q2] at e; cases e
      | some ys =>
        rw [q2] at e
        simp only [Option.bind_some] at e
        split at e
        · rename_i hz
          cases e
          have ev := allStr_ok rr q2
          subst ev
          exact ⟨a, p, ys, rfl, rfl, .inl (.inl hp), hz, q.str sf⟩
        · cases e
    · cases e
  exact fun Φ Ψ Ms ρ σ H Q R h => ⟨⟨a, rfl⟩, evm_un un ha Φ Ψ Ms ρ σ H Q R h⟩
end
end Z

/-! Z30: the facts of own exception classes, as a Bool. -/
namespace Z
open PySem PySem.Spec L2 PyProof.Rows
def ownB (K : PySem.W.Frag) (c f : Str) (tl : List Value) (nw : String) : Bool := (match K.lookup (He.ga K c) with
  | some ⟨.type "type", _, .cls cd, sl⟩ => decide (cd.mro = .ref (He.ga K c) :: tl) && (cd.hasDict && (!cd.hasDel && (match sl.toList with
    | [_, _, _, _, some (.builtin n), _] => decide (n = nw)
    | _ => false)))
  | _ => false) && (decide (PySem.W.findIn K (.ref (He.ga K c)) "__setattr__" = some (some (.builtin "object.__setattr__"))) && (decide (PySem.W.findIn K (.ref (He.ga K c)) "__init__" = some (some (.ref (He.ma K (He.ga K c) "__init__")))) &&
  (decide (PySem.W.typeIn K (.ref (He.ma K (He.ga K c) "__init__")) = some (.type "function")) && (PySem.W.keepIn K (.ref (He.ga K c)) && decide (PySem.W.findIn K (.ref (He.ga K c)) f = some none)))))
theorem ownB_ok {K : PySem.W.Frag} {c f : Str} {tl bB : List Value} {B nw ini : String} (row : Row tl B nw ini bB) (h : ownB K c f tl nw = true) : OwnX K (He.ga K c) (He.ma K (He.ga K c) "__init__") f tl B nw ini bB := by
  unfold ownB at h
  obtain ⟨h1, h⟩ := He.ba h
  obtain ⟨h2, h⟩ := He.ba h
  obtain ⟨h3, h⟩ := He.ba h
  obtain ⟨h4, h⟩ := He.ba h
  obtain ⟨h5, h6⟩ := He.ba h
  refine ⟨row, ?_, of_decide_eq_true h2, of_decide_eq_true h3, of_decide_eq_true h4, h5, of_decide_eq_true h6⟩
  split at h1
  · rename_i dd cd sl ho
    obtain ⟨m1, h1⟩ := He.ba h1
    obtain ⟨m2, h1⟩ := He.ba h1
    obtain ⟨m3, m4⟩ := He.ba h1
    split at m4
    · rename_i k0 k1 k2 k3 n k5 hs
      have e4 := of_decide_eq_true m4
      subst e4
      obtain ⟨nm, bs, mro, ns, q, hd, sn, sub, ab, col, del⟩ := cd
      have e1 := of_decide_eq_true m1
      dsimp only at e1 m2 m3
      subst e1 m2
      have e3 : del = false := by simpa using m3
      subst e3
      obtain ⟨l⟩ := sl
      have e5 : l = [k0, k1, k2, k3, some (.builtin n), k5] := hs
      subst e5
      exact ⟨nm, q, ns, bs, sn, sub, ab, col, dd, k0, k1, k2, k3, k5, ho⟩
    · cases m4
  · cases h1
/-! ### [..] * k -/
section
variable {K : PySem.W.Frag} {W : L2.St → XK}
def xRep (k : Int) (m : M Val) : M Val := bnd m fun v => match v with
  | .own (.lst ds) => if 0 ≤ k ∧ k < 1000 ∧ ds.length ≤ 1000 then ret (.own (.lst (List.replicate k.toNat ds).flatten)) else fun _ => none
  | _ => fun _ => none
theorem evm_rep {k : Int} {t : TE} {m : M Val} (ha : EvM K W t m) : EvM K W (tOp (rMulU K) t (tC (.int k))) (xRep k m) := by
  intro Φ Ψ Ms ρ σ H Q R h
  refine ha.then_ R h fun v Φ1 ρ1 H1 x R1 s1 r1 h => ?_
  cases v with
  | own d =>
    cases d with
    | lst ds =>
      simp only at h
      split at h
      · rename_i hz
        obtain ⟨a, rfl, rm, _⟩ := r1
        cases rm with
        | @lst vs _ h1 rf =>
          have l1 : vs.length = ds.length := rf.length
          refine .inr (.inr ⟨a, k, vs, rfl, rfl, h1, by omega, by omega, ?_, fun p hp => ?_⟩)
          · have : vs.length * k.toNat ≤ 1000 * 1000 := Nat.mul_le_mul (by omega) (by omega)
            rw [sizeLine_eq]; omega
          · have g : Gr Φ1 H1 Φ1 (upd H1 p (.lst (List.replicate k.toNat vs).flatten)) := Gr.newM R1.sf hp
            refine h _ _ (R1.grow g) g.step (.ref p) ⟨p, rfl, .lst upd_same (rf.rep _), R1.sf.none hp, fun o => ?_, s1.fresh p hp⟩
            obtain ⟨⟨d', rm⟩, _⟩ := R1.own o
            exact rm.ne hp
      · exact h.elim
    | _ => exact h.elim
  | _ => exact h.elim
end
end Z

namespace Wk
open PySem L2 Z
/-- the classes of exceptions: what stands above each; what is asked; the fields -/
def ups : List (Str × List Cl) := [("PlanError", [.own "PlanError", .blt "ValueError", .blt "Exception", .blt "BaseException"]), ("InvalidArcs", [.own "InvalidArcs", .own "PlanError", .blt "ValueError", .blt "Exception", .blt "BaseException"]), ("InvalidPlan", [.own "InvalidPlan", .own "PlanError", .blt "ValueError", .blt "Exception", .blt "BaseException"]), ("InvalidDurations", [.own "InvalidDurations", .own "PlanError", .blt "ValueError", .blt "Exception", .blt "BaseException"]), ("InvalidTimes", [.own "InvalidTimes", .own "PlanError", .blt "ValueError", .blt "Exception", .blt "BaseException"]), ("InvalidRun", [.own "InvalidRun", .own "PlanError", .blt "ValueError", .blt "Exception", .blt "BaseException"]), ("InvalidPolicy", [.own "InvalidPolicy", .own "PlanError", .blt "ValueError", .blt "Exception", .blt "BaseException"]), ("InvalidTable", [.own "InvalidTable", .own "PlanError", .blt "ValueError", .blt "Exception", .blt "BaseException"]), ("InvalidTask", [.own "InvalidTask", .own "PlanError", .blt "ValueError", .blt "Exception", .blt "BaseException"]), ("InvalidOperation", [.own "InvalidOperation", .own "PlanError", .blt "ValueError", .blt "Exception", .blt "BaseException"]), ("InvalidEdit", [.own "InvalidEdit", .own "PlanError", .blt "ValueError", .blt "Exception", .blt "BaseException"]), ("ParseError", [.own "ParseError", .own "PlanError", .blt "ValueError", .blt "Exception", .blt "BaseException"]), ("InvalidCommand", [.own "InvalidCommand", .own "PlanError", .blt "ValueError", .blt "Exception", .blt "BaseException"]), ("InvalidNumber", [.own "InvalidNumber", .blt "IndexError", .blt "LookupError", .blt "Exception", .blt "BaseException"]), ("UnknownName", [.own "UnknownName", .blt "KeyError", .blt "LookupError", .blt "Exception", .blt "BaseException"]), ("TooMany", [.own "TooMany", .blt "OverflowError", .blt "ArithmeticError", .blt "Exception", .blt "BaseException"]), ("Refuted", [.own "Refuted", .blt "ArithmeticError", .blt "Exception", .blt "BaseException"]), ("Driven", [.own "Driven", .blt "RuntimeError", .blt "Exception", .blt "BaseException"]), ("NothingToUndo", [.own "NothingToUndo", .blt "LookupError", .blt "Exception", .blt "BaseException"])]
def tests : List Cl := [.own "PlanError", .own "InvalidArcs", .own "InvalidPlan", .own "InvalidDurations", .own "InvalidTimes", .own "InvalidRun", .own "InvalidPolicy", .own "InvalidTable", .own "InvalidTask", .own "InvalidOperation", .own "InvalidEdit", .own "ParseError", .own "InvalidCommand", .own "InvalidNumber", .own "UnknownName", .own "TooMany", .own "Refuted", .own "Driven", .own "NothingToUndo", .blt "ArithmeticError", .blt "IndexError", .blt "KeyError", .blt "LookupError", .blt "OverflowError", .blt "RuntimeError", .blt "ValueError"]
def flds : List (Str × Str) := [("InvalidNumber", "value"), ("UnknownName", "name"), ("TooMany", "limit"), ("Refuted", "paper"), ("Driven", "paper"), ("NothingToUndo", "many")]
def ex (K : PySem.W.Frag) : Bool := isaB ups tests K && (fldsB flds K && (ownB K "InvalidNumber" "value" tlIndex "IndexError.__new__" && (ownB K "UnknownName" "name" tlKey "LookupError.__new__" && (ownB K "TooMany" "limit" tlOver "OverflowError.__new__" && (ownB K "Refuted" "paper" tlArith "ArithmeticError.__new__" && (ownB K "Driven" "paper" tlRun "RuntimeError.__new__" && (ownB K "NothingToUndo" "many" tlLook "LookupError.__new__")))))))
end Wk

namespace Hd
open PySem PySem.Spec PyProof.Rows L2
def top (i : Nat) : Stmt := PySem.Challenge.pw_heardlate_k00_errors.main.body.getD i (.Pass ⟨0, 0, 0, 0⟩)
def meth (i j : Nat) : Stmt := match top i with
  | .ClassDef _ _ _ b _ _ _ _ _ _ _ => b.getD j (.Pass ⟨0, 0, 0, 0⟩)
  | s => s
def di_InvalidNumber : He.DefD := ⟨("InvalidNumber", some "__init__"), "__init__", "InvalidNumber.__init__", defArgs (meth 14 0), defBody (meth 14 0), defScope (meth 14 0), [], []⟩
def di_UnknownName : He.DefD := ⟨("UnknownName", some "__init__"), "__init__", "UnknownName.__init__", defArgs (meth 15 0), defBody (meth 15 0), defScope (meth 15 0), [], []⟩
def di_TooMany : He.DefD := ⟨("TooMany", some "__init__"), "__init__", "TooMany.__init__", defArgs (meth 16 0), defBody (meth 16 0), defScope (meth 16 0), [], []⟩
def di_Refuted : He.DefD := ⟨("Refuted", some "__init__"), "__init__", "Refuted.__init__", defArgs (meth 17 0), defBody (meth 17 0), defScope (meth 17 0), [], []⟩
def di_Driven : He.DefD := ⟨("Driven", some "__init__"), "__init__", "Driven.__init__", defArgs (meth 18 0), defBody (meth 18 0), defScope (meth 18 0), [], []⟩
def di_NothingToUndo : He.DefD := ⟨("NothingToUndo", some "__init__"), "__init__", "NothingToUndo.__init__", defArgs (meth 19 0), defBody (meth 19 0), defScope (meth 19 0), [], []⟩
def d__law_stream : He.DefD := ⟨("_law_stream", none), "_law_stream", "_law_stream", defArgs (top 21), defBody (top 21), defScope (top 21), [], []⟩
def d__law_draw : He.DefD := ⟨("_law_draw", none), "_law_draw", "_law_draw", defArgs (top 22), defBody (top 22), defScope (top 22), [], []⟩
def d__law_pick : He.DefD := ⟨("_law_pick", none), "_law_pick", "_law_pick", defArgs (top 23), defBody (top 23), defScope (top 23), [], []⟩
def d__law_kinds : He.DefD := ⟨("_law_kinds", none), "_law_kinds", "_law_kinds", defArgs (top 24), defBody (top 24), defScope (top 24), [], []⟩
def d__law_others : He.DefD := ⟨("_law_others", none), "_law_others", "_law_others", defArgs (top 25), defBody (top 25), defScope (top 25), [], []⟩
def d__law_bases : He.DefD := ⟨("_law_bases", none), "_law_bases", "_law_bases", defArgs (top 26), defBody (top 26), defScope (top 26), [], []⟩
def d__law_messages_right : He.DefD := ⟨("_law_messages_right", none), "_law_messages_right", "_law_messages_right", defArgs (top 27), defBody (top 27), defScope (top 27), [], []⟩
def d__law_values_right : He.DefD := ⟨("_law_values_right", none), "_law_values_right", "_law_values_right", defArgs (top 28), defBody (top 28), defScope (top 28), [], []⟩
def d_law : He.DefD := ⟨("law", none), "law", "law", defArgs (top 29), defBody (top 29), defScope (top 29), [], []⟩
def fn : List He.DefD := [d__law_stream, d__law_draw, d__law_pick, d__law_kinds, d__law_others, d__law_bases, d__law_messages_right, d__law_values_right, d_law, di_InvalidNumber, di_UnknownName, di_TooMany, di_Refuted, di_Driven, di_NothingToUndo]
def fa : List He.Fa := [.glo "_law_stream", .glo "_law_draw", .glo "_law_pick", .glo "_law_kinds", .glo "_law_others", .glo "_law_bases", .glo "_law_messages_right", .glo "_law_values_right", .glo "law", .glo "PlanError", .glo "InvalidArcs", .glo "InvalidPlan", .glo "InvalidDurations", .glo "InvalidTimes", .glo "InvalidRun", .glo "InvalidPolicy", .glo "InvalidTable", .glo "InvalidTask", .glo "InvalidOperation", .glo "InvalidEdit", .glo "ParseError", .glo "InvalidCommand", .glo "InvalidNumber", .glo "UnknownName", .glo "TooMany", .glo "Refuted", .glo "Driven", .glo "NothingToUndo", .free "ArithmeticError", .free "IndexError", .free "KeyError", .free "LookupError", .free "OverflowError", .free "RuntimeError", .free "ValueError", .free "abs", .free "enumerate", .free "int", .free "isinstance", .free "len", .free "max", .free "min", .free "range", .free "repr", .exc "PlanError", .exc "InvalidArcs", .exc "InvalidPlan", .exc "InvalidDurations", .exc "InvalidTimes", .exc "InvalidRun", .exc "InvalidPolicy", .exc "InvalidTable", .exc "InvalidTask", .exc "InvalidOperation", .exc "InvalidEdit", .exc "ParseError", .exc "InvalidCommand"]
def loose0 : List PySem.Str := ["Driven", "InvalidArcs", "InvalidCommand", "InvalidDurations", "InvalidEdit", "InvalidNumber", "InvalidOperation", "InvalidPlan", "InvalidPolicy", "InvalidRun", "InvalidTable", "InvalidTask", "InvalidTimes", "NothingToUndo", "ParseError", "PlanError", "Refuted", "TooMany", "UnknownName", "_law_bases", "_law_draw", "_law_kinds", "_law_messages_right", "_law_others", "_law_pick", "_law_stream", "_law_values_right"]
def loose : List PySem.Str := loose0
abbrev R : PySem.W.OpenRow := PySem.W.OpenLaw.row PySem.Challenge.rw_heardlate_k00_errors
abbrev hk : PySem.W.Hook := Z.hookL Wk.ex 5 fa fn
def ob (s : PySem.W.SharedT) : Bool × He.AlD := Z.obsL Wk.ex 5 fa fn (HandSHeadRun.getT s)
theorem ob_eq (s : PySem.W.SharedT) : ob s = hk.obs s.abs := Z.obsL_eq (HandSHeadRun.getT_eq s)
theorem run (w : World) : HandSHeadRun.RunEq R (PySem.W.view R.prog [29]) hk ob 40000 loose w := by
  intro os
  kernel_rfl
end Hd

namespace Wk
open PySem L2 Z
def mb__law_stream : M Fl := (sSeq (sAsg 2 (xOp dAdd (xOp dMul (Z.ret (.imm (.int 17))) (xVar 1)) (Z.ret (.imm (.int 4)))))
    (sSeq (sIf (xTest (xOp dLt (xVar 1) (xCallB dLen (xArgs [(xVar 0)])))) (sAsg 2 (xOp dIx (xVar 0) (xVar 1))) sNext)
    (sSeq (sAsg 3 (xOp dMod (xCallB dInt (xArgs [(xCallB dAbs (xArgs [(xVar 2)]))])) (xOp dPow (xOp dPow (Z.ret (.imm (.int 10))) (Z.ret (.imm (.int 60)))) (Z.ret (.imm (.int 12))))))
    (sSeq (sAsg 4 (xOp dAdd (xOp dAdd (xOp dAdd (xOp dMul (xOp dMod (xCallB dInt (xArgs [(xVar 3)])) (Z.ret (.imm (.int 2147483549)))) (Z.ret (.imm (.int 45991)))) (xOp dMul (Z.ret (.imm (.int 2011))) (xVar 1))) (xOp dMul (Z.ret (.imm (.int 7))) (xCallB dInt (xArgs [(xOp dLt (xVar 2) (Z.ret (.imm (.int 0))))])))) (Z.ret (.imm (.int 23)))))
    (sRet (xLst [(xCallB dMax2 (xArgs [(Z.ret (.imm (.int 0))), (xOp dSub (xVar 3) (xOp dPow (Z.ret (.imm (.int 10))) (Z.ret (.imm (.int 18)))))])), (xOp dMod (xCallB dInt (xArgs [(xVar 4)])) (Z.ret (.imm (.int 2147483423)))), (Z.ret (.imm (.int 0)))]))))))
def m__law_stream : Fn := mkFn 5 mb__law_stream
def mb__law_draw : M Fl := (sSeq (sIf (xTest (xOp dGt (xOp dIx (xVar 0) (Z.ret (.imm (.int 0)))) (Z.ret (.imm (.int 0))))) (sSeq (sAsg 2 (xOp dMod (xCallB dInt (xArgs [(xOp dIx (xVar 0) (Z.ret (.imm (.int 0))))])) (xVar 1)))
    (sSeq (sPut 0 (Z.ret (.imm (.int 0))) (xOp dDiv (xOp dIx (xVar 0) (Z.ret (.imm (.int 0)))) (xVar 1)))
    (sRet (xVar 2)))) sNext)
    (sSeq (sPut 0 (Z.ret (.imm (.int 2))) (xOp dAdd (xOp dIx (xVar 0) (Z.ret (.imm (.int 2)))) (Z.ret (.imm (.int 1)))))
    (sSeq (sAsg 3 (xOp dMod (xCallB dInt (xArgs [(xOp dAdd (xOp dIx (xVar 0) (Z.ret (.imm (.int 1)))) (xOp dMul (Z.ret (.imm (.int 1000099))) (xOp dIx (xVar 0) (Z.ret (.imm (.int 2))))))])) (Z.ret (.imm (.int 2305843009213693951)))))
    (sSeq (sAsg 4 (xOp dAdd (xOp dMul (xOp dMod (xCallB dInt (xArgs [(xOp dMul (xVar 3) (xVar 3))])) (Z.ret (.imm (.int 2305843009213693921)))) (xVar 3)) (xOp dMul (Z.ret (.imm (.int 7933))) (xOp dIx (xVar 0) (Z.ret (.imm (.int 2)))))))
    (sSeq (sAsg 4 (xOp dMod (xCallB dInt (xArgs [(xVar 4)])) (Z.ret (.imm (.int 2305843009213693907)))))
    (sRet (xOp dMod (xCallB dInt (xArgs [(xOp dDiv (xVar 4) (Z.ret (.imm (.int 8192))))])) (xVar 1))))))))
def m__law_draw : Fn := mkFn 5 mb__law_draw
def mb__law_pick : M Fl := (sRet (xOp dIx (xVar 1) (xCall [.M, .B] m__law_draw ([(xVar 0), (xCallB dLen (xArgs [(xVar 1)]))] ++ []))))
def m__law_pick : Fn := mkFn 2 mb__law_pick
def mb__law_kinds : M Fl := (sSeq (sAsg 1 (xLst [(xCallB (dIsU ups tests) (xArgs [(xVar 0), (Z.ret (.imm (.obj "InvalidArcs")))])), (xCallB (dIsU ups tests) (xArgs [(xVar 0), (Z.ret (.imm (.obj "InvalidPlan")))])), (xCallB (dIsU ups tests) (xArgs [(xVar 0), (Z.ret (.imm (.obj "InvalidDurations")))]))]))
    (sSeq (sAsg 1 (xOp dAdd (xVar 1) (xLst [(xCallB (dIsU ups tests) (xArgs [(xVar 0), (Z.ret (.imm (.obj "InvalidTimes")))])), (xCallB (dIsU ups tests) (xArgs [(xVar 0), (Z.ret (.imm (.obj "InvalidRun")))]))])))
    (sSeq (sAsg 1 (xOp dAdd (xVar 1) (xLst [(xCallB (dIsU ups tests) (xArgs [(xVar 0), (Z.ret (.imm (.obj "InvalidPolicy")))])), (xCallB (dIsU ups tests) (xArgs [(xVar 0), (Z.ret (.imm (.obj "InvalidTable")))]))])))
    (sSeq (sAsg 1 (xOp dAdd (xVar 1) (xLst [(xCallB (dIsU ups tests) (xArgs [(xVar 0), (Z.ret (.imm (.obj "InvalidTask")))])), (xCallB (dIsU ups tests) (xArgs [(xVar 0), (Z.ret (.imm (.obj "InvalidOperation")))]))])))
    (sSeq (sAsg 1 (xOp dAdd (xVar 1) (xLst [(xCallB (dIsU ups tests) (xArgs [(xVar 0), (Z.ret (.imm (.obj "InvalidEdit")))])), (xCallB (dIsU ups tests) (xArgs [(xVar 0), (Z.ret (.imm (.obj "ParseError")))]))])))
    (sRet (xOp dAdd (xVar 1) (xLst [(xCallB (dIsU ups tests) (xArgs [(xVar 0), (Z.ret (.imm (.obj "InvalidCommand")))]))]))))))))
def m__law_kinds : Fn := mkFn 2 mb__law_kinds
def mb__law_others : M Fl := (sSeq (sAsg 1 (xLst [(xCallB (dIsU ups tests) (xArgs [(xVar 0), (Z.ret (.imm (.obj "InvalidNumber")))])), (xCallB (dIsU ups tests) (xArgs [(xVar 0), (Z.ret (.imm (.obj "UnknownName")))])), (xCallB (dIsU ups tests) (xArgs [(xVar 0), (Z.ret (.imm (.obj "TooMany")))]))]))
    (sRet (xOp dAdd (xVar 1) (xLst [(xCallB (dIsU ups tests) (xArgs [(xVar 0), (Z.ret (.imm (.obj "Refuted")))])), (xCallB (dIsU ups tests) (xArgs [(xVar 0), (Z.ret (.imm (.obj "Driven")))])), (xCallB (dIsU ups tests) (xArgs [(xVar 0), (Z.ret (.imm (.obj "NothingToUndo")))]))]))))
def m__law_others : Fn := mkFn 2 mb__law_others
def mb__law_bases : M Fl := (sSeq (sAsg 1 (xLst [(xCallB (dIsU ups tests) (xArgs [(xVar 0), (Z.ret (.imm (.ty "ValueError")))])), (xCallB (dIsU ups tests) (xArgs [(xVar 0), (Z.ret (.imm (.ty "IndexError")))])), (xCallB (dIsU ups tests) (xArgs [(xVar 0), (Z.ret (.imm (.ty "KeyError")))]))]))
    (sSeq (sAsg 1 (xOp dAdd (xVar 1) (xLst [(xCallB (dIsU ups tests) (xArgs [(xVar 0), (Z.ret (.imm (.ty "OverflowError")))])), (xCallB (dIsU ups tests) (xArgs [(xVar 0), (Z.ret (.imm (.ty "ArithmeticError")))]))])))
    (sRet (xOp dAdd (xVar 1) (xLst [(xCallB (dIsU ups tests) (xArgs [(xVar 0), (Z.ret (.imm (.ty "RuntimeError")))])), (xCallB (dIsU ups tests) (xArgs [(xVar 0), (Z.ret (.imm (.ty "LookupError")))]))])))))
def m__law_bases : Fn := mkFn 2 mb__law_bases
def c0__law_messages_right : M Val := xLc [5] (iRange1 (xArgs [(Z.ret (.imm (.int 12)))])) (gnm 5) (Z.ret true) (xOp dEq (xVar 2) (xVar 5))
def y0__law_messages_right : M Fl := (sSeq (sIf (bOr (bNot (xTest (xCallB (dIsU ups tests) (xArgs [(xVar 3), (Z.ret (.imm (.obj "PlanError")))])))) (xTest (xOp dNe (xCall [.B] m__law_others ([(xVar 3)] ++ [])) (xRep 6 (xLst [(Z.ret (.imm (.bl false)))]))))) (sRet (Z.ret (.imm (.bl false)))) sNext)
    (sIf (bOr (xTest (xOp dNe (xCall [.B] m__law_kinds ([(xVar 3)] ++ [])) c0__law_messages_right)) (xTest (xOp dNe (xCall [.B] m__law_bases ([(xVar 3)] ++ [])) (xOp dAdd (xLst [(Z.ret (.imm (.bl true)))]) (xRep 6 (xLst [(Z.ret (.imm (.bl false)))])))))) (sRet (Z.ret (.imm (.bl false)))) sNext))
def l0__law_messages_right : M Fl := sFor (iEnumM (xArgs [(xVar 1)])) (gtup 2 (gcons (gnm 2) (gcons (gnm 3) gnil))) y0__law_messages_right
def mb__law_messages_right : M Fl := (sSeq (sAsg 1 (xLst [(xMk0 "InvalidArcs" (xVar 0)), (xMk0 "InvalidPlan" (xVar 0)), (xMk0 "InvalidDurations" (xVar 0)), (xMk0 "InvalidTimes" (xVar 0)), (xMk0 "InvalidRun" (xVar 0))]))
    (sSeq (sAsg 1 (xOp dAdd (xVar 1) (xLst [(xMk0 "InvalidPolicy" (xVar 0)), (xMk0 "InvalidTable" (xVar 0)), (xMk0 "InvalidTask" (xVar 0)), (xMk0 "InvalidOperation" (xVar 0))])))
    (sSeq (sAsg 1 (xOp dAdd (xVar 1) (xLst [(xMk0 "InvalidEdit" (xVar 0)), (xMk0 "ParseError" (xVar 0)), (xMk0 "InvalidCommand" (xVar 0))])))
    (sSeq l0__law_messages_right
    (sSeq (sAsg 4 (xMk0 "PlanError" (xVar 0)))
    (sRet (xAnd (xOp dEq (xCall [.B] m__law_kinds ([(xVar 4)] ++ [])) (xRep 12 (xLst [(Z.ret (.imm (.bl false)))]))) (xOp dEq (xCall [.B] m__law_bases ([(xVar 4)] ++ [])) (xOp dAdd (xLst [(Z.ret (.imm (.bl true)))]) (xRep 6 (xLst [(Z.ret (.imm (.bl false)))])))))))))))
def m__law_messages_right : Fn := mkFn 6 mb__law_messages_right
def c0__law_values_right : M Val := xLc [9] (iRange1 (xArgs [(Z.ret (.imm (.int 6)))])) (gnm 9) (Z.ret true) (xOp dEq (xVar 6) (xVar 9))
def y0__law_values_right : M Fl := (sSeq (sIf (bOr (xTest (xCallB (dIsU ups tests) (xArgs [(xVar 7), (Z.ret (.imm (.obj "PlanError")))]))) (xTest (xOp dNe (xCall [.B] m__law_others ([(xVar 7)] ++ [])) c0__law_values_right))) (sRet (Z.ret (.imm (.bl false)))) sNext)
    (sIf (bOr (xTest (xOp dNe (xCall [.B] m__law_kinds ([(xVar 7)] ++ [])) (xRep 12 (xLst [(Z.ret (.imm (.bl false)))])))) (xTest (xOp dNe (xCall [.B] m__law_bases ([(xVar 7)] ++ [])) (xOp dIx (xVar 5) (xVar 6))))) (sRet (Z.ret (.imm (.bl false)))) sNext))
def l0__law_values_right : M Fl := sFor (iEnumM (xArgs [(xVar 4)])) (gtup 2 (gcons (gnm 6) (gcons (gnm 7) gnil))) y0__law_values_right
def mb__law_values_right : M Fl := (sSeq (sAsg 4 (xLst [(xMk1 "InvalidNumber" "value" (xVar 0)), (xMk1 "UnknownName" "name" (xVar 0)), (xMk1 "TooMany" "limit" (xVar 1)), (xMk1 "Refuted" "paper" (xVar 2)), (xMk1 "Driven" "paper" (xVar 3))]))
    (sSeq (sDrop (xMut "list" 4 fAppend [(xMk1 "NothingToUndo" "many" (xVar 1))]))
    (sSeq (sAsg 5 (xLst [(xLst [(Z.ret (.imm (.bl false))), (Z.ret (.imm (.bl true))), (Z.ret (.imm (.bl false))), (Z.ret (.imm (.bl false))), (Z.ret (.imm (.bl false))), (Z.ret (.imm (.bl false))), (Z.ret (.imm (.bl true)))]), (xLst [(Z.ret (.imm (.bl false))), (Z.ret (.imm (.bl false))), (Z.ret (.imm (.bl true))), (Z.ret (.imm (.bl false))), (Z.ret (.imm (.bl false))), (Z.ret (.imm (.bl false))), (Z.ret (.imm (.bl true)))])]))
    (sSeq (sAsg 5 (xOp dAdd (xVar 5) (xLst [(xLst [(Z.ret (.imm (.bl false))), (Z.ret (.imm (.bl false))), (Z.ret (.imm (.bl false))), (Z.ret (.imm (.bl true))), (Z.ret (.imm (.bl true))), (Z.ret (.imm (.bl false))), (Z.ret (.imm (.bl false)))]), (xLst [(Z.ret (.imm (.bl false))), (Z.ret (.imm (.bl false))), (Z.ret (.imm (.bl false))), (Z.ret (.imm (.bl false))), (Z.ret (.imm (.bl true))), (Z.ret (.imm (.bl false))), (Z.ret (.imm (.bl false)))])])))
    (sSeq (sAsg 5 (xOp dAdd (xVar 5) (xLst [(xLst [(Z.ret (.imm (.bl false))), (Z.ret (.imm (.bl false))), (Z.ret (.imm (.bl false))), (Z.ret (.imm (.bl false))), (Z.ret (.imm (.bl false))), (Z.ret (.imm (.bl true))), (Z.ret (.imm (.bl false)))]), (xOp dAdd (xRep 6 (xLst [(Z.ret (.imm (.bl false)))])) (xLst [(Z.ret (.imm (.bl true)))]))])))
    (sSeq l0__law_values_right
    (sSeq (sAsg 8 (xLst [(xXfl flds "value" (xOp dIx (xVar 4) (Z.ret (.imm (.int 0))))), (xXfl flds "name" (xOp dIx (xVar 4) (Z.ret (.imm (.int 1))))), (xXfl flds "limit" (xOp dIx (xVar 4) (Z.ret (.imm (.int 2))))), (xXfl flds "paper" (xOp dIx (xVar 4) (Z.ret (.imm (.int 3))))), (xXfl flds "paper" (xOp dIx (xVar 4) (Z.ret (.imm (.int 4))))), (xXfl flds "many" (xOp dIx (xVar 4) (Z.ret (.imm (.int 5)))))]))
    (sRet (xOp dEq (xCallB dRepr (xArgs [(xVar 8)])) (xCallB dRepr (xArgs [(xLst [(xVar 0), (xVar 0), (xVar 1), (xVar 2), (xVar 3), (xVar 1)])])))))))))))
def m__law_values_right : Fn := mkFn 10 mb__law_values_right
def c0_law : M Val := xLc [9] (iRange1 (xArgs [(xCall [.M, .B] m__law_draw ([(xVar 2), (Z.ret (.imm (.int 6)))] ++ []))])) (gnm 9) (Z.ret true) (xCall [.M, .B] m__law_pick ([(xVar 2), (xLst [(Z.ret (.imm (.str (Str.ofString "a")))), (Z.ret (.imm (.str (Str.ofString " ")))), (Z.ret (.imm (.str (Str.ofString "word")))), (Z.ret (.imm (.str (Str.ofString "7")))), (Z.ret (.imm (.str (Str.ofString "-"))))])] ++ []))
def y0_law : M Fl := (sSeq (sAsg 2 (xCall [.B, .B] m__law_stream ([(xVar 0), (xVar 1)] ++ [])))
    (sSeq (sAsg 3 (xUn (dJoin (Str.ofString "")) c0_law))
    (sSeq (sAsg 4 (xCall [.M, .B] m__law_pick ([(xVar 2), (xLst [(Z.ret (.imm (.int 0))), (xUn dNeg (Z.ret (.imm (.int 1)))), (xOp dPow (Z.ret (.imm (.int 10))) (Z.ret (.imm (.int 30)))), (Z.ret (.imm (.str (Str.ofString "")))), (Z.ret (.imm (.str (Str.ofString "a")))), (xTup []), (Z.ret (.imm .non)), (Z.ret (.imm (.bl true))), (xTup [(Z.ret (.imm (.int 0))), (Z.ret (.imm (.int 1)))]), (xLst [(Z.ret (.imm (.int 3)))]), (xDisp putsK .dct [(Z.ret (.imm (.str (Str.ofString "a")))), (Z.ret (.imm (.int 1)))])])] ++ [])))
    (sSeq (sPar [5, 6] [(xCall [.M, .B] m__law_pick ([(xVar 2), (xLst [(Z.ret (.imm (.int 1))), (Z.ret (.imm (.int 5))), (Z.ret (.imm (.int 10))), (Z.ret (.imm (.int 99))), (Z.ret (.imm (.int 5000)))])] ++ [])), (xDisp putsT .dtt [(xTup [(Z.ret (.imm (.str (Str.ofString "start")))), (Z.ret (.imm (.str (Str.ofString "start"))))]), (Z.ret (.imm (.int 0)))])])
    (sSeq (sAsg 7 (xTup [(xTup [(xTup [(Z.ret (.imm (.str (Str.ofString "plain")))), (Z.ret (.imm (.str (Str.ofString "a")))), (Z.ret (.imm (.str (Str.ofString "start"))))]), (xUn dNeg (Z.ret (.imm (.int 1)))), (Z.ret (.imm (.str (Str.ofString "given")))), (xTup [])]), (xTup [(xTup [(Z.ret (.imm (.str (Str.ofString "plain")))), (Z.ret (.imm (.str (Str.ofString "start")))), (Z.ret (.imm (.str (Str.ofString "a"))))]), (Z.ret (.imm (.int 0))), (Z.ret (.imm (.str (Str.ofString "given")))), (xTup [])])]))
    (sSeq (sAsg 8 (xCall [.M, .B] m__law_pick ([(xVar 2), (xLst [(xTup [(Z.ret (.imm (.int 0)))]), (xTup [(Z.ret (.imm (.int 1))), (Z.ret (.imm (.int 0)))]), (xTup [(Z.ret (.imm (.int 2))), (Z.ret (.imm (.int 5))), (Z.ret (.imm (.int 7)))]), (xTup [(Z.ret (.imm (.str (Str.ofString "refuted")))), (xVar 7), (xTup [(Z.ret (.imm (.int 0))), (Z.ret (.imm (.int 1)))])]), (xTup [(Z.ret (.imm (.str (Str.ofString "refuted")))), (xVar 7), (xTup [(Z.ret (.imm (.int 1))), (Z.ret (.imm (.int 0)))])])])] ++ [])))
    (sSeq (sIf (bNot (xTest (xCall [.I, .B, .B, .B] m__law_values_right ([(xVar 4), (xVar 5), (xVar 8), (xTup [(Z.ret (.imm (.str (Str.ofString "table")))), (xVar 6), (Z.ret (.own (.dct []))), (xDisp putsK .dct [(Z.ret (.imm (.str (Str.ofString "start")))), (Z.ret (.imm (.int 0)))])])] ++ [])))) (sRet (Z.ret (.imm (.bl false)))) sNext)
    (sIf (bNot (xTest (xCall [.B] m__law_messages_right ([(xVar 3)] ++ [])))) (sRet (Z.ret (.imm (.bl false)))) sNext))))))))
def l0_law : M Fl := sFor (iRange1 (xArgs [(xCallB dMax2 (xArgs [(Z.ret (.imm (.int 1))), (xCallB dMin2 (xArgs [(Z.ret (.imm (.int 4))), (xCallB dLen (xArgs [(xVar 0)]))]))]))])) (gnm 1) y0_law
def mb_law : M Fl := (sSeq l0_law
    (sRet (Z.ret (.imm (.bl true)))))
def m_law : Fn := mkFn 10 mb_law
end Wk

namespace Wk
open PySem PySem.Spec L2 Z Hd
open PyProof.Rows (envOfC)
/-- the facts the program's top leaves -/
def Gm (K : PySem.W.Frag) (mg : Str → Option Value) : Prop := ∃ h : Heap, K.In h ∧ h.Ns mainGlobals mg ∧ He.SaysD fa fn K ∧ smB K = true ∧ ex K = true
section
variable {K : PySem.W.Frag} {mg : Str → Option Value}
theorem q__law_stream (g : Gm K mg) : mg "_law_stream" = some (.ref (He.ga K "_law_stream")) := let ⟨_, X, N, c, _⟩ := g; He.glo_ok X N (c.fact 0 (f := .glo "_law_stream") rfl)
theorem q__law_draw (g : Gm K mg) : mg "_law_draw" = some (.ref (He.ga K "_law_draw")) := let ⟨_, X, N, c, _⟩ := g; He.glo_ok X N (c.fact 1 (f := .glo "_law_draw") rfl)
theorem q__law_pick (g : Gm K mg) : mg "_law_pick" = some (.ref (He.ga K "_law_pick")) := let ⟨_, X, N, c, _⟩ := g; He.glo_ok X N (c.fact 2 (f := .glo "_law_pick") rfl)
theorem q__law_kinds (g : Gm K mg) : mg "_law_kinds" = some (.ref (He.ga K "_law_kinds")) := let ⟨_, X, N, c, _⟩ := g; He.glo_ok X N (c.fact 3 (f := .glo "_law_kinds") rfl)
theorem q__law_others (g : Gm K mg) : mg "_law_others" = some (.ref (He.ga K "_law_others")) := let ⟨_, X, N, c, _⟩ := g; He.glo_ok X N (c.fact 4 (f := .glo "_law_others") rfl)
theorem q__law_bases (g : Gm K mg) : mg "_law_bases" = some (.ref (He.ga K "_law_bases")) := let ⟨_, X, N, c, _⟩ := g; He.glo_ok X N (c.fact 5 (f := .glo "_law_bases") rfl)
theorem q__law_messages_right (g : Gm K mg) : mg "_law_messages_right" = some (.ref (He.ga K "_law_messages_right")) := let ⟨_, X, N, c, _⟩ := g; He.glo_ok X N (c.fact 6 (f := .glo "_law_messages_right") rfl)
theorem q__law_values_right (g : Gm K mg) : mg "_law_values_right" = some (.ref (He.ga K "_law_values_right")) := let ⟨_, X, N, c, _⟩ := g; He.glo_ok X N (c.fact 7 (f := .glo "_law_values_right") rfl)
theorem q_law (g : Gm K mg) : mg "law" = some (.ref (He.ga K "law")) := let ⟨_, X, N, c, _⟩ := g; He.glo_ok X N (c.fact 8 (f := .glo "law") rfl)
theorem q_PlanError (g : Gm K mg) : mg "PlanError" = some (.ref (He.ga K "PlanError")) := let ⟨_, X, N, c, _⟩ := g; He.glo_ok X N (c.fact 9 (f := .glo "PlanError") rfl)
theorem q_InvalidArcs (g : Gm K mg) : mg "InvalidArcs" = some (.ref (He.ga K "InvalidArcs")) := let ⟨_, X, N, c, _⟩ := g; He.glo_ok X N (c.fact 10 (f := .glo "InvalidArcs") rfl)
theorem q_InvalidPlan (g : Gm K mg) : mg "InvalidPlan" = some (.ref (He.ga K "InvalidPlan")) := let ⟨_, X, N, c, _⟩ := g; He.glo_ok X N (c.fact 11 (f := .glo "InvalidPlan") rfl)
theorem q_InvalidDurations (g : Gm K mg) : mg "InvalidDurations" = some (.ref (He.ga K "InvalidDurations")) := let ⟨_, X, N, c, _⟩ := g; He.glo_ok X N (c.fact 12 (f := .glo "InvalidDurations") rfl)
theorem q_InvalidTimes (g : Gm K mg) : mg "InvalidTimes" = some (.ref (He.ga K "InvalidTimes")) := let ⟨_, X, N, c, _⟩ := g; He.glo_ok X N (c.fact 13 (f := .glo "InvalidTimes") rfl)
theorem q_InvalidRun (g : Gm K mg) : mg "InvalidRun" = some (.ref (He.ga K "InvalidRun")) := let ⟨_, X, N, c, _⟩ := g; He.glo_ok X N (c.fact 14 (f := .glo "InvalidRun") rfl)
theorem q_InvalidPolicy (g : Gm K mg) : mg "InvalidPolicy" = some (.ref (He.ga K "InvalidPolicy")) := let ⟨_, X, N, c, _⟩ := g; He.glo_ok X N (c.fact 15 (f := .glo "InvalidPolicy") rfl)
theorem q_InvalidTable (g : Gm K mg) : mg "InvalidTable" = some (.ref (He.ga K "InvalidTable")) := let ⟨_, X, N, c, _⟩ := g; He.glo_ok X N (c.fact 16 (f := .glo "InvalidTable") rfl)
theorem q_InvalidTask (g : Gm K mg) : mg "InvalidTask" = some (.ref (He.ga K "InvalidTask")) := let ⟨_, X, N, c, _⟩ := g; He.glo_ok X N (c.fact 17 (f := .glo "InvalidTask") rfl)
theorem q_InvalidOperation (g : Gm K mg) : mg "InvalidOperation" = some (.ref (He.ga K "InvalidOperation")) := let ⟨_, X, N, c, _⟩ := g; He.glo_ok X N (c.fact 18 (f := .glo "InvalidOperation") rfl)
theorem q_InvalidEdit (g : Gm K mg) : mg "InvalidEdit" = some (.ref (He.ga K "InvalidEdit")) := let ⟨_, X, N, c, _⟩ := g; He.glo_ok X N (c.fact 19 (f := .glo "InvalidEdit") rfl)
theorem q_ParseError (g : Gm K mg) : mg "ParseError" = some (.ref (He.ga K "ParseError")) := let ⟨_, X, N, c, _⟩ := g; He.glo_ok X N (c.fact 20 (f := .glo "ParseError") rfl)
theorem q_InvalidCommand (g : Gm K mg) : mg "InvalidCommand" = some (.ref (He.ga K "InvalidCommand")) := let ⟨_, X, N, c, _⟩ := g; He.glo_ok X N (c.fact 21 (f := .glo "InvalidCommand") rfl)
theorem q_InvalidNumber (g : Gm K mg) : mg "InvalidNumber" = some (.ref (He.ga K "InvalidNumber")) := let ⟨_, X, N, c, _⟩ := g; He.glo_ok X N (c.fact 22 (f := .glo "InvalidNumber") rfl)
theorem q_UnknownName (g : Gm K mg) : mg "UnknownName" = some (.ref (He.ga K "UnknownName")) := let ⟨_, X, N, c, _⟩ := g; He.glo_ok X N (c.fact 23 (f := .glo "UnknownName") rfl)
theorem q_TooMany (g : Gm K mg) : mg "TooMany" = some (.ref (He.ga K "TooMany")) := let ⟨_, X, N, c, _⟩ := g; He.glo_ok X N (c.fact 24 (f := .glo "TooMany") rfl)
theorem q_Refuted (g : Gm K mg) : mg "Refuted" = some (.ref (He.ga K "Refuted")) := let ⟨_, X, N, c, _⟩ := g; He.glo_ok X N (c.fact 25 (f := .glo "Refuted") rfl)
theorem q_Driven (g : Gm K mg) : mg "Driven" = some (.ref (He.ga K "Driven")) := let ⟨_, X, N, c, _⟩ := g; He.glo_ok X N (c.fact 26 (f := .glo "Driven") rfl)
theorem q_NothingToUndo (g : Gm K mg) : mg "NothingToUndo" = some (.ref (He.ga K "NothingToUndo")) := let ⟨_, X, N, c, _⟩ := g; He.glo_ok X N (c.fact 27 (f := .glo "NothingToUndo") rfl)
theorem q_ArithmeticError (g : Gm K mg) : mg "ArithmeticError" = none := let ⟨_, X, N, c, _⟩ := g; He.free_ok X N (c.fact 28 (f := .free "ArithmeticError") rfl)
theorem q_IndexError (g : Gm K mg) : mg "IndexError" = none := let ⟨_, X, N, c, _⟩ := g; He.free_ok X N (c.fact 29 (f := .free "IndexError") rfl)
theorem q_KeyError (g : Gm K mg) : mg "KeyError" = none := let ⟨_, X, N, c, _⟩ := g; He.free_ok X N (c.fact 30 (f := .free "KeyError") rfl)
theorem q_LookupError (g : Gm K mg) : mg "LookupError" = none := let ⟨_, X, N, c, _⟩ := g; He.free_ok X N (c.fact 31 (f := .free "LookupError") rfl)
theorem q_OverflowError (g : Gm K mg) : mg "OverflowError" = none := let ⟨_, X, N, c, _⟩ := g; He.free_ok X N (c.fact 32 (f := .free "OverflowError") rfl)
theorem q_RuntimeError (g : Gm K mg) : mg "RuntimeError" = none := let ⟨_, X, N, c, _⟩ := g; He.free_ok X N (c.fact 33 (f := .free "RuntimeError") rfl)
theorem q_ValueError (g : Gm K mg) : mg "ValueError" = none := let ⟨_, X, N, c, _⟩ := g; He.free_ok X N (c.fact 34 (f := .free "ValueError") rfl)
theorem q_abs (g : Gm K mg) : mg "abs" = none := let ⟨_, X, N, c, _⟩ := g; He.free_ok X N (c.fact 35 (f := .free "abs") rfl)
theorem q_enumerate (g : Gm K mg) : mg "enumerate" = none := let ⟨_, X, N, c, _⟩ := g; He.free_ok X N (c.fact 36 (f := .free "enumerate") rfl)
theorem q_int (g : Gm K mg) : mg "int" = none := let ⟨_, X, N, c, _⟩ := g; He.free_ok X N (c.fact 37 (f := .free "int") rfl)
theorem q_isinstance (g : Gm K mg) : mg "isinstance" = none := let ⟨_, X, N, c, _⟩ := g; He.free_ok X N (c.fact 38 (f := .free "isinstance") rfl)
theorem q_len (g : Gm K mg) : mg "len" = none := let ⟨_, X, N, c, _⟩ := g; He.free_ok X N (c.fact 39 (f := .free "len") rfl)
theorem q_max (g : Gm K mg) : mg "max" = none := let ⟨_, X, N, c, _⟩ := g; He.free_ok X N (c.fact 40 (f := .free "max") rfl)
theorem q_min (g : Gm K mg) : mg "min" = none := let ⟨_, X, N, c, _⟩ := g; He.free_ok X N (c.fact 41 (f := .free "min") rfl)
theorem q_range (g : Gm K mg) : mg "range" = none := let ⟨_, X, N, c, _⟩ := g; He.free_ok X N (c.fact 42 (f := .free "range") rfl)
theorem q_repr (g : Gm K mg) : mg "repr" = none := let ⟨_, X, N, c, _⟩ := g; He.free_ok X N (c.fact 43 (f := .free "repr") rfl)
theorem e_PlanError (g : Gm K mg) : (He.Fa.exc "PlanError").ok K = true := let ⟨_, X, N, c, _⟩ := g; c.fact 44 (f := .exc "PlanError") rfl
theorem e_InvalidArcs (g : Gm K mg) : (He.Fa.exc "InvalidArcs").ok K = true := let ⟨_, X, N, c, _⟩ := g; c.fact 45 (f := .exc "InvalidArcs") rfl
theorem e_InvalidPlan (g : Gm K mg) : (He.Fa.exc "InvalidPlan").ok K = true := let ⟨_, X, N, c, _⟩ := g; c.fact 46 (f := .exc "InvalidPlan") rfl
theorem e_InvalidDurations (g : Gm K mg) : (He.Fa.exc "InvalidDurations").ok K = true := let ⟨_, X, N, c, _⟩ := g; c.fact 47 (f := .exc "InvalidDurations") rfl
theorem e_InvalidTimes (g : Gm K mg) : (He.Fa.exc "InvalidTimes").ok K = true := let ⟨_, X, N, c, _⟩ := g; c.fact 48 (f := .exc "InvalidTimes") rfl
theorem e_InvalidRun (g : Gm K mg) : (He.Fa.exc "InvalidRun").ok K = true := let ⟨_, X, N, c, _⟩ := g; c.fact 49 (f := .exc "InvalidRun") rfl
theorem e_InvalidPolicy (g : Gm K mg) : (He.Fa.exc "InvalidPolicy").ok K = true := let ⟨_, X, N, c, _⟩ := g; c.fact 50 (f := .exc "InvalidPolicy") rfl
theorem e_InvalidTable (g : Gm K mg) : (He.Fa.exc "InvalidTable").ok K = true := let ⟨_, X, N, c, _⟩ := g; c.fact 51 (f := .exc "InvalidTable") rfl
theorem e_InvalidTask (g : Gm K mg) : (He.Fa.exc "InvalidTask").ok K = true := let ⟨_, X, N, c, _⟩ := g; c.fact 52 (f := .exc "InvalidTask") rfl
theorem e_InvalidOperation (g : Gm K mg) : (He.Fa.exc "InvalidOperation").ok K = true := let ⟨_, X, N, c, _⟩ := g; c.fact 53 (f := .exc "InvalidOperation") rfl
theorem e_InvalidEdit (g : Gm K mg) : (He.Fa.exc "InvalidEdit").ok K = true := let ⟨_, X, N, c, _⟩ := g; c.fact 54 (f := .exc "InvalidEdit") rfl
theorem e_ParseError (g : Gm K mg) : (He.Fa.exc "ParseError").ok K = true := let ⟨_, X, N, c, _⟩ := g; c.fact 55 (f := .exc "ParseError") rfl
theorem e_InvalidCommand (g : Gm K mg) : (He.Fa.exc "InvalidCommand").ok K = true := let ⟨_, X, N, c, _⟩ := g; c.fact 56 (f := .exc "InvalidCommand") rfl
theorem sm (g : Gm K mg) : smB K = true := let ⟨_, _, _, _, s, _⟩ := g; s
theorem ex_ (g : Gm K mg) : ex K = true := let ⟨_, _, _, _, _, e⟩ := g; e
theorem isa_ok (g : Gm K mg) : isaB ups tests K = true := (He.ba (ex_ g)).1
theorem fl_ok (g : Gm K mg) : fldsB flds K = true := (He.ba (He.ba (ex_ g)).2).1
def o_InvalidNumber (g : Gm K mg) := ownB_ok row_Index (He.ba (He.ba (He.ba (ex_ g)).2).2).1
theorem kc_InvalidNumber (g : Gm K mg) : PySem.W.keepIn K (.ref (He.ga K "InvalidNumber")) = true := (o_InvalidNumber g).kC
theorem di_InvalidNumber_ (g : Gm K mg) : ∃ fd, FunD K "__init__" "InvalidNumber.__init__" di_InvalidNumber.params di_InvalidNumber.body di_InvalidNumber.scope [] [] (He.ma K (He.ga K "InvalidNumber") "__init__") fd := let ⟨_, X, N, c, _⟩ := g; c.def_ 9 (d := di_InvalidNumber) rfl
theorem Si_InvalidNumber : FnScope ["self", "value"] ["self", "value"] di_InvalidNumber.scope := ⟨rfl, rfl, rfl, by decide +kernel, rfl, by decide +kernel, by decide +kernel⟩
theorem x_InvalidNumber {X : L2.Cx} {mg : Str → Option Value} (g : Gm X.K mg) (hr : Room 2 X.A) : CallR X (.ref (He.ga X.K "InvalidNumber")) (rMk1 (He.ga X.K "InvalidNumber") "value") := by
  obtain ⟨fd, F⟩ := di_InvalidNumber_ g
  have T := o_InvalidNumber g
  exact call_mk1 (CX := CX0) T (fn_keep T F Si_InvalidNumber rfl (.inl rfl) (.inl rfl) (by decide) (by decide)) rfl hr (F.bindsN fun _ _ _ _ _ _ us hl => match us, hl with | [_, _], _ => rfl) (fun _ _ _ _ _ _ _ h => h.elim)
def o_UnknownName (g : Gm K mg) := ownB_ok row_Key (He.ba (He.ba (He.ba (He.ba (ex_ g)).2).2).2).1
theorem kc_UnknownName (g : Gm K mg) : PySem.W.keepIn K (.ref (He.ga K "UnknownName")) = true := (o_UnknownName g).kC
theorem di_UnknownName_ (g : Gm K mg) : ∃ fd, FunD K "__init__" "UnknownName.__init__" di_UnknownName.params di_UnknownName.body di_UnknownName.scope [] [] (He.ma K (He.ga K "UnknownName") "__init__") fd := let ⟨_, X, N, c, _⟩ := g; c.def_ 10 (d := di_UnknownName) rfl
theorem Si_UnknownName : FnScope ["self", "name"] ["self", "name"] di_UnknownName.scope := ⟨rfl, rfl, rfl, by decide +kernel, rfl, by decide +kernel, by decide +kernel⟩
theorem x_UnknownName {X : L2.Cx} {mg : Str → Option Value} (g : Gm X.K mg) (hr : Room 2 X.A) : CallR X (.ref (He.ga X.K "UnknownName")) (rMk1 (He.ga X.K "UnknownName") "name") := by
  obtain ⟨fd, F⟩ := di_UnknownName_ g
  have T := o_UnknownName g
  exact call_mk1 (CX := CX0) T (fn_keep T F Si_UnknownName rfl (.inl rfl) (.inl rfl) (by decide) (by decide)) rfl hr (F.bindsN fun _ _ _ _ _ _ us hl => match us, hl with | [_, _], _ => rfl) (fun _ _ _ _ _ _ _ h => h.elim)
def o_TooMany (g : Gm K mg) := ownB_ok row_Over (He.ba (He.ba (He.ba (He.ba (He.ba (ex_ g)).2).2).2).2).1
theorem kc_TooMany (g : Gm K mg) : PySem.W.keepIn K (.ref (He.ga K "TooMany")) = true := (o_TooMany g).kC
theorem di_TooMany_ (g : Gm K mg) : ∃ fd, FunD K "__init__" "TooMany.__init__" di_TooMany.params di_TooMany.body di_TooMany.scope [] [] (He.ma K (He.ga K "TooMany") "__init__") fd := let ⟨_, X, N, c, _⟩ := g; c.def_ 11 (d := di_TooMany) rfl
theorem Si_TooMany : FnScope ["self", "limit"] ["self", "limit"] di_TooMany.scope := ⟨rfl, rfl, rfl, by decide +kernel, rfl, by decide +kernel, by decide +kernel⟩
theorem x_TooMany {X : L2.Cx} {mg : Str → Option Value} (g : Gm X.K mg) (hr : Room 2 X.A) : CallR X (.ref (He.ga X.K "TooMany")) (rMk1 (He.ga X.K "TooMany") "limit") := by
  obtain ⟨fd, F⟩ := di_TooMany_ g
  have T := o_TooMany g
  exact call_mk1 (CX := CX0) T (fn_keep T F Si_TooMany rfl (.inl rfl) (.inl rfl) (by decide) (by decide)) rfl hr (F.bindsN fun _ _ _ _ _ _ us hl => match us, hl with | [_, _], _ => rfl) (fun _ _ _ _ _ _ _ h => h.elim)
def o_Refuted (g : Gm K mg) := ownB_ok row_Arith (He.ba (He.ba (He.ba (He.ba (He.ba (He.ba (ex_ g)).2).2).2).2).2).1
theorem kc_Refuted (g : Gm K mg) : PySem.W.keepIn K (.ref (He.ga K "Refuted")) = true := (o_Refuted g).kC
theorem di_Refuted_ (g : Gm K mg) : ∃ fd, FunD K "__init__" "Refuted.__init__" di_Refuted.params di_Refuted.body di_Refuted.scope [] [] (He.ma K (He.ga K "Refuted") "__init__") fd := let ⟨_, X, N, c, _⟩ := g; c.def_ 12 (d := di_Refuted) rfl
theorem Si_Refuted : FnScope ["self", "paper"] ["self", "paper"] di_Refuted.scope := ⟨rfl, rfl, rfl, by decide +kernel, rfl, by decide +kernel, by decide +kernel⟩
theorem x_Refuted {X : L2.Cx} {mg : Str → Option Value} (g : Gm X.K mg) (hr : Room 2 X.A) : CallR X (.ref (He.ga X.K "Refuted")) (rMk1 (He.ga X.K "Refuted") "paper") := by
  obtain ⟨fd, F⟩ := di_Refuted_ g
  have T := o_Refuted g
  exact call_mk1 (CX := CX0) T (fn_keep T F Si_Refuted rfl (.inl rfl) (.inl rfl) (by decide) (by decide)) rfl hr (F.bindsN fun _ _ _ _ _ _ us hl => match us, hl with | [_, _], _ => rfl) (fun _ _ _ _ _ _ _ h => h.elim)
def o_Driven (g : Gm K mg) := ownB_ok row_Run (He.ba (He.ba (He.ba (He.ba (He.ba (He.ba (He.ba (ex_ g)).2).2).2).2).2).2).1
theorem kc_Driven (g : Gm K mg) : PySem.W.keepIn K (.ref (He.ga K "Driven")) = true := (o_Driven g).kC
theorem di_Driven_ (g : Gm K mg) : ∃ fd, FunD K "__init__" "Driven.__init__" di_Driven.params di_Driven.body di_Driven.scope [] [] (He.ma K (He.ga K "Driven") "__init__") fd := let ⟨_, X, N, c, _⟩ := g; c.def_ 13 (d := di_Driven) rfl
theorem Si_Driven : FnScope ["self", "paper"] ["self", "paper"] di_Driven.scope := ⟨rfl, rfl, rfl, by decide +kernel, rfl, by decide +kernel, by decide +kernel⟩
theorem x_Driven {X : L2.Cx} {mg : Str → Option Value} (g : Gm X.K mg) (hr : Room 2 X.A) : CallR X (.ref (He.ga X.K "Driven")) (rMk1 (He.ga X.K "Driven") "paper") := by
  obtain ⟨fd, F⟩ := di_Driven_ g
  have T := o_Driven g
  exact call_mk1 (CX := CX0) T (fn_keep T F Si_Driven rfl (.inl rfl) (.inl rfl) (by decide) (by decide)) rfl hr (F.bindsN fun _ _ _ _ _ _ us hl => match us, hl with | [_, _], _ => rfl) (fun _ _ _ _ _ _ _ h => h.elim)
def o_NothingToUndo (g : Gm K mg) := ownB_ok row_Look (He.ba (He.ba (He.ba (He.ba (He.ba (He.ba (He.ba (ex_ g)).2).2).2).2).2).2).2
theorem kc_NothingToUndo (g : Gm K mg) : PySem.W.keepIn K (.ref (He.ga K "NothingToUndo")) = true := (o_NothingToUndo g).kC
theorem di_NothingToUndo_ (g : Gm K mg) : ∃ fd, FunD K "__init__" "NothingToUndo.__init__" di_NothingToUndo.params di_NothingToUndo.body di_NothingToUndo.scope [] [] (He.ma K (He.ga K "NothingToUndo") "__init__") fd := let ⟨_, X, N, c, _⟩ := g; c.def_ 14 (d := di_NothingToUndo) rfl
theorem Si_NothingToUndo : FnScope ["self", "many"] ["self", "many"] di_NothingToUndo.scope := ⟨rfl, rfl, rfl, by decide +kernel, rfl, by decide +kernel, by decide +kernel⟩
theorem x_NothingToUndo {X : L2.Cx} {mg : Str → Option Value} (g : Gm X.K mg) (hr : Room 2 X.A) : CallR X (.ref (He.ga X.K "NothingToUndo")) (rMk1 (He.ga X.K "NothingToUndo") "many") := by
  obtain ⟨fd, F⟩ := di_NothingToUndo_ g
  have T := o_NothingToUndo g
  exact call_mk1 (CX := CX0) T (fn_keep T F Si_NothingToUndo rfl (.inl rfl) (.inl rfl) (by decide) (by decide)) rfl hr (F.bindsN fun _ _ _ _ _ _ us hl => match us, hl with | [_, _], _ => rfl) (fun _ _ _ _ _ _ _ h => h.elim)
theorem d__law_stream_ (g : Gm K mg) : ∃ fd, FunD K "_law_stream" "_law_stream" d__law_stream.params d__law_stream.body d__law_stream.scope [] [] (He.ga K "_law_stream") fd := let ⟨_, X, N, c, _⟩ := g; c.def_ 0 (d := d__law_stream) rfl
theorem k__law_stream (g : Gm K mg) : PySem.W.keepIn K (.ref (He.ga K "_law_stream")) = true := let ⟨fd, F⟩ := d__law_stream_ g; F.kp
theorem d__law_draw_ (g : Gm K mg) : ∃ fd, FunD K "_law_draw" "_law_draw" d__law_draw.params d__law_draw.body d__law_draw.scope [] [] (He.ga K "_law_draw") fd := let ⟨_, X, N, c, _⟩ := g; c.def_ 1 (d := d__law_draw) rfl
theorem k__law_draw (g : Gm K mg) : PySem.W.keepIn K (.ref (He.ga K "_law_draw")) = true := let ⟨fd, F⟩ := d__law_draw_ g; F.kp
theorem d__law_pick_ (g : Gm K mg) : ∃ fd, FunD K "_law_pick" "_law_pick" d__law_pick.params d__law_pick.body d__law_pick.scope [] [] (He.ga K "_law_pick") fd := let ⟨_, X, N, c, _⟩ := g; c.def_ 2 (d := d__law_pick) rfl
theorem k__law_pick (g : Gm K mg) : PySem.W.keepIn K (.ref (He.ga K "_law_pick")) = true := let ⟨fd, F⟩ := d__law_pick_ g; F.kp
theorem d__law_kinds_ (g : Gm K mg) : ∃ fd, FunD K "_law_kinds" "_law_kinds" d__law_kinds.params d__law_kinds.body d__law_kinds.scope [] [] (He.ga K "_law_kinds") fd := let ⟨_, X, N, c, _⟩ := g; c.def_ 3 (d := d__law_kinds) rfl
theorem k__law_kinds (g : Gm K mg) : PySem.W.keepIn K (.ref (He.ga K "_law_kinds")) = true := let ⟨fd, F⟩ := d__law_kinds_ g; F.kp
theorem d__law_others_ (g : Gm K mg) : ∃ fd, FunD K "_law_others" "_law_others" d__law_others.params d__law_others.body d__law_others.scope [] [] (He.ga K "_law_others") fd := let ⟨_, X, N, c, _⟩ := g; c.def_ 4 (d := d__law_others) rfl
theorem k__law_others (g : Gm K mg) : PySem.W.keepIn K (.ref (He.ga K "_law_others")) = true := let ⟨fd, F⟩ := d__law_others_ g; F.kp
theorem d__law_bases_ (g : Gm K mg) : ∃ fd, FunD K "_law_bases" "_law_bases" d__law_bases.params d__law_bases.body d__law_bases.scope [] [] (He.ga K "_law_bases") fd := let ⟨_, X, N, c, _⟩ := g; c.def_ 5 (d := d__law_bases) rfl
theorem k__law_bases (g : Gm K mg) : PySem.W.keepIn K (.ref (He.ga K "_law_bases")) = true := let ⟨fd, F⟩ := d__law_bases_ g; F.kp
theorem d__law_messages_right_ (g : Gm K mg) : ∃ fd, FunD K "_law_messages_right" "_law_messages_right" d__law_messages_right.params d__law_messages_right.body d__law_messages_right.scope [] [] (He.ga K "_law_messages_right") fd := let ⟨_, X, N, c, _⟩ := g; c.def_ 6 (d := d__law_messages_right) rfl
theorem k__law_messages_right (g : Gm K mg) : PySem.W.keepIn K (.ref (He.ga K "_law_messages_right")) = true := let ⟨fd, F⟩ := d__law_messages_right_ g; F.kp
theorem d__law_values_right_ (g : Gm K mg) : ∃ fd, FunD K "_law_values_right" "_law_values_right" d__law_values_right.params d__law_values_right.body d__law_values_right.scope [] [] (He.ga K "_law_values_right") fd := let ⟨_, X, N, c, _⟩ := g; c.def_ 7 (d := d__law_values_right) rfl
theorem k__law_values_right (g : Gm K mg) : PySem.W.keepIn K (.ref (He.ga K "_law_values_right")) = true := let ⟨fd, F⟩ := d__law_values_right_ g; F.kp
theorem d_law_ (g : Gm K mg) : ∃ fd, FunD K "law" "law" d_law.params d_law.body d_law.scope [] [] (He.ga K "law") fd := let ⟨_, X, N, c, _⟩ := g; c.def_ 8 (d := d_law) rfl
theorem k_law (g : Gm K mg) : PySem.W.keepIn K (.ref (He.ga K "law")) = true := let ⟨fd, F⟩ := d_law_ g; F.kp
end
/-! ### _law_stream -/
def N__law_stream : List Str := ["script", "at", "cell", "great", "mixed"]
theorem S__law_stream : FnScope N__law_stream ["script", "at"] d__law_stream.scope := ⟨rfl, rfl, rfl, by decide +kernel, rfl, by decide +kernel, by decide +kernel⟩
section
variable {P : Program} {w : World} {K : PySem.W.Frag} {mg : Str → Option Value} {base : Heap}
theorem b__law_stream (g : Gm K mg) (cdv : Value) (A : Around) (fr : List PySem.Env) (s : Shared) (H : Hp) (E : XK) (gd0 : A.guards = some []) (hr : Room 0 (A.deeper (envOfC "_law_stream" d__law_stream.scope s.heap.objs.size (He.ga K "_law_stream") cdv))) :
    ∃ t, PSs (cxOf CX0 P w K mg base N__law_stream "_law_stream" d__law_stream.scope (He.ga K "_law_stream") cdv A fr s H E) d__law_stream.body t ∧ EvS K (fun _ => E) t mb__law_stream := by
  have gd : (A.deeper (envOfC "_law_stream" d__law_stream.scope s.heap.objs.size (He.ga K "_law_stream") cdv)).guards = some [] := gd0
  have hu66 : (A.deeper (envOfC "_law_stream" d__law_stream.scope s.heap.objs.size (He.ga K "_law_stream") cdv)).units + 66 < cLine := by have := hr.un; omega
  have hu : (A.deeper (envOfC "_law_stream" d__law_stream.scope s.heap.objs.size (He.ga K "_law_stream") cdv)).units + 64 < cLine := by omega
  have hu1 : (A.deeper (envOfC "_law_stream" d__law_stream.scope s.heap.objs.size (He.ga K "_law_stream") cdv)).units + 1 < cLine := by omega
  have nd := S__law_stream.nd
  exact ⟨_, PSs.nox (pss_cons (ps_set (i := 2) nd rfl (by first | exact .inl rfl | exact .inr rfl) (pe_op op_addU (pe_op op_mulU pe_int (pv_ (i := 1) rfl)) pe_int))
    (pss_cons (ps_if (pt_cmpR op_lt (pv_ (i := 1) rfl) (pe_callB call_lenU (by rfl) (q_len g) (by decide +kernel) (pa_cons (pv_ (i := 0) rfl) pa_nil)) (nomark _)) (pss_one (ps_set (i := 2) nd rfl (by first | exact .inl rfl | exact .inr rfl) (pe_ix (ix_U hu1) (pv_ (i := 0) rfl) (pv_ (i := 1) rfl) fun _ _ => rfl))) pss_nil)
    (pss_cons (ps_set (i := 3) nd rfl (by first | exact .inl rfl | exact .inr rfl) (pe_op op_mod (pe_callTy call_intZ (by rfl) (q_int g) (by decide +kernel) (pa_cons (pe_callB call_absZ (by rfl) (q_abs g) (by decide +kernel) (pa_cons (pv_ (i := 2) rfl) pa_nil)) pa_nil)) (pe_op op_powX (pe_op op_powX pe_int pe_int) pe_int)))
    (pss_cons (ps_set (i := 4) nd rfl (by first | exact .inl rfl | exact .inr rfl) (pe_op op_addU (pe_op op_addU (pe_op op_addU (pe_op op_mulU (pe_op op_mod (pe_callTy call_intZ (by rfl) (q_int g) (by decide +kernel) (pa_cons (pv_ (i := 3) rfl) pa_nil)) pe_int) pe_int) (pe_op op_mulU pe_int (pv_ (i := 1) rfl))) (pe_op op_mulU pe_int (pe_callTy call_intZ (by rfl) (q_int g) (by decide +kernel) (pa_cons (pe_cmpR op_lt (pv_ (i := 2) rfl) pe_int (nomark _)) pa_nil)))) pe_int))
    (pss_one (ps_ret (pe_lst (pa_cons (pe_callB (call_max2Z rfl) (by rfl) (q_max g) (by decide +kernel) (pa_cons pe_int (pa_cons (pe_op op_sub (pv_ (i := 3) rfl) (pe_op op_powX pe_int pe_int)) pa_nil))) (pa_cons (pe_op op_mod (pe_callTy call_intZ (by rfl) (q_int g) (by decide +kernel) (pa_cons (pv_ (i := 4) rfl) pa_nil)) pe_int) (pa_cons pe_int pa_nil)))))))))), (evs_seq (evs_asg (i := 2) (evm_op opm_add (evm_op opm_mul evm_int evm_var) evm_int))
    (evs_seq (evs_if (evb_T (evm_op opm_cmp evm_var (evm_callB callm_len (eva_cons evm_var eva_nil)))) (evs_asg (i := 2) (evm_op opm_ix evm_var evm_var)) evs_next)
    (evs_seq (evs_asg (i := 3) (evm_op opm_mod (evm_callB callm_int (eva_cons (evm_callB callm_abs (eva_cons evm_var eva_nil)) eva_nil)) (evm_op opm_pow (evm_op opm_pow evm_int evm_int) evm_int)))
    (evs_seq (evs_asg (i := 4) (evm_op opm_add (evm_op opm_add (evm_op opm_add (evm_op opm_mul (evm_op opm_mod (evm_callB callm_int (eva_cons evm_var eva_nil)) evm_int) evm_int) (evm_op opm_mul evm_int evm_var)) (evm_op opm_mul evm_int (evm_callB callm_int (eva_cons (evm_op opm_cmp evm_var evm_int) eva_nil)))) evm_int))
    (evs_ret (evm_lst (eva_cons (evm_callB callm_max2 (eva_cons evm_int (eva_cons (evm_op opm_sub evm_var (evm_op opm_pow evm_int evm_int)) eva_nil))) (eva_cons (evm_op opm_mod (evm_callB callm_int (eva_cons evm_var eva_nil)) evm_int) (eva_cons evm_int eva_nil))) (by decide)))))))⟩
theorem g__law_stream (g : Gm K mg) : FnG P w K mg base CX0 1 (He.ga K "_law_stream") 2 [] (spF K 2 m__law_stream) := by
  obtain ⟨fd, F⟩ := d__law_stream_ g
  refine fnG_of (n := 2) (ks := []) (sp0 := spF K 2 m__law_stream) (ps := ["script", "at"]) F S__law_stream (fun vs => vs) (fun st us ws vs zs _ r1 r2 l1 l2 => ?_) (fun vs H Q E h => spF_len _ _ _ _ h) fun cdv A fr s H vs Q E gd hr h => ?_
  · cases r2 with
    | nil =>
      refine ⟨us, F.bindsA (fun _ _ _ _ _ _ us hl => match us, hl with | [_, _], _ => rfl) st us (r1.length.symm.trans l1), by rw [List.append_nil]; exact r1⟩
    | cons _ _ => cases l2
  · obtain ⟨t, p, e⟩ := b__law_stream g cdv A fr s H E gd hr
    exact ⟨t, p, body_ok e h⟩
end
/-! ### _law_draw -/
def N__law_draw : List Str := ["stream", "total", "found", "one", "two"]
theorem S__law_draw : FnScope N__law_draw ["stream", "total"] d__law_draw.scope := ⟨rfl, rfl, rfl, by decide +kernel, rfl, by decide +kernel, by decide +kernel⟩
section
variable {P : Program} {w : World} {K : PySem.W.Frag} {mg : Str → Option Value} {base : Heap}
theorem b__law_draw (g : Gm K mg) (cdv : Value) (A : Around) (fr : List PySem.Env) (s : Shared) (H : Hp) (E : XK) (gd0 : A.guards = some []) (hr : Room 0 (A.deeper (envOfC "_law_draw" d__law_draw.scope s.heap.objs.size (He.ga K "_law_draw") cdv))) :
    ∃ t, PSs (cxOf CX0 P w K mg base N__law_draw "_law_draw" d__law_draw.scope (He.ga K "_law_draw") cdv A fr s H E) d__law_draw.body t ∧ EvS K (fun _ => E) t mb__law_draw := by
  have gd : (A.deeper (envOfC "_law_draw" d__law_draw.scope s.heap.objs.size (He.ga K "_law_draw") cdv)).guards = some [] := gd0
  have hu66 : (A.deeper (envOfC "_law_draw" d__law_draw.scope s.heap.objs.size (He.ga K "_law_draw") cdv)).units + 66 < cLine := by have := hr.un; omega
  have hu : (A.deeper (envOfC "_law_draw" d__law_draw.scope s.heap.objs.size (He.ga K "_law_draw") cdv)).units + 64 < cLine := by omega
  have hu1 : (A.deeper (envOfC "_law_draw" d__law_draw.scope s.heap.objs.size (He.ga K "_law_draw") cdv)).units + 1 < cLine := by omega
  have nd := S__law_draw.nd
  exact ⟨_, PSs.nox (pss_cons (ps_if (pt_cmpR op_gt (pe_ix (ix_U hu1) (pv_ (i := 0) rfl) pe_int fun _ _ => rfl) pe_int (nomark _)) (pss_cons (ps_set (i := 2) nd rfl (by first | exact .inl rfl | exact .inr rfl) (pe_op op_mod (pe_callTy call_intZ (by rfl) (q_int g) (by decide +kernel) (pa_cons (pe_ix (ix_U hu1) (pv_ (i := 0) rfl) pe_int fun _ _ => rfl) pa_nil)) (pv_ (i := 1) rfl)))
    (pss_cons (ps_asg (pe_op op_fdiv (pe_ix (ix_U hu1) (pv_ (i := 0) rfl) pe_int fun _ _ => rfl) (pv_ (i := 1) rfl)) (pg_sub (pv_ (i := 0) rfl) pe_int (set_U hu1)))
    (pss_one (ps_ret (pv_ (i := 2) rfl))))) pss_nil)
    (pss_cons (ps_asg (pe_op op_addU (pe_ix (ix_U hu1) (pv_ (i := 0) rfl) pe_int fun _ _ => rfl) pe_int) (pg_sub (pv_ (i := 0) rfl) pe_int (set_U hu1)))
    (pss_cons (ps_set (i := 3) nd rfl (by first | exact .inl rfl | exact .inr rfl) (pe_op op_mod (pe_callTy call_intZ (by rfl) (q_int g) (by decide +kernel) (pa_cons (pe_op op_addU (pe_ix (ix_U hu1) (pv_ (i := 0) rfl) pe_int fun _ _ => rfl) (pe_op op_mulU pe_int (pe_ix (ix_U hu1) (pv_ (i := 0) rfl) pe_int fun _ _ => rfl))) pa_nil)) pe_int))
    (pss_cons (ps_set (i := 4) nd rfl (by first | exact .inl rfl | exact .inr rfl) (pe_op op_addU (pe_op op_mulU (pe_op op_mod (pe_callTy call_intZ (by rfl) (q_int g) (by decide +kernel) (pa_cons (pe_op op_mulU (pv_ (i := 3) rfl) (pv_ (i := 3) rfl)) pa_nil)) pe_int) (pv_ (i := 3) rfl)) (pe_op op_mulU pe_int (pe_ix (ix_U hu1) (pv_ (i := 0) rfl) pe_int fun _ _ => rfl))))
    (pss_cons (ps_set (i := 4) nd rfl (by first | exact .inl rfl | exact .inr rfl) (pe_op op_mod (pe_callTy call_intZ (by rfl) (q_int g) (by decide +kernel) (pa_cons (pv_ (i := 4) rfl) pa_nil)) pe_int))
    (pss_one (ps_ret (pe_op op_mod (pe_callTy call_intZ (by rfl) (q_int g) (by decide +kernel) (pa_cons (pe_op op_fdiv (pv_ (i := 4) rfl) pe_int) pa_nil)) (pv_ (i := 1) rfl))))))))), (evs_seq (evs_if (evb_T (evm_op opm_cmp (evm_op opm_ix evm_var evm_int) evm_int)) (evs_seq (evs_asg (i := 2) (evm_op opm_mod (evm_callB callm_int (eva_cons (evm_op opm_ix evm_var evm_int) eva_nil)) evm_var))
    (evs_seq (evs_put (i := 0) (evm_op opm_div (evm_op opm_ix evm_var evm_int) evm_var) evm_int)
    (evs_ret evm_var))) evs_next)
    (evs_seq (evs_put (i := 0) (evm_op opm_add (evm_op opm_ix evm_var evm_int) evm_int) evm_int)
    (evs_seq (evs_asg (i := 3) (evm_op opm_mod (evm_callB callm_int (eva_cons (evm_op opm_add (evm_op opm_ix evm_var evm_int) (evm_op opm_mul evm_int (evm_op opm_ix evm_var evm_int))) eva_nil)) evm_int))
    (evs_seq (evs_asg (i := 4) (evm_op opm_add (evm_op opm_mul (evm_op opm_mod (evm_callB callm_int (eva_cons (evm_op opm_mul evm_var evm_var) eva_nil)) evm_int) evm_var) (evm_op opm_mul evm_int (evm_op opm_ix evm_var evm_int))))
    (evs_seq (evs_asg (i := 4) (evm_op opm_mod (evm_callB callm_int (eva_cons evm_var eva_nil)) evm_int))
    (evs_ret (evm_op opm_mod (evm_callB callm_int (eva_cons (evm_op opm_div evm_var evm_int) eva_nil)) evm_var)))))))⟩
theorem g__law_draw (g : Gm K mg) : FnG P w K mg base CX0 1 (He.ga K "_law_draw") 2 [] (spF K 2 m__law_draw) := by
  obtain ⟨fd, F⟩ := d__law_draw_ g
  refine fnG_of (n := 2) (ks := []) (sp0 := spF K 2 m__law_draw) (ps := ["stream", "total"]) F S__law_draw (fun vs => vs) (fun st us ws vs zs _ r1 r2 l1 l2 => ?_) (fun vs H Q E h => spF_len _ _ _ _ h) fun cdv A fr s H vs Q E gd hr h => ?_
  · cases r2 with
    | nil =>
      refine ⟨us, F.bindsA (fun _ _ _ _ _ _ us hl => match us, hl with | [_, _], _ => rfl) st us (r1.length.symm.trans l1), by rw [List.append_nil]; exact r1⟩
    | cons _ _ => cases l2
  · obtain ⟨t, p, e⟩ := b__law_draw g cdv A fr s H E gd hr
    exact ⟨t, p, body_ok e h⟩
end
/-! ### _law_pick -/
def N__law_pick : List Str := ["stream", "items"]
theorem S__law_pick : FnScope N__law_pick ["stream", "items"] d__law_pick.scope := ⟨rfl, rfl, rfl, by decide +kernel, rfl, by decide +kernel, by decide +kernel⟩
section
variable {P : Program} {w : World} {K : PySem.W.Frag} {mg : Str → Option Value} {base : Heap}
theorem b__law_pick (g : Gm K mg) (h__law_draw : FnG P w K mg base CX0 1 (He.ga K "_law_draw") 2 [] (spF K 2 m__law_draw)) (cdv : Value) (A : Around) (fr : List PySem.Env) (s : Shared) (H : Hp) (E : XK) (gd0 : A.guards = some []) (hr : Room 1 (A.deeper (envOfC "_law_pick" d__law_pick.scope s.heap.objs.size (He.ga K "_law_pick") cdv))) :
    ∃ t, PSs (cxOf CX0 P w K mg base N__law_pick "_law_pick" d__law_pick.scope (He.ga K "_law_pick") cdv A fr s H E) d__law_pick.body t ∧ EvS K (fun _ => E) t mb__law_pick := by
  have gd : (A.deeper (envOfC "_law_pick" d__law_pick.scope s.heap.objs.size (He.ga K "_law_pick") cdv)).guards = some [] := gd0
  have hu66 : (A.deeper (envOfC "_law_pick" d__law_pick.scope s.heap.objs.size (He.ga K "_law_pick") cdv)).units + 66 < cLine := by have := hr.un; omega
  have hu : (A.deeper (envOfC "_law_pick" d__law_pick.scope s.heap.objs.size (He.ga K "_law_pick") cdv)).units + 64 < cLine := by omega
  have hu1 : (A.deeper (envOfC "_law_pick" d__law_pick.scope s.heap.objs.size (He.ga K "_law_pick") cdv)).units + 1 < cLine := by omega
  have nd := S__law_pick.nd
  exact ⟨_, PSs.nox (pss_one (ps_ret (pe_ix (ix_U hu1) (pv_ (i := 1) rfl) (pe_callG h__law_draw gd (hr.mono (by decide)) (by rfl) (q__law_draw g) (k__law_draw g) ps0 (pa_cons (pv_ (i := 0) rfl) (pa_cons (pe_callB call_lenU (by rfl) (q_len g) (by decide +kernel) (pa_cons (pv_ (i := 1) rfl) pa_nil)) pa_nil))) fun _ _ => rfl))), (evs_ret (evm_op opm_ix evm_var (evm_callG (ks := [.M, .B]) (F := m__law_draw) (eva_cons evm_var (eva_cons (evm_callB callm_len (eva_cons evm_var eva_nil)) eva_nil)) eva_nil rfl rfl)))⟩
theorem g__law_pick (g : Gm K mg) (h__law_draw : FnG P w K mg base CX0 1 (He.ga K "_law_draw") 2 [] (spF K 2 m__law_draw)) : FnG P w K mg base CX0 2 (He.ga K "_law_pick") 2 [] (spF K 2 m__law_pick) := by
  obtain ⟨fd, F⟩ := d__law_pick_ g
  refine fnG_of (n := 2) (ks := []) (sp0 := spF K 2 m__law_pick) (ps := ["stream", "items"]) F S__law_pick (fun vs => vs) (fun st us ws vs zs _ r1 r2 l1 l2 => ?_) (fun vs H Q E h => spF_len _ _ _ _ h) fun cdv A fr s H vs Q E gd hr h => ?_
  · cases r2 with
    | nil =>
      refine ⟨us, F.bindsA (fun _ _ _ _ _ _ us hl => match us, hl with | [_, _], _ => rfl) st us (r1.length.symm.trans l1), by rw [List.append_nil]; exact r1⟩
    | cons _ _ => cases l2
  · obtain ⟨t, p, e⟩ := b__law_pick g h__law_draw cdv A fr s H E gd hr
    exact ⟨t, p, body_ok e h⟩
end
/-! ### _law_kinds -/
def N__law_kinds : List Str := ["error", "found"]
theorem S__law_kinds : FnScope N__law_kinds ["error"] d__law_kinds.scope := ⟨rfl, rfl, rfl, by decide +kernel, rfl, by decide +kernel, by decide +kernel⟩
section
variable {P : Program} {w : World} {K : PySem.W.Frag} {mg : Str → Option Value} {base : Heap}
theorem b__law_kinds (g : Gm K mg) (cdv : Value) (A : Around) (fr : List PySem.Env) (s : Shared) (H : Hp) (E : XK) (gd0 : A.guards = some []) (hr : Room 0 (A.deeper (envOfC "_law_kinds" d__law_kinds.scope s.heap.objs.size (He.ga K "_law_kinds") cdv))) :
    ∃ t, PSs (cxOf CX0 P w K mg base N__law_kinds "_law_kinds" d__law_kinds.scope (He.ga K "_law_kinds") cdv A fr s H E) d__law_kinds.body t ∧ EvS K (fun _ => E) t mb__law_kinds := by
  have gd : (A.deeper (envOfC "_law_kinds" d__law_kinds.scope s.heap.objs.size (He.ga K "_law_kinds") cdv)).guards = some [] := gd0
  have hu66 : (A.deeper (envOfC "_law_kinds" d__law_kinds.scope s.heap.objs.size (He.ga K "_law_kinds") cdv)).units + 66 < cLine := by have := hr.un; omega
  have hu : (A.deeper (envOfC "_law_kinds" d__law_kinds.scope s.heap.objs.size (He.ga K "_law_kinds") cdv)).units + 64 < cLine := by omega
  have hu1 : (A.deeper (envOfC "_law_kinds" d__law_kinds.scope s.heap.objs.size (He.ga K "_law_kinds") cdv)).units + 1 < cLine := by omega
  have nd := S__law_kinds.nd
  exact ⟨_, PSs.nox (pss_cons (ps_set (i := 1) nd rfl (by first | exact .inl rfl | exact .inr rfl) (pe_lst (pa_cons (pe_callB call_isU (by rfl) (q_isinstance g) (by decide +kernel) (pa_cons (pv_ (i := 0) rfl) (pa_cons (pe_glob (v := .ref (He.ga K "InvalidArcs")) (by rfl) (q_InvalidArcs g) rfl) pa_nil))) (pa_cons (pe_callB call_isU (by rfl) (q_isinstance g) (by decide +kernel) (pa_cons (pv_ (i := 0) rfl) (pa_cons (pe_glob (v := .ref (He.ga K "InvalidPlan")) (by rfl) (q_InvalidPlan g) rfl) pa_nil))) (pa_cons (pe_callB call_isU (by rfl) (q_isinstance g) (by decide +kernel) (pa_cons (pv_ (i := 0) rfl) (pa_cons (pe_glob (v := .ref (He.ga K "InvalidDurations")) (by rfl) (q_InvalidDurations g) rfl) pa_nil))) pa_nil)))))
    (pss_cons (ps_set (i := 1) nd rfl (by first | exact .inl rfl | exact .inr rfl) (pe_op op_addU (pv_ (i := 1) rfl) (pe_lst (pa_cons (pe_callB call_isU (by rfl) (q_isinstance g) (by decide +kernel) (pa_cons (pv_ (i := 0) rfl) (pa_cons (pe_glob (v := .ref (He.ga K "InvalidTimes")) (by rfl) (q_InvalidTimes g) rfl) pa_nil))) (pa_cons (pe_callB call_isU (by rfl) (q_isinstance g) (by decide +kernel) (pa_cons (pv_ (i := 0) rfl) (pa_cons (pe_glob (v := .ref (He.ga K "InvalidRun")) (by rfl) (q_InvalidRun g) rfl) pa_nil))) pa_nil)))))
    (pss_cons (ps_set (i := 1) nd rfl (by first | exact .inl rfl | exact .inr rfl) (pe_op op_addU (pv_ (i := 1) rfl) (pe_lst (pa_cons (pe_callB call_isU (by rfl) (q_isinstance g) (by decide +kernel) (pa_cons (pv_ (i := 0) rfl) (pa_cons (pe_glob (v := .ref (He.ga K "InvalidPolicy")) (by rfl) (q_InvalidPolicy g) rfl) pa_nil))) (pa_cons (pe_callB call_isU (by rfl) (q_isinstance g) (by decide +kernel) (pa_cons (pv_ (i := 0) rfl) (pa_cons (pe_glob (v := .ref (He.ga K "InvalidTable")) (by rfl) (q_InvalidTable g) rfl) pa_nil))) pa_nil)))))
    (pss_cons (ps_set (i := 1) nd rfl (by first | exact .inl rfl | exact .inr rfl) (pe_op op_addU (pv_ (i := 1) rfl) (pe_lst (pa_cons (pe_callB call_isU (by rfl) (q_isinstance g) (by decide +kernel) (pa_cons (pv_ (i := 0) rfl) (pa_cons (pe_glob (v := .ref (He.ga K "InvalidTask")) (by rfl) (q_InvalidTask g) rfl) pa_nil))) (pa_cons (pe_callB call_isU (by rfl) (q_isinstance g) (by decide +kernel) (pa_cons (pv_ (i := 0) rfl) (pa_cons (pe_glob (v := .ref (He.ga K "InvalidOperation")) (by rfl) (q_InvalidOperation g) rfl) pa_nil))) pa_nil)))))
    (pss_cons (ps_set (i := 1) nd rfl (by first | exact .inl rfl | exact .inr rfl) (pe_op op_addU (pv_ (i := 1) rfl) (pe_lst (pa_cons (pe_callB call_isU (by rfl) (q_isinstance g) (by decide +kernel) (pa_cons (pv_ (i := 0) rfl) (pa_cons (pe_glob (v := .ref (He.ga K "InvalidEdit")) (by rfl) (q_InvalidEdit g) rfl) pa_nil))) (pa_cons (pe_callB call_isU (by rfl) (q_isinstance g) (by decide +kernel) (pa_cons (pv_ (i := 0) rfl) (pa_cons (pe_glob (v := .ref (He.ga K "ParseError")) (by rfl) (q_ParseError g) rfl) pa_nil))) pa_nil)))))
    (pss_one (ps_ret (pe_op op_addU (pv_ (i := 1) rfl) (pe_lst (pa_cons (pe_callB call_isU (by rfl) (q_isinstance g) (by decide +kernel) (pa_cons (pv_ (i := 0) rfl) (pa_cons (pe_glob (v := .ref (He.ga K "InvalidCommand")) (by rfl) (q_InvalidCommand g) rfl) pa_nil))) pa_nil)))))))))), (evs_seq (evs_asg (i := 1) (evm_lst (eva_cons (evm_callB (callm_isU (isa_ok g)) (eva_cons evm_var (eva_cons evm_obj eva_nil))) (eva_cons (evm_callB (callm_isU (isa_ok g)) (eva_cons evm_var (eva_cons evm_obj eva_nil))) (eva_cons (evm_callB (callm_isU (isa_ok g)) (eva_cons evm_var (eva_cons evm_obj eva_nil))) eva_nil))) (by decide)))
    (evs_seq (evs_asg (i := 1) (evm_op opm_add evm_var (evm_lst (eva_cons (evm_callB (callm_isU (isa_ok g)) (eva_cons evm_var (eva_cons evm_obj eva_nil))) (eva_cons (evm_callB (callm_isU (isa_ok g)) (eva_cons evm_var (eva_cons evm_obj eva_nil))) eva_nil)) (by decide))))
    (evs_seq (evs_asg (i := 1) (evm_op opm_add evm_var (evm_lst (eva_cons (evm_callB (callm_isU (isa_ok g)) (eva_cons evm_var (eva_cons evm_obj eva_nil))) (eva_cons (evm_callB (callm_isU (isa_ok g)) (eva_cons evm_var (eva_cons evm_obj eva_nil))) eva_nil)) (by decide))))
    (evs_seq (evs_asg (i := 1) (evm_op opm_add evm_var (evm_lst (eva_cons (evm_callB (callm_isU (isa_ok g)) (eva_cons evm_var (eva_cons evm_obj eva_nil))) (eva_cons (evm_callB (callm_isU (isa_ok g)) (eva_cons evm_var (eva_cons evm_obj eva_nil))) eva_nil)) (by decide))))
    (evs_seq (evs_asg (i := 1) (evm_op opm_add evm_var (evm_lst (eva_cons (evm_callB (callm_isU (isa_ok g)) (eva_cons evm_var (eva_cons evm_obj eva_nil))) (eva_cons (evm_callB (callm_isU (isa_ok g)) (eva_cons evm_var (eva_cons evm_obj eva_nil))) eva_nil)) (by decide))))
    (evs_ret (evm_op opm_add evm_var (evm_lst (eva_cons (evm_callB (callm_isU (isa_ok g)) (eva_cons evm_var (eva_cons evm_obj eva_nil))) eva_nil) (by decide)))))))))⟩
theorem g__law_kinds (g : Gm K mg) : FnG P w K mg base CX0 1 (He.ga K "_law_kinds") 1 [] (spF K 1 m__law_kinds) := by
  obtain ⟨fd, F⟩ := d__law_kinds_ g
  refine fnG_of (n := 1) (ks := []) (sp0 := spF K 1 m__law_kinds) (ps := ["error"]) F S__law_kinds (fun vs => vs) (fun st us ws vs zs _ r1 r2 l1 l2 => ?_) (fun vs H Q E h => spF_len _ _ _ _ h) fun cdv A fr s H vs Q E gd hr h => ?_
  · cases r2 with
    | nil =>
      refine ⟨us, F.bindsA (fun _ _ _ _ _ _ us hl => match us, hl with | [_], _ => rfl) st us (r1.length.symm.trans l1), by rw [List.append_nil]; exact r1⟩
    | cons _ _ => cases l2
  · obtain ⟨t, p, e⟩ := b__law_kinds g cdv A fr s H E gd hr
    exact ⟨t, p, body_ok e h⟩
end
/-! ### _law_others -/
def N__law_others : List Str := ["error", "found"]
theorem S__law_others : FnScope N__law_others ["error"] d__law_others.scope := ⟨rfl, rfl, rfl, by decide +kernel, rfl, by decide +kernel, by decide +kernel⟩
section
variable {P : Program} {w : World} {K : PySem.W.Frag} {mg : Str → Option Value} {base : Heap}
theorem b__law_others (g : Gm K mg) (cdv : Value) (A : Around) (fr : List PySem.Env) (s : Shared) (H : Hp) (E : XK) (gd0 : A.guards = some []) (hr : Room 0 (A.deeper (envOfC "_law_others" d__law_others.scope s.heap.objs.size (He.ga K "_law_others") cdv))) :
    ∃ t, PSs (cxOf CX0 P w K mg base N__law_others "_law_others" d__law_others.scope (He.ga K "_law_others") cdv A fr s H E) d__law_others.body t ∧ EvS K (fun _ => E) t mb__law_others := by
  have gd : (A.deeper (envOfC "_law_others" d__law_others.scope s.heap.objs.size (He.ga K "_law_others") cdv)).guards = some [] := gd0
  have hu66 : (A.deeper (envOfC "_law_others" d__law_others.scope s.heap.objs.size (He.ga K "_law_others") cdv)).units + 66 < cLine := by have := hr.un; omega
  have hu : (A.deeper (envOfC "_law_others" d__law_others.scope s.heap.objs.size (He.ga K "_law_others") cdv)).units + 64 < cLine := by omega
  have hu1 : (A.deeper (envOfC "_law_others" d__law_others.scope s.heap.objs.size (He.ga K "_law_others") cdv)).units + 1 < cLine := by omega
  have nd := S__law_others.nd
  exact ⟨_, PSs.nox (pss_cons (ps_set (i := 1) nd rfl (by first | exact .inl rfl | exact .inr rfl) (pe_lst (pa_cons (pe_callB call_isU (by rfl) (q_isinstance g) (by decide +kernel) (pa_cons (pv_ (i := 0) rfl) (pa_cons (pe_glob (v := .ref (He.ga K "InvalidNumber")) (by rfl) (q_InvalidNumber g) rfl) pa_nil))) (pa_cons (pe_callB call_isU (by rfl) (q_isinstance g) (by decide +kernel) (pa_cons (pv_ (i := 0) rfl) (pa_cons (pe_glob (v := .ref (He.ga K "UnknownName")) (by rfl) (q_UnknownName g) rfl) pa_nil))) (pa_cons (pe_callB call_isU (by rfl) (q_isinstance g) (by decide +kernel) (pa_cons (pv_ (i := 0) rfl) (pa_cons (pe_glob (v := .ref (He.ga K "TooMany")) (by rfl) (q_TooMany g) rfl) pa_nil))) pa_nil)))))
    (pss_one (ps_ret (pe_op op_addU (pv_ (i := 1) rfl) (pe_lst (pa_cons (pe_callB call_isU (by rfl) (q_isinstance g) (by decide +kernel) (pa_cons (pv_ (i := 0) rfl) (pa_cons (pe_glob (v := .ref (He.ga K "Refuted")) (by rfl) (q_Refuted g) rfl) pa_nil))) (pa_cons (pe_callB call_isU (by rfl) (q_isinstance g) (by decide +kernel) (pa_cons (pv_ (i := 0) rfl) (pa_cons (pe_glob (v := .ref (He.ga K "Driven")) (by rfl) (q_Driven g) rfl) pa_nil))) (pa_cons (pe_callB call_isU (by rfl) (q_isinstance g) (by decide +kernel) (pa_cons (pv_ (i := 0) rfl) (pa_cons (pe_glob (v := .ref (He.ga K "NothingToUndo")) (by rfl) (q_NothingToUndo g) rfl) pa_nil))) pa_nil)))))))), (evs_seq (evs_asg (i := 1) (evm_lst (eva_cons (evm_callB (callm_isU (isa_ok g)) (eva_cons evm_var (eva_cons evm_obj eva_nil))) (eva_cons (evm_callB (callm_isU (isa_ok g)) (eva_cons evm_var (eva_cons evm_obj eva_nil))) (eva_cons (evm_callB (callm_isU (isa_ok g)) (eva_cons evm_var (eva_cons evm_obj eva_nil))) eva_nil))) (by decide)))
    (evs_ret (evm_op opm_add evm_var (evm_lst (eva_cons (evm_callB (callm_isU (isa_ok g)) (eva_cons evm_var (eva_cons evm_obj eva_nil))) (eva_cons (evm_callB (callm_isU (isa_ok g)) (eva_cons evm_var (eva_cons evm_obj eva_nil))) (eva_cons (evm_callB (callm_isU (isa_ok g)) (eva_cons evm_var (eva_cons evm_obj eva_nil))) eva_nil))) (by decide)))))⟩
theorem g__law_others (g : Gm K mg) : FnG P w K mg base CX0 1 (He.ga K "_law_others") 1 [] (spF K 1 m__law_others) := by
  obtain ⟨fd, F⟩ := d__law_others_ g
  refine fnG_of (n := 1) (ks := []) (sp0 := spF K 1 m__law_others) (ps := ["error"]) F S__law_others (fun vs => vs) (fun st us ws vs zs _ r1 r2 l1 l2 => ?_) (fun vs H Q E h => spF_len _ _ _ _ h) fun cdv A fr s H vs Q E gd hr h => ?_
  · cases r2 with
    | nil =>
      refine ⟨us, F.bindsA (fun _ _ _ _ _ _ us hl => match us, hl with | [_], _ => rfl) st us (r1.length.symm.trans l1), by rw [List.append_nil]; exact r1⟩
    | cons _ _ => cases l2
  · obtain ⟨t, p, e⟩ := b__law_others g cdv A fr s H E gd hr
    exact ⟨t, p, body_ok e h⟩
end
/-! ### _law_bases -/
def N__law_bases : List Str := ["error", "found"]
theorem S__law_bases : FnScope N__law_bases ["error"] d__law_bases.scope := ⟨rfl, rfl, rfl, by decide +kernel, rfl, by decide +kernel, by decide +kernel⟩
section
variable {P : Program} {w : World} {K : PySem.W.Frag} {mg : Str → Option Value} {base : Heap}
theorem b__law_bases (g : Gm K mg) (cdv : Value) (A : Around) (fr : List PySem.Env) (s : Shared) (H : Hp) (E : XK) (gd0 : A.guards = some []) (hr : Room 0 (A.deeper (envOfC "_law_bases" d__law_bases.scope s.heap.objs.size (He.ga K "_law_bases") cdv))) :
    ∃ t, PSs (cxOf CX0 P w K mg base N__law_bases "_law_bases" d__law_bases.scope (He.ga K "_law_bases") cdv A fr s H E) d__law_bases.body t ∧ EvS K (fun _ => E) t mb__law_bases := by
  have gd : (A.deeper (envOfC "_law_bases" d__law_bases.scope s.heap.objs.size (He.ga K "_law_bases") cdv)).guards = some [] := gd0
  have hu66 : (A.deeper (envOfC "_law_bases" d__law_bases.scope s.heap.objs.size (He.ga K "_law_bases") cdv)).units + 66 < cLine := by have := hr.un; omega
  have hu : (A.deeper (envOfC "_law_bases" d__law_bases.scope s.heap.objs.size (He.ga K "_law_bases") cdv)).units + 64 < cLine := by omega
  have hu1 : (A.deeper (envOfC "_law_bases" d__law_bases.scope s.heap.objs.size (He.ga K "_law_bases") cdv)).units + 1 < cLine := by omega
  have nd := S__law_bases.nd
  exact ⟨_, PSs.nox (pss_cons (ps_set (i := 1) nd rfl (by first | exact .inl rfl | exact .inr rfl) (pe_lst (pa_cons (pe_callB call_isU (by rfl) (q_isinstance g) (by decide +kernel) (pa_cons (pv_ (i := 0) rfl) (pa_cons (pe_bltn (v := .ty "ValueError") (by rfl) (q_ValueError g) (by decide +kernel) rfl) pa_nil))) (pa_cons (pe_callB call_isU (by rfl) (q_isinstance g) (by decide +kernel) (pa_cons (pv_ (i := 0) rfl) (pa_cons (pe_bltn (v := .ty "IndexError") (by rfl) (q_IndexError g) (by decide +kernel) rfl) pa_nil))) (pa_cons (pe_callB call_isU (by rfl) (q_isinstance g) (by decide +kernel) (pa_cons (pv_ (i := 0) rfl) (pa_cons (pe_bltn (v := .ty "KeyError") (by rfl) (q_KeyError g) (by decide +kernel) rfl) pa_nil))) pa_nil)))))
    (pss_cons (ps_set (i := 1) nd rfl (by first | exact .inl rfl | exact .inr rfl) (pe_op op_addU (pv_ (i := 1) rfl) (pe_lst (pa_cons (pe_callB call_isU (by rfl) (q_isinstance g) (by decide +kernel) (pa_cons (pv_ (i := 0) rfl) (pa_cons (pe_bltn (v := .ty "OverflowError") (by rfl) (q_OverflowError g) (by decide +kernel) rfl) pa_nil))) (pa_cons (pe_callB call_isU (by rfl) (q_isinstance g) (by decide +kernel) (pa_cons (pv_ (i := 0) rfl) (pa_cons (pe_bltn (v := .ty "ArithmeticError") (by rfl) (q_ArithmeticError g) (by decide +kernel) rfl) pa_nil))) pa_nil)))))
    (pss_one (ps_ret (pe_op op_addU (pv_ (i := 1) rfl) (pe_lst (pa_cons (pe_callB call_isU (by rfl) (q_isinstance g) (by decide +kernel) (pa_cons (pv_ (i := 0) rfl) (pa_cons (pe_bltn (v := .ty "RuntimeError") (by rfl) (q_RuntimeError g) (by decide +kernel) rfl) pa_nil))) (pa_cons (pe_callB call_isU (by rfl) (q_isinstance g) (by decide +kernel) (pa_cons (pv_ (i := 0) rfl) (pa_cons (pe_bltn (v := .ty "LookupError") (by rfl) (q_LookupError g) (by decide +kernel) rfl) pa_nil))) pa_nil)))))))), (evs_seq (evs_asg (i := 1) (evm_lst (eva_cons (evm_callB (callm_isU (isa_ok g)) (eva_cons evm_var (eva_cons evm_ty eva_nil))) (eva_cons (evm_callB (callm_isU (isa_ok g)) (eva_cons evm_var (eva_cons evm_ty eva_nil))) (eva_cons (evm_callB (callm_isU (isa_ok g)) (eva_cons evm_var (eva_cons evm_ty eva_nil))) eva_nil))) (by decide)))
    (evs_seq (evs_asg (i := 1) (evm_op opm_add evm_var (evm_lst (eva_cons (evm_callB (callm_isU (isa_ok g)) (eva_cons evm_var (eva_cons evm_ty eva_nil))) (eva_cons (evm_callB (callm_isU (isa_ok g)) (eva_cons evm_var (eva_cons evm_ty eva_nil))) eva_nil)) (by decide))))
    (evs_ret (evm_op opm_add evm_var (evm_lst (eva_cons (evm_callB (callm_isU (isa_ok g)) (eva_cons evm_var (eva_cons evm_ty eva_nil))) (eva_cons (evm_callB (callm_isU (isa_ok g)) (eva_cons evm_var (eva_cons evm_ty eva_nil))) eva_nil)) (by decide))))))⟩
theorem g__law_bases (g : Gm K mg) : FnG P w K mg base CX0 1 (He.ga K "_law_bases") 1 [] (spF K 1 m__law_bases) := by
  obtain ⟨fd, F⟩ := d__law_bases_ g
  refine fnG_of (n := 1) (ks := []) (sp0 := spF K 1 m__law_bases) (ps := ["error"]) F S__law_bases (fun vs => vs) (fun st us ws vs zs _ r1 r2 l1 l2 => ?_) (fun vs H Q E h => spF_len _ _ _ _ h) fun cdv A fr s H vs Q E gd hr h => ?_
  · cases r2 with
    | nil =>
      refine ⟨us, F.bindsA (fun _ _ _ _ _ _ us hl => match us, hl with | [_], _ => rfl) st us (r1.length.symm.trans l1), by rw [List.append_nil]; exact r1⟩
    | cons _ _ => cases l2
  · obtain ⟨t, p, e⟩ := b__law_bases g cdv A fr s H E gd hr
    exact ⟨t, p, body_ok e h⟩
end
/-! ### _law_messages_right -/
def N__law_messages_right : List Str := ["text", "some", "at", "error", "plain", "other"]
theorem S__law_messages_right : FnScope N__law_messages_right ["text"] d__law_messages_right.scope := ⟨rfl, rfl, rfl, by decide +kernel, rfl, by decide +kernel, by decide +kernel⟩
section
variable {P : Program} {w : World} {K : PySem.W.Frag} {mg : Str → Option Value} {base : Heap}
theorem b__law_messages_right (g : Gm K mg) (h__law_bases : FnG P w K mg base CX0 1 (He.ga K "_law_bases") 1 [] (spF K 1 m__law_bases)) (h__law_kinds : FnG P w K mg base CX0 1 (He.ga K "_law_kinds") 1 [] (spF K 1 m__law_kinds)) (h__law_others : FnG P w K mg base CX0 1 (He.ga K "_law_others") 1 [] (spF K 1 m__law_others)) (cdv : Value) (A : Around) (fr : List PySem.Env) (s : Shared) (H : Hp) (E : XK) (gd0 : A.guards = some []) (hr : Room 1 (A.deeper (envOfC "_law_messages_right" d__law_messages_right.scope s.heap.objs.size (He.ga K "_law_messages_right") cdv))) :
    ∃ t, PSs (cxOf CX0 P w K mg base N__law_messages_right "_law_messages_right" d__law_messages_right.scope (He.ga K "_law_messages_right") cdv A fr s H E) d__law_messages_right.body t ∧ EvS K (fun _ => E) t mb__law_messages_right := by
  have gd : (A.deeper (envOfC "_law_messages_right" d__law_messages_right.scope s.heap.objs.size (He.ga K "_law_messages_right") cdv)).guards = some [] := gd0
  have hu66 : (A.deeper (envOfC "_law_messages_right" d__law_messages_right.scope s.heap.objs.size (He.ga K "_law_messages_right") cdv)).units + 66 < cLine := by have := hr.un; omega
  have hu : (A.deeper (envOfC "_law_messages_right" d__law_messages_right.scope s.heap.objs.size (He.ga K "_law_messages_right") cdv)).units + 64 < cLine := by omega
  have hu1 : (A.deeper (envOfC "_law_messages_right" d__law_messages_right.scope s.heap.objs.size (He.ga K "_law_messages_right") cdv)).units + 1 < cLine := by omega
  have nd := S__law_messages_right.nd
  exact ⟨_, PSs.nox (pss_cons (ps_set (i := 1) nd rfl (by first | exact .inl rfl | exact .inr rfl) (pe_lst (pa_cons (pe_exc1 PySem.F.excBase_ValueError (He.exc_ok (e_InvalidArcs g)).1 (q_InvalidArcs g) (He.exc_ok (e_InvalidArcs g)).2.1 (by rfl) (pv_ (i := 0) rfl)) (pa_cons (pe_exc1 PySem.F.excBase_ValueError (He.exc_ok (e_InvalidPlan g)).1 (q_InvalidPlan g) (He.exc_ok (e_InvalidPlan g)).2.1 (by rfl) (pv_ (i := 0) rfl)) (pa_cons (pe_exc1 PySem.F.excBase_ValueError (He.exc_ok (e_InvalidDurations g)).1 (q_InvalidDurations g) (He.exc_ok (e_InvalidDurations g)).2.1 (by rfl) (pv_ (i := 0) rfl)) (pa_cons (pe_exc1 PySem.F.excBase_ValueError (He.exc_ok (e_InvalidTimes g)).1 (q_InvalidTimes g) (He.exc_ok (e_InvalidTimes g)).2.1 (by rfl) (pv_ (i := 0) rfl)) (pa_cons (pe_exc1 PySem.F.excBase_ValueError (He.exc_ok (e_InvalidRun g)).1 (q_InvalidRun g) (He.exc_ok (e_InvalidRun g)).2.1 (by rfl) (pv_ (i := 0) rfl)) pa_nil)))))))
    (pss_cons (ps_set (i := 1) nd rfl (by first | exact .inl rfl | exact .inr rfl) (pe_op op_addU (pv_ (i := 1) rfl) (pe_lst (pa_cons (pe_exc1 PySem.F.excBase_ValueError (He.exc_ok (e_InvalidPolicy g)).1 (q_InvalidPolicy g) (He.exc_ok (e_InvalidPolicy g)).2.1 (by rfl) (pv_ (i := 0) rfl)) (pa_cons (pe_exc1 PySem.F.excBase_ValueError (He.exc_ok (e_InvalidTable g)).1 (q_InvalidTable g) (He.exc_ok (e_InvalidTable g)).2.1 (by rfl) (pv_ (i := 0) rfl)) (pa_cons (pe_exc1 PySem.F.excBase_ValueError (He.exc_ok (e_InvalidTask g)).1 (q_InvalidTask g) (He.exc_ok (e_InvalidTask g)).2.1 (by rfl) (pv_ (i := 0) rfl)) (pa_cons (pe_exc1 PySem.F.excBase_ValueError (He.exc_ok (e_InvalidOperation g)).1 (q_InvalidOperation g) (He.exc_ok (e_InvalidOperation g)).2.1 (by rfl) (pv_ (i := 0) rfl)) pa_nil)))))))
    (pss_cons (ps_set (i := 1) nd rfl (by first | exact .inl rfl | exact .inr rfl) (pe_op op_addU (pv_ (i := 1) rfl) (pe_lst (pa_cons (pe_exc1 PySem.F.excBase_ValueError (He.exc_ok (e_InvalidEdit g)).1 (q_InvalidEdit g) (He.exc_ok (e_InvalidEdit g)).2.1 (by rfl) (pv_ (i := 0) rfl)) (pa_cons (pe_exc1 PySem.F.excBase_ValueError (He.exc_ok (e_ParseError g)).1 (q_ParseError g) (He.exc_ok (e_ParseError g)).2.1 (by rfl) (pv_ (i := 0) rfl)) (pa_cons (pe_exc1 PySem.F.excBase_ValueError (He.exc_ok (e_InvalidCommand g)).1 (q_InvalidCommand g) (He.exc_ok (e_InvalidCommand g)).2.1 (by rfl) (pv_ (i := 0) rfl)) pa_nil))))))
    (pss_cons (ps_for PassesOwn.never rfl (pi_hb (pi_enumA (by rfl) (q_enumerate g) (pa_cons (pv_ (i := 1) rfl) pa_nil))) (pg_tup rfl (pgs_cons (pg_name (i := 2) nd rfl (by first | exact .inl rfl | exact .inr rfl)) (pgs_cons (pg_name (i := 3) nd rfl (by first | exact .inl rfl | exact .inr rfl)) pgs_nil))) (pss_cons (ps_if (pw_or (pt_not (pt_val (pe_callB call_isU (by rfl) (q_isinstance g) (by decide +kernel) (pa_cons (pv_ (i := 3) rfl) (pa_cons (pe_glob (v := .ref (He.ga K "PlanError")) (by rfl) (q_PlanError g) rfl) pa_nil))))) (pw_or1 (pt_cmpR (op_neU hu) (pe_callG h__law_others gd (hr.mono (by decide)) (by rfl) (q__law_others g) (k__law_others g) ps0 (pa_cons (pv_ (i := 3) rfl) pa_nil)) (pe_op op_mulU (pe_lst (pa_cons pe_bl pa_nil)) pe_int) (nomark _)))).pt (pss_one (ps_ret pe_bl)) pss_nil)
    (pss_one (ps_if (pw_or (pt_cmpR (op_neU hu) (pe_callG h__law_kinds gd (hr.mono (by decide)) (by rfl) (q__law_kinds g) (k__law_kinds g) ps0 (pa_cons (pv_ (i := 3) rfl) pa_nil)) (pe_lc (own := [(Str.ofString "other", 5)]) rfl nd (pi_range1 (by rfl) (q_range g) (pa_cons pe_int pa_nil)) (blkOk_by (N := N__law_messages_right) (sc := d__law_messages_right.scope) (own := [(Str.ofString "other", 5)]) (by decide +kernel)) (fun _ _ _ _ _ => (pg_name (i := 5) nd rfl (by first | exact .inl rfl | exact .inr rfl))) (fun _ _ _ _ _ => pts_nil) (fun _ _ _ _ _ => (pe_cmpR (op_eqU hu) (pv_ (i := 2) rfl) (pv_ (i := 5) rfl) (nomark _)))) (nomark _)) (pw_or1 (pt_cmpR (op_neU hu) (pe_callG h__law_bases gd (hr.mono (by decide)) (by rfl) (q__law_bases g) (k__law_bases g) ps0 (pa_cons (pv_ (i := 3) rfl) pa_nil)) (pe_op op_addU (pe_lst (pa_cons pe_bl pa_nil)) (pe_op op_mulU (pe_lst (pa_cons pe_bl pa_nil)) pe_int)) (nomark _)))).pt (pss_one (ps_ret pe_bl)) pss_nil))))
    (pss_cons (ps_set (i := 4) nd rfl (by first | exact .inl rfl | exact .inr rfl) (pe_exc1 PySem.F.excBase_ValueError (He.exc_ok (e_PlanError g)).1 (q_PlanError g) (He.exc_ok (e_PlanError g)).2.1 (by rfl) (pv_ (i := 0) rfl)))
    (pss_one (ps_ret (pe_and (pe_cmpR (op_eqU hu) (pe_callG h__law_kinds gd (hr.mono (by decide)) (by rfl) (q__law_kinds g) (k__law_kinds g) ps0 (pa_cons (pv_ (i := 4) rfl) pa_nil)) (pe_op op_mulU (pe_lst (pa_cons pe_bl pa_nil)) pe_int) (nomark _)) (pe_one (pe_cmpR (op_eqU hu) (pe_callG h__law_bases gd (hr.mono (by decide)) (by rfl) (q__law_bases g) (k__law_bases g) ps0 (pa_cons (pv_ (i := 4) rfl) pa_nil)) (pe_op op_addU (pe_lst (pa_cons pe_bl pa_nil)) (pe_op op_mulU (pe_lst (pa_cons pe_bl pa_nil)) pe_int)) (nomark _))))))))))), (evs_seq (evs_asg (i := 1) (evm_lst (eva_cons (evm_mk0 evm_var) (eva_cons (evm_mk0 evm_var) (eva_cons (evm_mk0 evm_var) (eva_cons (evm_mk0 evm_var) (eva_cons (evm_mk0 evm_var) eva_nil))))) (by decide)))
    (evs_seq (evs_asg (i := 1) (evm_op opm_add evm_var (evm_lst (eva_cons (evm_mk0 evm_var) (eva_cons (evm_mk0 evm_var) (eva_cons (evm_mk0 evm_var) (eva_cons (evm_mk0 evm_var) eva_nil)))) (by decide))))
    (evs_seq (evs_asg (i := 1) (evm_op opm_add evm_var (evm_lst (eva_cons (evm_mk0 evm_var) (eva_cons (evm_mk0 evm_var) (eva_cons (evm_mk0 evm_var) eva_nil))) (by decide))))
    (evs_seq (evs_for (evi_enum (eva_cons evm_var eva_nil)) (evg_tup (n := 2) (evgs_cons (evg_name (i := 2)) (evgs_cons (evg_name (i := 3)) evgs_nil))) (evs_seq (evs_if (evb_or (evb_not (evb_B (evm_callB (callm_isU (isa_ok g)) (eva_cons evm_var (eva_cons evm_obj eva_nil))))) (evb_T (evm_op opm_ne (evm_callG (ks := [.B]) (F := m__law_others) (eva_cons evm_var eva_nil) eva_nil rfl rfl) (evm_rep (evm_lst (eva_cons evm_bl eva_nil) (by decide)))))) (evs_ret evm_bl) evs_next)
    (evs_if (evb_or (evb_T (evm_op opm_ne (evm_callG (ks := [.B]) (F := m__law_kinds) (eva_cons evm_var eva_nil) eva_nil rfl rfl) (evm_lc (evi_range1 (eva_cons evm_int eva_nil)) (evg_name (i := 5)) evb_yes (evm_op opm_eq evm_var evm_var)))) (evb_T (evm_op opm_ne (evm_callG (ks := [.B]) (F := m__law_bases) (eva_cons evm_var eva_nil) eva_nil rfl rfl) (evm_op opm_add (evm_lst (eva_cons evm_bl eva_nil) (by decide)) (evm_rep (evm_lst (eva_cons evm_bl eva_nil) (by decide))))))) (evs_ret evm_bl) evs_next)))
    (evs_seq (evs_asg (i := 4) (evm_mk0 evm_var))
    (evs_ret (evm_and (evm_op opm_eq (evm_callG (ks := [.B]) (F := m__law_kinds) (eva_cons evm_var eva_nil) eva_nil rfl rfl) (evm_rep (evm_lst (eva_cons evm_bl eva_nil) (by decide)))) (evm_op opm_eq (evm_callG (ks := [.B]) (F := m__law_bases) (eva_cons evm_var eva_nil) eva_nil rfl rfl) (evm_op opm_add (evm_lst (eva_cons evm_bl eva_nil) (by decide)) (evm_rep (evm_lst (eva_cons evm_bl eva_nil) (by decide))))))))))))⟩
theorem g__law_messages_right (g : Gm K mg) (h__law_bases : FnG P w K mg base CX0 1 (He.ga K "_law_bases") 1 [] (spF K 1 m__law_bases)) (h__law_kinds : FnG P w K mg base CX0 1 (He.ga K "_law_kinds") 1 [] (spF K 1 m__law_kinds)) (h__law_others : FnG P w K mg base CX0 1 (He.ga K "_law_others") 1 [] (spF K 1 m__law_others)) : FnG P w K mg base CX0 2 (He.ga K "_law_messages_right") 1 [] (spF K 1 m__law_messages_right) := by
  obtain ⟨fd, F⟩ := d__law_messages_right_ g
  refine fnG_of (n := 1) (ks := []) (sp0 := spF K 1 m__law_messages_right) (ps := ["text"]) F S__law_messages_right (fun vs => vs) (fun st us ws vs zs _ r1 r2 l1 l2 => ?_) (fun vs H Q E h => spF_len _ _ _ _ h) fun cdv A fr s H vs Q E gd hr h => ?_
  · cases r2 with
    | nil =>
      refine ⟨us, F.bindsA (fun _ _ _ _ _ _ us hl => match us, hl with | [_], _ => rfl) st us (r1.length.symm.trans l1), by rw [List.append_nil]; exact r1⟩
    | cons _ _ => cases l2
  · obtain ⟨t, p, e⟩ := b__law_messages_right g h__law_bases h__law_kinds h__law_others cdv A fr s H E gd hr
    exact ⟨t, p, body_ok e h⟩
end
/-! ### _law_values_right -/
def N__law_values_right : List Str := ["value", "number", "paper", "table", "some", "due", "at", "error", "kept", "other"]
theorem S__law_values_right : FnScope N__law_values_right ["value", "number", "paper", "table"] d__law_values_right.scope := ⟨rfl, rfl, rfl, by decide +kernel, rfl, by decide +kernel, by decide +kernel⟩
section
variable {P : Program} {w : World} {K : PySem.W.Frag} {mg : Str → Option Value} {base : Heap}
theorem b__law_values_right (g : Gm K mg) (h__law_bases : FnG P w K mg base CX0 1 (He.ga K "_law_bases") 1 [] (spF K 1 m__law_bases)) (h__law_kinds : FnG P w K mg base CX0 1 (He.ga K "_law_kinds") 1 [] (spF K 1 m__law_kinds)) (h__law_others : FnG P w K mg base CX0 1 (He.ga K "_law_others") 1 [] (spF K 1 m__law_others)) (cdv : Value) (A : Around) (fr : List PySem.Env) (s : Shared) (H : Hp) (E : XK) (gd0 : A.guards = some []) (hr : Room 2 (A.deeper (envOfC "_law_values_right" d__law_values_right.scope s.heap.objs.size (He.ga K "_law_values_right") cdv))) :
    ∃ t, PSs (cxOf CX0 P w K mg base N__law_values_right "_law_values_right" d__law_values_right.scope (He.ga K "_law_values_right") cdv A fr s H E) d__law_values_right.body t ∧ EvS K (fun _ => E) t mb__law_values_right := by
  have gd : (A.deeper (envOfC "_law_values_right" d__law_values_right.scope s.heap.objs.size (He.ga K "_law_values_right") cdv)).guards = some [] := gd0
  have hu66 : (A.deeper (envOfC "_law_values_right" d__law_values_right.scope s.heap.objs.size (He.ga K "_law_values_right") cdv)).units + 66 < cLine := by have := hr.un; omega
  have hu : (A.deeper (envOfC "_law_values_right" d__law_values_right.scope s.heap.objs.size (He.ga K "_law_values_right") cdv)).units + 64 < cLine := by omega
  have hu1 : (A.deeper (envOfC "_law_values_right" d__law_values_right.scope s.heap.objs.size (He.ga K "_law_values_right") cdv)).units + 1 < cLine := by omega
  have nd := S__law_values_right.nd
  exact ⟨_, PSs.nox (pss_cons (ps_set (i := 4) nd rfl (by first | exact .inl rfl | exact .inr rfl) (pe_lst (pa_cons (pe_callC (x_InvalidNumber g (hr.mono (by decide))) (by rfl) (q_InvalidNumber g) (kc_InvalidNumber g) (pa_cons (pv_ (i := 0) rfl) pa_nil)) (pa_cons (pe_callC (x_UnknownName g (hr.mono (by decide))) (by rfl) (q_UnknownName g) (kc_UnknownName g) (pa_cons (pv_ (i := 0) rfl) pa_nil)) (pa_cons (pe_callC (x_TooMany g (hr.mono (by decide))) (by rfl) (q_TooMany g) (kc_TooMany g) (pa_cons (pv_ (i := 1) rfl) pa_nil)) (pa_cons (pe_callC (x_Refuted g (hr.mono (by decide))) (by rfl) (q_Refuted g) (kc_Refuted g) (pa_cons (pv_ (i := 2) rfl) pa_nil)) (pa_cons (pe_callC (x_Driven g (hr.mono (by decide))) (by rfl) (q_Driven g) (kc_Driven g) (pa_cons (pv_ (i := 3) rfl) pa_nil)) pa_nil)))))))
    (pss_cons (ps_expr (pe_bm PySem.F.plainAttrs_list PySem.F.slot_list_append PySem.F.type_list_append mt_append (pv_ (i := 4) rfl) (pa_cons (pe_callC (x_NothingToUndo g (hr.mono (by decide))) (by rfl) (q_NothingToUndo g) (kc_NothingToUndo g) (pa_cons (pv_ (i := 1) rfl) pa_nil)) pa_nil)))
    (pss_cons (ps_set (i := 5) nd rfl (by first | exact .inl rfl | exact .inr rfl) (pe_lst (pa_cons (pe_lst (pa_cons pe_bl (pa_cons pe_bl (pa_cons pe_bl (pa_cons pe_bl (pa_cons pe_bl (pa_cons pe_bl (pa_cons pe_bl pa_nil)))))))) (pa_cons (pe_lst (pa_cons pe_bl (pa_cons pe_bl (pa_cons pe_bl (pa_cons pe_bl (pa_cons pe_bl (pa_cons pe_bl (pa_cons pe_bl pa_nil)))))))) pa_nil))))
    (pss_cons (ps_set (i := 5) nd rfl (by first | exact .inl rfl | exact .inr rfl) (pe_op op_addU (pv_ (i := 5) rfl) (pe_lst (pa_cons (pe_lst (pa_cons pe_bl (pa_cons pe_bl (pa_cons pe_bl (pa_cons pe_bl (pa_cons pe_bl (pa_cons pe_bl (pa_cons pe_bl pa_nil)))))))) (pa_cons (pe_lst (pa_cons pe_bl (pa_cons pe_bl (pa_cons pe_bl (pa_cons pe_bl (pa_cons pe_bl (pa_cons pe_bl (pa_cons pe_bl pa_nil)))))))) pa_nil)))))
    (pss_cons (ps_set (i := 5) nd rfl (by first | exact .inl rfl | exact .inr rfl) (pe_op op_addU (pv_ (i := 5) rfl) (pe_lst (pa_cons (pe_lst (pa_cons pe_bl (pa_cons pe_bl (pa_cons pe_bl (pa_cons pe_bl (pa_cons pe_bl (pa_cons pe_bl (pa_cons pe_bl pa_nil)))))))) (pa_cons (pe_op op_addU (pe_op op_mulU (pe_lst (pa_cons pe_bl pa_nil)) pe_int) (pe_lst (pa_cons pe_bl pa_nil))) pa_nil)))))
    (pss_cons (ps_for PassesOwn.never rfl (pi_hb (pi_enumA (by rfl) (q_enumerate g) (pa_cons (pv_ (i := 4) rfl) pa_nil))) (pg_tup rfl (pgs_cons (pg_name (i := 6) nd rfl (by first | exact .inl rfl | exact .inr rfl)) (pgs_cons (pg_name (i := 7) nd rfl (by first | exact .inl rfl | exact .inr rfl)) pgs_nil))) (pss_cons (ps_if (pw_or (pt_val (pe_callB call_isU (by rfl) (q_isinstance g) (by decide +kernel) (pa_cons (pv_ (i := 7) rfl) (pa_cons (pe_glob (v := .ref (He.ga K "PlanError")) (by rfl) (q_PlanError g) rfl) pa_nil)))) (pw_or1 (pt_cmpR (op_neU hu) (pe_callG h__law_others gd (hr.mono (by decide)) (by rfl) (q__law_others g) (k__law_others g) ps0 (pa_cons (pv_ (i := 7) rfl) pa_nil)) (pe_lc (own := [(Str.ofString "other", 9)]) rfl nd (pi_range1 (by rfl) (q_range g) (pa_cons pe_int pa_nil)) (blkOk_by (N := N__law_values_right) (sc := d__law_values_right.scope) (own := [(Str.ofString "other", 9)]) (by decide +kernel)) (fun _ _ _ _ _ => (pg_name (i := 9) nd rfl (by first | exact .inl rfl | exact .inr rfl))) (fun _ _ _ _ _ => pts_nil) (fun _ _ _ _ _ => (pe_cmpR (op_eqU hu) (pv_ (i := 6) rfl) (pv_ (i := 9) rfl) (nomark _)))) (nomark _)))).pt (pss_one (ps_ret pe_bl)) pss_nil)
    (pss_one (ps_if (pw_or (pt_cmpR (op_neU hu) (pe_callG h__law_kinds gd (hr.mono (by decide)) (by rfl) (q__law_kinds g) (k__law_kinds g) ps0 (pa_cons (pv_ (i := 7) rfl) pa_nil)) (pe_op op_mulU (pe_lst (pa_cons pe_bl pa_nil)) pe_int) (nomark _)) (pw_or1 (pt_cmpR (op_neU hu) (pe_callG h__law_bases gd (hr.mono (by decide)) (by rfl) (q__law_bases g) (k__law_bases g) ps0 (pa_cons (pv_ (i := 7) rfl) pa_nil)) (pe_ix (ix_U hu1) (pv_ (i := 5) rfl) (pv_ (i := 6) rfl) fun _ _ => rfl) (nomark _)))).pt (pss_one (ps_ret pe_bl)) pss_nil))))
    (pss_cons (ps_set (i := 8) nd rfl (by first | exact .inl rfl | exact .inr rfl) (pe_lst (pa_cons (pe_xfl (pe_ix (ix_U hu1) (pv_ (i := 4) rfl) pe_int fun _ _ => rfl)) (pa_cons (pe_xfl (pe_ix (ix_U hu1) (pv_ (i := 4) rfl) pe_int fun _ _ => rfl)) (pa_cons (pe_xfl (pe_ix (ix_U hu1) (pv_ (i := 4) rfl) pe_int fun _ _ => rfl)) (pa_cons (pe_xfl (pe_ix (ix_U hu1) (pv_ (i := 4) rfl) pe_int fun _ _ => rfl)) (pa_cons (pe_xfl (pe_ix (ix_U hu1) (pv_ (i := 4) rfl) pe_int fun _ _ => rfl)) (pa_cons (pe_xfl (pe_ix (ix_U hu1) (pv_ (i := 4) rfl) pe_int fun _ _ => rfl)) pa_nil))))))))
    (pss_one (ps_ret (pe_cmpR (op_eqU hu) (pe_callB (call_reprD (sm g) gd hu66) (by rfl) (q_repr g) (by decide +kernel) (pa_cons (pv_ (i := 8) rfl) pa_nil)) (pe_callB (call_reprD (sm g) gd hu66) (by rfl) (q_repr g) (by decide +kernel) (pa_cons (pe_lst (pa_cons (pv_ (i := 0) rfl) (pa_cons (pv_ (i := 0) rfl) (pa_cons (pv_ (i := 1) rfl) (pa_cons (pv_ (i := 2) rfl) (pa_cons (pv_ (i := 3) rfl) (pa_cons (pv_ (i := 1) rfl) pa_nil))))))) pa_nil)) (nomark _))))))))))), (evs_seq (evs_asg (i := 4) (evm_lst (eva_cons (evm_mk1 (eva_cons evm_var eva_nil)) (eva_cons (evm_mk1 (eva_cons evm_var eva_nil)) (eva_cons (evm_mk1 (eva_cons evm_var eva_nil)) (eva_cons (evm_mk1 (eva_cons evm_var eva_nil)) (eva_cons (evm_mk1 (eva_cons evm_var eva_nil)) eva_nil))))) (by decide)))
    (evs_seq (evs_drop (evm_bm mutm_append (eva_cons (evm_mk1 (eva_cons evm_var eva_nil)) eva_nil)))
    (evs_seq (evs_asg (i := 5) (evm_lst (eva_cons (evm_lst (eva_cons evm_bl (eva_cons evm_bl (eva_cons evm_bl (eva_cons evm_bl (eva_cons evm_bl (eva_cons evm_bl (eva_cons evm_bl eva_nil))))))) (by decide)) (eva_cons (evm_lst (eva_cons evm_bl (eva_cons evm_bl (eva_cons evm_bl (eva_cons evm_bl (eva_cons evm_bl (eva_cons evm_bl (eva_cons evm_bl eva_nil))))))) (by decide)) eva_nil)) (by decide)))
    (evs_seq (evs_asg (i := 5) (evm_op opm_add evm_var (evm_lst (eva_cons (evm_lst (eva_cons evm_bl (eva_cons evm_bl (eva_cons evm_bl (eva_cons evm_bl (eva_cons evm_bl (eva_cons evm_bl (eva_cons evm_bl eva_nil))))))) (by decide)) (eva_cons (evm_lst (eva_cons evm_bl (eva_cons evm_bl (eva_cons evm_bl (eva_cons evm_bl (eva_cons evm_bl (eva_cons evm_bl (eva_cons evm_bl eva_nil))))))) (by decide)) eva_nil)) (by decide))))
    (evs_seq (evs_asg (i := 5) (evm_op opm_add evm_var (evm_lst (eva_cons (evm_lst (eva_cons evm_bl (eva_cons evm_bl (eva_cons evm_bl (eva_cons evm_bl (eva_cons evm_bl (eva_cons evm_bl (eva_cons evm_bl eva_nil))))))) (by decide)) (eva_cons (evm_op opm_add (evm_rep (evm_lst (eva_cons evm_bl eva_nil) (by decide))) (evm_lst (eva_cons evm_bl eva_nil) (by decide))) eva_nil)) (by decide))))
    (evs_seq (evs_for (evi_enum (eva_cons evm_var eva_nil)) (evg_tup (n := 2) (evgs_cons (evg_name (i := 6)) (evgs_cons (evg_name (i := 7)) evgs_nil))) (evs_seq (evs_if (evb_or (evb_B (evm_callB (callm_isU (isa_ok g)) (eva_cons evm_var (eva_cons evm_obj eva_nil)))) (evb_T (evm_op opm_ne (evm_callG (ks := [.B]) (F := m__law_others) (eva_cons evm_var eva_nil) eva_nil rfl rfl) (evm_lc (evi_range1 (eva_cons evm_int eva_nil)) (evg_name (i := 9)) evb_yes (evm_op opm_eq evm_var evm_var))))) (evs_ret evm_bl) evs_next)
    (evs_if (evb_or (evb_T (evm_op opm_ne (evm_callG (ks := [.B]) (F := m__law_kinds) (eva_cons evm_var eva_nil) eva_nil rfl rfl) (evm_rep (evm_lst (eva_cons evm_bl eva_nil) (by decide))))) (evb_T (evm_op opm_ne (evm_callG (ks := [.B]) (F := m__law_bases) (eva_cons evm_var eva_nil) eva_nil rfl rfl) (evm_op opm_ix evm_var evm_var)))) (evs_ret evm_bl) evs_next)))
    (evs_seq (evs_asg (i := 8) (evm_lst (eva_cons (evm_xfl (fl_ok g) (evm_op opm_ix evm_var evm_int)) (eva_cons (evm_xfl (fl_ok g) (evm_op opm_ix evm_var evm_int)) (eva_cons (evm_xfl (fl_ok g) (evm_op opm_ix evm_var evm_int)) (eva_cons (evm_xfl (fl_ok g) (evm_op opm_ix evm_var evm_int)) (eva_cons (evm_xfl (fl_ok g) (evm_op opm_ix evm_var evm_int)) (eva_cons (evm_xfl (fl_ok g) (evm_op opm_ix evm_var evm_int)) eva_nil)))))) (by decide)))
    (evs_ret (evm_op opm_eq (evm_callB callm_repr (eva_cons evm_var eva_nil)) (evm_callB callm_repr (eva_cons (evm_lst (eva_cons evm_var (eva_cons evm_var (eva_cons evm_var (eva_cons evm_var (eva_cons evm_var (eva_cons evm_var eva_nil)))))) (by decide)) eva_nil)))))))))))⟩
theorem g__law_values_right (g : Gm K mg) (h__law_bases : FnG P w K mg base CX0 1 (He.ga K "_law_bases") 1 [] (spF K 1 m__law_bases)) (h__law_kinds : FnG P w K mg base CX0 1 (He.ga K "_law_kinds") 1 [] (spF K 1 m__law_kinds)) (h__law_others : FnG P w K mg base CX0 1 (He.ga K "_law_others") 1 [] (spF K 1 m__law_others)) : FnG P w K mg base CX0 3 (He.ga K "_law_values_right") 4 [] (spF K 4 m__law_values_right) := by
  obtain ⟨fd, F⟩ := d__law_values_right_ g
  refine fnG_of (n := 4) (ks := []) (sp0 := spF K 4 m__law_values_right) (ps := ["value", "number", "paper", "table"]) F S__law_values_right (fun vs => vs) (fun st us ws vs zs _ r1 r2 l1 l2 => ?_) (fun vs H Q E h => spF_len _ _ _ _ h) fun cdv A fr s H vs Q E gd hr h => ?_
  · cases r2 with
    | nil =>
      refine ⟨us, F.bindsA (fun _ _ _ _ _ _ us hl => match us, hl with | [_, _, _, _], _ => rfl) st us (r1.length.symm.trans l1), by rw [List.append_nil]; exact r1⟩
    | cons _ _ => cases l2
  · obtain ⟨t, p, e⟩ := b__law_values_right g h__law_bases h__law_kinds h__law_others cdv A fr s H E gd hr
    exact ⟨t, p, body_ok e h⟩
end
/-! ### law -/
def N_law : List Str := ["script", "at", "stream", "text", "odd", "number", "table", "rows", "paper", "turn"]
theorem S_law : FnScope N_law ["script"] d_law.scope := ⟨rfl, rfl, rfl, by decide +kernel, rfl, by decide +kernel, by decide +kernel⟩
section
variable {P : Program} {w : World} {K : PySem.W.Frag} {mg : Str → Option Value} {base : Heap}
theorem b_law (g : Gm K mg) (h__law_draw : FnG P w K mg base CX0 1 (He.ga K "_law_draw") 2 [] (spF K 2 m__law_draw)) (h__law_messages_right : FnG P w K mg base CX0 2 (He.ga K "_law_messages_right") 1 [] (spF K 1 m__law_messages_right)) (h__law_pick : FnG P w K mg base CX0 2 (He.ga K "_law_pick") 2 [] (spF K 2 m__law_pick)) (h__law_stream : FnG P w K mg base CX0 1 (He.ga K "_law_stream") 2 [] (spF K 2 m__law_stream)) (h__law_values_right : FnG P w K mg base CX0 3 (He.ga K "_law_values_right") 4 [] (spF K 4 m__law_values_right)) (cdv : Value) (A : Around) (fr : List PySem.Env) (s : Shared) (H : Hp) (E : XK) (gd0 : A.guards = some []) (hr : Room 3 (A.deeper (envOfC "law" d_law.scope s.heap.objs.size (He.ga K "law") cdv))) :
    ∃ t, PSs (cxOf CX0 P w K mg base N_law "law" d_law.scope (He.ga K "law") cdv A fr s H E) d_law.body t ∧ EvS K (fun _ => E) t mb_law := by
  have gd : (A.deeper (envOfC "law" d_law.scope s.heap.objs.size (He.ga K "law") cdv)).guards = some [] := gd0
  have hu66 : (A.deeper (envOfC "law" d_law.scope s.heap.objs.size (He.ga K "law") cdv)).units + 66 < cLine := by have := hr.un; omega
  have hu : (A.deeper (envOfC "law" d_law.scope s.heap.objs.size (He.ga K "law") cdv)).units + 64 < cLine := by omega
  have hu1 : (A.deeper (envOfC "law" d_law.scope s.heap.objs.size (He.ga K "law") cdv)).units + 1 < cLine := by omega
  have nd := S_law.nd
  exact ⟨_, PSs.nox (pss_cons (ps_for PassesOwn.never rfl (pi_range1 (by rfl) (q_range g) (pa_cons (pe_callB (call_max2Z rfl) (by rfl) (q_max g) (by decide +kernel) (pa_cons pe_int (pa_cons (pe_callB (call_min2Z rfl) (by rfl) (q_min g) (by decide +kernel) (pa_cons pe_int (pa_cons (pe_callB call_lenU (by rfl) (q_len g) (by decide +kernel) (pa_cons (pv_ (i := 0) rfl) pa_nil)) pa_nil))) pa_nil))) pa_nil)) (pg_name (i := 1) nd rfl (by first | exact .inl rfl | exact .inr rfl)) (pss_cons (ps_set (i := 2) nd rfl (by first | exact .inl rfl | exact .inr rfl) (pe_callG h__law_stream gd (hr.mono (by decide)) (by rfl) (q__law_stream g) (k__law_stream g) ps0 (pa_cons (pv_ (i := 0) rfl) (pa_cons (pv_ (i := 1) rfl) pa_nil))))
    (pss_cons (ps_set (i := 3) nd rfl (by first | exact .inl rfl | exact .inr rfl) (pe_join pe_str (pe_lc (own := [(Str.ofString "turn", 9)]) rfl nd (pi_range1 (by rfl) (q_range g) (pa_cons (pe_callG h__law_draw gd (hr.mono (by decide)) (by rfl) (q__law_draw g) (k__law_draw g) ps0 (pa_cons (pv_ (i := 2) rfl) (pa_cons pe_int pa_nil))) pa_nil)) (blkOk_by (N := N_law) (sc := d_law.scope) (own := [(Str.ofString "turn", 9)]) (by decide +kernel)) (fun _ _ _ _ _ => (pg_name (i := 9) nd rfl (by first | exact .inl rfl | exact .inr rfl))) (fun _ _ _ _ _ => pts_nil) (fun _ _ _ _ _ => (pe_callG h__law_pick gd (hr.mono (by decide)) (by rfl) (q__law_pick g) (k__law_pick g) ps0 (pa_cons (pv_ (i := 2) rfl) (pa_cons (pe_lst (pa_cons pe_str (pa_cons pe_str (pa_cons pe_str (pa_cons pe_str (pa_cons pe_str pa_nil)))))) pa_nil)))))))
    (pss_cons (ps_set (i := 4) nd rfl (by first | exact .inl rfl | exact .inr rfl) (pe_callG h__law_pick gd (hr.mono (by decide)) (by rfl) (q__law_pick g) (k__law_pick g) ps0 (pa_cons (pv_ (i := 2) rfl) (pa_cons (pe_lst (pa_cons pe_int (pa_cons (pe_un un_neg pe_int) (pa_cons (pe_op op_powX pe_int pe_int) (pa_cons pe_str (pa_cons pe_str (pa_cons (pe_tup pa_nil) (pa_cons pe_non (pa_cons pe_bl (pa_cons (pe_tup (pa_cons pe_int (pa_cons pe_int pa_nil))) (pa_cons (pe_lst (pa_cons pe_int pa_nil)) (pa_cons (pe_disp (pps_cons pe_str pe_int pps_nil) rfl rfl (by simp) (by decide)) pa_nil)))))))))))) pa_nil))))
    (pss_cons (ps_par (i := 5) (j := 6) rfl nd rfl rfl (by decide) rfl rfl (pa_cons (pe_callG h__law_pick gd (hr.mono (by decide)) (by rfl) (q__law_pick g) (k__law_pick g) ps0 (pa_cons (pv_ (i := 2) rfl) (pa_cons (pe_lst (pa_cons pe_int (pa_cons pe_int (pa_cons pe_int (pa_cons pe_int (pa_cons pe_int pa_nil)))))) pa_nil))) (pa_cons (pe_dispT (Nat.lt_of_le_of_lt (Nat.le_add_right _ _) hu1) (pps_cons (pe_tup (pa_cons pe_str (pa_cons pe_str pa_nil))) pe_int pps_nil) rfl rfl (by simp) (by decide)) pa_nil)) rfl)
    (pss_cons (ps_set (i := 7) nd rfl (by first | exact .inl rfl | exact .inr rfl) (pe_tup (pa_cons (pe_tup (pa_cons (pe_tup (pa_cons pe_str (pa_cons pe_str (pa_cons pe_str pa_nil)))) (pa_cons (pe_un un_neg pe_int) (pa_cons pe_str (pa_cons (pe_tup pa_nil) pa_nil))))) (pa_cons (pe_tup (pa_cons (pe_tup (pa_cons pe_str (pa_cons pe_str (pa_cons pe_str pa_nil)))) (pa_cons pe_int (pa_cons pe_str (pa_cons (pe_tup pa_nil) pa_nil))))) pa_nil))))
    (pss_cons (ps_set (i := 8) nd rfl (by first | exact .inl rfl | exact .inr rfl) (pe_callG h__law_pick gd (hr.mono (by decide)) (by rfl) (q__law_pick g) (k__law_pick g) ps0 (pa_cons (pv_ (i := 2) rfl) (pa_cons (pe_lst (pa_cons (pe_tup (pa_cons pe_int pa_nil)) (pa_cons (pe_tup (pa_cons pe_int (pa_cons pe_int pa_nil))) (pa_cons (pe_tup (pa_cons pe_int (pa_cons pe_int (pa_cons pe_int pa_nil)))) (pa_cons (pe_tup (pa_cons pe_str (pa_cons (pv_ (i := 7) rfl) (pa_cons (pe_tup (pa_cons pe_int (pa_cons pe_int pa_nil))) pa_nil)))) (pa_cons (pe_tup (pa_cons pe_str (pa_cons (pv_ (i := 7) rfl) (pa_cons (pe_tup (pa_cons pe_int (pa_cons pe_int pa_nil))) pa_nil)))) pa_nil)))))) pa_nil))))
    (pss_cons (ps_if (pt_not (pt_val (pe_callG h__law_values_right gd (hr.mono (by decide)) (by rfl) (q__law_values_right g) (k__law_values_right g) ps0 (pa_cons (pv_ (i := 4) rfl) (pa_cons (pv_ (i := 5) rfl) (pa_cons (pv_ (i := 8) rfl) (pa_cons (pe_tup (pa_cons pe_str (pa_cons (pv_ (i := 6) rfl) (pa_cons pe_dnewK (pa_cons (pe_disp (pps_cons pe_str pe_int pps_nil) rfl rfl (by simp) (by decide)) pa_nil))))) pa_nil))))))) (pss_one (ps_ret pe_bl)) pss_nil)
    (pss_one (ps_if (pt_not (pt_val (pe_callG h__law_messages_right gd (hr.mono (by decide)) (by rfl) (q__law_messages_right g) (k__law_messages_right g) ps0 (pa_cons (pv_ (i := 3) rfl) pa_nil)))) (pss_one (ps_ret pe_bl)) pss_nil))))))))))
    (pss_one (ps_ret pe_bl))), (evs_seq (evs_for (evi_range1 (eva_cons (evm_callB callm_max2 (eva_cons evm_int (eva_cons (evm_callB callm_min2 (eva_cons evm_int (eva_cons (evm_callB callm_len (eva_cons evm_var eva_nil)) eva_nil))) eva_nil))) eva_nil)) (evg_name (i := 1)) (evs_seq (evs_asg (i := 2) (evm_callG (ks := [.B, .B]) (F := m__law_stream) (eva_cons evm_var (eva_cons evm_var eva_nil)) eva_nil rfl rfl))
    (evs_seq (evs_asg (i := 3) (evm_join (evm_lc (evi_range1 (eva_cons (evm_callG (ks := [.M, .B]) (F := m__law_draw) (eva_cons evm_var (eva_cons evm_int eva_nil)) eva_nil rfl rfl) eva_nil)) (evg_name (i := 9)) evb_yes (evm_callG (ks := [.M, .B]) (F := m__law_pick) (eva_cons evm_var (eva_cons (evm_lst (eva_cons evm_str (eva_cons evm_str (eva_cons evm_str (eva_cons evm_str (eva_cons evm_str eva_nil))))) (by decide)) eva_nil)) eva_nil rfl rfl))))
    (evs_seq (evs_asg (i := 4) (evm_callG (ks := [.M, .B]) (F := m__law_pick) (eva_cons evm_var (eva_cons (evm_lst (eva_cons evm_int (eva_cons (evm_un unm_neg evm_int) (eva_cons (evm_op opm_pow evm_int evm_int) (eva_cons evm_str (eva_cons evm_str (eva_cons (evm_tup eva_nil (by decide)) (eva_cons evm_non (eva_cons evm_bl (eva_cons (evm_tup (eva_cons evm_int (eva_cons evm_int eva_nil)) (by decide)) (eva_cons (evm_lst (eva_cons evm_int eva_nil) (by decide)) (eva_cons (evm_disp (eva_cons evm_str (eva_cons evm_int eva_nil))) eva_nil))))))))))) (by decide)) eva_nil)) eva_nil rfl rfl))
    (evs_seq (evs_par2 (eva_cons (evm_callG (ks := [.M, .B]) (F := m__law_pick) (eva_cons evm_var (eva_cons (evm_lst (eva_cons evm_int (eva_cons evm_int (eva_cons evm_int (eva_cons evm_int (eva_cons evm_int eva_nil))))) (by decide)) eva_nil)) eva_nil rfl rfl) (eva_cons (evm_dispT (eva_cons (evm_tup (eva_cons evm_str (eva_cons evm_str eva_nil)) (by decide)) (eva_cons evm_int eva_nil))) eva_nil)))
    (evs_seq (evs_asg (i := 7) (evm_tup (eva_cons (evm_tup (eva_cons (evm_tup (eva_cons evm_str (eva_cons evm_str (eva_cons evm_str eva_nil))) (by decide)) (eva_cons (evm_un unm_neg evm_int) (eva_cons evm_str (eva_cons (evm_tup eva_nil (by decide)) eva_nil)))) (by decide)) (eva_cons (evm_tup (eva_cons (evm_tup (eva_cons evm_str (eva_cons evm_str (eva_cons evm_str eva_nil))) (by decide)) (eva_cons evm_int (eva_cons evm_str (eva_cons (evm_tup eva_nil (by decide)) eva_nil)))) (by decide)) eva_nil)) (by decide)))
    (evs_seq (evs_asg (i := 8) (evm_callG (ks := [.M, .B]) (F := m__law_pick) (eva_cons evm_var (eva_cons (evm_lst (eva_cons (evm_tup (eva_cons evm_int eva_nil) (by decide)) (eva_cons (evm_tup (eva_cons evm_int (eva_cons evm_int eva_nil)) (by decide)) (eva_cons (evm_tup (eva_cons evm_int (eva_cons evm_int (eva_cons evm_int eva_nil))) (by decide)) (eva_cons (evm_tup (eva_cons evm_str (eva_cons evm_var (eva_cons (evm_tup (eva_cons evm_int (eva_cons evm_int eva_nil)) (by decide)) eva_nil))) (by decide)) (eva_cons (evm_tup (eva_cons evm_str (eva_cons evm_var (eva_cons (evm_tup (eva_cons evm_int (eva_cons evm_int eva_nil)) (by decide)) eva_nil))) (by decide)) eva_nil))))) (by decide)) eva_nil)) eva_nil rfl rfl))
    (evs_seq (evs_if (evb_not (evb_B (evm_callG (ks := [.I, .B, .B, .B]) (F := m__law_values_right) (eva_cons evm_var (eva_cons evm_var (eva_cons evm_var (eva_cons (evm_tup (eva_cons evm_str (eva_cons evm_var (eva_cons evm_dnew (eva_cons (evm_disp (eva_cons evm_str (eva_cons evm_int eva_nil))) eva_nil)))) (by decide)) eva_nil)))) eva_nil rfl rfl))) (evs_ret evm_bl) evs_next)
    (evs_if (evb_not (evb_B (evm_callG (ks := [.B]) (F := m__law_messages_right) (eva_cons evm_var eva_nil) eva_nil rfl rfl))) (evs_ret evm_bl) evs_next)))))))))
    (evs_ret evm_bl))⟩
theorem g_law (g : Gm K mg) (h__law_draw : FnG P w K mg base CX0 1 (He.ga K "_law_draw") 2 [] (spF K 2 m__law_draw)) (h__law_messages_right : FnG P w K mg base CX0 2 (He.ga K "_law_messages_right") 1 [] (spF K 1 m__law_messages_right)) (h__law_pick : FnG P w K mg base CX0 2 (He.ga K "_law_pick") 2 [] (spF K 2 m__law_pick)) (h__law_stream : FnG P w K mg base CX0 1 (He.ga K "_law_stream") 2 [] (spF K 2 m__law_stream)) (h__law_values_right : FnG P w K mg base CX0 3 (He.ga K "_law_values_right") 4 [] (spF K 4 m__law_values_right)) : FnG P w K mg base CX0 4 (He.ga K "law") 1 [] (spF K 1 m_law) := by
  obtain ⟨fd, F⟩ := d_law_ g
  refine fnG_of (n := 1) (ks := []) (sp0 := spF K 1 m_law) (ps := ["script"]) F S_law (fun vs => vs) (fun st us ws vs zs _ r1 r2 l1 l2 => ?_) (fun vs H Q E h => spF_len _ _ _ _ h) fun cdv A fr s H vs Q E gd hr h => ?_
  · cases r2 with
    | nil =>
      refine ⟨us, F.bindsA (fun _ _ _ _ _ _ us hl => match us, hl with | [_], _ => rfl) st us (r1.length.symm.trans l1), by rw [List.append_nil]; exact r1⟩
    | cons _ _ => cases l2
  · obtain ⟨t, p, e⟩ := b_law g h__law_draw h__law_messages_right h__law_pick h__law_stream h__law_values_right cdv A fr s H E gd hr
    exact ⟨t, p, body_ok e h⟩
end
section
variable {P : Program} {w : World} {K : PySem.W.Frag} {mg : Str → Option Value} {base : Heap}
theorem all_law (g : Gm K mg) : FnG P w K mg base CX0 4 (He.ga K "law") 1 [] (spF K 1 m_law) := by
  have h__law_stream := g__law_stream (P := P) (w := w) (base := base) g
  have h__law_draw := g__law_draw (P := P) (w := w) (base := base) g
  have h__law_pick := g__law_pick (P := P) (w := w) (base := base) g h__law_draw
  have h__law_kinds := g__law_kinds (P := P) (w := w) (base := base) g
  have h__law_others := g__law_others (P := P) (w := w) (base := base) g
  have h__law_bases := g__law_bases (P := P) (w := w) (base := base) g
  have h__law_messages_right := g__law_messages_right (P := P) (w := w) (base := base) g h__law_bases h__law_kinds h__law_others
  have h__law_values_right := g__law_values_right (P := P) (w := w) (base := base) g h__law_bases h__law_kinds h__law_others
  exact g_law g h__law_draw h__law_messages_right h__law_pick h__law_stream h__law_values_right
end
end Wk

/-! M0: reckoning with mirrors. -/
namespace Z
open PySem L2
/-- what a def answers -/
def ansF (F : Fn) (ss : List Sl) : Option (Rs Val) := (F ss).map (·.1)
/-- what a def answers that changes its first argument, and that argument then -/
def ansS (F : Fn) (ss : List Sl) : Option (Rs Val × D) := match F ss with
  | some (r, ρc) => match (ρc[0]? : Option (Option Sl)) with
    | some (some (.mrf d)) => some (r, d)
    | _ => none
  | none => none
theorem ansF_of {F : Fn} {ss : List Sl} {r : Rs Val} {ρ : Env} (h : F ss = some (r, ρ)) : ansF F ss = some r := by unfold ansF; rw [h]; rfl
def endA : Option (Rs Fl × Env) → Option (Rs Val)
  | some (.ok (.rt v), ρ) => (leave ρ v).map .ok
  | some (.ok .nx, _) => some (.ok (.imm .non))
  | some (.err x, _) => some (.err x)
  | _ => none
def top0 (ρ : Env) (r : Rs Val) : Option (Rs Val × D) := match (ρ[0]? : Option (Option Sl)) with
  | some (some (.mrf d)) => some (r, d)
  | _ => none
def endS : Option (Rs Fl × Env) → Option (Rs Val × D)
  | some (.ok (.rt v), ρ) => (leave ρ v).bind fun w => top0 ρ (.ok w)
  | some (.ok .nx, ρ) => top0 ρ (.ok (.imm .non))
  | some (.err x, ρ) => top0 ρ (.err x)
  | _ => none
theorem ansF_mk {n : Nat} {body : M Fl} {ss : List Sl} : ansF (mkFn n body) ss = endA (body (ss.map some ++ List.replicate (n - ss.length) none)) := by
  unfold ansF mkFn
  cases body (ss.map some ++ List.replicate (n - ss.length) none) with
  | none => rfl
  | some p =>
    obtain ⟨r, ρ⟩ := p
    cases r with
    | err x => rfl
    | ok f =>
      cases f with
      | nx => rfl
      | bk => rfl
      | ct => rfl
      | rt v => simp only [endA]; cases leave ρ v <;> rfl
theorem ansS_mk {n : Nat} {body : M Fl} {ss : List Sl} : ansS (mkFn n body) ss = endS (body (ss.map some ++ List.replicate (n - ss.length) none)) := by
  unfold ansS mkFn
  cases body (ss.map some ++ List.replicate (n - ss.length) none) with
  | none => rfl
  | some p =>
    obtain ⟨r, ρ⟩ := p
    cases r with
    | err x => rfl
    | ok f =>
      cases f with
      | nx => rfl
      | bk => rfl
      | ct => rfl
      | rt v => simp only [endS]; cases leave ρ v <;> rfl
theorem keepI_nil : keepI [] [] = Z.ret () := rfl
theorem keepI_B {ks : List Kd} {v : Val} {vs : List Val} : keepI (.B :: ks) (v :: vs) = keepI ks vs := rfl
theorem keepI_M {ks : List Kd} {v : Val} {vs : List Val} : keepI (.M :: ks) (v :: vs) = keepI ks vs := rfl
theorem keepI_I {ks : List Kd} {v : Val} {vs : List Val} : keepI (.I :: ks) (v :: vs) = Z.bnd (share v) fun _ => keepI ks vs := rfl
def noM (ks : List Kd) : Bool := ks.all fun k => decide (k ≠ .M)
theorem lentS_noM : ∀ {ks : List Kd} {vals : List Val}, noM ks = true → lentS ks vals = []
  | [], _, _ => by cases ‹List Val› <;> rfl
  | k :: ks, [], h => by cases k <;> rfl
  | k :: ks, v :: vs, h => by
    unfold noM at h
    rw [List.all_cons, Bool.and_eq_true] at h
    cases k with
    | M => simp at h
    | I => exact lentS_noM (ks := ks) h.2
    | B => exact lentS_noM (ks := ks) h.2
theorem backS_noM {ρc : Env} : ∀ {ks : List Kd} {vals : List Val} {j : Nat} {ρ : Env}, noM ks = true → backS j ks vals ρc ρ = some ρ
  | [], _, _, _, _ => by cases ‹List Val› <;> rfl
  | k :: ks, [], _, _, h => by cases k <;> rfl
  | k :: ks, v :: vs, j, ρ, h => by
    unfold noM at h
    rw [List.all_cons, Bool.and_eq_true] at h
    cases k with
    | M => simp at h
    | I => exact backS_noM (ks := ks) h.2
    | B => exact backS_noM (ks := ks) h.2
theorem apart_nil : ∀ {ks : List Kd} {vals : List Val}, apart [] ks vals = true
  | [], _ => by cases ‹List Val› <;> rfl
  | k :: ks, [] => by cases k <;> rfl
  | k :: ks, v :: vs => by
    cases k with
    | I => exact apart_nil (ks := ks)
    | M => exact apart_nil (ks := ks)
    | B => cases v with
      | slot i => show (!([] : List Nat).contains i && apart [] ks vs) = true; rw [apart_nil]; rfl
      | imm d => exact apart_nil (ks := ks)
      | own d => exact apart_nil (ks := ks)
theorem callV_nM {ks : List Kd} {F : Fn} {vals : List Val} {ρ : Env} (h : noM ks = true) : callV ks F vals ρ = (argS ρ ks vals).bind fun ss => (ansF F ss).map fun r => (r, ρ) := by
  unfold callV
  rw [lentS_noM h, if_pos ⟨List.nodup_nil, apart_nil⟩]
  cases argS ρ ks vals with
  | none => rfl
  | some ss =>
    simp only [Option.bind_some]
    unfold ansF
    cases F ss with
    | none => rfl
    | some p => obtain ⟨r, ρc⟩ := p; simp only [backS_noM h]; rfl
theorem callV_B {ks : List Kd} {F : Fn} {vals : List Val} {ρ : Env} (h : noM ks = true := by rfl) : callV (.B :: ks) F vals ρ = (argS ρ (.B :: ks) vals).bind fun ss => (ansF F ss).map fun r => (r, ρ) := callV_nM (by unfold noM at h ⊢; rw [List.all_cons, h]; rfl)
theorem callV_M {ks : List Kd} {F : Fn} {i : Nat} {vals : List Val} {ρ : Env} (h : noM ks = true := by rfl) : callV (.M :: ks) F (.slot i :: vals) ρ =
    if apart [i] ks vals = true then match ρ[i]? with
      | some (some s) => if s.isM = true then (argS ρ ks vals).bind fun ss => (ansS F (.mrf s.d :: ss)).map fun p => (p.1, ρ.set i (some (s.put p.2))) else none
      | _ => none
    else none := by
  unfold callV
  have e1 : lentS (.M :: ks) (.slot i :: vals) = [i] := by
    show i :: lentS ks vals = [i]
    rw [lentS_noM h]
  have e2 : apart [i] (.M :: ks) (.slot i :: vals) = apart [i] ks vals := rfl
  rw [e1, e2]
  by_cases ha : apart [i] ks vals = true
  · rw [if_pos ⟨by simp, ha⟩, if_pos ha]
    have ea : argS ρ (.M :: ks) (.slot i :: vals) = match ρ[i]?, argS ρ ks vals with
      | some (some (.own d)), some ss => some (.mrf d :: ss)
      | some (some (.mrf d)), some ss => some (.mrf d :: ss)
      | _, _ => none := rfl
    rw [ea]
    cases q : ρ[i]? with
    | none => rfl
    | some y =>
      cases y with
      | none => rfl
      | some s =>
        cases s with
        | imm d => simp [Sl.isM]
        | bor d => simp [Sl.isM]
        | own d =>
          simp only [Sl.isM, if_true]
          cases argS ρ ks vals with
          | none => rfl
          | some ss =>
            simp only [Option.bind_some, Sl.d]
            unfold ansS
            cases F (.mrf d :: ss) with
            | none => rfl
            | some p =>
              obtain ⟨r, ρc⟩ := p
              simp only
              have eb : backS 0 (.M :: ks) (.slot i :: vals) ρc ρ = match (ρc[0]? : Option (Option Sl)), (ρ[i]? : Option (Option Sl)) with
                | some (some (.mrf d)), some (some (.own _)) => backS 1 ks vals ρc (ρ.set i (some (.own d)))
                | some (some (.mrf d)), some (some (.mrf _)) => backS 1 ks vals ρc (ρ.set i (some (.mrf d)))
                | _, _ => none := rfl
              rw [eb, q]
              cases ρc[0]? with
              | none => rfl
              | some z => cases z with
                | none => rfl
                | some t => cases t <;> simp [backS_noM h, Sl.put]
        | mrf d =>
          simp only [Sl.isM, if_true]
          cases argS ρ ks vals with
          | none => rfl
          | some ss =>
            simp only [Option.bind_some, Sl.d]
            unfold ansS
            cases F (.mrf d :: ss) with
            | none => rfl
            | some p =>
              obtain ⟨r, ρc⟩ := p
              simp only
              have eb : backS 0 (.M :: ks) (.slot i :: vals) ρc ρ = match (ρc[0]? : Option (Option Sl)), (ρ[i]? : Option (Option Sl)) with
                | some (some (.mrf d)), some (some (.own _)) => backS 1 ks vals ρc (ρ.set i (some (.own d)))
                | some (some (.mrf d)), some (some (.mrf _)) => backS 1 ks vals ρc (ρ.set i (some (.mrf d)))
                | _, _ => none := rfl
              rw [eb, q]
              cases ρc[0]? with
              | none => rfl
              | some z => cases z with
                | none => rfl
                | some t => cases t <;> simp [backS_noM h, Sl.put]
  · rw [if_neg (fun z => ha z.2), if_neg ha]
/-! loops -/
/-- a loop that runs to its end -/
theorem forL_run {g : D → M Unit} {body : M Fl} (J : Nat → Env → Prop) : ∀ (ds : List D) (n : Nat) (ρ : Env), J n ρ →
    (∀ i d ρ, ds[i]? = some d → J (n + i) ρ → ∃ ρ1 ρ2, g d ρ = some (.ok (), ρ1) ∧ body ρ1 = some (.ok .nx, ρ2) ∧ J (n + i + 1) ρ2) → ∃ ρ', forL g body ds ρ = some (.ok .nx, ρ') ∧ J (n + ds.length) ρ'
  | [], n, ρ, h, _ => ⟨ρ, rfl, h⟩
  | d :: ds, n, ρ, h, k => by
    obtain ⟨ρ1, ρ2, h1, h2, h3⟩ := k 0 d ρ rfl h
    obtain ⟨ρ', h4, h5⟩ := forL_run J ds (n + 1) ρ2 h3 fun i d ρ e q => by
      obtain ⟨r1, r2, a, b, c⟩ := k (i + 1) d ρ (by simpa using e) (by rw [show n + (i + 1) = n + 1 + i by omega]; exact q)
      exact ⟨r1, r2, a, b, by rw [show n + 1 + i + 1 = n + (i + 1) + 1 by omega]; exact c⟩
    refine ⟨ρ', ?_, by rw [List.length_cons, show n + (ds.length + 1) = n + 1 + ds.length by omega]; exact h5⟩
    unfold forL tgt Z.bnd
    rw [h1]
    simp only [h2]
    exact h4
/-- the items of a comprehension, one behind another -/
theorem lcL_run {vs : List Nat} {g : D → M Unit} {c : M Bool} {e : M Val} (J : Nat → List D → Env → Prop) : ∀ (ds : List D) (n : Nat) (acc : List D) (ρ : Env), J n acc ρ →
    (∀ i d acc ρ, ds[i]? = some d → J (n + i) acc ρ → ∃ ρ1 b ρ2, g d (wipeE ρ vs) = some (.ok (), ρ1) ∧ c ρ1 = some (.ok b, ρ2) ∧
      ((b = true ∧ ∃ v ρ3 x ρ4, e ρ2 = some (.ok v, ρ3) ∧ share v ρ3 = some (.ok x, ρ4) ∧ J (n + i + 1) (acc ++ [x]) ρ4) ∨ (b = false ∧ J (n + i + 1) acc ρ2))) →
    ∃ out ρ', lcL vs g c e ds ρ = some (.ok out, ρ') ∧ J (n + ds.length) (acc ++ out) ρ'
  | [], n, acc, ρ, h, _ => ⟨[], ρ, rfl, by simpa using h⟩
  | d :: ds, n, acc, ρ, h, k => by
    obtain ⟨ρ1, b, ρ2, h1, h2, h3⟩ := k 0 d acc ρ rfl h
    have rest : ∀ acc ρ, J (n + 1) acc ρ → ∃ out ρ', lcL vs g c e ds ρ = some (.ok out, ρ') ∧ J (n + (d :: ds).length) (acc ++ out) ρ' := fun acc ρ q => by
      obtain ⟨out, ρ', h4, h5⟩ := lcL_run J ds (n + 1) acc ρ q fun i d acc ρ e q => by
        have := k (i + 1) d acc ρ (by simpa using e) (by rw [show n + (i + 1) = n + 1 + i by omega]; exact q)
        rw [show n + (i + 1) + 1 = n + 1 + i + 1 by omega] at this
        exact this
      exact ⟨out, ρ', h4, by rw [List.length_cons, show n + (ds.length + 1) = n + 1 + ds.length by omega]; exact h5⟩
    rcases h3 with ⟨rfl, v, ρ3, x, ρ4, h4, h5, h6⟩ | ⟨rfl, h6⟩
    · obtain ⟨out, ρ', h7, h8⟩ := rest _ _ h6
      refine ⟨x :: out, ρ', ?_, by rw [List.append_assoc] at h8; exact h8⟩
      unfold lcL tgt Z.bnd
      rw [h1]
      simp only [h2, if_true]
      rw [h4]
      simp only
      rw [h5]
      simp only
      rw [h7]
      rfl
    · obtain ⟨out, ρ', h7, h8⟩ := rest _ _ h6
      refine ⟨out, ρ', ?_, h8⟩
      unfold lcL tgt Z.bnd
      rw [h1]
      simp only [h2, Bool.false_eq_true, if_false]
      exact h7
/-- a comprehension whose items are reckoned apart, all else as it was -/
theorem lc_map {vs : List Nat} {g : D → M Unit} {c : M Bool} {e : M Val} {f : D → Option D} {ρ : Env} (P : D → Prop) (ds : List D) (hs : (vs.all fun v => safeS ρ[v]?) = true) (hp : ∀ d ∈ ds, P d)
    (h : ∀ d ρ', P d → ρ'.length = ρ.length → (∀ j, j ∉ vs → ρ'[j]? = ρ[j]?) → ∃ ρ1 b ρ2, g d (wipeE ρ' vs) = some (.ok (), ρ1) ∧ c ρ1 = some (.ok b, ρ2) ∧
      ((b = true ∧ ∃ v ρ3 x ρ4, e ρ2 = some (.ok v, ρ3) ∧ share v ρ3 = some (.ok x, ρ4) ∧ f d = some x ∧ ρ4.length = ρ.length ∧ ∀ j, j ∉ vs → ρ4[j]? = ρ[j]?) ∨ (b = false ∧ f d = none ∧ ρ2.length = ρ.length ∧ ∀ j, j ∉ vs → ρ2[j]? = ρ[j]?))) :
    lcEnd vs g c e ds ρ = some (.ok (.own (.lst (ds.filterMap f))), ρ) := by
  unfold lcEnd
  rw [if_pos hs]
  obtain ⟨out, ρ', h1, h2, h3, h4⟩ := lcL_run (vs := vs) (g := g) (c := c) (e := e) (fun n acc ρ' => ρ'.length = ρ.length ∧ (∀ j, j ∉ vs → ρ'[j]? = ρ[j]?) ∧ acc = (ds.take n).filterMap f) ds 0 [] ρ ⟨rfl, fun _ _ => rfl, rfl⟩ fun i d acc ρ' ed ⟨l, a, ac⟩ => by
    obtain ⟨ρ1, b, ρ2, q1, q2, q3⟩ := h d ρ' (hp d (List.mem_of_getElem? ed)) l a
    have et : ds.take (0 + i + 1) = ds.take (0 + i) ++ [d] := by rw [Nat.zero_add, List.take_add_one, ed]; rfl
    refine ⟨ρ1, b, ρ2, q1, q2, ?_⟩
    rcases q3 with ⟨rfl, v, ρ3, x, ρ4, r1, r2, r3, r4, r5⟩ | ⟨rfl, r3, r4, r5⟩
    · exact .inl ⟨rfl, v, ρ3, x, ρ4, r1, r2, r4, r5, by rw [ac, et, List.filterMap_append]; simp [r3]⟩
    · exact .inr ⟨rfl, r4, r5, by rw [ac, et, List.filterMap_append]; simp [r3]⟩
  rw [h1]
  simp only [List.nil_append, Nat.zero_add, List.take_length] at h4
  subst h4
  have er : restE ρ ρ' vs = ρ := by
    have key : ∀ (us : List Nat), (restE ρ ρ' us).length = ρ.length ∧ ∀ j, (restE ρ ρ' us)[j]? = if j ∈ us then ρ[j]? else ρ'[j]? := fun us => by
      induction us with
      | nil => exact ⟨h2, fun j => by simp [restE]⟩
      | cons u us ih =>
        refine ⟨by rw [restE, List.length_set]; exact ih.1, fun j => ?_⟩
        rw [restE, List.getElem?_set]
        by_cases e : u = j
        · subst e
          rw [if_pos rfl, if_pos List.mem_cons_self, ih.1]
          by_cases lt : u < ρ.length
          · rw [if_pos lt, List.getD_eq_getElem?_getD, List.getElem?_eq_getElem lt]; rfl
          · rw [if_neg lt, List.getElem?_eq_none_iff.mpr (by omega)]
        · rw [if_neg e, ih.2 j]
          by_cases m : j ∈ us
          · rw [if_pos m, if_pos (List.mem_cons_of_mem _ m)]
          · rw [if_neg m, if_neg (fun z => (List.mem_cons.mp z).elim (fun q => e q.symm) m)]
    apply List.ext_getElem?
    intro j
    rw [(key vs).2 j]
    by_cases m : j ∈ vs
    · rw [if_pos m]
    · rw [if_neg m]; exact h3 j m
  show some (Rs.ok (Val.own (D.lst _)), restE ρ ρ' vs) = _
  rw [er]
end Z
namespace Z
theorem env_one {ρ ρ' : Env} {i : Nat} (l : ρ'.length = ρ.length) (h : ∀ j, j ∉ [i] → ρ'[j]? = ρ[j]?) : ∃ y, ρ' = ρ.set i y := by
  refine ⟨ρ'.getD i none, List.ext_getElem? fun j => ?_⟩
  rw [List.getElem?_set]
  by_cases e : i = j
  · subst e
    rw [if_pos rfl]
    by_cases lt : i < ρ.length
    · rw [if_pos lt, List.getD_eq_getElem?_getD, List.getElem?_eq_getElem (by omega)]; rfl
    · rw [if_neg lt, List.getElem?_eq_none_iff.mpr (by omega)]
  · rw [if_neg e]; exact h j (by simp; omega)
theorem env_two {ρ ρ' : Env} {i k : Nat} (l : ρ'.length = ρ.length) (h : ∀ j, j ∉ [i, k] → ρ'[j]? = ρ[j]?) : ∃ y z, ρ' = (ρ.set i y).set k z := by
  refine ⟨ρ'.getD i none, ρ'.getD k none, List.ext_getElem? fun j => ?_⟩
  rw [List.getElem?_set, List.getElem?_set, List.length_set]
  by_cases e : k = j
  · subst e
    rw [if_pos rfl]
    by_cases lt : k < ρ.length
    · rw [if_pos lt, List.getD_eq_getElem?_getD, List.getElem?_eq_getElem (by omega)]; rfl
    · rw [if_neg lt, List.getElem?_eq_none_iff.mpr (by omega)]
  · rw [if_neg e]
    by_cases e2 : i = j
    · subst e2
      rw [if_pos rfl]
      by_cases lt : i < ρ.length
      · rw [if_pos lt, List.getD_eq_getElem?_getD, List.getElem?_eq_getElem (by omega)]; rfl
      · rw [if_neg lt, List.getElem?_eq_none_iff.mpr (by omega)]
    · rw [if_neg e2]; exact h j (by simp; omega)
end Z
namespace Z
open PySem L2
/-- one turn of a comprehension -/
def lcStep (vs : List Nat) (g : D → M Unit) (c : M Bool) (e : M Val) (d : D) : M (Option D) := fun ρ =>
  tgt (g d) (Z.bnd c fun b => if b = true then Z.bnd e fun v => Z.bnd (share v) fun x => Z.ret (some x) else Z.ret none) (wipeE ρ vs)
theorem lcStep_run {vs : List Nat} {g : D → M Unit} {c : M Bool} {e : M Val} {d : D} {ρ ρ4 : Env} {r : Option D} (h : lcStep vs g c e d ρ = some (.ok r, ρ4)) :
    ∃ ρ1 b ρ2, g d (wipeE ρ vs) = some (.ok (), ρ1) ∧ c ρ1 = some (.ok b, ρ2) ∧ ((b = true ∧ ∃ v ρ3 x, e ρ2 = some (.ok v, ρ3) ∧ share v ρ3 = some (.ok x, ρ4) ∧ r = some x) ∨ (b = false ∧ r = none ∧ ρ4 = ρ2)) := by
  unfold lcStep at h
  obtain ⟨ρ1, h1, h2⟩ := tgt_ok h
  obtain ⟨b, ρ2, h3, h4⟩ := bnd_ok h2
  refine ⟨ρ1, b, ρ2, h1, h3, ?_⟩
  cases b with
  | true =>
    simp only [if_true] at h4
    obtain ⟨v, ρ3, h5, h6⟩ := bnd_ok h4
    obtain ⟨x, ρ5, h7, h8⟩ := bnd_ok h6
    cases h8
    exact .inl ⟨rfl, v, ρ3, x, h5, h7, rfl⟩
  | false =>
    simp only [Bool.false_eq_true, if_false] at h4
    cases h4
    exact .inr ⟨rfl, rfl, rfl⟩
theorem lcL_step {vs : List Nat} {g : D → M Unit} {c : M Bool} {e : M Val} (J : Nat → List D → Env → Prop) (ds : List D) (ρ : Env) (h0 : J 0 [] ρ)
    (h : ∀ i d acc ρ, ds[i]? = some d → J i acc ρ → ∃ r ρ4, lcStep vs g c e d ρ = some (.ok r, ρ4) ∧ J (i + 1) (acc ++ r.toList) ρ4) :
    ∃ out ρ', lcL vs g c e ds ρ = some (.ok out, ρ') ∧ J ds.length out ρ' := by
  obtain ⟨out, ρ', h1, h2⟩ := lcL_run (vs := vs) (g := g) (c := c) (e := e) J ds 0 [] ρ h0 fun i d acc ρ ed q => by
    rw [Nat.zero_add] at q
    obtain ⟨r, ρ4, s, j⟩ := h i d acc ρ ed q
    obtain ⟨ρ1, b, ρ2, a1, a2, a3⟩ := lcStep_run s
    refine ⟨ρ1, b, ρ2, a1, a2, ?_⟩
    rw [Nat.zero_add]
    rcases a3 with ⟨e1, v, ρ3, x, e2, e3, e4⟩ | ⟨e1, e2, e3⟩
    · subst e4; exact .inl ⟨e1, v, ρ3, x, ρ4, e2, e3, j⟩
    · subst e2 e3; exact .inr ⟨e1, by simpa using j⟩
  refine ⟨out, ρ', h1, ?_⟩
  rw [Nat.zero_add, List.nil_append] at h2
  exact h2
theorem lc_eval {vs : List Nat} {g : D → M Unit} {c : M Bool} {e : M Val} {f : D → Option D} {ρ : Env} (P : D → Prop) (ds : List D) (hs : (vs.all fun v => safeS ρ[v]?) = true) (hp : ∀ d ∈ ds, P d)
    (h : ∀ d ρ', P d → ρ'.length = ρ.length → (∀ j, j ∉ vs → ρ'[j]? = ρ[j]?) → ∃ ρ4, lcStep vs g c e d ρ' = some (.ok (f d), ρ4) ∧ ρ4.length = ρ.length ∧ ∀ j, j ∉ vs → ρ4[j]? = ρ[j]?) :
    lcEnd vs g c e ds ρ = some (.ok (.own (.lst (ds.filterMap f))), ρ) :=
  lc_map P ds hs hp fun d ρ' pd l a => by
    obtain ⟨ρ4, s, l4, a4⟩ := h d ρ' pd l a
    obtain ⟨ρ1, b, ρ2, a1, a2, a3⟩ := lcStep_run s
    refine ⟨ρ1, b, ρ2, a1, a2, ?_⟩
    rcases a3 with ⟨e1, v, ρ3, x, e2, e3, e4⟩ | ⟨e1, e2, e3⟩
    · exact .inl ⟨e1, v, ρ3, x, ρ4, e2, e3, e4, l4, a4⟩
    · subst e3; exact .inr ⟨e1, e2, l4, a4⟩
/-- the same with an item for each -/
theorem lc_each {α : Type} {vs : List Nat} {g : D → M Unit} {c : M Bool} {e : M Val} {k : α → D} {f : α → D} {ρ : Env} (xs : List α) (hs : (vs.all fun v => safeS ρ[v]?) = true)
    (h : ∀ x ∈ xs, ∀ ρ' : Env, ρ'.length = ρ.length → (∀ j, j ∉ vs → ρ'[j]? = ρ[j]?) → ∃ ρ4, lcStep vs g c e (k x) ρ' = some (.ok (some (f x)), ρ4) ∧ ρ4.length = ρ.length ∧ ∀ j, j ∉ vs → ρ4[j]? = ρ[j]?) :
    lcEnd vs g c e (xs.map k) ρ = some (.ok (.own (.lst (xs.map f))), ρ) := by
  unfold lcEnd
  rw [if_pos hs]
  obtain ⟨out, ρ', h1, h2, h3, h4⟩ := lcL_step (vs := vs) (g := g) (c := c) (e := e) (fun n acc ρ' => ρ'.length = ρ.length ∧ (∀ j, j ∉ vs → ρ'[j]? = ρ[j]?) ∧ acc = (xs.take n).map f) (xs.map k) ρ ⟨rfl, fun _ _ => rfl, rfl⟩ fun i d acc ρ' ed ⟨l, a, ac⟩ => by
    rw [List.getElem?_map] at ed
    cases ex : xs[i]? with
    | none => rw [ex] at ed; cases ed
    | some x =>
      rw [ex] at ed
      cases ed
      obtain ⟨ρ4, s, l4, a4⟩ := h x (List.mem_of_getElem? ex) ρ' l a
      refine ⟨_, ρ4, s, l4, a4, ?_⟩
      rw [ac, List.take_add_one, ex]
      simp
  rw [h1]
  rw [List.length_map, List.take_length] at h4
  subst h4
  show some (Rs.ok (Val.own (D.lst _)), restE ρ ρ' vs) = _
  have er : restE ρ ρ' vs = ρ := by
    have key : ∀ (us : List Nat), (restE ρ ρ' us).length = ρ.length ∧ ∀ j, (restE ρ ρ' us)[j]? = if j ∈ us then ρ[j]? else ρ'[j]? := fun us => by
      induction us with
      | nil => exact ⟨h2, fun j => by simp [restE]⟩
      | cons u us ih =>
        refine ⟨by rw [restE, List.length_set]; exact ih.1, fun j => ?_⟩
        rw [restE, List.getElem?_set]
        by_cases e : u = j
        · subst e
          rw [if_pos rfl, if_pos List.mem_cons_self, ih.1]
          by_cases lt : u < ρ.length
          · rw [if_pos lt, List.getD_eq_getElem?_getD, List.getElem?_eq_getElem lt]; rfl
          · rw [if_neg lt, List.getElem?_eq_none_iff.mpr (by omega)]
        · rw [if_neg e, ih.2 j]
          by_cases m : j ∈ us
          · rw [if_pos m, if_pos (List.mem_cons_of_mem _ m)]
          · rw [if_neg m, if_neg (fun z => (List.mem_cons.mp z).elim (fun q => e q.symm) m)]
    apply List.ext_getElem?
    intro j
    rw [(key vs).2 j]
    by_cases m : j ∈ vs
    · rw [if_pos m]
    · rw [if_neg m]; exact h3 j m
  rw [er]
end Z
namespace Z
theorem agree_one {ρ : Z.Env} {i : Nat} {y : Option Sl} : (ρ.set i y).length = ρ.length ∧ ∀ j, j ∉ [i] → (ρ.set i y)[j]? = ρ[j]? :=
  ⟨List.length_set .., fun j hj => List.getElem?_set_ne fun e => hj (by simp [e])⟩
theorem agree_two {ρ : Z.Env} {i k : Nat} {y z : Option Sl} : ((ρ.set i y).set k z).length = ρ.length ∧ ∀ j, j ∉ [i, k] → ((ρ.set i y).set k z)[j]? = ρ[j]? :=
  ⟨by rw [List.length_set, List.length_set], fun j hj => by rw [List.getElem?_set_ne fun e => hj (by simp [e]), List.getElem?_set_ne fun e => hj (by simp [e])]⟩
end Z
namespace Z
/-- none that is lent out stands there -/
def nmS : Option Sl → Bool
  | some (.mrf _) => false
  | _ => true
theorem nmS_none : nmS none = true := rfl
theorem nmS_imm {d : D} : nmS (some (.imm d)) = true := rfl
theorem nmS_own {d : D} : nmS (some (.own d)) = true := rfl
theorem nmS_bor {d : D} : nmS (some (.bor d)) = true := rfl
theorem putS_eq {i : Nat} {s : Sl} {ρ : Z.Env} : putS i s ρ = match ρ[i]? with
    | some x => if nmS x = true then some (.ok (), ρ.set i (some s)) else none
    | none => none := by
  unfold putS
  cases ρ[i]? with
  | none => rfl
  | some x => cases x with
    | none => rfl
    | some t => cases t <;> rfl
end Z
namespace Z
theorem ansF_star {m : Nat} {F : Fn} {ss : List Sl} : ansF (starFn m F) ss = if (ss.drop m).all Sl.isI = true then ansF F (ss.take m ++ [.imm (.tup ((ss.drop m).map Sl.d))]) else none := by
  unfold ansF starFn
  split <;> rfl
theorem ansF_perm {idx : List Nat} {F : Fn} {ss : List Sl} : ansF (permFn idx F) ss = if ss.all (fun s => !s.isM) = true then ansF F (permL idx ss) else none := by
  unfold ansF permFn
  split <;> rfl
theorem callV_BI {ks : List Kd} {F : Fn} {vals : List Val} {ρ : Z.Env} (h : noM ks = true := by rfl) : callV (.I :: ks) F vals ρ = (argS ρ (.I :: ks) vals).bind fun ss => (ansF F ss).map fun r => (r, ρ) := callV_nM (by unfold noM at h ⊢; rw [List.all_cons, h]; rfl)
end Z
namespace Z
theorem apart_imm {l : List Nat} {ks : List Kd} {d : D} {vs : List Val} : apart l (.B :: ks) (.imm d :: vs) = apart l ks vs := rfl
theorem apart_own {l : List Nat} {ks : List Kd} {d : D} {vs : List Val} : apart l (.B :: ks) (.own d :: vs) = apart l ks vs := rfl
theorem apart_slot {l : List Nat} {ks : List Kd} {i : Nat} {vs : List Val} : apart l (.B :: ks) (.slot i :: vs) = (!l.contains i && apart l ks vs) := rfl
theorem apart_end {l : List Nat} : apart l [] [] = true := rfl
end Z

namespace Mt
open PySem L2 Z Wk
def isT (x : Option (Rs Val)) : Bool := match x with
  | some (.ok (.imm (.bl true))) => true
  | _ => false
theorem isT_eq {x : Option (Rs Val)} (h : isT x = true) : x = some (.ok (.imm (.bl true))) := by
  unfold isT at h
  split at h
  · rfl
  · cases h
def tb : D := .tup [.str "table", .dtt [(.tup [.str "start", .str "start"], .int 0)], .dct [], .dct [(.str "start", .int 0)]]
def rows : D := .tup [.tup [.tup [.str "plain", .str "a", .str "start"], .int (-1), .str "given", .tup []], .tup [.tup [.str "plain", .str "start", .str "a"], .int 0, .str "given", .tup []]]
def odds : List D := [.int 0, .int (-1), .int (10^30), .str "", .str "a", .tup [], .non, .bl true, .tup [.int 0, .int 1], .lst [.int 3], .dct [(.str "a", .int 1)]]
def nums : List Int := [1, 5, 10, 99, 5000]
def papers : List (List D) := [[.int 0], [.int 1, .int 0], [.int 2, .int 5, .int 7], [.str "refuted", rows, .tup [.int 0, .int 1]], [.str "refuted", rows, .tup [.int 1, .int 0]]]
theorem mess (x : Str) : isT (ansF m__law_messages_right [.bor (.str x)]) = true := by kernel_rfl
end Mt

namespace Mt
open PySem L2 Z Wk
/-! draws -/
def strm (a b c : Int) : D := .lst [.int a, .int b, .int c]
def Okd (s : D) (k : Nat) : Prop := ∃ a b c : Int, s = strm a b c ∧ 0 ≤ a ∧ 0 ≤ b ∧ b < 2147483423 ∧ 0 ≤ c ∧ c + k ≤ 1000000000
theorem Okd.less {s : D} {k j : Nat} (h : Okd s k) (l : j ≤ k) : Okd s j := by
  obtain ⟨a, b, c, e, h1, h2, h3, h4, h5⟩ := h
  exact ⟨a, b, c, e, h1, h2, h3, h4, by omega⟩
theorem log2_small {n : Nat} (h : n < 2 ^ 200) : n.log2 < 200 := by
  by_cases e : n = 0
  · subst e; decide
  · exact (Nat.log2_lt e).mpr h
theorem mulOk_of {i j : Int} (h1 : i.natAbs < 2 ^ 200) (h2 : j.natAbs < 2 ^ 200) : mulOk i j := by
  unfold mulOk
  have := log2_small h1
  have := log2_small h2
  omega
theorem draw_ok {s : D} {k : Nat} {n : Int} (h : Okd s (k + 1)) (h0 : 0 < n) (h1 : n < 1073741824) :
    ∃ r s', 0 ≤ r ∧ r < n ∧ Okd s' k ∧ ansS m__law_draw [.mrf s, .bor (.int n)] = some (.ok (.imm (.int r)), s') := by
  obtain ⟨a, b, c, rfl, a0, b0, b1, c0, ck⟩ := h
  by_cases ha : 0 < a
  · refine ⟨a % n, strm (a / n) b c, Int.emod_nonneg _ (by omega), Int.emod_lt_of_pos _ h0, ⟨_, _, _, rfl, Int.ediv_nonneg a0 (by omega), b0, b1, c0, by omega⟩, ?_⟩
    simp only [m__law_draw, ansS_mk, mb__law_draw]
    simp [noM, endA, endS, top0, sRet, sSeq, sIf, sAsg, putV, toSl, putS_eq, nmS_none, nmS_imm, nmS_own, nmS_bor, sDrop, sNext, xAnd, xOr, xNot, xTest, boolOf, bAnd, bOr, bNot, xIf, Z.bnd, xCallB, xArgs, xVar, Z.ret, conts, cont, xOp, xUn, xTup, xLst, shares, share, D.solid, Sl.d, Sl.isM, leave, xCall, keepI_B, keepI_M, keepI_nil, callV_B, callV_M, argS, gnm, gtup, gcons, gnil, xMut, isSl, isT, mutS, Sl.put, sPut, isM, xSl, xPart, xChain, apart_imm, apart_own, apart_slot, apart_end, ansF_star, ansF_perm, permL, Sl.isI, keepI_I, strm, dIx, atI, ixN, dGt, dCmp, ha, dInt, dMod, h0, dDiv, h1, fSet]
  · have ea : a = 0 := by omega
    subst ea
    have m1 : mulOk 1000099 (c + 1) := mulOk_of (by decide) (by omega)
    have q1 := Int.emod_nonneg (b + 1000099 * (c + 1)) (b := 2305843009213693951) (by decide)
    have q2 := Int.emod_lt_of_pos (b + 1000099 * (c + 1)) (b := 2305843009213693951) (by decide)
    generalize e1 : (b + 1000099 * (c + 1)) % 2305843009213693951 = one at *
    have m2 : mulOk one one := mulOk_of (by omega) (by omega)
    have q3 := Int.emod_nonneg (one * one) (b := 2305843009213693921) (by decide)
    have q4 := Int.emod_lt_of_pos (one * one) (b := 2305843009213693921) (by decide)
    generalize e2 : (one * one) % 2305843009213693921 = two at *
    have m3 : mulOk two one := mulOk_of (by omega) (by omega)
    have m4 : mulOk 7933 (c + 1) := mulOk_of (by decide) (by omega)
    refine ⟨(two * one + 7933 * (c + 1)) % 2305843009213693907 / 8192 % n, strm 0 b (c + 1), Int.emod_nonneg _ (by omega), Int.emod_lt_of_pos _ h0, ⟨_, _, _, rfl, by omega, b0, b1, by omega, by omega⟩, ?_⟩
    simp only [m__law_draw, ansS_mk, mb__law_draw]
    simp [noM, endA, endS, top0, sRet, sSeq, sIf, sAsg, putV, toSl, putS_eq, nmS_none, nmS_imm, nmS_own, nmS_bor, sDrop, sNext, xAnd, xOr, xNot, xTest, boolOf, bAnd, bOr, bNot, xIf, Z.bnd, xCallB, xArgs, xVar, Z.ret, conts, cont, xOp, xUn, xTup, xLst, shares, share, D.solid, Sl.d, Sl.isM, leave, xCall, keepI_B, keepI_M, keepI_nil, callV_B, callV_M, argS, gnm, gtup, gcons, gnil, xMut, isSl, isT, mutS, Sl.put, sPut, isM, xSl, xPart, xChain, apart_imm, apart_own, apart_slot, apart_end, ansF_star, ansF_perm, permL, Sl.isI, keepI_I, strm, dIx, atI, ixN, dGt, dCmp, dInt, dMod, h0, dDiv, dAdd, dMul, m1, e1, m2, e2, m3, m4, fSet]
theorem pick_ok {s : D} {k : Nat} {xs : List D} (h : Okd s (k + 1)) (h0 : 0 < xs.length) (h1 : xs.length < 1073741824) :
    ∃ x s', x ∈ xs ∧ Okd s' k ∧ ansS m__law_pick [.mrf s, .bor (.lst xs)] = some (.ok (.imm x), s') := by
  obtain ⟨r, s', r0, r1, ok, e⟩ := draw_ok (n := (xs.length : Int)) h (by omega) (by omega)
  have lt : r.toNat < xs.length := by omega
  have ea : atI xs r = some (xs[r.toNat]) := by
    have := atI_nat (xs := xs) (j := r.toNat) (List.getElem?_eq_getElem lt)
    rw [show ((r.toNat : Nat) : Int) = r by omega] at this
    exact this
  have ei : dIx (.lst xs) (.int r) = some (.imm (xs[r.toNat])) := by simp only [dIx, ea]; rfl
  have el : dLen [.lst xs] = some (.imm (.int (xs.length : Int))) := rfl
  refine ⟨xs[r.toNat], s', List.getElem_mem lt, ok, ?_⟩
  simp only [m__law_pick, ansS_mk, mb__law_pick]
  simp [noM, endA, endS, top0, sRet, sSeq, sIf, sAsg, putV, toSl, putS_eq, nmS_none, nmS_imm, nmS_own, nmS_bor, sDrop, sNext, xAnd, xOr, xNot, xTest, boolOf, bAnd, bOr, bNot, xIf, Z.bnd, xCallB, xArgs, xVar, Z.ret, conts, cont, xOp, xUn, xTup, xLst, shares, share, D.solid, Sl.d, Sl.isM, leave, xCall, keepI_B, keepI_M, keepI_nil, callV_B, callV_M, argS, gnm, gtup, gcons, gnil, xMut, isSl, isT, mutS, Sl.put, sPut, isM, xSl, xPart, xChain, apart_imm, apart_own, apart_slot, apart_end, ansF_star, ansF_perm, permL, Sl.isI, keepI_I, el, e, ei]
def scrD (ns : List Int) : D := .lst (ns.map D.int)
theorem p60 : dPow (.int 10) (.int 60) = some (.imm (.int (10 ^ 60))) := by
  have c : CPowX 10 60 := by decide +kernel
  simp only [dPow, c, if_true]; rfl
theorem p720 : dPow (.int (10 ^ 60)) (.int 12) = some (.imm (.int (10 ^ 720))) := by
  have c : CPowX (10 ^ 60) 12 := by decide +kernel
  have e : ((10 : Int) ^ 60) ^ (12 : Int).toNat = 10 ^ 720 := by decide +kernel
  simp only [dPow, c, if_true, e]
theorem p18 : dPow (.int 10) (.int 18) = some (.imm (.int (10 ^ 18))) := by
  have c : CPowX 10 18 := by decide +kernel
  simp only [dPow, c, if_true]; rfl
theorem stream_fn {ns : List Int} {at_ : Nat} (h : at_ ≤ 1000) : ∃ s, Okd s 999999999 ∧ ansF m__law_stream [.bor (scrD ns), .bor (.int (at_ : Int))] = some (.ok (.own s)) := by
  obtain ⟨cell, hc⟩ : ∃ c : Int, c = if (at_ : Int) < (ns.length : Int) then ns.getD at_ 0 else 17 * (at_ : Int) + 4 := ⟨_, rfl⟩
  obtain ⟨great, hg⟩ : ∃ g : Int, g = (if cell < 0 then -cell else cell) % 10 ^ 720 := ⟨_, rfl⟩
  have g0 : 0 ≤ great := by rw [hg]; exact Int.emod_nonneg _ (by decide +kernel)
  have m1 : mulOk 17 (at_ : Int) := mulOk_of (by decide) (by omega)
  have m2 : mulOk 2011 (at_ : Int) := mulOk_of (by decide) (by omega)
  have q1 := Int.emod_nonneg great (b := 2147483549) (by decide)
  have q2 := Int.emod_lt_of_pos great (b := 2147483549) (by decide)
  have m3 : mulOk (great % 2147483549) 45991 := mulOk_of (by omega) (by decide)
  have m4 : mulOk 7 (if cell < 0 then 1 else 0) := mulOk_of (by decide) (by split <;> decide)
  obtain ⟨mx, hm⟩ : ∃ m : Int, m = great % 2147483549 * 45991 + 2011 * (at_ : Int) + 7 * (if cell < 0 then 1 else 0) + 23 := ⟨_, rfl⟩
  refine ⟨strm (if great - 10 ^ 18 > 0 then great - 10 ^ 18 else 0) (mx % 2147483423) 0, ⟨_, _, _, rfl, by split <;> omega, Int.emod_nonneg _ (by decide), Int.emod_lt_of_pos _ (by decide), by decide, by decide⟩, ?_⟩
  have z720 : (0 : Int) < 10 ^ 720 := by decide +kernel
  have gm : dMod (.int (if cell < 0 then -cell else cell)) (.int (10 ^ 720)) = some (.imm (.int great)) := by simp only [dMod, z720, if_true, hg]
  have p6 := p60
  have p7 := p720
  have p1 := p18
  have tl : ∀ c : Bool, (if (c = true) then (1 : Int) else 0) = if c = true then 1 else 0 := fun _ => rfl
  have dl : dLt (.int cell) (.int 0) = some (.imm (.bl (decide (cell < 0)))) := rfl
  have di : dInt [.bl (decide (cell < 0))] = some (.imm (.int (if cell < 0 then 1 else 0))) := by simp [dInt]
  have da : dAbs [.int cell] = some (.imm (.int (if cell < 0 then -cell else cell))) := rfl
  generalize (10 : Int) ^ 720 = b720 at *
  generalize (10 : Int) ^ 60 = b60 at *
  have len : dLen [scrD ns] = some (.imm (.int (ns.length : Int))) := by simp [dLen, scrD]
  have lt : dLt (.int (at_ : Int)) (.int (ns.length : Int)) = some (.imm (.bl (decide ((at_ : Int) < (ns.length : Int))))) := rfl
  have sb : dSub (.int great) (.int (10 ^ 18)) = some (.imm (.int (great - 10 ^ 18))) := rfl
  have mxx : dMax2 [.int 0, .int (great - 10 ^ 18)] = some (.imm (.int (if great - 10 ^ 18 > 0 then great - 10 ^ 18 else 0))) := rfl
  generalize (10 : Int) ^ 18 = b18 at *
  have d7 : dMul (.int 7) (.int (if cell < 0 then 1 else 0)) = some (.imm (.int (7 * (if cell < 0 then 1 else 0)))) := by simp only [dMul, m4, if_true]
  generalize (if cell < 0 then (1 : Int) else 0) = c01 at *
  generalize (if cell < 0 then -cell else cell) = cab at *
  generalize (if great - b18 > 0 then great - b18 else 0) = a0 at *
  have dm : dMod (.int mx) (.int 2147483423) = some (.imm (.int (mx % 2147483423))) := rfl
  have a1 : dAdd (.int (17 * (at_ : Int))) (.int 4) = some (.imm (.int (17 * (at_ : Int) + 4))) := rfl
  have a2 (i j : Int) : dAdd (.int i) (.int j) = some (.imm (.int (i + j))) := rfl
  have di0 (i : Int) : dInt [.int i] = some (.imm (.int i)) := rfl
  have d17 : dMul (.int 17) (.int (at_ : Int)) = some (.imm (.int (17 * (at_ : Int)))) := by simp only [dMul, m1, if_true]
  have d20 : dMul (.int 2011) (.int (at_ : Int)) = some (.imm (.int (2011 * (at_ : Int)))) := by simp only [dMul, m2, if_true]
  have d45 : dMul (.int (great % 2147483549)) (.int 45991) = some (.imm (.int (great % 2147483549 * 45991))) := by simp only [dMul, m3, if_true]
  have dm2 : dMod (.int great) (.int 2147483549) = some (.imm (.int (great % 2147483549))) := rfl
  simp only [m__law_stream, ansF_mk, mb__law_stream]
  by_cases hlt : (at_ : Int) < (ns.length : Int)
  · have ix : dIx (scrD ns) (.int (at_ : Int)) = some (.imm (.int cell)) := by
      rw [hc, if_pos hlt]
      have lt2 : at_ < ns.length := by omega
      have e : (ns.map D.int)[at_]? = some (.int (ns.getD at_ 0)) := by simp [List.getD, lt2]
      simp only [scrD, dIx, atI_nat e]; rfl
    rw [decide_eq_true hlt] at lt
    rw [hm] at dm
    simp [noM, endA, endS, top0, sRet, sSeq, sIf, sAsg, putV, toSl, putS_eq, nmS_none, nmS_imm, nmS_own, nmS_bor, sDrop, sNext, xAnd, xOr, xNot, xTest, boolOf, bAnd, bOr, bNot, xIf, Z.bnd, xCallB, xArgs, xVar, Z.ret, conts, cont, xOp, xUn, xTup, xLst, shares, share, D.solid, Sl.d, Sl.isM, leave, xCall, keepI_B, keepI_M, keepI_nil, callV_B, callV_M, argS, gnm, gtup, gcons, gnil, xMut, isSl, isT, mutS, Sl.put, sPut, isM, xSl, xPart, xChain, apart_imm, apart_own, apart_slot, apart_end, ansF_star, ansF_perm, permL, Sl.isI, keepI_I, d17, d20, d45, di0, a1, len, lt, ix, da, p6, p7, gm, dm2, dl, di, d7, a2, sb, p1, mxx, dm, hm, strm]
  · rw [if_neg hlt] at hc
    rw [← hc] at a1
    rw [decide_eq_false hlt] at lt
    rw [hm] at dm
    simp [noM, endA, endS, top0, sRet, sSeq, sIf, sAsg, putV, toSl, putS_eq, nmS_none, nmS_imm, nmS_own, nmS_bor, sDrop, sNext, xAnd, xOr, xNot, xTest, boolOf, bAnd, bOr, bNot, xIf, Z.bnd, xCallB, xArgs, xVar, Z.ret, conts, cont, xOp, xUn, xTup, xLst, shares, share, D.solid, Sl.d, Sl.isM, leave, xCall, keepI_B, keepI_M, keepI_nil, callV_B, callV_M, argS, gnm, gtup, gcons, gnil, xMut, isSl, isT, mutS, Sl.put, sPut, isM, xSl, xPart, xChain, apart_imm, apart_own, apart_slot, apart_end, ansF_star, ansF_perm, permL, Sl.isI, keepI_I, d17, d20, d45, di0, a1, len, lt, da, p6, p7, gm, dm2, dl, di, d7, a2, sb, p1, mxx, dm, hm, strm]
end Mt

namespace Mt
open PySem L2 Z Wk
def words : List Str := [Str.ofString "a", Str.ofString " ", Str.ofString "word", Str.ofString "7", Str.ofString "-"]
abbrev envL (sc : D) (t1 : Option Sl) (s : D) (t3 t4 t5 t6 t7 t8 : Option Sl) (y : Option Sl) : Z.Env := [some (.bor sc), t1, some (.own s), t3, t4, t5, t6, t7, t8, y]
variable {sc s : D} {t1 t3 t4 t5 t6 t7 t8 y : Option Sl} {k : Nat}
theorem step_text {d : D} (h : Okd s (k + 1)) : ∃ x s', x ∈ words ∧ Okd s' k ∧
    lcStep [9] (gnm 9) (Z.ret true) (xCall [.M, .B] m__law_pick ([(xVar 2), (xLst [(Z.ret (.imm (.str (Str.ofString "a")))), (Z.ret (.imm (.str (Str.ofString " ")))), (Z.ret (.imm (.str (Str.ofString "word")))), (Z.ret (.imm (.str (Str.ofString "7")))), (Z.ret (.imm (.str (Str.ofString "-"))))])] ++ [])) d (envL sc t1 s t3 t4 t5 t6 t7 t8 y) =
      some (.ok (some (.str x)), envL sc t1 s' t3 t4 t5 t6 t7 t8 (some (.imm d))) := by
  obtain ⟨x, s', m, ok, e⟩ := pick_ok (xs := words.map D.str) h (by simp [words]) (by simp [words])
  obtain ⟨z, mz, rfl⟩ := List.mem_map.mp m
  refine ⟨z, s', mz, ok, ?_⟩
  have e' : ansS m__law_pick [.mrf s, .bor (.lst [.str (Str.ofString "a"), .str (Str.ofString " "), .str (Str.ofString "word"), .str (Str.ofString "7"), .str (Str.ofString "-")])] = some (.ok (.imm (.str z)), s') := e
  simp [lcStep, tgt, wipeE, noM, endA, endS, top0, sRet, sSeq, sIf, sAsg, putV, toSl, putS_eq, nmS_none, nmS_imm, nmS_own, nmS_bor, sDrop, sNext, xAnd, xOr, xNot, xTest, boolOf, bAnd, bOr, bNot, xIf, Z.bnd, xCallB, xArgs, xVar, Z.ret, conts, cont, xOp, xUn, xTup, xLst, shares, share, D.solid, Sl.d, Sl.isM, leave, xCall, keepI_B, keepI_M, keepI_nil, callV_B, callV_M, argS, gnm, gtup, gcons, gnil, xMut, isSl, isT, mutS, Sl.put, sPut, isM, xSl, xPart, xChain, apart_imm, apart_own, apart_slot, apart_end, ansF_star, ansF_perm, permL, Sl.isI, keepI_I, envL, e']
theorem all_strs : ∀ xs : List Str, allStr (xs.map D.str) = some xs
  | [] => rfl
  | x :: r => by simp [allStr, all_strs r]
theorem words_len {x : Str} (h : x ∈ words) : x.length ≤ 4 := by
  have : words.all (fun x => decide (x.length ≤ 4)) = true := by decide +kernel
  exact of_decide_eq_true (List.all_eq_true.mp this x h)
theorem sum_len : ∀ xs : List Str, (∀ x ∈ xs, x ∈ words) → (xs.map (·.length)).sum ≤ 4 * xs.length
  | [], _ => by simp
  | x :: r, h => by
    have := sum_len r fun y m => h y (List.mem_cons_of_mem _ m)
    have := words_len (h x List.mem_cons_self)
    simp only [List.map_cons, List.sum_cons, List.length_cons]
    omega
theorem text_ok (h : Okd s (k + 7)) : ∃ x s', Okd s' k ∧ xUn (dJoin (Str.ofString "")) c0_law (envL sc t1 s t3 t4 t5 t6 t7 t8 none) = some (.ok (.imm (.str x)), envL sc t1 s' t3 t4 t5 t6 t7 t8 none) := by
  obtain ⟨r, s1, r0, r1, ok1, e⟩ := draw_ok (k := k + 6) (n := 6) h (by decide) (by decide)
  have e1 : iRange1 (xArgs [(xCall [.M, .B] m__law_draw ([(xVar 2), (Z.ret (.imm (.int 6)))] ++ []))]) (envL sc t1 s t3 t4 t5 t6 t7 t8 none) = some (.ok (rngD 0 r.toNat), envL sc t1 s1 t3 t4 t5 t6 t7 t8 none) := by
    have c : (-16777216 : Int) ≤ r ∧ r ≤ 16777216 := by omega
    simp [iRange1, noM, endA, endS, top0, sRet, sSeq, sIf, sAsg, putV, toSl, putS_eq, nmS_none, nmS_imm, nmS_own, nmS_bor, sDrop, sNext, xAnd, xOr, xNot, xTest, boolOf, bAnd, bOr, bNot, xIf, Z.bnd, xCallB, xArgs, xVar, Z.ret, conts, cont, xOp, xUn, xTup, xLst, shares, share, D.solid, Sl.d, Sl.isM, leave, xCall, keepI_B, keepI_M, keepI_nil, callV_B, callV_M, argS, gnm, gtup, gcons, gnil, xMut, isSl, isT, mutS, Sl.put, sPut, isM, xSl, xPart, xChain, apart_imm, apart_own, apart_slot, apart_end, ansF_star, ansF_perm, permL, Sl.isI, keepI_I, envL, e, int1, c]
  obtain ⟨out, ρ', h2, s', zs, y, rfl, ok, rfl, mz⟩ := lcL_step (vs := [9]) (g := gnm 9) (c := Z.ret true) (e := xCall [.M, .B] m__law_pick ([(xVar 2), (xLst [(Z.ret (.imm (.str (Str.ofString "a")))), (Z.ret (.imm (.str (Str.ofString " ")))), (Z.ret (.imm (.str (Str.ofString "word")))), (Z.ret (.imm (.str (Str.ofString "7")))), (Z.ret (.imm (.str (Str.ofString "-"))))])] ++ []))
    (fun n acc ρ => ∃ s' zs y, ρ = envL sc t1 s' t3 t4 t5 t6 t7 t8 y ∧ Okd s' (k + (6 - n)) ∧ acc = zs.map D.str ∧ (∀ z ∈ zs, z ∈ words) ∧ zs.length = n) (rngD 0 r.toNat) (envL sc t1 s1 t3 t4 t5 t6 t7 t8 none)
    ⟨s1, [], none, rfl, ok1, rfl, by simp, rfl⟩ fun i d acc ρ ed ⟨s2, zs, y, er, ok, ea, mz, lz⟩ => by
      have li : i < r.toNat := by
        have := (List.getElem?_eq_some_iff.mp ed).1
        rwa [rng_len] at this
      subst er
      obtain ⟨x, s3, mx, ok3, e⟩ := step_text (sc := sc) (t1 := t1) (t3 := t3) (t4 := t4) (t5 := t5) (t6 := t6) (t7 := t7) (t8 := t8) (k := k + (6 - (i + 1))) (s := s2) (y := y) (d := d) (by rw [show k + (6 - (i + 1)) + 1 = k + (6 - i) by omega]; exact ok)
      refine ⟨some (.str x), _, e, s3, zs ++ [x], _, rfl, ok3, by rw [ea]; simp, fun z m => ?_, by simp [lz]⟩
      rcases List.mem_append.mp m with m | m
      · exact mz z m
      · rw [List.mem_singleton.mp m]; exact mx
  obtain ⟨mz, lz⟩ := mz
  rw [rng_len] at lz ok
  have hc : c0_law (envL sc t1 s t3 t4 t5 t6 t7 t8 none) = some (.ok (.own (.lst (zs.map D.str))), envL sc t1 s' t3 t4 t5 t6 t7 t8 none) := by
    unfold c0_law xLc Z.bnd
    rw [e1]
    simp only [lcEnd]
    rw [if_pos (by simp [safeS]), h2]
    simp [restE]
  have hj : dJoin (Str.ofString "") (.lst (zs.map D.str)) = some (.imm (.str (Txt.join (Str.ofString "") zs))) := by
    have c : (zs.map (·.length)).sum + zs.length * (Str.ofString "").length ≤ 16777216 := by
      have := sum_len zs mz
      have e0 : (Str.ofString "").length = 0 := by decide
      rw [e0]; omega
    simp only [dJoin, all_strs, Option.bind_some, c, if_true]
  refine ⟨Txt.join (Str.ofString "") zs, s', ok.less (by omega), ?_⟩
  unfold xUn Z.bnd
  rw [hc]
  simp [cont, hj]
end Mt

namespace Mt
open PySem L2 Z Wk
theorem reps : (odds.all fun o => nums.all fun n => papers.all fun p => (reprS (.lst [o, o, .int n, .tup p, tb, .int n])).isSome) = true := by decide +kernel
def isNx (x : Option (Rs Fl × Z.Env)) : Bool := match x with
  | some (.ok .nx, _) => true
  | _ => false
def stp (m : M Fl) (ρ : Z.Env) : Z.Env := match m ρ with
  | some (_, ρ1) => ρ1
  | none => ρ
theorem seq_stp {a b : M Fl} {ρ : Z.Env} (h : isNx (a ρ) = true) : sSeq a b ρ = b (stp a ρ) := by
  unfold isNx at h
  split at h
  · rename_i ρ1 e
    unfold sSeq Z.bnd stp
    rw [e]
  · cases h
theorem repr_run {m : M Val} {ρ : Z.Env} {v : Val} {d : D} {x : Str} (h1 : m ρ = some (.ok v, ρ)) (h2 : cont ρ v = some d) (h : reprS d = some x) : xCallB dRepr (xArgs [m]) ρ = some (.ok (.imm (.str x)), ρ) := by
  have c : conts ρ [v] = some [d] := by unfold conts; rw [h2]; rfl
  have a : xArgs [m] ρ = some (.ok [v], ρ) := by unfold xArgs Z.bnd; rw [h1]; rfl
  unfold xCallB Z.bnd
  rw [a]; simp only [c, dRepr, h]; rfl
theorem ret_eq {A B : M Val} {ρ : Z.Env} {x : Str} (hA : A ρ = some (.ok (.imm (.str x)), ρ)) (hB : B ρ = some (.ok (.imm (.str x)), ρ)) : isT (endA (sRet (xOp dEq A B) ρ)) = true := by
  have e : dEq (.str x) (.str x) = some (.imm (.bl true)) := by simp [dEq, eqB]
  have : sRet (xOp dEq A B) ρ = some (.ok (.rt (.imm (.bl true))), ρ) := by simp [noM, endA, endS, top0, sRet, sSeq, sIf, sAsg, putV, toSl, putS_eq, nmS_none, nmS_imm, nmS_own, nmS_bor, sDrop, sNext, xAnd, xOr, xNot, xTest, boolOf, bAnd, bOr, bNot, xIf, Z.bnd, xCallB, xArgs, xVar, Z.ret, conts, cont, xOp, xUn, xTup, xLst, shares, share, D.solid, Sl.d, Sl.isM, leave, xCall, keepI_B, keepI_M, keepI_nil, callV_B, callV_M, argS, gnm, gtup, gcons, gnil, xMut, isSl, isT, mutS, Sl.put, sPut, isM, xSl, xPart, xChain, apart_imm, apart_own, apart_slot, apart_end, ansF_star, ansF_perm, permL, Sl.isI, keepI_I, hA, hB, e]
  rw [this]; rfl
theorem values (v : D) (n : Int) (ps : List D) (x : Str) (h : reprS (.lst [v, v, .int n, .tup ps, tb, .int n]) = some x) : isT (ansF m__law_values_right [.imm v, .bor (.int n), .bor (.tup ps), .bor tb]) = true := by
  simp only [m__law_values_right, ansF_mk]
  unfold mb__law_values_right
  rw [seq_stp, seq_stp, seq_stp, seq_stp, seq_stp, seq_stp, seq_stp]
  · refine ret_eq (x := x) (repr_run (v := .slot 8) (d := .lst [v, v, .int n, .tup ps, tb, .int n]) (by kernel_rfl) (by kernel_rfl) h) (repr_run (v := .own (.lst [v, v, .int n, .tup ps, tb, .int n])) (d := .lst [v, v, .int n, .tup ps, tb, .int n]) (by kernel_rfl) rfl h)
  all_goals kernel_rfl
end Mt

namespace Mt
open PySem L2 Z Wk
variable {sc s s' : D} {t1 t3 t4 t5 t6 t7 t8 y : Option Sl} {k : Nat}
theorem seq_nx {a b : M Fl} {ρ ρ1 : Z.Env} (h : a ρ = some (.ok .nx, ρ1)) : sSeq a b ρ = b ρ1 := by unfold sSeq Z.bnd; rw [h]
theorem asg_imm {m : M Val} {ρ ρ1 : Z.Env} {d : D} {i : Nat} {x : Option Sl} (h : m ρ = some (.ok (.imm d), ρ1)) (e : ρ1[i]? = some x) (n : nmS x = true) : sAsg i m ρ = some (.ok .nx, ρ1.set i (some (.imm d))) := by
  unfold sAsg Z.bnd
  rw [h]; simp only
  unfold putV toSl Z.bnd Z.ret
  simp only [putS_eq, e, n, if_true]
theorem call_pick {m : M Val} {xs : List D} {x : D} (hm : m (envL sc t1 s t3 t4 t5 t6 t7 t8 y) = some (.ok (.own (.lst xs)), envL sc t1 s t3 t4 t5 t6 t7 t8 y)) (e : ansS m__law_pick [.mrf s, .bor (.lst xs)] = some (.ok (.imm x), s')) :
    xCall [.M, .B] m__law_pick ([(xVar 2), m] ++ []) (envL sc t1 s t3 t4 t5 t6 t7 t8 y) = some (.ok (.imm x), envL sc t1 s' t3 t4 t5 t6 t7 t8 y) := by
  simp only [envL] at hm ⊢
  simp [noM, endA, endS, top0, sRet, sSeq, sIf, sAsg, putV, toSl, putS_eq, nmS_none, nmS_imm, nmS_own, nmS_bor, sDrop, sNext, xAnd, xOr, xNot, xTest, boolOf, bAnd, bOr, bNot, xIf, Z.bnd, xCallB, xArgs, xVar, Z.ret, conts, cont, xOp, xUn, xTup, xLst, shares, share, D.solid, Sl.d, Sl.isM, leave, xCall, keepI_B, keepI_M, keepI_nil, callV_B, callV_M, argS, gnm, gtup, gcons, gnil, xMut, isSl, isT, mutS, Sl.put, sPut, isM, xSl, xPart, xChain, apart_imm, apart_own, apart_slot, apart_end, ansF_star, ansF_perm, permL, Sl.isI, keepI_I, hm, e]
theorem par56 {a b : M Val} {ρ ρ1 : Z.Env} {d1 d2 : D} {x5 x6 : Option Sl} (ha : a ρ = some (.ok (.imm d1), ρ1)) (hb : b ρ1 = some (.ok (.own d2), ρ1)) (e5 : ρ1[5]? = some x5) (n5 : nmS x5 = true) (e6 : ρ1[6]? = some x6) (n6 : nmS x6 = true) :
    sPar [5, 6] [a, b] ρ = some (.ok .nx, (ρ1.set 5 (some (.imm d1))).set 6 (some (.own d2))) := by
  have e6' : (ρ1.set 5 (some (.imm d1)))[6]? = some x6 := by rw [List.getElem?_set_ne (by decide)]; exact e6
  have hx : xArgs [a, b] ρ = some (.ok [.imm d1, .own d2], ρ1) := by
    unfold xArgs Z.bnd; rw [ha]; simp only
    unfold xArgs Z.bnd; rw [hb]; rfl
  unfold sPar Z.bnd
  rw [hx]
  simp [noM, endA, endS, top0, sRet, sSeq, sIf, sAsg, putV, toSl, putS_eq, nmS_none, nmS_imm, nmS_own, nmS_bor, sDrop, sNext, xAnd, xOr, xNot, xTest, boolOf, bAnd, bOr, bNot, xIf, Z.bnd, xCallB, xArgs, xVar, Z.ret, conts, cont, xOp, xUn, xTup, xLst, shares, share, D.solid, Sl.d, Sl.isM, leave, xCall, keepI_B, keepI_M, keepI_nil, callV_B, callV_M, argS, gnm, gtup, gcons, gnil, xMut, isSl, isT, mutS, Sl.put, sPut, isM, xSl, xPart, xChain, apart_imm, apart_own, apart_slot, apart_end, ansF_star, ansF_perm, permL, Sl.isI, keepI_I, kdOf, newS, putAll, e5, n5, e6', n6]
theorem dsp1 (ρ : Z.Env) : xDisp putsK .dct [(Z.ret (.imm (.str (Str.ofString "start")))), (Z.ret (.imm (.int 0)))] ρ = some (.ok (.own (.dct [(.str "start", .int 0)])), ρ) := by kernel_rfl
theorem dsp2 (ρ : Z.Env) : xDisp putsT .dtt [(xTup [(Z.ret (.imm (.str (Str.ofString "start")))), (Z.ret (.imm (.str (Str.ofString "start"))))]), (Z.ret (.imm (.int 0)))] ρ = some (.ok (.own (.dtt [(.tup [.str "start", .str "start"], .int 0)])), ρ) := by kernel_rfl
theorem arg_odds (ρ : Z.Env) : (xLst [(Z.ret (.imm (.int 0))), (xUn dNeg (Z.ret (.imm (.int 1)))), (xOp dPow (Z.ret (.imm (.int 10))) (Z.ret (.imm (.int 30)))), (Z.ret (.imm (.str (Str.ofString "")))), (Z.ret (.imm (.str (Str.ofString "a")))), (xTup []), (Z.ret (.imm .non)), (Z.ret (.imm (.bl true))), (xTup [(Z.ret (.imm (.int 0))), (Z.ret (.imm (.int 1)))]), (xLst [(Z.ret (.imm (.int 3)))]), (xDisp putsK .dct [(Z.ret (.imm (.str (Str.ofString "a")))), (Z.ret (.imm (.int 1)))])]) ρ = some (.ok (.own (.lst odds)), ρ) := by kernel_rfl
theorem arg_nums (ρ : Z.Env) : (xLst [(Z.ret (.imm (.int 1))), (Z.ret (.imm (.int 5))), (Z.ret (.imm (.int 10))), (Z.ret (.imm (.int 99))), (Z.ret (.imm (.int 5000)))]) ρ = some (.ok (.own (.lst (nums.map D.int))), ρ) := by kernel_rfl
theorem arg_rows (ρ : Z.Env) : (xTup [(xTup [(xTup [(Z.ret (.imm (.str (Str.ofString "plain")))), (Z.ret (.imm (.str (Str.ofString "a")))), (Z.ret (.imm (.str (Str.ofString "start"))))]), (xUn dNeg (Z.ret (.imm (.int 1)))), (Z.ret (.imm (.str (Str.ofString "given")))), (xTup [])]), (xTup [(xTup [(Z.ret (.imm (.str (Str.ofString "plain")))), (Z.ret (.imm (.str (Str.ofString "start")))), (Z.ret (.imm (.str (Str.ofString "a"))))]), (Z.ret (.imm (.int 0))), (Z.ret (.imm (.str (Str.ofString "given")))), (xTup [])])]) ρ = some (.ok (.imm rows), ρ) := by kernel_rfl
theorem arg_papers (q0 q1 q2 q3 q4 q5 q6 q8 q9 : Option Sl) : (xLst [(xTup [(Z.ret (.imm (.int 0)))]), (xTup [(Z.ret (.imm (.int 1))), (Z.ret (.imm (.int 0)))]), (xTup [(Z.ret (.imm (.int 2))), (Z.ret (.imm (.int 5))), (Z.ret (.imm (.int 7)))]), (xTup [(Z.ret (.imm (.str (Str.ofString "refuted")))), (xVar 7), (xTup [(Z.ret (.imm (.int 0))), (Z.ret (.imm (.int 1)))])]), (xTup [(Z.ret (.imm (.str (Str.ofString "refuted")))), (xVar 7), (xTup [(Z.ret (.imm (.int 1))), (Z.ret (.imm (.int 0)))])])]) [q0, q1, q2, q3, q4, q5, q6, some (.imm rows), q8, q9] =
    some (.ok (.own (.lst (papers.map D.tup))), [q0, q1, q2, q3, q4, q5, q6, some (.imm rows), q8, q9]) := by kernel_rfl
theorem values_ok {o : D} {n : Int} {p : List D} (ho : o ∈ odds) (hn : n ∈ nums) (hp : p ∈ papers) : ansF m__law_values_right [.imm o, .bor (.int n), .bor (.tup p), .bor tb] = some (.ok (.imm (.bl true))) := by
  have h := List.all_eq_true.mp (List.all_eq_true.mp (List.all_eq_true.mp reps o ho) n hn) p hp
  obtain ⟨x, hx⟩ := Option.isSome_iff_exists.mp h
  exact isT_eq (values o n p x hx)
theorem callV_I {ks : List Kd} {F : Fn} {vals : List Val} {ρ : Z.Env} (h : noM ks = true := by rfl) : callV (.I :: ks) F vals ρ = (argS ρ (.I :: ks) vals).bind fun ss => (ansF F ss).map fun r => (r, ρ) := callV_nM (by unfold noM at h ⊢; rw [List.all_cons, h]; rfl)
theorem turn_law {ns : List Int} {i : Nat} {t2 : Option Sl} (hi : i ≤ 1000) (n2 : nmS t2 = true) (n3 : nmS t3 = true) (n4 : nmS t4 = true) (n5 : nmS t5 = true) (n6 : nmS t6 = true) (n7 : nmS t7 = true) (n8 : nmS t8 = true) :
    ∃ s x o n p, y0_law [some (.bor (scrD ns)), some (.imm (.int (i : Int))), t2, t3, t4, t5, t6, t7, t8, none] = some (.ok .nx, [some (.bor (scrD ns)), some (.imm (.int (i : Int))), some (.own s), some (.imm (.str x)), some (.imm o), some (.imm (.int n)), some (.imm (.dtt [(.tup [.str "start", .str "start"], .int 0)])), some (.imm rows), some (.imm (.tup p)), none]) := by
  obtain ⟨s0, o0, e0⟩ := stream_fn (ns := ns) (at_ := i) hi
  obtain ⟨x, s1, o1, e1⟩ := text_ok (sc := scrD ns) (s := s0) (t1 := some (.imm (.int (i : Int)))) (t3 := t3) (t4 := t4) (t5 := t5) (t6 := t6) (t7 := t7) (t8 := t8) (k := 100) (o0.less (by decide))
  obtain ⟨o, s2, mo, o2, e2⟩ := pick_ok (k := 90) (xs := odds) (o1.less (by decide)) (by decide) (by decide)
  obtain ⟨nd, s3, mn, o3, e3⟩ := pick_ok (k := 80) (xs := nums.map D.int) (o2.less (by decide)) (by decide) (by decide)
  obtain ⟨n, mn2, rfl⟩ := List.mem_map.mp mn
  obtain ⟨pd, s4, mp, o4, e4⟩ := pick_ok (k := 70) (xs := papers.map D.tup) (o3.less (by decide)) (by decide) (by decide)
  obtain ⟨p, mp2, rfl⟩ := List.mem_map.mp mp
  refine ⟨s4, x, o, n, p, ?_⟩
  have hv := values_ok mo mn2 mp2
  have hm := isT_eq (mess x)
  unfold y0_law
  rw [seq_nx (ρ1 := envL (scrD ns) (some (.imm (.int (i : Int)))) s0 t3 t4 t5 t6 t7 t8 none) (by simp [noM, endA, endS, top0, sRet, sSeq, sIf, sAsg, putV, toSl, putS_eq, nmS_none, nmS_imm, nmS_own, nmS_bor, sDrop, sNext, xAnd, xOr, xNot, xTest, boolOf, bAnd, bOr, bNot, xIf, Z.bnd, xCallB, xArgs, xVar, Z.ret, conts, cont, xOp, xUn, xTup, xLst, shares, share, D.solid, Sl.d, Sl.isM, leave, xCall, keepI_B, keepI_M, keepI_nil, callV_B, callV_M, argS, gnm, gtup, gcons, gnil, xMut, isSl, isT, mutS, Sl.put, sPut, isM, xSl, xPart, xChain, apart_imm, apart_own, apart_slot, apart_end, ansF_star, ansF_perm, permL, Sl.isI, keepI_I, e0, n2])]
  rw [seq_nx (ρ1 := envL (scrD ns) (some (.imm (.int (i : Int)))) s1 (some (.imm (.str x))) t4 t5 t6 t7 t8 none) (asg_imm e1 rfl n3)]
  rw [seq_nx (ρ1 := envL (scrD ns) (some (.imm (.int (i : Int)))) s2 (some (.imm (.str x))) (some (.imm o)) t5 t6 t7 t8 none) (asg_imm (call_pick (arg_odds _) e2) rfl n4)]
  rw [seq_nx (ρ1 := envL (scrD ns) (some (.imm (.int (i : Int)))) s3 (some (.imm (.str x))) (some (.imm o)) (some (.imm (.int n))) (some (.own (.dtt [(.tup [.str "start", .str "start"], .int 0)]))) t7 t8 none) (par56 (call_pick (arg_nums _) e3) (dsp2 _) rfl n5 rfl n6)]
  rw [seq_nx (ρ1 := envL (scrD ns) (some (.imm (.int (i : Int)))) s3 (some (.imm (.str x))) (some (.imm o)) (some (.imm (.int n))) (some (.own (.dtt [(.tup [.str "start", .str "start"], .int 0)]))) (some (.imm rows)) t8 none) (asg_imm (arg_rows _) rfl n7)]
  rw [seq_nx (ρ1 := envL (scrD ns) (some (.imm (.int (i : Int)))) s4 (some (.imm (.str x))) (some (.imm o)) (some (.imm (.int n))) (some (.own (.dtt [(.tup [.str "start", .str "start"], .int 0)]))) (some (.imm rows)) (some (.imm (.tup p))) none) (asg_imm (call_pick (arg_papers _ _ _ _ _ _ _ _ _) e4) rfl n8)]
  have hv' : ansF m__law_values_right [.imm o, .bor (.int n), .bor (.tup p), .bor (.tup [.str "table", .dtt [(.tup [.str "start", .str "start"], .int 0)], .dct [], .dct [(.str "start", .int 0)]])] = some (.ok (.imm (.bl true))) := hv
  rw [seq_nx (ρ1 := [some (.bor (scrD ns)), some (.imm (.int (i : Int))), some (.own s4), some (.imm (.str x)), some (.imm o), some (.imm (.int n)), some (.imm (.dtt [(.tup [.str "start", .str "start"], .int 0)])), some (.imm rows), some (.imm (.tup p)), none]) (by simp [noM, endA, endS, top0, sRet, sSeq, sIf, sAsg, putV, toSl, putS_eq, nmS_none, nmS_imm, nmS_own, nmS_bor, sDrop, sNext, xAnd, xOr, xNot, xTest, boolOf, bAnd, bOr, bNot, xIf, Z.bnd, xCallB, xArgs, xVar, Z.ret, conts, cont, xOp, xUn, xTup, xLst, shares, share, D.solid, Sl.d, Sl.isM, leave, xCall, keepI_B, keepI_M, keepI_nil, callV_B, callV_M, argS, gnm, gtup, gcons, gnil, xMut, isSl, isT, mutS, Sl.put, sPut, isM, xSl, xPart, xChain, apart_imm, apart_own, apart_slot, apart_end, ansF_star, ansF_perm, permL, Sl.isI, keepI_I, envL, dsp1, callV_I, hv'])]
  simp [noM, endA, endS, top0, sRet, sSeq, sIf, sAsg, putV, toSl, putS_eq, nmS_none, nmS_imm, nmS_own, nmS_bor, sDrop, sNext, xAnd, xOr, xNot, xTest, boolOf, bAnd, bOr, bNot, xIf, Z.bnd, xCallB, xArgs, xVar, Z.ret, conts, cont, xOp, xUn, xTup, xLst, shares, share, D.solid, Sl.d, Sl.isM, leave, xCall, keepI_B, keepI_M, keepI_nil, callV_B, callV_M, argS, gnm, gtup, gcons, gnil, xMut, isSl, isT, mutS, Sl.put, sPut, isM, xSl, xPart, xChain, apart_imm, apart_own, apart_slot, apart_end, ansF_star, ansF_perm, permL, Sl.isI, keepI_I, hm]
end Mt

namespace Mt
open PySem L2 Z Wk
theorem law_ok (ns : List Int) : ansF m_law [.bor (scrD ns)] = some (.ok (.imm (.bl true))) := by
  obtain ⟨j, hj⟩ : ∃ j : Int, j = (if (if (ns.length : Int) < 4 then (ns.length : Int) else 4) > 1 then (if (ns.length : Int) < 4 then (ns.length : Int) else 4) else 1) := ⟨_, rfl⟩
  have j4 : -16777216 ≤ j ∧ j ≤ 16777216 ∧ j ≤ 4 := by rw [hj]; split <;> split <;> omega
  obtain ⟨ρ, r1, t1, t2, t3, t4, t5, t6, t7, t8, er, z1, z2, z3, z4, z5, z6, z7, z8⟩ := forL_run (g := gnm 1) (body := y0_law) (fun n ρ => ∃ t1 t2 t3 t4 t5 t6 t7 t8, ρ = [some (.bor (scrD ns)), t1, t2, t3, t4, t5, t6, t7, t8, none] ∧ nmS t1 = true ∧ nmS t2 = true ∧ nmS t3 = true ∧ nmS t4 = true ∧ nmS t5 = true ∧ nmS t6 = true ∧ nmS t7 = true ∧ nmS t8 = true)
    (rngD 0 j.toNat) 0 [some (.bor (scrD ns)), none, none, none, none, none, none, none, none, none] ⟨_, _, _, _, _, _, _, _, rfl, rfl, rfl, rfl, rfl, rfl, rfl, rfl, rfl⟩ fun i x ρ ed ⟨t1, t2, t3, t4, t5, t6, t7, t8, er, z1, z2, z3, z4, z5, z6, z7, z8⟩ => by
      have li : i < j.toNat := by
        have := (List.getElem?_eq_some_iff.mp ed).1
        rwa [rng_len] at this
      have ex : x = .int (i : Int) := by
        unfold rngD at ed
        rw [List.getElem?_map, List.getElem?_range li] at ed
        simp at ed
        exact ed.symm
      subst ex
      subst er
      obtain ⟨s, tx, o, n, p, e⟩ := turn_law (ns := ns) (i := i) (by omega) z2 z3 z4 z5 z6 z7 z8
      exact ⟨[some (.bor (scrD ns)), some (.imm (.int (i : Int))), t2, t3, t4, t5, t6, t7, t8, none], _, by simp [noM, endA, endS, top0, sRet, sSeq, sIf, sAsg, putV, toSl, putS_eq, nmS_none, nmS_imm, nmS_own, nmS_bor, sDrop, sNext, xAnd, xOr, xNot, xTest, boolOf, bAnd, bOr, bNot, xIf, Z.bnd, xCallB, xArgs, xVar, Z.ret, conts, cont, xOp, xUn, xTup, xLst, shares, share, D.solid, Sl.d, Sl.isM, leave, xCall, keepI_B, keepI_M, keepI_nil, callV_B, callV_M, argS, gnm, gtup, gcons, gnil, xMut, isSl, isT, mutS, Sl.put, sPut, isM, xSl, xPart, xChain, apart_imm, apart_own, apart_slot, apart_end, ansF_star, ansF_perm, permL, Sl.isI, keepI_I, z1], e, _, _, _, _, _, _, _, _, rfl, rfl, rfl, rfl, rfl, rfl, rfl, rfl, rfl⟩
  have len : dLen [scrD ns] = some (.imm (.int (ns.length : Int))) := by simp [dLen, scrD]
  have mn : dMin2 [.int 4, .int (ns.length : Int)] = some (.imm (.int (if (ns.length : Int) < 4 then (ns.length : Int) else 4))) := rfl
  have mx : dMax2 [.int 1, .int (if (ns.length : Int) < 4 then (ns.length : Int) else 4)] = some (.imm (.int j)) := by rw [hj]; rfl
  generalize (if (ns.length : Int) < 4 then (ns.length : Int) else 4) = mm at *
  have ei : iRange1 (xArgs [(xCallB dMax2 (xArgs [(Z.ret (.imm (.int 1))), (xCallB dMin2 (xArgs [(Z.ret (.imm (.int 4))), (xCallB dLen (xArgs [(xVar 0)]))]))]))]) [some (.bor (scrD ns)), none, none, none, none, none, none, none, none, none] = some (.ok (rngD 0 j.toNat), [some (.bor (scrD ns)), none, none, none, none, none, none, none, none, none]) := by
    simp [iRange1, noM, endA, endS, top0, sRet, sSeq, sIf, sAsg, putV, toSl, putS_eq, nmS_none, nmS_imm, nmS_own, nmS_bor, sDrop, sNext, xAnd, xOr, xNot, xTest, boolOf, bAnd, bOr, bNot, xIf, Z.bnd, xCallB, xArgs, xVar, Z.ret, conts, cont, xOp, xUn, xTup, xLst, shares, share, D.solid, Sl.d, Sl.isM, leave, xCall, keepI_B, keepI_M, keepI_nil, callV_B, callV_M, argS, gnm, gtup, gcons, gnil, xMut, isSl, isT, mutS, Sl.put, sPut, isM, xSl, xPart, xChain, apart_imm, apart_own, apart_slot, apart_end, ansF_star, ansF_perm, permL, Sl.isI, keepI_I, int1, len, mn, mx, j4.1, j4.2.1]
  have hl : l0_law [some (.bor (scrD ns)), none, none, none, none, none, none, none, none, none] = some (.ok .nx, ρ) := by
    unfold l0_law sFor Z.bnd
    rw [ei]
    exact r1
  simp only [m_law, ansF_mk, mb_law]
  have e0 : (([Sl.bor (scrD ns)].map some ++ List.replicate (10 - [Sl.bor (scrD ns)].length) none : Z.Env)) = [some (.bor (scrD ns)), none, none, none, none, none, none, none, none, none] := rfl
  rw [e0, seq_nx hl, er]
  simp [noM, endA, endS, top0, sRet, sSeq, sIf, sAsg, putV, toSl, putS_eq, nmS_none, nmS_imm, nmS_own, nmS_bor, sDrop, sNext, xAnd, xOr, xNot, xTest, boolOf, bAnd, bOr, bNot, xIf, Z.bnd, xCallB, xArgs, xVar, Z.ret, conts, cont, xOp, xUn, xTup, xLst, shares, share, D.solid, Sl.d, Sl.isM, leave, xCall, keepI_B, keepI_M, keepI_nil, callV_B, callV_M, argS, gnm, gtup, gcons, gnil, xMut, isSl, isT, mutS, Sl.put, sPut, isM, xSl, xPart, xChain, apart_imm, apart_own, apart_slot, apart_end, ansF_star, ansF_perm, permL, Sl.isI, keepI_I]
end Mt

open PySem PySem.W PySem.Calls PyProof.Rows
theorem PySem.Challenge.cw_heardlate_k00_errors_holds : PySem.Challenge.rw_heardlate_k00_errors.Holds := by
  w_on; o_law
  refine HandSHeadRun.head_any (r := OpenLaw.row PySem.Challenge.rw_heardlate_k00_errors) (q := view (OpenLaw.row PySem.Challenge.rw_heardlate_k00_errors).prog [29]) (H := Hd.hk) (ob := Hd.ob) (M := 40000) (loose := Hd.loose) (d := HandSHeadRun.topDef (OpenLaw.row PySem.Challenge.rw_heardlate_k00_errors).prog 29) (kwd := []) Hd.ob_eq
    (by kernel_rfl) (fun s => by kernel_rfl) Hd.run (by kernel_rfl) (by kernel_rfl) (by kernel_rfl) (by rfl) (by first | assumption | decide +kernel) (by decide +kernel) ⟨rfl, rfl, rfl, rfl, rfl, by decide +kernel⟩ ?hw ?hc
  case hw => w_witness2
  case hc =>
    refine Z.walkZ (l := PySem.Challenge.rw_heardlate_k00_errors) (n := 63) (k := 4) (CX := fun _ => L2.CX0) (F := Wk.m_law) rfl (by decide) (by kernel_rfl) ⟨rfl, by decide, by decide⟩ ?G ?ok (fun _ _ _ _ _ z => z)
    case ok =>
      intro ns _
      have h := Mt.law_ok ns
      unfold Z.ansF at h
      cases e : Wk.m_law [.bor (Mt.scrD ns)] with
      | none => rw [e] at h; cases h
      | some p =>
        obtain ⟨r, ρ⟩ := p
        rw [e] at h
        cases h
        exact ⟨ρ, e⟩
    case G =>
      intro w mg fa h Y N hmg0
      obtain ⟨K, KX, c, nl, sm, ex⟩ := Y
      have gm : Wk.Gm K mg := ⟨h, KX, N, c, sm, ex⟩
      have e : fa = He.ga K "law" := by
        have q := Wk.q_law gm
        have q2 : mg ("law" : PySem.Str) = some (.ref fa) := hmg0
        rw [q2] at q
        cases q
        rfl
      subst e
      exact ⟨K, KX, nl, fun base _ _ => Wk.all_law gm⟩

