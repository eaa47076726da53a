import PyProof.Rows.All
import Wide.All
import OpenK.AllK
import Wide.FinOn
import HandS.ForMost
import HandS.Flow
import HandS.DictComp
import HandS.SetBool
import HandS.Deep
import HandS.FStr
import HandS.TupAny
import HandS.Star
import HandS.Exc
import HandS.IsInst
import HandS.TryOnly
import HandS.Iter
import HandS.Zip
import HandS.Defaults
import KE.KParD
import HandS.CallRecv
import HandS.OwnEq
import HandS.RaiseMore
import HandS.Style
import HandS.Set
import PyProof.Rows.SetFrom
import HandS.Small
import KE.KEqNest
import KE.KFmtOwn
import KE.KCallOwn
import PyProof.InstEq
import PyProof.CallFns
import HandS.HeadHook4
import HandS.HeadEnd
import HandS.Codes
import HandS.Head0
import HandS.Head1
import HandS.Head2
import KE.KIntText
import KE.KxField
import KE.KStrBytes
import PySem.Challenge.RW_keptcopy_k02_options_compared_and_writte
set_option Elab.async false
set_option linter.all false
set_option maxRecDepth 100000

section
/-! T: a small Python of pure values, with owned places. Values that nobody changes any more are FV; OV are those that one place owns. -/
namespace Tv
open PySem (Str Expr Stmt Scope NameKind Operator CmpOp)

inductive FV where
  | non | bl (b : Bool) | int (i : Int) | str (x : Str)
  | lst (xs : List FV) | tup (xs : List FV)
  | dic (ks vs : List FV)
  | obj (c : Nat) (ns : List Nat) (vs : List FV)
  | cls (c : Nat)
  /-- the script -/
  | scr (ns : List Int)
  deriving Inhabited

inductive OV where
  | frz (v : FV)
  | lst (xs : List OV)
  | tup (xs : List OV)
  | dic (ks : List FV) (vs : List OV)
  | obj (c : Nat) (ns : List Nat) (vs : List OV)
  deriving Inhabited

mutual
/-- what it is for one who only reads -/
def OV.fz : OV → FV
  | .frz v => v
  | .lst xs => .lst (OV.fzs xs)
  | .tup xs => .tup (OV.fzs xs)
  | .dic ks vs => .dic ks (OV.fzs vs)
  | .obj c ns vs => .obj c ns (OV.fzs vs)
def OV.fzs : List OV → List FV
  | [] => []
  | x :: xs => x.fz :: OV.fzs xs
end
theorem fzs_map : ∀ xs : List OV, OV.fzs xs = xs.map OV.fz
  | [] => rfl
  | x :: xs => by rw [OV.fzs, fzs_map xs]; rfl
@[simp] theorem fzs_frz (xs : List FV) : OV.fzs (xs.map OV.frz) = xs := by
  induction xs with
  | nil => rfl
  | cons x xs ih => rw [List.map_cons, OV.fzs, ih]; rfl
theorem fzs_length (xs : List OV) : (OV.fzs xs).length = xs.length := by rw [fzs_map, List.length_map]

/-- the rows of one def, or of a method -/
abbrev Slots := List (Option OV)

/-- an operand: a value, the place of a name, a field of what a name owns -/
inductive Opd where
  | val (o : OV) | at (i : Nat) | fld (i f : Nat)

/-- an exception: its class, its attributes -/
structure XV where
  c : Nat
  ns : List Nat
  vs : List FV

inductive Out (α : Type) where
  | ok (a : α) (s : Slots) | exc (x : XV) (s : Slots) | bad

abbrev TM (α : Type) := Slots → Out α
def tp {α : Type} (a : α) : TM α := fun s => .ok a s
def tbad {α : Type} : TM α := fun _ => .bad
def tb {α β : Type} (m : TM α) (k : α → TM β) : TM β := fun s =>
  match m s with
  | .ok a s' => k a s'
  | .exc x s' => .exc x s'
  | .bad => .bad

/-- by names -/
def look {α : Type} (f : Nat) : List Nat → List α → Option α
  | n :: ns, v :: vs => if n = f then some v else look f ns vs
  | _, _ => none
/-- a field set: at its place, or a new last one -/
def putN (f : Nat) : List Nat → List Nat
  | [] => [f]
  | n :: ns => if n = f then n :: ns else n :: putN f ns
def putV {α : Type} (f : Nat) (x : α) : List Nat → List α → List α
  | n :: ns, v :: vs => if n = f then x :: vs else v :: putV f x ns vs
  | [], vs => vs ++ [x]
  | _ :: _, [] => []

def slot (s : Slots) (i : Nat) : Option OV := (s[i]?).join

def Opd.get (s : Slots) : Opd → Option OV
  | .val o => some o
  | .at i => slot s i
  | .fld i f => match slot s i with
    | some (.obj _ ns vs) => look f ns vs
    | _ => none
/-- the operand goes elsewhere: what was owned by a name is frozen -/
def esc (o : Opd) : TM OV := fun s => match o with
  | .val o => .ok o s
  | .at i => match slot s i with
    | some o => .ok (.frz o.fz) (s.set i (some (.frz o.fz)))
    | none => .bad
  | .fld i f => match slot s i with
    | some (.obj c ns vs) => match look f ns vs with
      | some o => .ok (.frz o.fz) (s.set i (some (.obj c ns (putV f (.frz o.fz) ns vs))))
      | none => .bad
    | _ => .bad
def tval (m : TM Opd) : TM OV := tb m esc
def isFld : Opd → Bool
  | .fld _ _ => true
  | _ => false
/-- ahead of something that is not calm no field is held -/
def nofld (calm : Bool) (m : TM Opd) : TM Opd := tb m fun o s => match calm, isFld o with
  | false, true => .bad
  | _, _ => .ok o s

def t1 (f : OV → Option OV) (m : TM Opd) : TM Opd := tb m fun o s => match o.get s with
  | some x => match f x with
    | some r => .ok (.val r) s
    | none => .bad
  | none => .bad
def t2 (calm : Bool) (f : OV → OV → Option OV) (a b : TM Opd) : TM Opd := tb (nofld calm a) fun oa => tb b fun ob s => match oa.get s, ob.get s with
  | some x, some y => match f x y with
    | some r => .ok (.val r) s
    | none => .bad
  | _, _ => .bad

/-! ### values by themselves -/
def szl : Nat := 16777216
/-- frozen items of a list -/
def frzs : List OV → Option (List FV)
  | [] => some []
  | .frz v :: r => (frzs r).map (v :: ·)
  | _ :: _ => none
theorem frzs_map (xs : List FV) : frzs (xs.map OV.frz) = some xs := by
  induction xs with
  | nil => rfl
  | cons x xs ih => rw [List.map_cons, frzs, ih]; rfl
def OV.els : OV → Option (List FV)
  | .frz (.lst xs) => some xs
  | .lst os => frzs os
  | _ => none
def OV.tels : OV → Option (List FV)
  | .frz (.tup xs) => some xs
  | .tup os => frzs os
  | _ => none
def OV.ofl (xs : List FV) : OV := .lst (xs.map .frz)

/-- its code points are code points -/
def sok (x : Str) : Bool := x.cps.all (· < 0x110000)
def fint (i : Int) : OV := .frz (.int i)
def fbl (b : Bool) : OV := .frz (.bl b)
def fstr (x : Str) : OV := .frz (.str x)
end Tv
end

section
/-! How values of T lie in the abstract heap. -/
namespace Tv
open PySem L2
open PySem (Str)

/-- what the top of the text fixes: the written part, the classes' places, the attributes' names -/
structure Gs where
  K : PySem.W.Frag
  cad : Nat → Addr
  att : Nat → Str
  inj : ∀ n m, att n = att m → n = m

mutual
def RF (G : Gs) (F : Hp) : FV → V → Prop
  | .non, v => v = .non
  | .bl b, v => v = .bl b
  | .int i, v => v = .int i
  | .str x, v => v = .str x ∧ sok x = true
  | .lst xs, v => ∃ a ws, v = .ref a ∧ F a = some (.lst ws) ∧ RFs G F xs ws
  | .tup xs, v => ∃ a ws, v = .ref a ∧ SqT G.K F a ws ∧ RFs G F xs ws
  | .dic ks xs, v => ∃ a ws, v = .ref a ∧ RFs G F xs ws ∧
      ((∃ kvs : List (Key × V), Rd F a (.dK kvs) ∧ kvs.map (·.2) = ws ∧ RFs G F ks (kvs.map fun q => kV q.1)) ∨
       (∃ kvs : List (List Key × V), Rd F a (.dT kvs) ∧ kvs.map (·.2) = ws ∧ ks ≠ [] ∧ RTs ks (kvs.map (·.1))))
  | .obj c ns xs, v => ∃ a dx fs, v = .ref a ∧ F a = some (.ins (G.cad c) dx fs) ∧ fs.map (·.1) = ns.map G.att ∧ RFs G F xs (fs.map (·.2))
  | .cls c, v => v = .ref (G.cad c)
  | .scr ns, v => ∃ a, v = .ref a ∧ SqL G.K F a (ns.map V.int)
def RFs (G : Gs) (F : Hp) : List FV → List V → Prop
  | [], ws => ws = []
  | x :: xs, ws => ∃ v vr, ws = v :: vr ∧ RF G F x v ∧ RFs G F xs vr
/-- keys that are tuples, by value -/
def RTs : List FV → List (List Key) → Prop
  | [], ws => ws = []
  | x :: xs, ws => ∃ k kr, ws = k :: kr ∧ RT x k ∧ RTs xs kr
def RT : FV → List Key → Prop
  | .tup xs, k => RKs xs k
  | .non, _ => False
  | .bl _, _ => False
  | .int _, _ => False
  | .str _, _ => False
  | .lst _, _ => False
  | .dic _ _, _ => False
  | .obj _ _ _, _ => False
  | .cls _, _ => False
  | .scr _, _ => False
def RKs : List FV → List Key → Prop
  | [], ws => ws = []
  | x :: xs, ws => ∃ k kr, ws = k :: kr ∧ RK1 x k ∧ RKs xs kr
def RK1 : FV → Key → Prop
  | .int i, k => k = Sum.inl i
  | .str x, k => k = Sum.inr x
  | .non, _ => False
  | .bl _, _ => False
  | .lst _, _ => False
  | .tup _, _ => False
  | .dic _ _, _ => False
  | .obj _ _ _, _ => False
  | .cls _, _ => False
  | .scr _, _ => False
end

/-- a dict may have been locked -/
def isDk : HO → Prop
  | .dK _ => True
  | .dT _ => True
  | _ => False
def Lk (u u' : HO) : Prop := u' = u ∨ (isDk u ∧ ∃ o, u' = .frz o u)
theorem Lk.trans {u u' u2 : HO} (h : Lk u u') (k : Lk u' u2) : Lk u u2 := by
  rcases h with h | ⟨d, o, h⟩
  · subst h; exact k
  · subst h
    rcases k with k | ⟨d', _, _⟩
    · subst k; exact .inr ⟨d, o, rfl⟩
    · exact d'.elim
/-- what stands in F stands in H -/
def SubH (F H : Hp) : Prop := ∀ a u, F a = some u → ∃ u', H a = some u' ∧ Lk u u'
theorem SubH.refl (F : Hp) : SubH F F := fun a u e => ⟨u, e, .inl rfl⟩
theorem SubH.trans {F F' H : Hp} (h : SubH F F') (k : SubH F' H) : SubH F H := fun a u e => by
  obtain ⟨u', e', l⟩ := h a u e
  obtain ⟨u2, e2, l2⟩ := k a u' e'
  exact ⟨u2, e2, l.trans l2⟩
theorem SubH.at {F H : Hp} (h : SubH F H) {a : Addr} {u : HO} (e : F a = some u) (nd : ¬ isDk u) : H a = some u := by
  obtain ⟨u', e', l⟩ := h a u e
  rcases l with l | ⟨d, _⟩
  · rw [e', l]
  · exact (nd d).elim
theorem SubH.free {F H : Hp} (h : SubH F H) {a : Addr} (e : H a = none) : F a = none := by
  cases q : F a with
  | none => rfl
  | some u =>
    obtain ⟨u', e', _⟩ := h a u q
    rw [e] at e'; cases e'
theorem SubH.lst {F H : Hp} (h : SubH F H) {a : Addr} {ws : List V} (e : F a = some (.lst ws)) : H a = some (.lst ws) := h.at e id
theorem SubH.ins {F H : Hp} (h : SubH F H) {a C dx : Addr} {fs : List (Str × V)} (e : F a = some (.ins C dx fs)) : H a = some (.ins C dx fs) := h.at e id
theorem rd_mono {F F' : Hp} {a : Addr} {o : HO} (h : SubH F F') (r : Rd F a o) : Rd F' a o := by
  rcases r with r | ⟨u, r⟩
  · obtain ⟨u', e, l⟩ := h a o r
    rcases l with l | ⟨_, q, l⟩
    · subst l; exact .inl e
    · subst l; exact .inr ⟨q, e⟩
  · exact .inr ⟨u, h.at r id⟩
theorem sqt_mono {K : PySem.W.Frag} {F F' : Hp} {a : Addr} {xs : List V} (h : SubH F F') (r : SqT K F a xs) : SqT K F' a xs := by
  rcases r with r | r
  · exact .inl (rd_mono h r)
  · exact .inr r
theorem sql_mono {K : PySem.W.Frag} {F F' : Hp} {a : Addr} {xs : List V} (h : SubH F F') (r : SqL K F a xs) : SqL K F' a xs := by
  rcases r with r | r
  · exact .inl (rd_mono h r)
  · exact .inr r

mutual
theorem RF.mono {G : Gs} {F F' : Hp} (h : SubH F F') : ∀ (x : FV) (v : V), RF G F x v → RF G F' x v
  | .non, v, r => r
  | .bl _, v, r => r
  | .int _, v, r => r
  | .str _, v, r => r
  | .lst xs, v, r => by
    obtain ⟨a, ws, e, q, t⟩ := r
    exact ⟨a, ws, e, h.lst q, RFs.mono h xs ws t⟩
  | .tup xs, v, r => by
    obtain ⟨a, ws, e, q, t⟩ := r
    exact ⟨a, ws, e, sqt_mono h q, RFs.mono h xs ws t⟩
  | .dic ks xs, v, r => by
    obtain ⟨a, ws, e, t, q⟩ := r
    refine ⟨a, ws, e, RFs.mono h xs ws t, ?_⟩
    rcases q with ⟨kvs, q1, q2, q3⟩ | ⟨kvs, q1, q2, q3⟩
    · exact .inl ⟨kvs, rd_mono h q1, q2, RFs.mono h ks _ q3⟩
    · exact .inr ⟨kvs, rd_mono h q1, q2, q3⟩
  | .obj c ns xs, v, r => by
    obtain ⟨a, dx, fs, e, q, n, t⟩ := r
    exact ⟨a, dx, fs, e, h.ins q, n, RFs.mono h xs _ t⟩
  | .cls _, v, r => r
  | .scr ns, v, r => by
    obtain ⟨a, e, q⟩ := r
    exact ⟨a, e, sql_mono h q⟩
theorem RFs.mono {G : Gs} {F F' : Hp} (h : SubH F F') : ∀ (xs : List FV) (ws : List V), RFs G F xs ws → RFs G F' xs ws
  | [], _, r => r
  | x :: xs, _, r => by
    obtain ⟨v, vr, e, r1, r2⟩ := r
    exact ⟨v, vr, e, RF.mono h x v r1, RFs.mono h xs vr r2⟩
end

mutual
/-- an owned value: where its own objects stand -/
def RO (G : Gs) (F H : Hp) : OV → V → List Addr → Prop
  | .frz x, v, fp => fp = [] ∧ RF G F x v
  | .lst xs, v, fp => ∃ a ws fr, v = .ref a ∧ fp = a :: fr ∧ H a = some (.lst ws) ∧ ROs G F H xs ws fr
  | .tup xs, v, fp => ∃ a ws fr, v = .ref a ∧ fp = a :: fr ∧ H a = some (.tup ws) ∧ ROs G F H xs ws fr
  | .dic ks xs, v, fp => ∃ a ws fr, v = .ref a ∧ fp = a :: fr ∧ ROs G F H xs ws fr ∧
      ((∃ kvs : List (Key × V), H a = some (.dK kvs) ∧ kvs.map (·.2) = ws ∧ RFs G F ks (kvs.map fun q => kV q.1)) ∨
       (∃ kvs : List (List Key × V), H a = some (.dT kvs) ∧ kvs.map (·.2) = ws ∧ ks ≠ [] ∧ RTs ks (kvs.map (·.1))))
  | .obj c ns xs, v, fp => ∃ a dx fs fr, v = .ref a ∧ fp = a :: fr ∧ H a = some (.ins (G.cad c) dx fs) ∧ fs.map (·.1) = ns.map G.att ∧ ROs G F H xs (fs.map (·.2)) fr
def ROs (G : Gs) (F H : Hp) : List OV → List V → List Addr → Prop
  | [], ws, fp => ws = [] ∧ fp = []
  | x :: xs, ws, fp => ∃ v vr f1 f2, ws = v :: vr ∧ fp = f1 ++ f2 ∧ RO G F H x v f1 ∧ ROs G F H xs vr f2
end

mutual
theorem RO.frame {G : Gs} {F F' H H' : Hp} (h : SubH F F') : ∀ (o : OV) (v : V) (fp : List Addr), (∀ a ∈ fp, H' a = H a) → RO G F H o v fp → RO G F' H' o v fp
  | .frz x, v, fp, _, r => ⟨r.1, RF.mono h x v r.2⟩
  | .lst xs, v, fp, k, r => by
    obtain ⟨a, ws, fr, e, ef, q, t⟩ := r
    subst ef
    exact ⟨a, ws, fr, e, rfl, (k a List.mem_cons_self).trans q, ROs.frame h xs ws fr (fun b hb => k b (List.mem_cons_of_mem _ hb)) t⟩
  | .tup xs, v, fp, k, r => by
    obtain ⟨a, ws, fr, e, ef, q, t⟩ := r
    subst ef
    exact ⟨a, ws, fr, e, rfl, (k a List.mem_cons_self).trans q, ROs.frame h xs ws fr (fun b hb => k b (List.mem_cons_of_mem _ hb)) t⟩
  | .dic ks xs, v, fp, k, r => by
    obtain ⟨a, ws, fr, e, ef, t, q⟩ := r
    subst ef
    refine ⟨a, ws, fr, e, rfl, ROs.frame h xs ws fr (fun b hb => k b (List.mem_cons_of_mem _ hb)) t, ?_⟩
    rcases q with ⟨kvs, q1, q2, q3⟩ | ⟨kvs, q1, q2, q3⟩
    · exact .inl ⟨kvs, (k a List.mem_cons_self).trans q1, q2, RFs.mono h ks _ q3⟩
    · exact .inr ⟨kvs, (k a List.mem_cons_self).trans q1, q2, q3⟩
  | .obj c ns xs, v, fp, k, r => by
    obtain ⟨a, dx, fs, fr, e, ef, q, n, t⟩ := r
    subst ef
    exact ⟨a, dx, fs, fr, e, rfl, (k a List.mem_cons_self).trans q, n, ROs.frame h xs _ fr (fun b hb => k b (List.mem_cons_of_mem _ hb)) t⟩
theorem ROs.frame {G : Gs} {F F' H H' : Hp} (h : SubH F F') : ∀ (xs : List OV) (ws : List V) (fp : List Addr), (∀ a ∈ fp, H' a = H a) → ROs G F H xs ws fp → ROs G F' H' xs ws fp
  | [], _, _, _, r => r
  | x :: xs, _, _, k, r => by
    obtain ⟨v, vr, f1, f2, e, ef, r1, r2⟩ := r
    subst ef
    exact ⟨v, vr, f1, f2, e, rfl, RO.frame h x v f1 (fun b hb => k b (List.mem_append_left _ hb)) r1, ROs.frame h xs vr f2 (fun b hb => k b (List.mem_append_right _ hb)) r2⟩
end

mutual
theorem RO.live {G : Gs} {F H : Hp} : ∀ (o : OV) (v : V) (fp : List Addr), RO G F H o v fp → ∀ a ∈ fp, H a ≠ none
  | .frz x, v, fp, r, a, m => by rw [r.1] at m; cases m
  | .lst xs, v, fp, r, b, m => by
    obtain ⟨a, ws, fr, e, ef, q, t⟩ := r
    subst ef
    rcases List.mem_cons.mp m with z | z
    · subst z; rw [q]; simp
    · exact ROs.live xs ws fr t b z
  | .tup xs, v, fp, r, b, m => by
    obtain ⟨a, ws, fr, e, ef, q, t⟩ := r
    subst ef
    rcases List.mem_cons.mp m with z | z
    · subst z; rw [q]; simp
    · exact ROs.live xs ws fr t b z
  | .dic ks xs, v, fp, r, b, m => by
    obtain ⟨a, ws, fr, e, ef, t, q⟩ := r
    subst ef
    rcases List.mem_cons.mp m with z | z
    · subst z
      rcases q with ⟨kvs, q1, _⟩ | ⟨kvs, q1, _⟩ <;> (rw [q1]; simp)
    · exact ROs.live xs ws fr t b z
  | .obj c ns xs, v, fp, r, b, m => by
    obtain ⟨a, dx, fs, fr, e, ef, q, n, t⟩ := r
    subst ef
    rcases List.mem_cons.mp m with z | z
    · subst z; rw [q]; simp
    · exact ROs.live xs _ fr t b z
theorem ROs.live {G : Gs} {F H : Hp} : ∀ (xs : List OV) (ws : List V) (fp : List Addr), ROs G F H xs ws fp → ∀ a ∈ fp, H a ≠ none
  | [], _, _, r, a, m => by rw [r.2] at m; cases m
  | x :: xs, _, _, r, a, m => by
    obtain ⟨v, vr, f1, f2, e, ef, r1, r2⟩ := r
    subst ef
    rcases List.mem_append.mp m with z | z
    · exact RO.live x v f1 r1 a z
    · exact ROs.live xs vr f2 r2 a z
end

mutual
/-- frozen: its objects come to the part that nobody changes -/
theorem RO.freeze {G : Gs} {F F' H : Hp} (h : SubH F F') : ∀ (o : OV) (v : V) (fp : List Addr), (∀ a ∈ fp, F' a = H a) → RO G F H o v fp → RF G F' o.fz v
  | .frz x, v, fp, _, r => RF.mono h x v r.2
  | .lst xs, v, fp, k, r => by
    obtain ⟨a, ws, fr, e, ef, q, t⟩ := r
    subst ef
    exact ⟨a, ws, e, (k a List.mem_cons_self).trans q, ROs.freeze h xs ws fr (fun b hb => k b (List.mem_cons_of_mem _ hb)) t⟩
  | .tup xs, v, fp, k, r => by
    obtain ⟨a, ws, fr, e, ef, q, t⟩ := r
    subst ef
    exact ⟨a, ws, e, .inl (.inl ((k a List.mem_cons_self).trans q)), ROs.freeze h xs ws fr (fun b hb => k b (List.mem_cons_of_mem _ hb)) t⟩
  | .dic ks xs, v, fp, k, r => by
    obtain ⟨a, ws, fr, e, ef, t, q⟩ := r
    subst ef
    refine ⟨a, ws, e, ROs.freeze h xs ws fr (fun b hb => k b (List.mem_cons_of_mem _ hb)) t, ?_⟩
    rcases q with ⟨kvs, q1, q2, q3⟩ | ⟨kvs, q1, q2, q3⟩
    · exact .inl ⟨kvs, .inl ((k a List.mem_cons_self).trans q1), q2, RFs.mono h ks _ q3⟩
    · exact .inr ⟨kvs, .inl ((k a List.mem_cons_self).trans q1), q2, q3⟩
  | .obj c ns xs, v, fp, k, r => by
    obtain ⟨a, dx, fs, fr, e, ef, q, n, t⟩ := r
    subst ef
    exact ⟨a, dx, fs, e, (k a List.mem_cons_self).trans q, n, ROs.freeze h xs _ fr (fun b hb => k b (List.mem_cons_of_mem _ hb)) t⟩
theorem ROs.freeze {G : Gs} {F F' H : Hp} (h : SubH F F') : ∀ (xs : List OV) (ws : List V) (fp : List Addr), (∀ a ∈ fp, F' a = H a) → ROs G F H xs ws fp → RFs G F' (OV.fzs xs) ws
  | [], _, _, _, r => r.1
  | x :: xs, _, _, k, r => by
    obtain ⟨v, vr, f1, f2, e, ef, r1, r2⟩ := r
    subst ef
    exact ⟨v, vr, e, RO.freeze h x v f1 (fun b hb => k b (List.mem_append_left _ hb)) r1, ROs.freeze h xs vr f2 (fun b hb => k b (List.mem_append_right _ hb)) r2⟩
end
/-- for one who only reads: as it stands in the whole heap -/
theorem RO.view {G : Gs} {F H : Hp} (h : SubH F H) (o : OV) (v : V) (fp : List Addr) (r : RO G F H o v fp) : RF G H o.fz v := RO.freeze h o v fp (fun _ _ => rfl) r

/-- the rows of a def -/
def SL (G : Gs) (F H : Hp) : Slots → St → List Addr → Prop
  | [], σ, fp => σ = [] ∧ fp = []
  | none :: ts, σ, fp => ∃ x σr, σ = x :: σr ∧ SL G F H ts σr fp
  | some o :: ts, σ, fp => ∃ v σr f1 f2, σ = some v :: σr ∧ fp = f1 ++ f2 ∧ RO G F H o v f1 ∧ SL G F H ts σr f2

structure Sim (G : Gs) (F H : Hp) (σ : St) (ts : Slots) (fp : List Addr) : Prop where
  sub : SubH F H
  sl : SL G F H ts σ fp
  nd : fp.Nodup
  off : ∀ a ∈ fp, F a = none

theorem SL.live {G : Gs} {F H : Hp} : ∀ {ts : Slots} {σ : St} {fp : List Addr}, SL G F H ts σ fp → ∀ a ∈ fp, H a ≠ none
  | [], _, _, r, a, m => by rw [r.2] at m; cases m
  | none :: ts, _, _, r, a, m => by
    obtain ⟨x, σr, e, t⟩ := r
    exact SL.live t a m
  | some o :: ts, _, _, r, a, m => by
    obtain ⟨v, σr, f1, f2, e, ef, r1, t⟩ := r
    subst ef
    rcases List.mem_append.mp m with z | z
    · exact RO.live o v f1 r1 a z
    · exact SL.live t a z
theorem SL.frame {G : Gs} {F F' H H' : Hp} (h : SubH F F') : ∀ {ts : Slots} {σ : St} {fp : List Addr}, (∀ a ∈ fp, H' a = H a) → SL G F H ts σ fp → SL G F' H' ts σ fp
  | [], _, _, _, r => r
  | none :: ts, _, _, k, r => by
    obtain ⟨x, σr, e, t⟩ := r
    exact ⟨x, σr, e, SL.frame h k t⟩
  | some o :: ts, _, _, k, r => by
    obtain ⟨v, σr, f1, f2, e, ef, r1, t⟩ := r
    subst ef
    exact ⟨v, σr, f1, f2, e, rfl, RO.frame h o v f1 (fun b hb => k b (List.mem_append_left _ hb)) r1, SL.frame h (fun b hb => k b (List.mem_append_right _ hb)) t⟩
theorem SL.len {G : Gs} {F H : Hp} : ∀ {ts : Slots} {σ : St} {fp : List Addr}, SL G F H ts σ fp → σ.length = ts.length
  | [], _, _, r => by rw [r.1]; rfl
  | none :: ts, _, _, r => by
    obtain ⟨x, σr, e, t⟩ := r
    rw [e, List.length_cons, List.length_cons, SL.len t]
  | some o :: ts, _, _, r => by
    obtain ⟨v, σr, f1, f2, e, ef, r1, t⟩ := r
    rw [e, List.length_cons, List.length_cons, SL.len t]

/-- a row: what it holds, and how it is set -/
theorem SL.at {G : Gs} {F H : Hp} {o : OV} : ∀ {i : Nat} {ts : Slots} {σ : St} {fp : List Addr}, SL G F H ts σ fp → slot ts i = some o →
    ∃ v l f r, σ[i]? = some (some v) ∧ fp = l ++ (f ++ r) ∧ RO G F H o v f ∧
      (∀ (F' H' : Hp) (o' : OV) (v' : V) (f' : List Addr), SubH F F' → (∀ a ∈ l ++ r, H' a = H a) → RO G F' H' o' v' f' → SL G F' H' (ts.set i (some o')) (σ.set i (some v')) (l ++ (f' ++ r)))
  | 0, [], _, _, _, e => by simp [slot] at e
  | i + 1, [], _, _, _, e => by simp [slot] at e
  | 0, none :: ts, _, _, _, e => by simp [slot] at e
  | 0, some o1 :: ts, _, _, s, e => by
    obtain ⟨v, σr, f1, f2, es, ef, r1, t⟩ := s
    have eo : o1 = o := by simpa [slot] using e
    subst eo es ef
    refine ⟨v, [], f1, f2, rfl, rfl, r1, fun F' H' o' v' f' hF k r' => ?_⟩
    exact ⟨v', σr, f', f2, rfl, rfl, r', SL.frame hF (fun b hb => k b (by simpa using hb)) t⟩
  | i + 1, none :: ts, _, fp, s, e => by
    obtain ⟨x, σr, es, t⟩ := s
    subst es
    obtain ⟨v, l, f, r, h1, h2, h3, h4⟩ := SL.at (i := i) t (by simpa [slot] using e)
    exact ⟨v, l, f, r, by simpa using h1, h2, h3, fun F' H' o' v' f' hF k r' => ⟨x, σr.set i (some v'), rfl, h4 F' H' o' v' f' hF k r'⟩⟩
  | i + 1, some o1 :: ts, _, fp, s, e => by
    obtain ⟨v1, σr, f1, f2, es, ef, r1, t⟩ := s
    subst es ef
    obtain ⟨v, l, f, r, h1, h2, h3, h4⟩ := SL.at (i := i) t (by simpa [slot] using e)
    refine ⟨v, f1 ++ l, f, r, by simpa using h1, by rw [h2, List.append_assoc], h3, fun F' H' o' v' f' hF k r' => ?_⟩
    refine ⟨v1, σr.set i (some v'), f1, l ++ (f' ++ r), rfl, by rw [List.append_assoc], RO.frame hF o1 v1 f1 (fun b hb => k b (by simp [hb])) r1, ?_⟩
    exact h4 F' H' o' v' f' hF (fun b hb => k b (by rcases List.mem_append.mp hb with z | z <;> simp [z])) r'
/-- a row is set that may hold nothing -/
theorem SL.put {G : Gs} {F H : Hp} {o' : OV} {v' : V} {f' : List Addr} (r' : RO G F H o' v' f') : ∀ {i : Nat} {ts : Slots} {σ : St} {fp : List Addr}, SL G F H ts σ fp → i < ts.length →
    ∃ l r, (∀ a ∈ l ++ r, a ∈ fp) ∧ (fp.Nodup → (l ++ r).Nodup) ∧ SL G F H (ts.set i (some o')) (σ.set i (some v')) (l ++ (f' ++ r))
  | _, [], _, _, _, h => by simp at h
  | 0, none :: ts, _, fp, s, h => by
    obtain ⟨x, σr, es, t⟩ := s
    subst es
    exact ⟨[], fp, fun a m => by simpa using m, fun n => by simpa using n, v', σr, f', fp, rfl, rfl, r', t⟩
  | 0, some o1 :: ts, _, _, s, h => by
    obtain ⟨v, σr, f1, f2, es, ef, r1, t⟩ := s
    subst es ef
    exact ⟨[], f2, fun a m => by simp at m; simp [m], fun n => by simpa using (List.nodup_append.mp n).2.1, v', σr, f', f2, rfl, rfl, r', t⟩
  | i + 1, none :: ts, _, fp, s, h => by
    obtain ⟨x, σr, es, t⟩ := s
    subst es
    obtain ⟨l, r, h1, h2, h3⟩ := SL.put r' (i := i) t (by simpa using h)
    exact ⟨l, r, h1, h2, x, σr.set i (some v'), rfl, h3⟩
  | i + 1, some o1 :: ts, _, _, s, h => by
    obtain ⟨v1, σr, f1, f2, es, ef, r1, t⟩ := s
    subst es ef
    obtain ⟨l, r, h1, h2, h3⟩ := SL.put r' (i := i) t (by simpa using h)
    refine ⟨f1 ++ l, r, fun a m => ?_, fun n => ?_, v1, σr.set i (some v'), f1, l ++ (f' ++ r), rfl, by rw [List.append_assoc], r1, h3⟩
    · rw [List.append_assoc] at m
      rcases List.mem_append.mp m with z | z
      · exact List.mem_append_left _ z
      · exact List.mem_append_right _ (h1 a z)
    · obtain ⟨n1, n2, n3⟩ := List.nodup_append.mp n
      rw [List.append_assoc]
      exact List.nodup_append.mpr ⟨n1, h2 n2, fun a m b m' e => n3 a m b (h1 b m') e⟩

/-- what may have happened: fp was owned, fp' is owned then -/
structure Ex (H H' F F' : Hp) (fp fp' : List Addr) : Prop where
  sub : SubH F F'
  keep : ∀ a, H a ≠ none → a ∉ fp → F a = none → H' a = H a
  live : ∀ a, H a ≠ none → H' a ≠ none
  new : ∀ a ∈ fp', a ∈ fp ∨ H a = none
  fro : ∀ a, F' a ≠ none → F a ≠ none ∨ a ∈ fp ∨ H a = none

theorem Ex.refl (H F : Hp) (fp : List Addr) : Ex H H F F fp fp := ⟨SubH.refl F, fun _ _ _ _ => rfl, fun _ h => h, fun _ m => .inl m, fun _ h => .inl h⟩
theorem Ex.still {H H' F F' : Hp} {fp fp' : List Addr} (x : Ex H H' F F' fp fp') {a : Addr} (l : H a ≠ none) (m : a ∉ fp) (e : F a = none) : F' a = none := Classical.byContradiction fun z => by
  rcases x.fro a z with q | q | q
  · exact q e
  · exact m q
  · exact l q
/-- one after the other; fo stands by meanwhile -/
theorem Ex.trans {H H1 H2 F F1 F2 : Hp} {fp f1 fo f2 : List Addr} (x : Ex H H1 F F1 fp (f1 ++ fo)) (y : Ex H1 H2 F1 F2 f1 f2) : Ex H H2 F F2 fp (f2 ++ fo) where
  sub := x.sub.trans y.sub
  keep := fun a h m e => by
    have h1 := x.keep a h m e
    have l1 := x.live a h
    refine (y.keep a l1 (fun z => ?_) (x.still h m e)).trans h1
    rcases x.new a (List.mem_append_left _ z) with q | q
    · exact m q
    · exact h q
  live := fun a h => y.live a (x.live a h)
  new := fun a m => by
    have back : H1 a = none → H a = none := fun q => Classical.byContradiction fun z => x.live a z q
    rcases List.mem_append.mp m with z | z
    · rcases y.new a z with q | q
      · exact x.new a (List.mem_append_left _ q)
      · exact .inr (back q)
    · exact x.new a (List.mem_append_right _ z)
  fro := fun a h => by
    rcases y.fro a h with q | q | q
    · exact x.fro a q
    · rcases x.new a (List.mem_append_left _ q) with q | q
      · exact .inr (.inl q)
      · exact .inr (.inr q)
    · exact .inr (.inr (Classical.byContradiction fun z => x.live a z q))
/-- what stood by is as it was -/
theorem Ex.stands {G : Gs} {H H' F F' : Hp} {fp fp' fo : List Addr} {o : OV} {v : V} (x : Ex H H' F F' fp fp') (r : RO G F H o v fo) (d : ∀ a ∈ fo, a ∉ fp) (off : ∀ a ∈ fo, F a = none) : RO G F' H' o v fo :=
  RO.frame x.sub o v fo (fun a m => x.keep a (RO.live o v fo r a m) (d a m) (off a m)) r
/-- .. and apart from what is owned and frozen now -/
theorem Ex.apart {G : Gs} {H H' F F' : Hp} {fp fp' fo : List Addr} {o : OV} {v : V} (x : Ex H H' F F' fp fp') (r : RO G F H o v fo) (d : ∀ a ∈ fo, a ∉ fp) (off : ∀ a ∈ fo, F a = none) : (∀ a ∈ fo, a ∉ fp') ∧ ∀ a ∈ fo, F' a = none := by
  refine ⟨fun a m z => ?_, fun a m => x.still (RO.live o v fo r a m) (d a m) (off a m)⟩
  rcases x.new a z with q | q
  · exact d a m q
  · exact RO.live o v fo r a m q
end Tv
end

section
/-! What it is that a denotation tells the truth of an expression. -/
namespace Tv
open PySem L2
open PySem (Str Expr)

/-- the weakest reading of an expression -/
def SE (X : Cx) (e : Expr) : TE := fun σ H Q => ∀ (pn : List (Addr × Obj)) (s : Shared), Inv X pn σ H s → wpAny (model X.prog X.w) X.A (eval e X.env) (EP X pn σ Q) X.xe s
theorem pe_SE {X : Cx} {e : Expr} : PE X e (SE X e) := ⟨fun pn s σ H Q J h => h pn s J⟩
theorem SE.of {X : Cx} {e : Expr} {t : TE} (h : PE X e t) {σ : St} {H : Hp} {Q : VK} (q : t σ H Q) : SE X e σ H Q := fun pn s J => h.run pn s σ H Q J q
theorem SE.mono {X : Cx} {e : Expr} {σ : St} {H : Hp} {Q R : VK} (h : SE X e σ H Q) (k : ∀ v H', Q v H' → R v H') : SE X e σ H R := fun pn s J =>
  thn (h pn s J) fun u s' ⟨v, H', J', r, q⟩ => ⟨v, H', J', r, k v H' q⟩
/-- .. of a test -/
def ST (X : Cx) (e : Expr) : TT := fun σ H Q => ∀ (pn : List (Addr × Obj)) (s : Shared), Inv X pn σ H s → wpAny (model X.prog X.w) X.A (isTrue e X.env (eval e X.env)) (TP X pn σ Q) X.xe s
theorem pt_ST {X : Cx} {e : Expr} : PT X e (ST X e) := ⟨fun pn s σ H Q J h => h pn s J⟩
theorem ST.of {X : Cx} {e : Expr} {t : TT} (h : PT X e t) {σ : St} {H : Hp} {Q : Bool → Hp → Prop} (q : t σ H Q) : ST X e σ H Q := fun pn s J => h.run pn s σ H Q J q
theorem ST.mono {X : Cx} {e : Expr} {σ : St} {H : Hp} {Q R : Bool → Hp → Prop} (h : ST X e σ H Q) (k : ∀ b H', Q b H' → R b H') : ST X e σ H R := fun pn s J =>
  thn (h pn s J) fun u s' ⟨H', J', q⟩ => ⟨H', J', k u H' q⟩

/-- how an operand stands -/
def OK (G : Gs) (F H : Hp) (σ : St) (fp : Addr → Prop) : Opd → V → List Addr → Prop
  | .val o, v, fo => RO G F H o v fo
  | .at i, v, fo => fo = [] ∧ σ[i]? = some (some v)
  | .fld i f, v, fo => fo = [] ∧ ∃ a C dx fs, σ[i]? = some (some (.ref a)) ∧ fp a ∧ H a = some (.ins C dx fs) ∧ fs.lookup (G.att f) = some v
theorem OK.weak {G : Gs} {F H : Hp} {σ : St} {p q : Addr → Prop} {o : Opd} {v : V} {fo : List Addr} (k : OK G F H σ p o v fo) (h : ∀ a, p a → q a) : OK G F H σ q o v fo := by
  cases o with
  | val y => exact k
  | «at» i => exact k
  | fld i f =>
    obtain ⟨e, a, C, dx, fs, k1, k2, k3, k4⟩ := k
    exact ⟨e, a, C, dx, fs, k1, h a k2, k3, k4⟩

/-- behind something: R tells the result and what it owns -/
def Aft (G : Gs) (F H : Hp) (σ : St) (fp : List Addr) (c : Bool) (ts' : Slots) (H' : Hp) (R : Hp → List Addr → List Addr → Prop) : Prop :=
  ∃ F' fp' fo, Sim G F' H' σ ts' fp' ∧ R F' fp' fo ∧ (fp' ++ fo).Nodup ∧ (∀ a ∈ fo, F' a = none) ∧ Ex H H' F F' fp (fp' ++ fo) ∧ (c = true → ∀ a, H a ≠ none → H' a = H a)
abbrev AE (G : Gs) (F H : Hp) (σ : St) (fp : List Addr) (c : Bool) (o : Opd) (ts' : Slots) (v : V) (H' : Hp) : Prop :=
  Aft G F H σ fp c ts' H' fun F' fp' fo => OK G F' H' σ (· ∈ fp') o v fo

/-- an exception as it flies -/
def RX (G : Gs) (F : Hp) (x : XV) (cls : Value) (d : Option Addr) : Prop := cls = .ref (G.cad x.c) ∧
  ((d = none ∧ x.ns = [] ∧ x.vs = []) ∨ ∃ dx fs, d = some dx ∧ F dx = some (.xd fs) ∧ fs.map (·.1) = x.ns.map G.att ∧ RFs G F x.vs (fs.map (·.2)))
abbrev AX (G : Gs) (F H : Hp) (σ : St) (fp : List Addr) (x : XV) (ts' : Slots) (cls : Value) (d : Option Addr) (H' : Hp) : Prop :=
  Aft G F H σ fp false ts' H' fun F' _ fo => fo = [] ∧ RX G F' x cls d

def OutP {α : Type} (o : Out α) (okP : α → Slots → Prop) (exP : XV → Slots → Prop) : Prop := match o with
  | .ok a s => okP a s
  | .exc x s => exP x s
  | .bad => False

/-- the wish for exceptions at a place -/
abbrev XW (G : Gs) (W : WX) (F H : Hp) (σ : St) (fp : List Addr) (x : XV) (ts' : Slots) : Prop := ∀ cls d H', AX G F H σ fp x ts' cls d H' → W cls d σ H'

/-- m is the denotation of e; c: it changes nothing that is owned -/
def Snd (G : Gs) (X : Cx) (e : Expr) (m : TM Opd) (c : Bool) : Prop := ∀ (σ : St) (H F : Hp) (ts : Slots) (fp : List Addr), Sim G F H σ ts fp → ∀ (W : WX), Takes X W → ∀ (Q : VK),
  OutP (m ts) (fun o ts' => ∀ v H', AE G F H σ fp c o ts' v H' → Q v H') (XW G W F H σ fp) → SE X e σ H Q
def SndT (G : Gs) (X : Cx) (e : Expr) (m : TM Bool) (c : Bool) : Prop := ∀ (σ : St) (H F : Hp) (ts : Slots) (fp : List Addr), Sim G F H σ ts fp → ∀ (W : WX), Takes X W → ∀ (Q : Bool → Hp → Prop),
  OutP (m ts) (fun b ts' => ∀ H', (Aft G F H σ fp c ts' H' fun _ _ fo => fo = []) → Q b H') (XW G W F H σ fp) → ST X e σ H Q

section
variable {G : Gs} {F H H' : Hp} {σ : St} {ts ts' : Slots} {fp : List Addr}
theorem OutP.bind {α β : Type} {m : TM α} {k : α → TM β} {P : β → Slots → Prop} {E : XV → Slots → Prop} (h : OutP (tb m k ts) P E) : OutP (m ts) (fun a s => OutP (k a s) P E) E := by
  unfold tb at h
  cases e : m ts with
  | ok a s => rw [e] at h; exact h
  | exc x s => rw [e] at h; exact h
  | bad => rw [e] at h; exact h.elim
theorem OutP.mono {α : Type} {o : Out α} {P P' : α → Slots → Prop} {E E' : XV → Slots → Prop} (h : OutP o P E) (k : ∀ a s, P a s → P' a s) (l : ∀ x s, E x s → E' x s) : OutP o P' E' := by
  cases o with
  | ok a s => exact k a s h
  | exc x s => exact l x s h
  | bad => exact h

theorem Sim.frame {F' H' : Hp} (S : Sim G F H σ ts fp) (sub : SubH F' H') (x : Ex H H' F F' [] []) : Sim G F' H' σ ts fp :=
  ⟨sub, SL.frame x.sub (fun a m => x.keep a (SL.live S.sl a m) (by simp) (S.off a m)) S.sl, S.nd, fun a m => Classical.byContradiction fun z => by
    rcases x.fro a z with q | q | q
    · exact q (S.off a m)
    · cases q
    · exact SL.live S.sl a m q⟩
theorem Ex.less {F F' : Hp} {f1 f2 f2' : List Addr} (x : Ex H H' F F' f1 f2) (h : ∀ a ∈ f2', a ∈ f2) : Ex H H' F F' f1 f2' := ⟨x.sub, x.keep, x.live, fun a m => x.new a (h a m), x.fro⟩
/-- a pure step behind another one: fr is what it made -/
theorem Aft.pure {c : Bool} {R R' : Hp → List Addr → List Addr → Prop} (h : Aft G F H σ fp c ts' H' R) {H2 : Hp}
    (k : ∀ F1 fp1 fo, Sim G F1 H' σ ts' fp1 → R F1 fp1 fo → (fp1 ++ fo).Nodup → ∃ F2 fr, SubH F2 H2 ∧ Ex H' H2 F1 F2 [] fr ∧ (∀ a, H' a ≠ none → H2 a = H' a) ∧ fr.Nodup ∧ (∀ a ∈ fr, F2 a = none) ∧ R' F2 fp1 fr) :
    Aft G F H σ fp c ts' H2 R' := by
  obtain ⟨F1, fp1, fo, S1, r, nd, off, x, cal⟩ := h
  obtain ⟨F2, fr, sub, y, kp2, nd2, off2, r2⟩ := k F1 fp1 fo S1 r nd
  have S2 : Sim G F2 H2 σ ts' fp1 := S1.frame sub (y.less (by simp))
  have frn : ∀ a ∈ fr, H' a = none := fun a m => by
    rcases y.new a m with q | q
    · cases q
    · exact q
  have back : ∀ a, H' a = none → H a = none := fun a q => Classical.byContradiction fun z => x.live a z q
  refine ⟨F2, fp1, fr, S2, r2, ?_, off2, ⟨x.sub.trans y.sub, fun a l m e => ?_, fun a l => y.live a (x.live a l), fun a m => ?_, fun a l => ?_⟩, fun hc a l => ?_⟩
  · exact List.nodup_append.mpr ⟨S1.nd, nd2, fun a m b m' e => SL.live S1.sl a m (by rw [e]; exact frn b m')⟩
  · exact (kp2 a (x.live a l)).trans (x.keep a l m e)
  · rcases List.mem_append.mp m with z | z
    · exact x.new a (List.mem_append_left _ z)
    · exact .inr (back a (frn a z))
  · rcases y.fro a l with q | q | q
    · exact x.fro a q
    · cases q
    · exact .inr (.inr (back a q))
  · have q := cal hc a l
    exact (kp2 a (by rw [q]; exact l)).trans q
end
end Tv
end

section
/-! Names, constants, steps by values. -/
namespace Tv
open PySem L2
open PySem (Str Expr)

section
variable {G : Gs} {F H H' : Hp} {σ : St} {ts ts' : Slots} {fp : List Addr}

theorem look_owned {f : Nat} {o : OV} : ∀ {ns : List Nat} {xs : List OV} {fs : List (Str × V)} {fr : List Addr}, fs.map (·.1) = ns.map G.att → ROs G F H xs (fs.map (·.2)) fr → look f ns xs = some o →
    ∃ v f1, fs.lookup (G.att f) = some v ∧ RO G F H o v f1 ∧ ∀ a ∈ f1, a ∈ fr
  | [], xs, fs, fr, _, _, e => by cases e
  | n :: ns, [], fs, fr, _, _, e => by cases e
  | n :: ns, x :: xs, [], fr, h, _, _ => by cases h
  | n :: ns, x :: xs, (m, w) :: fs, fr, h, r, e => by
    obtain ⟨v, vr, f1, f2, e1, ef, r1, r2⟩ := r
    rw [List.map_cons] at e1 h
    rw [List.map_cons] at h
    injection e1 with e1 e2
    injection h with h1 h2
    subst ef
    dsimp only at e1 h1
    subst e1
    unfold look at e
    by_cases q : n = f
    · rw [if_pos q] at e
      have eo := Option.some.inj e
      subst eo
      refine ⟨w, f1, ?_, r1, fun a m => List.mem_append_left _ m⟩
      rw [h1, q, List.lookup_cons, beq_self_eq_true]
    · rw [if_neg q] at e
      rw [← e2] at r2
      obtain ⟨v', f', k1, k2, k3⟩ := look_owned h2 r2 e
      refine ⟨v', f', ?_, k2, fun a m => List.mem_append_right _ (k3 a m)⟩
      have ne : (G.att f == G.att n) = false := by
        rw [beq_eq_false_iff_ne]
        exact fun z => q (G.inj _ _ z).symm
      rw [h1, List.lookup_cons, ne]
      exact k1
theorem look_frozen {f : Nat} {o : FV} : ∀ {ns : List Nat} {xs : List FV} {fs : List (Str × V)}, fs.map (·.1) = ns.map G.att → RFs G F xs (fs.map (·.2)) → look f ns xs = some o →
    ∃ v, fs.lookup (G.att f) = some v ∧ RF G F o v
  | [], xs, fs, _, _, e => by cases e
  | n :: ns, [], fs, _, _, e => by cases e
  | n :: ns, x :: xs, [], h, _, _ => by cases h
  | n :: ns, x :: xs, (m, w) :: fs, h, r, e => by
    obtain ⟨v, vr, e1, r1, r2⟩ := r
    rw [List.map_cons] at e1 h
    rw [List.map_cons] at h
    injection e1 with e1 e2
    injection h with h1 h2
    dsimp only at e1 h1
    subst e1
    unfold look at e
    by_cases q : n = f
    · rw [if_pos q] at e
      have eo := Option.some.inj e
      subst eo
      refine ⟨w, ?_, r1⟩
      rw [h1, q, List.lookup_cons, beq_self_eq_true]
    · rw [if_neg q] at e
      rw [← e2] at r2
      obtain ⟨v', k1, k2⟩ := look_frozen h2 r2 e
      refine ⟨v', ?_, k2⟩
      have ne : (G.att f == G.att n) = false := by
        rw [beq_eq_false_iff_ne]
        exact fun z => q (G.inj _ _ z).symm
      rw [h1, List.lookup_cons, ne]
      exact k1

/-- what an operand is worth -/
theorem get_ok {o : Opd} {v : V} {fo : List Addr} {x : OV} (S : Sim G F H σ ts fp) {p : Addr → Prop} (k : OK G F H σ p o v fo) (e : o.get ts = some x) : ∃ fx, RO G F H x v fx ∧ ∀ a ∈ fx, a ∈ fp ++ fo := by
  cases o with
  | val y =>
    have q : y = x := Option.some.inj e
    subst q
    exact ⟨fo, k, fun a m => List.mem_append_right _ m⟩
  | «at» i =>
    obtain ⟨w, l, f, r, h1, h2, h3, _⟩ := SL.at S.sl (show slot ts i = some x from e)
    obtain ⟨_, k2⟩ := k
    rw [h1] at k2
    have q : w = v := Option.some.inj (Option.some.inj k2)
    subst q
    exact ⟨f, h3, fun a m => List.mem_append_left _ (by rw [h2]; simp [m])⟩
  | fld i f =>
    have e' : (match slot ts i with | some (.obj _ ns vs) => look f ns vs | _ => none) = some x := e
    cases q : slot ts i with
    | none => rw [q] at e'; cases e'
    | some y =>
      rw [q] at e'
      cases y with
      | obj c ns vs =>
        obtain ⟨w, l, f1, r, h1, h2, h3, _⟩ := SL.at S.sl q
        obtain ⟨a, dx, fs, fr, e1, e2, e3, e4, e5⟩ := h3
        obtain ⟨_, a0, C, dx0, fs0, k1, _, k3, k4⟩ := k
        rw [h1] at k1
        have z := Option.some.inj (Option.some.inj k1)
        rw [e1] at z
        have za : a = a0 := by injection z
        subst za
        rw [e3] at k3
        injection k3 with k3
        injection k3 with _ _ k3
        subst k3
        obtain ⟨v', f', m1, m2, m3⟩ := look_owned e4 e5 e'
        rw [k4] at m1
        have zv := Option.some.inj m1
        subst zv
        exact ⟨f', m2, fun b m => List.mem_append_left _ (by rw [h2, e2]; simp [m3 b m])⟩
      | _ => cases e'
/-- an operand stands by while something else is asked -/
theorem OK.stand {o : Opd} {v : V} {fo f1 f2 : List Addr} {c : Bool} {F' : Hp} (k : OK G F H σ (· ∈ f1) o v fo) (h : isFld o = false ∨ c = true) (x : Ex H H' F F' f1 f2) (d : ∀ a ∈ fo, a ∉ f1) (off : ∀ a ∈ fo, F a = none) (cal : c = true → ∀ a, H a ≠ none → H' a = H a) : OK G F' H' σ (fun _ => True) o v fo := by
  cases o with
  | val y => exact x.stands k d off
  | «at» i => exact k
  | fld i f =>
    obtain ⟨e, a, C, dx, fs, k1, k2, k3, k4⟩ := k
    rcases h with h | h
    · cases h
    · exact ⟨e, a, C, dx, fs, k1, trivial, (cal h a (by rw [k3]; simp)).trans k3, k4⟩

/-! ### what a pure step hands back -/
def Res (G : Gs) (F H : Hp) (r : OV) (z : V) (H' : Hp) : Prop := ∃ F' fo, SubH F' H' ∧ Ex H H' F F' [] fo ∧ (∀ a, H a ≠ none → H' a = H a) ∧ fo.Nodup ∧ (∀ a ∈ fo, F' a = none) ∧ RO G F' H' r z fo
theorem Res.same (h : SubH F H) {x : FV} {z : V} (r : RF G F x z) : Res G F H (.frz x) z H := ⟨F, [], h, Ex.refl H F [], (fun _ _ => rfl), List.nodup_nil, (fun _ m => by cases m), rfl, r⟩
theorem ex_new {o : HO} {p : Addr} (hp : H p = none) : Ex H (upd H p o) F F [] [p] :=
  ⟨SubH.refl F, fun a l _ _ => upd_ne fun z => l (by rw [z]; exact hp), fun a l => by
    by_cases z : a = p
    · rw [z, upd_same]; simp
    · rw [upd_ne z]; exact l, fun a m => .inr (by rw [List.mem_singleton.mp m]; exact hp), fun a l => .inl l⟩
theorem ex_newF (h : SubH F H) {o : HO} {p : Addr} (hp : H p = none) : Ex H (upd H p o) F (upd F p o) [] [] := by
  have fp0 : F p = none := h.free hp
  refine ⟨fun a u e => ⟨u, ?_, .inl rfl⟩, fun a l _ _ => upd_ne fun z => l (by rw [z]; exact hp), fun a l => ?_, fun a m => (by cases m), fun a l => ?_⟩
  · rw [upd_ne (ne_of_none e fp0)]; exact e
  · by_cases z : a = p
    · rw [z, upd_same]; simp
    · rw [upd_ne z]; exact l
  · by_cases z : a = p
    · exact .inr (.inr (by rw [z]; exact hp))
    · rw [upd_ne z] at l; exact .inl l
theorem sub_new (h : SubH F H) {o : HO} {p : Addr} (hp : H p = none) : SubH F (upd H p o) := fun a u e => by
  obtain ⟨u', e', l⟩ := h a u e
  exact ⟨u', by rw [upd_ne (ne_of_none e' hp)]; exact e', l⟩
theorem kp_new {o : HO} {p : Addr} (hp : H p = none) : ∀ a, H a ≠ none → upd H p o a = H a := fun a l => upd_ne fun z => l (by rw [z]; exact hp)
theorem sub_newF (h : SubH F H) {o : HO} {p : Addr} : SubH (upd F p o) (upd H p o) := fun a u e => by
  by_cases z : a = p
  · rw [z, upd_same] at e ⊢; exact ⟨u, e, .inl rfl⟩
  · rw [upd_ne z] at e ⊢; exact h _ _ e
theorem ROs_frz : ∀ {xs : List FV} {ws : List V}, RFs G F xs ws → ROs G F H (xs.map OV.frz) ws []
  | [], _, r => ⟨r, rfl⟩
  | x :: xs, _, r => by
    obtain ⟨v, vr, e, r1, r2⟩ := r
    exact ⟨v, vr, [], [], e, rfl, ⟨rfl, r1⟩, ROs_frz r2⟩
theorem Res.newL (h : SubH F H) {xs : List FV} {ws : List V} {p : Addr} (hp : H p = none) (r : RFs G F xs ws) : Res G F H (OV.ofl xs) (.ref p) (upd H p (.lst ws)) :=
  ⟨F, [p], sub_new h hp, ex_new hp, kp_new hp, by simp, fun a m => by rw [List.mem_singleton.mp m]; exact h.free hp, p, ws, [], rfl, rfl, upd_same, ROs_frz r⟩
theorem Res.newT (h : SubH F H) {xs : List FV} {ws : List V} {p : Addr} (hp : H p = none) (r : RFs G F xs ws) : Res G F H (.frz (.tup xs)) (.ref p) (upd H p (.tup ws)) :=
  ⟨upd F p (.tup ws), [], sub_newF h, ex_newF h hp, kp_new hp, List.nodup_nil, (fun a m => by cases m), rfl, p, ws, rfl, .inl (.inl upd_same), RFs.mono (ex_newF h hp).sub xs ws r⟩
theorem Res.newLF (h : SubH F H) {xs : List FV} {ws : List V} {p : Addr} (hp : H p = none) (r : RFs G F xs ws) : Res G F H (.frz (.lst xs)) (.ref p) (upd H p (.lst ws)) :=
  ⟨upd F p (.lst ws), [], sub_newF h, ex_newF h hp, kp_new hp, List.nodup_nil, (fun a m => by cases m), rfl, p, ws, rfl, upd_same, RFs.mono (ex_newF h hp).sub xs ws r⟩
/-- items of a list that one sees as frozen -/
theorem frzs_owned : ∀ {os : List OV} {xs : List FV} {ws : List V} {fr : List Addr}, frzs os = some xs → ROs G F H os ws fr → RFs G F xs ws ∧ fr = []
  | [], xs, ws, fr, e, r => by
    have q : [] = xs := Option.some.inj e
    subst q
    exact ⟨r.1, r.2⟩
  | .frz v :: os, xs, ws, fr, e, r => by
    obtain ⟨w, vr, f1, f2, e1, ef, r1, r2⟩ := r
    have e' : (frzs os).map (v :: ·) = some xs := e
    cases q : frzs os with
    | none => rw [q] at e'; cases e'
    | some ys =>
      rw [q] at e'
      have z : v :: ys = xs := Option.some.inj e'
      obtain ⟨k1, k2⟩ := frzs_owned q r2
      subst z
      exact ⟨⟨w, vr, e1, r1.2, k1⟩, by rw [ef, r1.1, k2]; rfl⟩
  | .lst _ :: _, _, _, _, e, _ => by cases e
  | .tup _ :: _, _, _, _, e, _ => by cases e
  | .dic _ _ :: _, _, _, _, e, _ => by cases e
  | .obj _ _ _ :: _, _, _, _, e, _ => by cases e
theorem els_ok (h : SubH F H) {o : OV} {v : V} {fx : List Addr} {xs : List FV} (e : o.els = some xs) (r : RO G F H o v fx) : ∃ a ws, v = .ref a ∧ H a = some (.lst ws) ∧ RFs G F xs ws := by
  cases o with
  | frz x =>
    cases x with
    | lst ys =>
      have q : ys = xs := Option.some.inj e
      subst q
      obtain ⟨_, a, ws, e1, q, t⟩ := r
      exact ⟨a, ws, e1, h.lst q, t⟩
    | _ => cases e
  | lst os =>
    obtain ⟨a, ws, fr, e1, ef, q, t⟩ := r
    exact ⟨a, ws, e1, q, (frzs_owned e t).1⟩
  | _ => cases e
theorem tels_ok (h : SubH F H) {o : OV} {v : V} {fx : List Addr} {xs : List FV} (e : o.tels = some xs) (r : RO G F H o v fx) : ∃ a ws, v = .ref a ∧ SqT G.K H a ws ∧ RFs G F xs ws := by
  cases o with
  | frz x =>
    cases x with
    | tup ys =>
      have q : ys = xs := Option.some.inj e
      subst q
      obtain ⟨_, a, ws, e1, q, t⟩ := r
      exact ⟨a, ws, e1, sqt_mono h q, t⟩
    | _ => cases e
  | tup os =>
    obtain ⟨a, ws, fr, e1, ef, q, t⟩ := r
    exact ⟨a, ws, e1, SqT.of q, (frzs_owned e t).1⟩
  | _ => cases e
theorem RFs.len : ∀ {xs : List FV} {ws : List V}, RFs G F xs ws → ws.length = xs.length
  | [], _, r => by rw [show _ = [] from r]; rfl
  | x :: xs, _, r => by
    obtain ⟨v, vr, e, _, r2⟩ := r
    rw [e, List.length_cons, List.length_cons, RFs.len r2]
theorem RFs.app : ∀ {xs ys : List FV} {ws us : List V}, RFs G F xs ws → RFs G F ys us → RFs G F (xs ++ ys) (ws ++ us)
  | [], _, _, _, r, q => by rw [show _ = [] from r]; exact q
  | x :: xs, _, _, _, r, q => by
    obtain ⟨v, vr, e, r1, r2⟩ := r
    subst e
    exact ⟨v, vr ++ _, rfl, r1, RFs.app r2 q⟩
theorem RFs.at : ∀ {xs : List FV} {ws : List V} {i : Nat} {x : FV}, RFs G F xs ws → xs[i]? = some x → ∃ w, ws[i]? = some w ∧ RF G F x w
  | [], _, i, _, _, e => by simp at e
  | x :: xs, _, 0, y, r, e => by
    obtain ⟨v, vr, e1, r1, r2⟩ := r
    have q : x = y := by simpa using e
    subst q e1
    exact ⟨v, rfl, r1⟩
  | x :: xs, _, i + 1, y, r, e => by
    obtain ⟨v, vr, e1, r1, r2⟩ := r
    subst e1
    obtain ⟨w, h1, h2⟩ := RFs.at (i := i) r2 (by simpa using e)
    exact ⟨w, by simpa using h1, h2⟩
theorem RFs.take : ∀ {xs : List FV} {ws : List V} (n : Nat), RFs G F xs ws → RFs G F (xs.take n) (ws.take n)
  | [], _, n, r => by rw [show _ = [] from r]; simp [RFs]
  | x :: xs, _, 0, r => by simp [RFs]
  | x :: xs, _, n + 1, r => by
    obtain ⟨v, vr, e, r1, r2⟩ := r
    subst e
    exact ⟨v, vr.take n, rfl, r1, RFs.take n r2⟩
theorem RFs.drop : ∀ {xs : List FV} {ws : List V} (n : Nat), RFs G F xs ws → RFs G F (xs.drop n) (ws.drop n)
  | [], _, n, r => by rw [show _ = [] from r]; simp [RFs]
  | x :: xs, _, 0, r => r
  | x :: xs, _, n + 1, r => by
    obtain ⟨v, vr, e, r1, r2⟩ := r
    subst e
    exact RFs.drop n r2
end

/-! ### names, constants -/
section
variable {G : Gs} {X : Cx}
def tslot (i : Nat) : TM Opd := fun s => match slot s i with
  | some (.frz v) => .ok (.val (.frz v)) s
  | some _ => .ok (.at i) s
  | none => .bad
def tlit (v : FV) : TM Opd := fun s => .ok (.val (.frz v)) s

theorem Aft.here {F H : Hp} {σ : St} {ts : Slots} {fp : List Addr} {c : Bool} {R : Hp → List Addr → List Addr → Prop} (S : Sim G F H σ ts fp) (r : R F fp []) : Aft G F H σ fp c ts H R :=
  ⟨F, fp, [], S, r, by simpa using S.nd, (fun _ m => by cases m), by simpa using Ex.refl H F fp, fun _ _ _ => rfl⟩

theorem snd_name {i : Nat} {x : Str} {pos : Pos} (hN : X.N[i]? = some x) (hv : Vis X.env.scope x) (hd : (x == ("__debug__" : Str)) = false) (hc : (x == ("__classdict__" : Str)) = false) : Snd G X (.Name x pos) (tslot i) true := by
  intro σ H F ts fp S W tk Q h
  unfold tslot at h
  cases e : slot ts i with
  | none => rw [e] at h; exact h.elim
  | some o =>
    obtain ⟨v, l, f, r, h1, h2, h3, _⟩ := SL.at S.sl e
    refine SE.of (pe_var hN hv hd hc) ⟨v, h1, ?_⟩
    rw [e] at h
    cases o with
    | frz w =>
      obtain ⟨e1, r1⟩ := h3
      exact h v H (Aft.here S ⟨rfl, r1⟩)
    | lst _ => exact h v H (Aft.here S ⟨rfl, h1⟩)
    | tup _ => exact h v H (Aft.here S ⟨rfl, h1⟩)
    | dic _ _ => exact h v H (Aft.here S ⟨rfl, h1⟩)
    | obj _ _ _ => exact h v H (Aft.here S ⟨rfl, h1⟩)
theorem snd_lit {e : Expr} {v : FV} {w : V} (h : PE X e (tC w)) (r : ∀ F, RF G F v w) : Snd G X e (tlit v) true := by
  intro σ H F ts fp S W tk Q q
  exact SE.of h (q w H (Aft.here S ⟨rfl, r F⟩))
theorem snd_int {i j pos} : Snd G X (.Constant (.int i) j pos) (tlit (.int i)) true := snd_lit pe_int fun _ => rfl
theorem snd_bl {i j pos} : Snd G X (.Constant (.bool i) j pos) (tlit (.bl i)) true := snd_lit pe_bl fun _ => rfl
theorem snd_non {j pos} : Snd G X (.Constant .none j pos) (tlit .non) true := snd_lit pe_non fun _ => rfl
theorem snd_str {i j pos} (h : sok i = true) : Snd G X (.Constant (.str i) j pos) (tlit (.str i)) true := snd_lit pe_str fun _ => ⟨rfl, h⟩
end

/-! ### steps by values -/
/-- the weakest reading of a step on two values, on one, of a call -/
def SO (X : Cx) (g : Value → Value → Sem Value) : R2 := fun x y H Q => ∀ (pn : List (Addr × Obj)) (s : Shared) (σ : St) (v u : Value), Inv X pn σ H s → RelV x v → RelV y u → wpAny (model X.prog X.w) X.A (g v u) (EP X pn σ Q) X.xe s
theorem opR_SO {X : Cx} {g : Value → Value → Sem Value} : OpR X g (SO X g) := fun pn s σ H x y v u Q J rx ry h => h pn s σ v u J rx ry
theorem SO.of {X : Cx} {g : Value → Value → Sem Value} {r : R2} (o : OpR X g r) {x y : V} {H : Hp} {Q : VK} (h : r x y H Q) : SO X g x y H Q := fun pn s σ v u J rx ry => o pn s σ H x y v u Q J rx ry h
def SU (X : Cx) (g : Value → Sem Value) : V → Hp → VK → Prop := fun x H Q => ∀ (pn : List (Addr × Obj)) (s : Shared) (σ : St) (v : Value), Inv X pn σ H s → RelV x v → wpAny (model X.prog X.w) X.A (g v) (EP X pn σ Q) X.xe s
theorem unR_SU {X : Cx} {g : Value → Sem Value} : UnR X g (SU X g) := fun pn s σ H x v Q J rx h => h pn s σ v J rx
theorem SU.of {X : Cx} {g : Value → Sem Value} {r : V → Hp → VK → Prop} (o : UnR X g r) {x : V} {H : Hp} {Q : VK} (h : r x H Q) : SU X g x H Q := fun pn s σ v J rx => o pn s σ H x v Q J rx h
def SC (X : Cx) (f : Value) : List V → Hp → VK → Prop := fun xs H Q => ∀ (pn : List (Addr × Obj)) (s : Shared) (σ : St) (us : List Value), Inv X pn σ H s → Vals xs us → wpAny (model X.prog X.w) X.A (call f us) (EP X pn σ Q) X.xe s
theorem callR_SC {X : Cx} {f : Value} : CallR X f (SC X f) := fun pn s σ H xs us Q J r h => h pn s σ us J r
theorem SC.of {X : Cx} {f : Value} {r : List V → Hp → VK → Prop} (o : CallR X f r) {xs : List V} {H : Hp} {Q : VK} (h : r xs H Q) : SC X f xs H Q := fun pn s σ us J rx => o pn s σ H xs us Q J rx h

def Op1 (G : Gs) (T : V → Hp → VK → Prop) (f : OV → Option OV) : Prop := ∀ (H F : Hp) (x r : OV) (v : V) (fx : List Addr) (Q : VK), SubH F H → RO G F H x v fx → f x = some r → (∀ z H', Res G F H r z H' → Q z H') → T v H Q
def Op2 (G : Gs) (T : R2) (f : OV → OV → Option OV) : Prop := ∀ (H F : Hp) (x y r : OV) (v w : V) (fx fy : List Addr) (Q : VK), SubH F H → RO G F H x v fx → RO G F H y w fy → f x y = some r → (∀ z H', Res G F H r z H' → Q z H') → T v w H Q

section
variable {G : Gs} {X : Cx} {F H H' : Hp} {σ : St} {ts ts' : Slots} {fp : List Addr} {c : Bool}
/-- behind an operand: a pure step on its worth -/
theorem res_aft {F1 : Hp} {fp1 fo : List Addr} {r : OV} {z : V} {H2 : Hp} (S1 : Sim G F1 H' σ ts' fp1) (x : Ex H H' F F1 fp (fp1 ++ fo)) (cal : c = true → ∀ a, H a ≠ none → H' a = H a) (res : Res G F1 H' r z H2) : AE G F H σ fp c (.val r) ts' z H2 := by
  obtain ⟨F2, fr, sub, y, kp2, nd2, off2, r2⟩ := res
  have ae : Aft G F H σ fp c ts' H' fun F' fp' fo => F' = F1 ∧ fp' = fp1 := ⟨F1, fp1, [], S1, ⟨rfl, rfl⟩, by simpa using S1.nd, (fun _ m => by cases m), x.less fun a m => by simp at m; simp [m], cal⟩
  exact Aft.pure ae fun F1' fp1' fo' S1' e nd' => by
    obtain ⟨e1, e2⟩ := e
    subst e1 e2
    exact ⟨F2, fr, sub, y, kp2, nd2, off2, r2⟩

theorem rd_t1 {a : Expr} {T : V → Hp → VK → Prop} {f : OV → Option OV} {ma : TM Opd} (op : Op1 G T f) (ha : Snd G X a ma c) {Q : VK} {W : WX} (tk : Takes X W) (S : Sim G F H σ ts fp)
    (h : OutP (t1 f ma ts) (fun o ts' => ∀ v H', AE G F H σ fp c o ts' v H' → Q v H') (XW G W F H σ fp)) : SE X a σ H fun v H1 => T v H1 Q := by
  unfold t1 at h
  refine ha σ H F ts fp S W tk _ (h.bind.mono (fun o ts' q v H1 ae => ?_) fun _ _ q => q)
  cases e1 : o.get ts' with
  | none => rw [e1] at q; exact q.elim
  | some x =>
    rw [e1] at q
    dsimp only at q
    cases e2 : f x with
    | none => rw [e2] at q; exact q.elim
    | some r =>
      rw [e2] at q
      obtain ⟨F1, fp1, fo, S1, ok1, nd, off, ex, cal⟩ := ae
      obtain ⟨fx, ro, hfx⟩ := get_ok S1 ok1 e1
      exact op H1 F1 x r v fx Q S1.sub ro e2 fun z H2 res => q z H2 (res_aft S1 ex cal res)
theorem nofld_ok {ma : TM Opd} {P : Opd → Slots → Prop} {E : XV → Slots → Prop} {cb : Bool} (h : OutP (nofld cb ma ts) P E) : OutP (ma ts) (fun o s => (isFld o = false ∨ cb = true) ∧ P o s) E := by
  unfold nofld at h
  refine h.bind.mono (fun o s q => ?_) fun _ _ q => q
  cases cb with
  | true => exact ⟨.inr rfl, q⟩
  | false =>
    cases e : isFld o with
    | true => rw [e] at q; exact q.elim
    | false => rw [e] at q; exact ⟨.inl rfl, q⟩
theorem bth {c d : Bool} (h : (c && d) = true) : c = true ∧ d = true := Bool.and_eq_true_iff.mp h
/-- what stood by comes along, an exception of the second passes on -/
theorem ax_then {H1 : Hp} {F1 : Hp} {fp1 fo : List Addr} {x : XV} {ts2 : Slots} {W : WX} (ex1 : Ex H H1 F F1 fp (fp1 ++ fo)) (h : XW G W F H σ fp x ts2) : XW G W F1 H1 σ fp1 x ts2 := by
  intro cls d H2 ax
  obtain ⟨F2, fp2, fo2, S2, ⟨e2, r2⟩, nd2, off2, ex2, _⟩ := ax
  subst e2
  exact h cls d H2 ⟨F2, fp2, [], S2, ⟨rfl, r2⟩, nd2, off2, (ex1.trans ex2).less (fun a m => by simp at m; simp [m]), fun z => by cases z⟩
theorem cal_then {H1 H2 : Hp} (cal1 : ∀ a, H a ≠ none → H1 a = H a) (cal2 : ∀ a, H1 a ≠ none → H2 a = H1 a) : ∀ a, H a ≠ none → H2 a = H a := fun a l => by
  have z1 := cal1 a l
  exact (cal2 a (by rw [z1]; exact l)).trans z1
/-- two operands and a pure step on their worths -/
theorem rd_t2 {a b : Expr} {T : R2} {f : OV → OV → Option OV} {ma mb : TM Opd} {ca cb : Bool} (op : Op2 G T f) (ha : Snd G X a ma ca) (hb : Snd G X b mb cb) {Q : VK} {W : WX} (tk : Takes X W)
    (S : Sim G F H σ ts fp) (h : OutP (t2 cb f ma mb ts) (fun o ts' => ∀ v H', AE G F H σ fp (ca && cb) o ts' v H' → Q v H') (XW G W F H σ fp)) : tOp T (SE X a) (SE X b) σ H Q := by
  unfold t2 at h
  refine ha σ H F ts fp S W tk _ ((nofld_ok h.bind).mono (fun o ts1 q v H1 ae => ?_) fun _ _ q => q)
  obtain ⟨nf, q⟩ := q
  obtain ⟨F1, fp1, fo, S1, ok1, nd1, off1, ex1, cal1⟩ := ae
  obtain ⟨_, _, dj1⟩ := List.nodup_append.mp nd1
  refine hb σ H1 F1 ts1 fp1 S1 W tk _ (q.bind.mono (fun o2 ts2 q3 w H2 ae2 => ?_) fun x ts2 q3 => ax_then ex1 q3)
  obtain ⟨F2, fp2, fo2, S2, ok2, nd2, off2, ex2, cal2⟩ := ae2
  have stand := ok1.stand nf ex2 (fun a m z => dj1 a z a m rfl) off1 cal2
  cases e1 : o.get ts2 with
  | none => rw [e1] at q3; exact q3.elim
  | some x =>
    cases e2 : o2.get ts2 with
    | none => rw [e1, e2] at q3; exact q3.elim
    | some y =>
      rw [e1, e2] at q3
      dsimp only at q3
      cases e3 : f x y with
      | none => rw [e3] at q3; exact q3.elim
      | some r =>
        rw [e3] at q3
        obtain ⟨fx, rx, _⟩ := get_ok S2 stand e1
        obtain ⟨fy, ry, _⟩ := get_ok S2 ok2 e2
        refine op H2 F2 x y r v w fx fy Q S2.sub rx ry e3 fun z H3 res => q3 z H3 (res_aft (fo := fo2 ++ fo) S2 ?_ (fun hc => cal_then (cal1 (bth hc).1) (cal2 (bth hc).2)) res)
        rw [← List.append_assoc]
        exact ex1.trans ex2
theorem snd_bin {a b : Expr} {op : PySem.Operator} {f : OV → OV → Option OV} {ma mb : TM Opd} {ca cb : Bool} {pos : Pos} (o : Op2 G (SO X (binaryOp op)) f) (ha : Snd G X a ma ca) (hb : Snd G X b mb cb) : Snd G X (.BinOp a op b pos) (t2 cb f ma mb) (ca && cb) :=
  fun _ _ _ _ _ S _ tk _ h => SE.of (pe_op opR_SO pe_SE pe_SE) (rd_t2 o ha hb tk S h)
theorem snd_cmp {a b : Expr} {op : PySem.CmpOp} {f : OV → OV → Option OV} {ma mb : TM Opd} {ca cb : Bool} {pos : Pos} (o : Op2 G (SO X (compareOp op)) f) (hm : behindInMarks op b = false) (ha : Snd G X a ma ca) (hb : Snd G X b mb cb) : Snd G X (.Compare a [op] [b] pos) (t2 cb f ma mb) (ca && cb) :=
  fun _ _ _ _ _ S _ tk _ h => SE.of (pe_cmpR opR_SO pe_SE pe_SE hm) (rd_t2 o ha hb tk S h)
theorem snd_un {a : Expr} {op : PySem.UnaryOp} {f : OV → Option OV} {ma : TM Opd} {pos : Pos} (o : Op1 G (SU X (unaryOp op)) f) (ha : Snd G X a ma c) : Snd G X (.UnaryOp op a pos) (t1 f ma) c :=
  fun _ _ _ _ _ S _ tk _ h => SE.of (pe_un unR_SU pe_SE) (rd_t1 o ha tk S h)
end
end Tv
end

section
/-! Tests: truth, and, or, not; conditional expressions; chains. -/
namespace Tv
open PySem L2
open PySem (Str Expr)

/-- the truth of a value -/
def tru : OV → Option Bool
  | .frz .non => some false
  | .frz (.bl b) => some b
  | .frz (.int i) => some (i != 0)
  | .frz (.str x) => if x.length ≤ szl then some ((x.length : Int) != 0) else none
  | .frz (.lst xs) => some (!xs.isEmpty)
  | .frz (.tup xs) => some (!xs.isEmpty)
  | .lst xs => some (!xs.isEmpty)
  | _ => none
def ttru (m : TM Opd) : TM Bool := tb m fun o s => match o.get s with
  | some x => match tru x with
    | some b => .ok b s
    | none => .bad
  | none => .bad
def tbool (m : TM Opd) : TM Bool := tb m fun o s => match o.get s with
  | some (.frz (.bl b)) => .ok b s
  | _ => .bad
def tand (a b : TM Bool) : TM Bool := tb a fun x => if x = true then b else tp false
def tor (a b : TM Bool) : TM Bool := tb a fun x => if x = true then tp true else b
def tnot (a : TM Bool) : TM Bool := tb a fun x => tp (!x)
def tite {α : Type} (t : TM Bool) (a b : TM α) : TM α := tb t fun x => if x = true then a else b
def tandv (a b : TM Opd) : TM Opd := tb a fun o s => match o.get s with
  | some (.frz (.bl true)) => b s
  | some (.frz (.bl false)) => .ok (.val (.frz (.bl false))) s
  | _ => .bad
def torv (a b : TM Opd) : TM Opd := tb a fun o s => match o.get s with
  | some (.frz (.bl true)) => .ok (.val (.frz (.bl true))) s
  | some (.frz (.bl false)) => b s
  | _ => .bad
def tnotv (a : TM Opd) : TM Opd := t1 (fun o => match o with | .frz (.bl b) => some (.frz (.bl (!b))) | _ => none) a

def SW (X : Cx) (e : Expr) : TT := fun σ H Q => ∀ (wh : Sem Value) (pn : List (Addr × Obj)) (s : Shared), Inv X pn σ H s → wpAny (model X.prog X.w) X.A (isTrue e X.env wh) (TP X pn σ Q) X.xe s
theorem pw_SW {X : Cx} {e : Expr} : PW X e (SW X e) := ⟨fun wh pn s σ H Q J h => h wh pn s J⟩
theorem SW.of {X : Cx} {e : Expr} {t : TT} (h : PW X e t) {σ : St} {H : Hp} {Q : Bool → Hp → Prop} (q : t σ H Q) : SW X e σ H Q := fun wh pn s J => h.run wh pn s σ H Q J q
def SndW (G : Gs) (X : Cx) (e : Expr) (m : TM Bool) (c : Bool) : Prop := ∀ (σ : St) (H F : Hp) (ts : Slots) (fp : List Addr), Sim G F H σ ts fp → ∀ (W : WX), Takes X W → ∀ (Q : Bool → Hp → Prop),
  OutP (m ts) (fun b ts' => ∀ H', (Aft G F H σ fp c ts' H' fun _ _ fo => fo = []) → Q b H') (XW G W F H σ fp) → SW X e σ H Q

section
variable {G : Gs} {X : Cx} {F H H' : Hp} {σ : St} {ts ts' : Slots} {fp : List Addr} {c : Bool}
theorem SndW.t {e : Expr} {m : TM Bool} (h : SndW G X e m c) : SndT G X e m c := fun σ H F ts fp S W tk Q q pn s J => h σ H F ts fp S W tk Q q _ pn s J

theorem szl_eq : szl = PySem.sizeLine := rfl
theorem RFs.empty : ∀ {xs : List FV} {ws : List V}, RFs G F xs ws → ws.isEmpty = xs.isEmpty
  | [], _, r => by rw [show _ = [] from r]; rfl
  | x :: xs, _, r => by
    obtain ⟨v, vr, e, _, _⟩ := r
    rw [e]; rfl
theorem ROs.empty {xs : List OV} {ws : List V} {fr : List Addr} (r : ROs G F H xs ws fr) : ws.isEmpty = xs.isEmpty := by
  cases xs with
  | nil => rw [r.1]; rfl
  | cons x xs =>
    obtain ⟨v, vr, f1, f2, e, _⟩ := r
    rw [e]; rfl
theorem tru_is (h : SubH F H) {K : PySem.W.Frag} (hK : K = G.K) {o : OV} {v : V} {fx : List Addr} {b : Bool} (r : RO G F H o v fx) (e : tru o = some b) : TruV K v H b := by
  subst hK
  cases o with
  | frz x =>
    obtain ⟨_, r⟩ := r
    cases x with
    | non => cases r; exact (Option.some.inj e).symm
    | bl k => cases r; exact (Option.some.inj e).symm
    | int i => cases r; exact (Option.some.inj e).symm
    | str x =>
      obtain ⟨r, _⟩ := r
      cases r
      have e' : (if x.length ≤ szl then some ((x.length : Int) != 0) else none) = some b := e
      by_cases q : x.length ≤ szl
      · rw [if_pos q] at e'
        exact ⟨q, (Option.some.inj e').symm⟩
      · rw [if_neg q] at e'; cases e'
    | lst xs =>
      obtain ⟨a, ws, e1, q, t⟩ := r
      subst e1
      exact .inl ⟨ws, SqL.of (h.lst q), by rw [t.empty]; exact (Option.some.inj e).symm⟩
    | tup xs =>
      obtain ⟨a, ws, e1, q, t⟩ := r
      subst e1
      exact .inr (.inl ⟨ws, sqt_mono h q, by rw [t.empty]; exact (Option.some.inj e).symm⟩)
    | _ => cases e
  | lst os =>
    obtain ⟨a, ws, fr, e1, _, q, t⟩ := r
    subst e1
    exact .inl ⟨ws, SqL.of q, by rw [t.empty]; exact (Option.some.inj e).symm⟩
  | _ => cases e

/-- a first step is dropped: what is said behind the second -/
theorem aft_then {c1 c2 : Bool} {H1 H2 F1 : Hp} {fp1 fo : List Addr} {ts2 : Slots} {R : Hp → List Addr → List Addr → Prop} (ex1 : Ex H H1 F F1 fp (fp1 ++ fo)) (cal1 : c1 = true → ∀ a, H a ≠ none → H1 a = H a) (h : Aft G F1 H1 σ fp1 c2 ts2 H2 R) : Aft G F H σ fp (c1 && c2) ts2 H2 R := by
  obtain ⟨F2, fp2, fo2, S2, r, nd2, off2, ex2, cal2⟩ := h
  refine ⟨F2, fp2, fo2, S2, r, nd2, off2, (ex1.trans ex2).less (fun a m => List.mem_append_left _ m), fun hc => cal_then (cal1 (bth hc).1) (cal2 (bth hc).2)⟩
theorem Aft.calm {c1 c2 : Bool} {ts2 : Slots} {R : Hp → List Addr → List Addr → Prop} (h : Aft G F H σ fp c1 ts2 H' R) (k : c2 = true → c1 = true) : Aft G F H σ fp c2 ts2 H' R := by
  obtain ⟨F2, fp2, fo2, S2, r, nd2, off2, ex2, cal2⟩ := h
  exact ⟨F2, fp2, fo2, S2, r, nd2, off2, ex2, fun z => cal2 (k z)⟩
theorem Aft.drop {c1 : Bool} {ts2 : Slots} {R R' : Hp → List Addr → List Addr → Prop} (h : Aft G F H σ fp c1 ts2 H' R) (k : ∀ F' fp', R' F' fp' []) : Aft G F H σ fp c1 ts2 H' R' := by
  obtain ⟨F2, fp2, fo2, S2, r, nd2, off2, ex2, cal2⟩ := h
  exact ⟨F2, fp2, [], S2, k _ _, by simpa using S2.nd, (fun _ m => by cases m), ex2.less fun a m => by simp at m; simp [m], cal2⟩

theorem sndT_plain {e : Expr} {m : TM Opd} (hK : X.K = G.K) (h : Snd G X e m c) (he : ∀ wh, isTrue e X.env wh = (do let v ← wh; standAt e.pos; holding [v] (truthy v))) : SndT G X e (ttru m) c := by
  intro σ H F ts fp S W tk Q q
  refine ST.of (pt_truth pe_SE he) (h σ H F ts fp S W tk _ (q.bind.mono (fun o ts' q v H1 ae => ?_) fun _ _ q => q))
  cases e1 : o.get ts' with
  | none => rw [e1] at q; exact q.elim
  | some x =>
    rw [e1] at q
    dsimp only at q
    cases e2 : tru x with
    | none => rw [e2] at q; exact q.elim
    | some b =>
      rw [e2] at q
      obtain ⟨F1, fp1, fo, S1, ok1, nd, off, ex, cal⟩ := id ae
      obtain ⟨fx, ro, hfx⟩ := get_ok S1 ok1 e1
      exact ⟨b, tru_is S1.sub hK ro e2, q H1 (Aft.drop ae fun _ _ => rfl)⟩
theorem bool_of {x : OV} {b : Bool} {v : V} {fx : List Addr} (r : RO G F H x v fx) (e : x = .frz (.bl b)) : v = .bl b := by
  subst e
  exact r.2
theorem sndT_cmp {a b : Expr} {op : PySem.CmpOp} {f : OV → OV → Option OV} {ma mb : TM Opd} {ca cb : Bool} {pos : Pos} (o : Op2 G (SO X (compareOp op)) f) (hm : behindInMarks op b = false) (ha : Snd G X a ma ca) (hb : Snd G X b mb cb) : SndT G X (.Compare a [op] [b] pos) (tbool (t2 cb f ma mb)) (ca && cb) := by
  intro σ H F ts fp S W tk Q q
  refine ST.of (pt_cmpR opR_SO pe_SE pe_SE hm) (rd_t2 o ha hb tk S (q.bind.mono (fun o ts' q v H1 ae => ?_) fun _ _ q => q))
  cases e1 : o.get ts' with
  | none => rw [e1] at q; exact q.elim
  | some x =>
    rw [e1] at q
    obtain ⟨F1, fp1, fo, S1, ok1, nd, off, ex, cal⟩ := id ae
    obtain ⟨fx, ro, hfx⟩ := get_ok S1 ok1 e1
    cases x with
    | frz y =>
      cases y with
      | bl k => exact ⟨k, ro.2, q H1 (Aft.drop ae fun _ _ => rfl)⟩
      | _ => exact q.elim
    | _ => exact q.elim

/-- one test behind another -/
theorem tst_bind {a : Expr} {ma : TM Bool} {k : Bool → TM Bool} {ca : Bool} (ha : SndT G X a ma ca) {W : WX} (tk : Takes X W) (S : Sim G F H σ ts fp) {P : Bool → Slots → Prop} (q : OutP (tb ma k ts) P (XW G W F H σ fp))
    {R : Bool → Hp → Prop} (h : ∀ b H1 F1 fp1 ts1, Sim G F1 H1 σ ts1 fp1 → Ex H H1 F F1 fp (fp1 ++ []) → (ca = true → ∀ a, H a ≠ none → H1 a = H a) → OutP (k b ts1) P (XW G W F1 H1 σ fp1) → R b H1) : ST X a σ H R := by
  refine ha σ H F ts fp S W tk _ (q.bind.mono (fun b ts1 q H1 af => ?_) fun _ _ q => q)
  obtain ⟨F1, fp1, fo, S1, e, nd1, off1, ex1, cal1⟩ := af
  subst e
  exact h b H1 F1 fp1 ts1 S1 ex1 cal1 (q.mono (fun _ _ q => q) fun x s q => ax_then ex1 q)
theorem sndw_and1 {a : Expr} {m : TM Bool} {pos : Pos} (h : SndT G X a m c) : SndW G X (.BoolOp .And [a] pos) m c := fun σ H F ts fp S W tk Q q => SW.of (pw_and1 pt_ST) (h σ H F ts fp S W tk Q q)
theorem sndw_or1 {a : Expr} {m : TM Bool} {pos : Pos} (h : SndT G X a m c) : SndW G X (.BoolOp .Or [a] pos) m c := fun σ H F ts fp S W tk Q q => SW.of (pw_or1 pt_ST) (h σ H F ts fp S W tk Q q)
theorem sndw_and {a b : Expr} {rest : List Expr} {ma mb : TM Bool} {ca cb : Bool} {pos : Pos} (ha : SndT G X a ma ca) (hb : SndW G X (.BoolOp .And (b :: rest) pos) mb cb) : SndW G X (.BoolOp .And (a :: b :: rest) pos) (tand ma mb) (ca && cb) := by
  intro σ H F ts fp S W tk Q q
  refine SW.of (pw_and pt_ST pw_SW) (tst_bind ha tk S q fun x H1 F1 fp1 ts1 S1 ex1 cal1 q => ?_)
  cases x with
  | true => exact hb σ H1 F1 ts1 fp1 S1 W tk Q (q.mono (fun b ts2 k H2 af => k H2 (aft_then ex1 cal1 af)) fun _ _ k => k)
  | false => exact q H1 (aft_then (c2 := cb) ex1 cal1 (Aft.here S1 rfl))
theorem sndw_or {a b : Expr} {rest : List Expr} {ma mb : TM Bool} {ca cb : Bool} {pos : Pos} (ha : SndT G X a ma ca) (hb : SndW G X (.BoolOp .Or (b :: rest) pos) mb cb) : SndW G X (.BoolOp .Or (a :: b :: rest) pos) (tor ma mb) (ca && cb) := by
  intro σ H F ts fp S W tk Q q
  refine SW.of (pw_or pt_ST pw_SW) (tst_bind ha tk S q fun x H1 F1 fp1 ts1 S1 ex1 cal1 q => ?_)
  cases x with
  | false => exact hb σ H1 F1 ts1 fp1 S1 W tk Q (q.mono (fun b ts2 k H2 af => k H2 (aft_then ex1 cal1 af)) fun _ _ k => k)
  | true => exact q H1 (aft_then (c2 := cb) ex1 cal1 (Aft.here S1 rfl))
theorem sndT_not {a : Expr} {ma : TM Bool} {pos : Pos} (ha : SndT G X a ma c) : SndT G X (.UnaryOp .Not a pos) (tnot ma) c := by
  intro σ H F ts fp S W tk Q q
  refine ST.of (pt_not pt_ST) (tst_bind ha tk S q fun x H1 F1 fp1 ts1 S1 ex1 cal1 q => ?_)
  exact q H1 ((aft_then (c2 := true) ex1 cal1 (Aft.here S1 rfl)).calm fun z => by rw [z]; rfl)

/-! ### as values -/
theorem val_bind {a : Expr} {ma : TM Opd} {k : Opd → TM Opd} {ca : Bool} (ha : Snd G X a ma ca) {W : WX} (tk : Takes X W) (S : Sim G F H σ ts fp) {P : Opd → Slots → Prop} (q : OutP (tb ma k ts) P (XW G W F H σ fp))
    {R : VK} (h : ∀ o v H1 F1 fp1 fo ts1, Sim G F1 H1 σ ts1 fp1 → OK G F1 H1 σ (· ∈ fp1) o v fo → (fp1 ++ fo).Nodup → (∀ a ∈ fo, F1 a = none) → Ex H H1 F F1 fp (fp1 ++ fo) → (ca = true → ∀ a, H a ≠ none → H1 a = H a) → OutP (k o ts1) P (XW G W F1 H1 σ fp1) → R v H1) : SE X a σ H R := by
  refine ha σ H F ts fp S W tk _ (q.bind.mono (fun o ts1 q v H1 af => ?_) fun _ _ q => q)
  obtain ⟨F1, fp1, fo, S1, ok1, nd1, off1, ex1, cal1⟩ := af
  exact h o v H1 F1 fp1 fo ts1 S1 ok1 nd1 off1 ex1 cal1 (q.mono (fun _ _ q => q) fun x s q => ax_then ex1 q)
theorem snd_and1 {a : Expr} {m : TM Opd} {pos : Pos} {op} (h : Snd G X a m c) : Snd G X (.BoolOp op [a] pos) m c := fun σ H F ts fp S W tk Q q => SE.of (pe_one pe_SE) (h σ H F ts fp S W tk Q q)
theorem snd_and {a b : Expr} {rest : List Expr} {ma mb : TM Opd} {ca cb : Bool} {pos : Pos} (ha : Snd G X a ma ca) (hb : Snd G X (.BoolOp .And (b :: rest) pos) mb cb) : Snd G X (.BoolOp .And (a :: b :: rest) pos) (tandv ma mb) (ca && cb) := by
  intro σ H F ts fp S W tk Q q
  refine SE.of (pe_and pe_SE pe_SE) (val_bind ha tk S q fun o v H1 F1 fp1 fo ts1 S1 ok1 nd1 off1 ex1 cal1 q => ?_)
  cases e1 : o.get ts1 with
  | none => rw [e1] at q; exact q.elim
  | some x =>
    obtain ⟨fx, ro, hfx⟩ := get_ok S1 ok1 e1
    rw [e1] at q
    cases x with
    | frz y =>
      cases y with
      | bl k =>
        refine ⟨k, ro.2, ?_⟩
        cases k with
        | true => exact hb σ H1 F1 ts1 fp1 S1 W tk Q (q.mono (fun b ts2 k v2 H2 af => k v2 H2 (aft_then ex1 cal1 af)) fun _ _ k => k)
        | false => exact q _ H1 (aft_then (c2 := cb) ex1 cal1 (Aft.here S1 ⟨rfl, rfl⟩))
      | _ => exact q.elim
    | _ => exact q.elim
theorem snd_or {a b : Expr} {rest : List Expr} {ma mb : TM Opd} {ca cb : Bool} {pos : Pos} (ha : Snd G X a ma ca) (hb : Snd G X (.BoolOp .Or (b :: rest) pos) mb cb) : Snd G X (.BoolOp .Or (a :: b :: rest) pos) (torv ma mb) (ca && cb) := by
  intro σ H F ts fp S W tk Q q
  refine SE.of (pe_or pe_SE pe_SE) (val_bind ha tk S q fun o v H1 F1 fp1 fo ts1 S1 ok1 nd1 off1 ex1 cal1 q => ?_)
  cases e1 : o.get ts1 with
  | none => rw [e1] at q; exact q.elim
  | some x =>
    obtain ⟨fx, ro, hfx⟩ := get_ok S1 ok1 e1
    rw [e1] at q
    cases x with
    | frz y =>
      cases y with
      | bl k =>
        refine ⟨k, ro.2, ?_⟩
        cases k with
        | false => exact hb σ H1 F1 ts1 fp1 S1 W tk Q (q.mono (fun b ts2 k v2 H2 af => k v2 H2 (aft_then ex1 cal1 af)) fun _ _ k => k)
        | true => exact q _ H1 (aft_then (c2 := cb) ex1 cal1 (Aft.here S1 ⟨rfl, rfl⟩))
      | _ => exact q.elim
    | _ => exact q.elim
theorem snd_not {a : Expr} {ma : TM Opd} {pos : Pos} (ha : Snd G X a ma c) : Snd G X (.UnaryOp .Not a pos) (tnotv ma) c := by
  intro σ H F ts fp S W tk Q q
  refine SE.of (pe_not pe_SE) (rd_t1 (T := fun x H1 Q => ∃ c, x = .bl c ∧ Q (.bl (!c)) H1) (fun H F x r v fx Q sub ro e k => ?_) ha tk S q)
  cases x with
  | frz y =>
    cases y with
    | bl b =>
      obtain ⟨_, rv⟩ := ro
      cases Option.some.inj e
      exact ⟨b, rv, k _ _ (Res.same sub rfl)⟩
    | _ => cases e
  | _ => cases e
theorem snd_ite {t a b : Expr} {mt : TM Bool} {ma mb : TM Opd} {ct ca cb : Bool} {pos : Pos} (ht : SndT G X t mt ct) (ha : Snd G X a ma ca) (hb : Snd G X b mb cb) : Snd G X (.IfExp t a b pos) (tite mt ma mb) (ct && (ca && cb)) := by
  intro σ H F ts fp S W tk Q q
  refine SE.of (pe_ifExp pt_ST pe_SE pe_SE) (ht σ H F ts fp S W tk _ (q.bind.mono (fun x ts1 q H1 af => ?_) fun _ _ q => q))
  obtain ⟨F1, fp1, fo, S1, e, nd1, off1, ex1, cal1⟩ := af
  cases x with
  | true => exact ha σ H1 F1 ts1 fp1 S1 W tk Q (q.mono (fun o ts2 k v H2 af => k v H2 ((aft_then ex1 cal1 af).calm fun z => by simp at z; simp [z])) fun x s k => ax_then ex1 k)
  | false => exact hb σ H1 F1 ts1 fp1 S1 W tk Q (q.mono (fun o ts2 k v H2 af => k v H2 ((aft_then ex1 cal1 af).calm fun z => by simp at z; simp [z])) fun x s k => ax_then ex1 k)
end
end Tv
end

section
/-! Operators by values. -/
namespace Tv
open PySem L2
open PySem (Str Expr)

mutual
/-- data without objects -/
def toD : FV → Option PyData
  | .non => some .none
  | .bl b => some (.bool b)
  | .int i => some (.int i)
  | .str x => some (.str x)
  | .lst xs => (toDs xs).map .list
  | .tup xs => (toDs xs).map .tuple
  | .dic _ _ => none
  | .obj _ _ _ => none
  | .cls _ => none
  | .scr _ => none
def toDs : List FV → Option (List PyData)
  | [] => some []
  | x :: xs => match toD x, toDs xs with
    | some d, some ds => some (d :: ds)
    | _, _ => none
end

section
variable {G : Gs} {F H : Hp}
mutual
theorem toD_dp : ∀ (x : FV) (v : V) (d : PyData), toD x = some d → RF G F x v → Dp G.K F v d ∧ d.canLay0 = true
  | .non, v, d, e, r => by
    cases Option.some.inj e
    rw [show v = _ from r]
    exact ⟨.non, by simp [PyData.canLay0]⟩
  | .bl b, v, d, e, r => by
    cases Option.some.inj e
    rw [show v = _ from r]
    exact ⟨.bl b, by simp [PyData.canLay0]⟩
  | .int i, v, d, e, r => by
    cases Option.some.inj e
    rw [show v = _ from r]
    exact ⟨.int i, by simp [PyData.canLay0]⟩
  | .str x, v, d, e, r => by
    cases Option.some.inj e
    obtain ⟨r1, r2⟩ := r
    rw [r1]
    refine ⟨.str x, ?_⟩
    simp only [PyData.canLay0]
    exact r2
  | .lst xs, v, d, e, r => by
    obtain ⟨a, ws, e1, q, t⟩ := r
    subst e1
    have e' : (toDs xs).map PyData.list = some d := e
    cases q2 : toDs xs with
    | none => rw [q2] at e'; cases e'
    | some ds =>
      rw [q2] at e'
      cases Option.some.inj e'
      obtain ⟨k1, k2⟩ := toDs_dp xs ws ds q2 t
      refine ⟨.lst (SqL.of q) k1, ?_⟩
      simp only [PyData.canLay0]
      exact k2
  | .tup xs, v, d, e, r => by
    obtain ⟨a, ws, e1, q, t⟩ := r
    subst e1
    have e' : (toDs xs).map PyData.tuple = some d := e
    cases q2 : toDs xs with
    | none => rw [q2] at e'; cases e'
    | some ds =>
      rw [q2] at e'
      cases Option.some.inj e'
      obtain ⟨k1, k2⟩ := toDs_dp xs ws ds q2 t
      refine ⟨.tup q k1, ?_⟩
      simp only [PyData.canLay0]
      exact k2
  | .dic _ _, _, _, e, _ => by cases e
  | .obj _ _ _, _, _, e, _ => by cases e
  | .cls _, _, _, e, _ => by cases e
  | .scr _, _, _, e, _ => by cases e
theorem toDs_dp : ∀ (xs : List FV) (ws : List V) (ds : List PyData), toDs xs = some ds → RFs G F xs ws → DpAll G.K F ws ds ∧ PyData.canLayAll0 ds = true
  | [], ws, ds, e, r => by
    cases Option.some.inj e
    rw [show ws = _ from r]
    exact ⟨.nil, by simp [PyData.canLayAll0]⟩
  | x :: xs, ws, ds, e, r => by
    obtain ⟨v, vr, e1, r1, r2⟩ := r
    subst e1
    have e' : (match toD x, toDs xs with | some d, some ds => some (d :: ds) | _, _ => none) = some ds := e
    cases q1 : toD x with
    | none => rw [q1] at e'; cases e'
    | some d =>
      cases q2 : toDs xs with
      | none => rw [q1, q2] at e'; cases e'
      | some dr =>
        rw [q1, q2] at e'
        cases Option.some.inj e'
        obtain ⟨h1, h2⟩ := toD_dp x v d q1 r1
        obtain ⟨h3, h4⟩ := toDs_dp xs vr dr q2 r2
        refine ⟨.cons h1 h3, ?_⟩
        simp only [PyData.canLayAll0, h2, h4, Bool.and_self]
end
end
theorem toD_view {G : Gs} {F H : Hp} (h : SubH F H) {o : OV} {v : V} {fx : List Addr} {d : PyData} (e : toD o.fz = some d) (r : RO G F H o v fx) : Dp G.K H v d ∧ d.canLay0 = true := toD_dp o.fz v d e (RO.view h o v fx r)

/-- where one stands -/
structure Std (G : Gs) (X : Cx) (k : Nat) : Prop where
  hK : X.K = G.K
  calm : X.calm = true
  room : Room k X.A
  gd : X.A.guards = some []
  nd : X.N.Nodup

def deep (d e : PyData) : Bool := decide (d.depth ≤ 64) || decide (e.depth ≤ 64)
theorem deep_min {d e : PyData} (h : deep d e = true) : min d.depth e.depth ≤ 64 := by
  rcases Bool.or_eq_true_iff.mp h with h | h
  · exact Nat.le_trans (Nat.min_le_left _ _) (of_decide_eq_true h)
  · exact Nat.le_trans (Nat.min_le_right _ _) (of_decide_eq_true h)

/-! ### the functions -/
def ftup : OV → Option (List FV)
  | .frz (.tup xs) => some xs
  | _ => none
def cat2 (x y : OV) : Option OV := match x.els, y.els with
  | some xs, some ys => if xs.length + ys.length ≤ szl then some (OV.ofl (xs ++ ys)) else none
  | _, _ => match ftup x, ftup y with
    | some xs, some ys => if xs.length + ys.length ≤ szl then some (.frz (.tup (xs ++ ys))) else none
    | _, _ => none
def add2 (x y : OV) : Option OV := match x, y with
  | .frz (.int i), .frz (.int j) => some (fint (i + j))
  | .frz (.str a), .frz (.str b) => if a.length + b.length ≤ szl then some (fstr (a ++ b)) else none
  | x, y => cat2 x y
def int2 (c : Int → Int → Bool) (g : Int → Int → FV) (x y : OV) : Option OV := match x, y with
  | .frz (.int i), .frz (.int j) => if c i j = true then some (.frz (g i j)) else none
  | _, _ => none
def cMul (i j : Int) : Bool := (decide (-(2 ^ 64) < i) && decide (i < 2 ^ 64)) || (decide (-(2 ^ 64) < j) && decide (j < 2 ^ 64))
def mul2 (x y : OV) : Option OV := match x, y with
  | .frz (.int i), .frz (.int j) => if cMul i j = true then some (fint (i * j)) else none
  | x, .frz (.int k) => match x.els with
    | some xs => if 0 ≤ k ∧ k ≤ 1000000 ∧ xs.length * k.toNat ≤ szl then some (OV.ofl (List.replicate k.toNat xs).flatten) else none
    | none => none
  | _, _ => none
def sub2 : OV → OV → Option OV := int2 (fun _ _ => true) fun i j => .int (i - j)
def fdv2 : OV → OV → Option OV := int2 (fun _ j => decide (0 < j) && decide (j < 1073741824)) fun i j => .int (i / j)
def mod2 : OV → OV → Option OV := int2 (fun _ j => decide (0 < j)) fun i j => .int (i % j)
def pow2 : OV → OV → Option OV := int2 (fun i j => decide (0 ≤ j) && (decide (j ≤ 1000000) && decide (i.natAbs < 2 ^ 64))) fun i j => .int (i ^ j.toNat)
def slt (a b : Str) : Bool := decide (a.cps.toList < b.cps.toList)
def cmp2 (p : Int → Int → Bool) (q : Str → Str → Bool) (x y : OV) : Option OV := match x, y with
  | .frz (.int i), .frz (.int j) => some (fbl (p i j))
  | .frz (.str a), .frz (.str b) => some (fbl (q a b))
  | _, _ => none
def lt2 : OV → OV → Option OV := cmp2 (fun i j => decide (i < j)) slt
def le2 : OV → OV → Option OV := cmp2 (fun i j => decide (i ≤ j)) fun a b => !slt b a
def gt2 : OV → OV → Option OV := cmp2 (fun i j => decide (j < i)) fun a b => slt b a
def ge2 : OV → OV → Option OV := cmp2 (fun i j => decide (j ≤ i)) fun a b => !slt a b
def eqd (x y : OV) : Option Bool := match toD x.fz, toD y.fz with
  | some d, some e => if deep d e = true then some (PyData.eqv d e) else none
  | _, _ => none
def eq2 (x y : OV) : Option OV := (eqd x y).map fbl
def ne2 (x y : OV) : Option OV := (eqd x y).map fun b => fbl (!b)
def sin2 (x y : Str) : Option Bool := match x.cps.toList with
  | [c] => some (decide (c ∈ y.cps.toList))
  | _ => none
def OV.sel (o : OV) : Option (List FV) := match o.fz with
  | .lst xs => some xs
  | .tup xs => some xs
  | _ => none
/-- a key of a dict -/
def fkey : FV → Option Key
  | .int i => some (Sum.inl i)
  | .str x => some (Sum.inr x)
  | _ => none
def fkeys : List FV → Option (List Key)
  | [] => some []
  | x :: xs => match fkey x, fkeys xs with
    | some k, some ks => some (k :: ks)
    | _, _ => none
def ind (x y : OV) : Option Bool := match x, y with
  | .frz (.str a), .frz (.str b) => sin2 a b
  | x, y => match toD x.fz, y.sel with
    | some d, some ys => match toDs ys with
      | some ds => if decide (d.depth ≤ 64) = true then some (ds.any fun z => PyData.eqv z d) else none
      | none => none
    | _, _ => none
def in2 (x y : OV) : Option OV := (ind x y).map fbl
def nin2 (x y : OV) : Option OV := (ind x y).map fun b => fbl (!b)
/-- .. is None, .. is not None -/
def isn (neg : Bool) (x y : OV) : Option OV := match y with
  | .frz .non => match x with
    | .frz .non => some (fbl (!neg))
    | _ => some (fbl neg)
  | _ => none
def neg1 (x : OV) : Option OV := match x with
  | .frz (.int i) => some (fint (-i))
  | _ => none

section
variable {G : Gs} {X : Cx} {k : Nat}
theorem sok_append {a b : Str} (h : sok a = true) (q : sok b = true) : sok (a ++ b) = true := by
  show (a.cps ++ b.cps).all _ = true
  rw [Array.all_append, show a.cps.all _ = true from h, show b.cps.all _ = true from q] <;> rfl
theorem op_add_ok (D : Std G X k) : Op2 G (SO X (binaryOp .Add)) add2 := by
  intro H F x y r v w fx fy Q sub rx ry e q
  unfold add2 at e
  split at e
  · obtain ⟨_, rx⟩ := rx
    obtain ⟨_, ry⟩ := ry
    cases Option.some.inj e
    exact SO.of op_add ⟨_, _, rx, ry, q _ _ (Res.same sub rfl)⟩
  · rename_i a b
    obtain ⟨_, rx, kx⟩ := rx
    obtain ⟨_, ry, ky⟩ := ry
    by_cases z : a.length + b.length ≤ szl
    · rw [if_pos z] at e
      cases Option.some.inj e
      exact SO.of op_add_str ⟨_, _, rx, ry, z, q _ _ (Res.same sub ⟨rfl, sok_append kx ky⟩)⟩
    · rw [if_neg z] at e; cases e
  · unfold cat2 at e
    split at e
    · rename_i xs ys h1 h2
      obtain ⟨a, ws, rfl, hl, t1⟩ := els_ok sub h1 rx
      obtain ⟨b, us, rfl, hl2, t2⟩ := els_ok sub h2 ry
      by_cases z : xs.length + ys.length ≤ szl
      · rw [if_pos z] at e
        cases Option.some.inj e
        exact SO.of op_cat ⟨a, b, ws, us, rfl, rfl, hl, hl2, by rw [t1.len, t2.len]; exact z, fun p hp => q _ _ (Res.newL sub hp (t1.app t2))⟩
      · rw [if_neg z] at e; cases e
    · split at e
      · rename_i xs ys h1 h2
        have ex : x = .frz (.tup xs) := by
          unfold ftup at h1
          split at h1
          · cases Option.some.inj h1; rfl
          · cases h1
        have ey : y = .frz (.tup ys) := by
          unfold ftup at h2
          split at h2
          · cases Option.some.inj h2; rfl
          · cases h2
        subst ex ey
        obtain ⟨_, a, ws, rfl, hl, t1⟩ := rx
        obtain ⟨_, b, us, rfl, hl2, t2⟩ := ry
        by_cases z : xs.length + ys.length ≤ szl
        · rw [if_pos z] at e
          cases Option.some.inj e
          refine SO.of op_catA ⟨a, b, ws, us, rfl, rfl, by rw [D.hK]; exact sqt_mono sub hl, by rw [D.hK]; exact sqt_mono sub hl2, by rw [t1.len, t2.len]; exact z, fun e0 => ?_, fun _ e0 => ?_, fun _ _ p hp => ?_⟩
          · have e1 : xs = [] := List.eq_nil_of_length_eq_zero (by rw [← t1.len, e0]; rfl)
            subst e1
            exact q _ _ (Res.same sub ⟨b, us, rfl, hl2, t2⟩)
          · have e1 : ys = [] := List.eq_nil_of_length_eq_zero (by rw [← t2.len, e0]; rfl)
            subst e1
            rw [List.append_nil] at q
            exact q _ _ (Res.same sub ⟨a, ws, rfl, hl, t1⟩)
          · exact q _ _ (Res.newT sub hp (t1.app t2))
        · rw [if_neg z] at e; cases e
      · cases e
theorem int2_ok {T : R2} {c : Int → Int → Bool} {g : Int → Int → FV} (h : ∀ i j v w H Q, c i j = true → v = V.int i → w = V.int j → (∀ z, (∀ F, RF G F (g i j) z) → Q z H) → T v w H Q) : Op2 G T (int2 c g) := by
  intro H F x y r v w fx fy Q sub rx ry e q
  unfold int2 at e
  split at e
  · rename_i i j
    obtain ⟨_, rx⟩ := rx
    obtain ⟨_, ry⟩ := ry
    by_cases z : c i j = true
    · rw [if_pos z] at e
      cases Option.some.inj e
      exact h i j v w H Q z rx ry fun z' r' => q _ _ (Res.same sub (r' F))
    · rw [if_neg z] at e; cases e
  · cases e
theorem op_sub_ok : Op2 G (SO X (binaryOp .Sub)) sub2 := int2_ok fun i j v w H Q _ e1 e2 q => SO.of op_sub ⟨i, j, e1, e2, q _ fun _ => rfl⟩
theorem op_fdv_ok : Op2 G (SO X (binaryOp .FloorDiv)) fdv2 := int2_ok fun i j v w H Q hc e1 e2 q => SO.of op_fdiv ⟨i, j, e1, e2, by simpa [CDiv] using hc, q _ fun _ => rfl⟩
theorem op_mod_ok : Op2 G (SO X (binaryOp .Mod)) mod2 := int2_ok fun i j v w H Q hc e1 e2 q => SO.of op_mod ⟨i, j, e1, e2, of_decide_eq_true hc, q _ fun _ => rfl⟩
theorem op_pow_ok : Op2 G (SO X (binaryOp .Pow)) pow2 := int2_ok fun i j v w H Q hc e1 e2 q => SO.of op_pow ⟨i, j, e1, e2, by simpa [CPow] using hc, q _ fun _ => rfl⟩
theorem op_mul_ok : Op2 G (SO X (binaryOp .Mult)) mul2 := by
  intro H F x y r v w fx fy Q sub rx ry e q
  unfold mul2 at e
  split at e
  · rename_i i j
    obtain ⟨_, rx⟩ := rx
    obtain ⟨_, ry⟩ := ry
    by_cases z : cMul i j = true
    · rw [if_pos z] at e
      cases Option.some.inj e
      exact SO.of op_mul ⟨i, j, rx, ry, by simpa [cMul, CMul] using z, q _ _ (Res.same sub rfl)⟩
    · rw [if_neg z] at e; cases e
  · rename_i n _
    obtain ⟨_, ry⟩ := ry
    split at e
    · rename_i xs h1
      obtain ⟨a, ws, rfl, hl, t1⟩ := els_ok sub h1 rx
      by_cases z : 0 ≤ n ∧ n ≤ 1000000 ∧ xs.length * n.toNat ≤ szl
      · rw [if_pos z] at e
        cases Option.some.inj e
        obtain ⟨z1, z2, z3⟩ := z
        refine SO.of op_rep ⟨a, n, ws, rfl, ry, hl, by omega, by omega, by rw [t1.len]; exact z3, fun p hp => q _ _ (Res.newL sub hp ?_)⟩
        have rep : ∀ m, RFs G F (List.replicate m xs).flatten (List.replicate m ws).flatten := by
          intro m
          induction m with
          | zero => exact rfl
          | succ m ih =>
            rw [List.replicate_succ, List.replicate_succ, List.flatten_cons, List.flatten_cons]
            exact t1.app ih
        exact rep _
      · rw [if_neg z] at e; cases e
    · cases e
  · cases e
theorem cmp2_ok {T : R2} {p : Int → Int → Bool} {g : Str → Str → Bool} (h1 : ∀ i j H Q, Q (V.bl (p i j)) H → T (.int i) (.int j) H Q) (h2 : ∀ a b H Q, Q (V.bl (g a b)) H → T (.str a) (.str b) H Q) : Op2 G T (cmp2 p g) := by
  intro H F x y r v w fx fy Q sub rx ry e q
  unfold cmp2 at e
  split at e
  · obtain ⟨_, rx⟩ := rx
    obtain ⟨_, ry⟩ := ry
    cases Option.some.inj e
    cases rx
    cases ry
    exact h1 _ _ H Q (q _ _ (Res.same sub rfl))
  · obtain ⟨_, rx, _⟩ := rx
    obtain ⟨_, ry, _⟩ := ry
    cases Option.some.inj e
    cases rx
    cases ry
    exact h2 _ _ H Q (q _ _ (Res.same sub rfl))
  · cases e
theorem op_lt_ok : Op2 G (SO X (compareOp .Lt)) lt2 := cmp2_ok (fun i j H Q q => SO.of op_lt ⟨i, j, rfl, rfl, q⟩) fun a b H Q q => SO.of op_lt_str ⟨a, b, rfl, rfl, q⟩
theorem op_le_ok : Op2 G (SO X (compareOp .LtE)) le2 := cmp2_ok (fun i j H Q q => SO.of op_le ⟨i, j, rfl, rfl, q⟩) fun a b H Q q => SO.of op_le_str ⟨a, b, rfl, rfl, q⟩
theorem op_gt_ok : Op2 G (SO X (compareOp .Gt)) gt2 := cmp2_ok (fun i j H Q q => SO.of op_gt ⟨i, j, rfl, rfl, q⟩) fun a b H Q q => SO.of op_gt_str ⟨a, b, rfl, rfl, q⟩
theorem op_ge_ok : Op2 G (SO X (compareOp .GtE)) ge2 := cmp2_ok (fun i j H Q q => SO.of op_ge ⟨i, j, rfl, rfl, q⟩) fun a b H Q q => SO.of op_ge_str ⟨a, b, rfl, rfl, q⟩
theorem eqd_ok {G : Gs} {H F : Hp} {x y : OV} {v w : V} {fx fy : List Addr} {b : Bool} (sub : SubH F H) (rx : RO G F H x v fx) (ry : RO G F H y w fy) (e : eqd x y = some b) : ∃ d d', Dp G.K H v d ∧ Dp G.K H w d' ∧ d.canLay0 = true ∧ d'.canLay0 = true ∧ min d.depth d'.depth ≤ 64 ∧ PyData.eqv d d' = b := by
  unfold eqd at e
  cases e1 : toD x.fz with
  | none => rw [e1] at e; cases e
  | some d =>
    cases e2 : toD y.fz with
    | none => rw [e1, e2] at e; cases e
    | some d' =>
      rw [e1, e2] at e
      dsimp only at e
      by_cases z : deep d d' = true
      · rw [if_pos z] at e
        obtain ⟨k1, k2⟩ := toD_view sub e1 rx
        obtain ⟨k3, k4⟩ := toD_view sub e2 ry
        exact ⟨d, d', k1, k3, k2, k4, deep_min z, Option.some.inj e⟩
      · rw [if_neg z] at e; cases e
theorem op_eq_ok (D : Std G X k) : Op2 G (SO X (compareOp .Eq)) eq2 := by
  intro H F x y r v w fx fy Q sub rx ry e q
  unfold eq2 at e
  cases e0 : eqd x y with
  | none => rw [e0] at e; cases e
  | some b =>
    rw [e0] at e
    cases Option.some.inj e
    obtain ⟨d, d', k1, k2, l1, l2, dm, ev⟩ := eqd_ok sub rx ry e0
    intro pn s σ vu wu J rv rw'
    rw [← D.hK] at k1 k2
    obtain ⟨as, r1⟩ := Dp.reads J d v vu k1 rv
    obtain ⟨bs, r2⟩ := Dp.reads J d' w wu k2 rw'
    refine SeqAt.compareEq_reads r1 r2 l1 l2 (by have := D.room.units; omega) ?_
    rw [ev]
    exact ⟨.bl b, H, J, rfl, q _ _ (Res.same sub rfl)⟩
theorem op_ne_ok (D : Std G X k) : Op2 G (SO X (compareOp .NotEq)) ne2 := by
  intro H F x y r v w fx fy Q sub rx ry e q
  unfold ne2 at e
  cases e0 : eqd x y with
  | none => rw [e0] at e; cases e
  | some b =>
    rw [e0] at e
    cases Option.some.inj e
    obtain ⟨d, d', k1, k2, l1, l2, dm, ev⟩ := eqd_ok sub rx ry e0
    intro pn s σ vu wu J rv rw'
    rw [← D.hK] at k1 k2
    obtain ⟨as, r1⟩ := Dp.reads J d v vu k1 rv
    obtain ⟨bs, r2⟩ := Dp.reads J d' w wu k2 rw'
    refine SeqAt.compareNe_reads r1 r2 l1 l2 (by have := D.room.units; omega) ?_
    rw [ev]
    exact ⟨.bl (!b), H, J, rfl, q _ _ (Res.same sub rfl)⟩
theorem sel_ok {G : Gs} {H F : Hp} (h : SubH F H) {o : OV} {v : V} {fx : List Addr} {xs : List FV} (e : o.sel = some xs) (r : RO G F H o v fx) : ∃ a ws, v = .ref a ∧ (SqL G.K H a ws ∨ SqT G.K H a ws) ∧ RFs G H xs ws := by
  have w := RO.view h o v fx r
  unfold OV.sel at e
  split at e
  · rename_i ys q
    cases Option.some.inj e
    rw [q] at w
    obtain ⟨a, ws, e1, q1, t⟩ := w
    exact ⟨a, ws, e1, .inl (SqL.of q1), t⟩
  · rename_i ys q
    cases Option.some.inj e
    rw [q] at w
    obtain ⟨a, ws, e1, q1, t⟩ := w
    exact ⟨a, ws, e1, .inr q1, t⟩
  · cases e
theorem sin2_ok {a b : Str} {c : Bool} (e : sin2 a b = some c) : ∃ n, a = ⟨#[n]⟩ ∧ c = decide (n ∈ b.cps.toList) := by
  unfold sin2 at e
  split at e
  · rename_i n h
    cases Option.some.inj e
    refine ⟨n, ?_, rfl⟩
    obtain ⟨⟨l⟩⟩ := a
    have h' : l = [n] := h
    rw [h']
  · cases e
theorem ind_ok (D : Std G X k) {H F : Hp} {x y : OV} {v w : V} {fx fy : List Addr} {b : Bool} (sub : SubH F H) (rx : RO G F H x v fx) (ry : RO G F H y w fy) (e : ind x y = some b) {Q Q' : VK} (q : Q (.bl b) H) (q' : Q' (.bl (!b)) H) :
    SO X (compareOp .In) v w H Q ∧ SO X (compareOp .NotIn) v w H Q' := by
  unfold ind at e
  split at e
  · obtain ⟨_, rx, _⟩ := rx
    obtain ⟨_, ry, _⟩ := ry
    obtain ⟨n, e1, e2⟩ := sin2_ok e
    subst e1 e2
    exact ⟨SO.of op_in_sign ⟨n, _, rx, ry, q⟩, SO.of op_notIn_sign ⟨n, _, rx, ry, q'⟩⟩
  · split at e
    · rename_i d ys e1 e2
      split at e
      · rename_i ds e3
        by_cases z : decide (d.depth ≤ 64) = true
        · rw [if_pos z] at e
          have ev := Option.some.inj e
          obtain ⟨k1, l1⟩ := toD_view sub e1 rx
          obtain ⟨a, ws, rfl, hq, t⟩ := sel_ok sub e2 ry
          obtain ⟨k2, l2⟩ := toDs_dp ys ws ds e3 t
          have room : X.A.units + 1 + min (PyData.depthAll ds) d.depth < cLine := by
            have h1 := D.room.un
            have h2 := of_decide_eq_true z
            have h3 := Nat.min_le_right (PyData.depthAll ds) d.depth
            omega
          rw [← D.hK] at k1 k2 hq
          have fin : ∀ (Q : VK) (b' : Bool), Q (.bl b') H → ∀ (pn : List (Addr × Obj)) (s : Shared) (σ : St), Inv X pn σ H s → EP X pn σ Q (.bool b') s := fun Q b' q pn s σ J => ⟨.bl b', H, J, rfl, q⟩
          refine ⟨fun pn s σ vu wu J rv rw' => ?_, fun pn s σ vu wu J rv rw' => ?_⟩
          all_goals
            obtain ⟨as, r1⟩ := Dp.reads J d v vu k1 rv
            cases rw'
            rcases hq with hq | hq
          · obtain ⟨bs, r2⟩ := Dp.reads J (.list ds) _ _ (.lst hq k2) (rfl : RelV (.ref a) (.ref a))
            exact SeqAt.in_list_reads r2 r1 l2 l1 room (by rw [ev]; exact fin Q b q pn s σ J)
          · obtain ⟨bs, r2⟩ := Dp.reads J (.tuple ds) _ _ (.tup hq k2) (rfl : RelV (.ref a) (.ref a))
            exact SeqAt.in_tuple_reads r2 r1 l2 l1 room (by rw [ev]; exact fin Q b q pn s σ J)
          · obtain ⟨bs, r2⟩ := Dp.reads J (.list ds) _ _ (.lst hq k2) (rfl : RelV (.ref a) (.ref a))
            exact SeqAt.notIn_list_reads r2 r1 l2 l1 room (by rw [ev]; exact fin Q' (!b) q' pn s σ J)
          · obtain ⟨bs, r2⟩ := Dp.reads J (.tuple ds) _ _ (.tup hq k2) (rfl : RelV (.ref a) (.ref a))
            exact SeqAt.notIn_tuple_reads r2 r1 l2 l1 room (by rw [ev]; exact fin Q' (!b) q' pn s σ J)
        · rw [if_neg z] at e; cases e
      · cases e
    · cases e
theorem op_in_ok (D : Std G X k) : Op2 G (SO X (compareOp .In)) in2 := by
  intro H F x y r v w fx fy Q sub rx ry e q
  unfold in2 at e
  cases e0 : ind x y with
  | none => rw [e0] at e; cases e
  | some b =>
    rw [e0] at e
    cases Option.some.inj e
    exact (ind_ok D sub rx ry e0 (q _ _ (Res.same sub rfl)) (Q' := fun _ _ => True) trivial).1
theorem op_nin_ok (D : Std G X k) : Op2 G (SO X (compareOp .NotIn)) nin2 := by
  intro H F x y r v w fx fy Q sub rx ry e q
  unfold nin2 at e
  cases e0 : ind x y with
  | none => rw [e0] at e; cases e
  | some b =>
    rw [e0] at e
    cases Option.some.inj e
    exact (ind_ok D sub rx ry e0 (Q := fun _ _ => True) trivial (q _ _ (Res.same sub rfl))).2
theorem isn_ok {T : R2} {neg : Bool} (h : ∀ (v : V) H Q, Q (V.bl (if neg = true then !decide (v = .non) else decide (v = .non))) H → T v .non H Q) : Op2 G T (isn neg) := by
  intro H F x y r v w fx fy Q sub rx ry e q
  unfold isn at e
  split at e
  · obtain ⟨_, ry⟩ := ry
    cases ry
    split at e
    · obtain ⟨_, rx⟩ := rx
      cases rx
      cases Option.some.inj e
      refine h _ H Q ?_
      have z : (if neg = true then !decide (V.non = V.non) else decide (V.non = V.non)) = !neg := by cases neg <;> simp
      rw [z]
      exact q _ _ (Res.same sub rfl)
    · rename_i hx
      cases Option.some.inj e
      have ne : v ≠ .non := by
        intro z
        subst z
        cases x with
        | frz y =>
          obtain ⟨_, rx⟩ := rx
          cases y with
          | non => exact hx rfl
          | bl b => cases rx
          | int i => cases rx
          | str i => cases rx.1
          | lst xs => obtain ⟨a, ws, e1, _⟩ := rx; cases e1
          | tup xs => obtain ⟨a, ws, e1, _⟩ := rx; cases e1
          | dic ks xs => obtain ⟨a, ws, e1, _⟩ := rx; cases e1
          | obj c ns xs => obtain ⟨a, dx, fs, e1, _⟩ := rx; cases e1
          | cls c => cases rx
          | scr ns => obtain ⟨a, e1, _⟩ := rx; cases e1
        | lst xs => obtain ⟨a, ws, fr, e1, _⟩ := rx; cases e1
        | tup xs => obtain ⟨a, ws, fr, e1, _⟩ := rx; cases e1
        | dic ks xs => obtain ⟨a, ws, fr, e1, _⟩ := rx; cases e1
        | obj c ns xs => obtain ⟨a, dx, fs, fr, e1, _⟩ := rx; cases e1
      refine h _ H Q ?_
      have z : (if neg = true then !decide (v = V.non) else decide (v = V.non)) = neg := by cases neg <;> simp [ne]
      rw [z]
      exact q _ _ (Res.same sub rfl)
  · cases e
theorem op_is_ok : Op2 G (SO X (compareOp .Is)) (isn false) := isn_ok fun v H Q q => SO.of op_isN ⟨rfl, q⟩
theorem op_isnot_ok : Op2 G (SO X (compareOp .IsNot)) (isn true) := isn_ok fun v H Q q => SO.of op_notN ⟨rfl, q⟩
theorem un_neg_ok : Op1 G (SU X (unaryOp .USub)) neg1 := by
  intro H F x r v fx Q sub rx e q
  unfold neg1 at e
  split at e
  · obtain ⟨_, rx⟩ := rx
    cases Option.some.inj e
    exact SU.of un_neg ⟨_, rx, q _ _ (Res.same sub rfl)⟩
  · cases e
end
end Tv
end

section
/-! Freezing, attributes, displays, argument lists. -/
namespace Tv
open PySem L2
open PySem (Str Expr)

section
variable {G : Gs} {F H H' : Hp} {σ : St} {ts ts' : Slots} {fp : List Addr}

/-- a field, and how it is set -/
theorem look_put {f : Nat} {o : OV} : ∀ {ns : List Nat} {xs : List OV} {fs : List (Str × V)} {fr : List Addr}, fs.map (·.1) = ns.map G.att → ROs G F H xs (fs.map (·.2)) fr → look f ns xs = some o →
    ∃ v l m r, fs.lookup (G.att f) = some v ∧ fr = l ++ (m ++ r) ∧ RO G F H o v m ∧ putF (G.att f) v fs = fs ∧ putN f ns = ns ∧
      ∀ (F' H' : Hp) (o' : OV) (v' : V) (m' : List Addr), SubH F F' → (∀ a ∈ l ++ r, H' a = H a) → RO G F' H' o' v' m' →
        ROs G F' H' (putV f o' ns xs) ((putF (G.att f) v' fs).map (·.2)) (l ++ (m' ++ r)) ∧ (putF (G.att f) v' fs).map (·.1) = ns.map G.att
  | [], xs, fs, fr, _, _, e => by cases e
  | n :: ns, [], fs, fr, _, _, e => by cases e
  | n :: ns, x :: xs, [], fr, h, _, _ => by cases h
  | n :: ns, x :: xs, (k, w) :: fs, fr, h, r, e => by
    obtain ⟨v, vr, f1, f2, e1, ef, r1, r2⟩ := r
    rw [List.map_cons] at e1 h
    rw [List.map_cons] at h
    injection e1 with e1 e2
    injection h with h1 h2
    subst ef
    dsimp only at e1 h1
    subst e1
    unfold look at e
    by_cases q : n = f
    · rw [if_pos q] at e
      have eo := Option.some.inj e
      subst eo q
      have ek : k = G.att n := h1
      refine ⟨w, [], f1, f2, ?_, rfl, r1, ?_, ?_, fun F' H' o' v' m' hF kp r' => ?_⟩
      · rw [ek, List.lookup_cons, beq_self_eq_true]
      · show (if k = G.att n then (k, w) :: fs else (k, w) :: putF (G.att n) w fs) = _
        rw [if_pos ek]
      · show (if n = n then n :: ns else _) = _
        rw [if_pos rfl]
      · have e3 : putF (G.att n) v' ((k, w) :: fs) = (k, v') :: fs := by
          show (if k = G.att n then (k, v') :: fs else _) = _
          rw [if_pos ek]
        have e4 : putV n o' (n :: ns) (x :: xs) = o' :: xs := by
          show (if n = n then o' :: xs else _) = _
          rw [if_pos rfl]
        rw [e3, e4]
        refine ⟨⟨v', fs.map (·.2), m', f2, rfl, rfl, r', ?_⟩, ?_⟩
        · rw [← e2] at r2
          exact ROs.frame hF xs _ f2 (fun b hb => kp b (by simpa using hb)) r2
        · show k :: fs.map (·.1) = G.att n :: ns.map G.att
          rw [h2, ek]
    · rw [if_neg q] at e
      rw [← e2] at r2
      obtain ⟨v', l, m, r, k1, k2, k3, k4, k6, k5⟩ := look_put h2 r2 e
      have nk : ¬ k = G.att f := fun z => q (G.inj _ _ (h1.symm.trans z))
      have ne : (G.att f == k) = false := by
        rw [beq_eq_false_iff_ne]
        exact fun z => nk z.symm
      refine ⟨v', f1 ++ l, m, r, ?_, by rw [k2, List.append_assoc], k3, ?_, ?_, fun F' H' o' w' m' hF kp r' => ?_⟩
      · rw [List.lookup_cons, ne]
        exact k1
      · show (if k = G.att f then _ else (k, w) :: putF (G.att f) v' fs) = _
        rw [if_neg nk, k4]
      · show (if n = f then _ else n :: putN f ns) = _
        rw [if_neg q, k6]
      · obtain ⟨z1, z2⟩ := k5 F' H' o' w' m' hF (fun b hb => kp b (by rcases List.mem_append.mp hb with z | z <;> simp [z])) r'
        have e3 : putF (G.att f) w' ((k, w) :: fs) = (k, w) :: putF (G.att f) w' fs := by
          show (if k = G.att f then _ else (k, w) :: putF (G.att f) w' fs) = _
          rw [if_neg nk]
        have e4 : putV f o' (n :: ns) (x :: xs) = x :: putV f o' ns xs := by
          show (if n = f then _ else x :: putV f o' ns xs) = _
          rw [if_neg q]
        rw [e3, e4]
        refine ⟨⟨w, _, f1, _, rfl, by rw [List.append_assoc], RO.frame hF x w f1 (fun b hb => kp b (by simp [hb])) r1, z1⟩, ?_⟩
        show k :: (putF (G.att f) w' fs).map (·.1) = G.att n :: ns.map G.att
        rw [z2, h1]
/-- a field that was not there -/
theorem put_fresh {f : Nat} : ∀ {ns : List Nat} {xs : List OV} {fs : List (Str × V)} {fr : List Addr}, fs.map (·.1) = ns.map G.att → ROs G F H xs (fs.map (·.2)) fr → look f ns xs = none → fs.lookup (G.att f) = none ∧
      ∀ (F' H' : Hp) (o' : OV) (v' : V) (m' : List Addr), SubH F F' → (∀ a ∈ fr, H' a = H a) → RO G F' H' o' v' m' →
        ROs G F' H' (putV f o' ns xs) ((putF (G.att f) v' fs).map (·.2)) (fr ++ m') ∧ (putF (G.att f) v' fs).map (·.1) = (putN f ns).map G.att
  | [], xs, [], fr, _, r, _ => by
    cases xs with
    | nil =>
      refine ⟨rfl, fun F' H' o' v' m' hF kp r' => ?_⟩
      have ef : fr = [] := r.2
      subst ef
      exact ⟨⟨v', [], m', [], rfl, by simp, r', rfl, rfl⟩, rfl⟩
    | cons x xs =>
      obtain ⟨v, vr, f1, f2, e1, _⟩ := r
      cases e1
  | [], xs, _ :: _, fr, h, _, _ => by cases h
  | n :: ns, xs, [], fr, h, _, _ => by cases h
  | n :: ns, [], (k, w) :: fs, fr, _, r, _ => by cases r.1
  | n :: ns, x :: xs, (k, w) :: fs, fr, h, r, e => by
    obtain ⟨v, vr, f1, f2, e1, ef, r1, r2⟩ := r
    rw [List.map_cons] at e1 h
    rw [List.map_cons] at h
    injection e1 with e1 e2
    injection h with h1 h2
    subst ef
    dsimp only at e1 h1
    subst e1
    unfold look at e
    by_cases q : n = f
    · rw [if_pos q] at e; cases e
    · rw [if_neg q] at e
      rw [← e2] at r2
      obtain ⟨k1, k2⟩ := put_fresh h2 r2 e
      have nk : ¬ k = G.att f := fun z => q (G.inj _ _ (h1.symm.trans z))
      have ne : (G.att f == k) = false := by
        rw [beq_eq_false_iff_ne]
        exact fun z => nk z.symm
      refine ⟨by rw [List.lookup_cons, ne]; exact k1, fun F' H' o' w' m' hF kp r' => ?_⟩
      obtain ⟨z1, z2⟩ := k2 F' H' o' w' m' hF (fun b hb => kp b (by simp [hb])) r'
      have e3 : putF (G.att f) w' ((k, w) :: fs) = (k, w) :: putF (G.att f) w' fs := by
        show (if k = G.att f then _ else (k, w) :: putF (G.att f) w' fs) = _
        rw [if_neg nk]
      have e4 : putV f o' (n :: ns) (x :: xs) = x :: putV f o' ns xs := by
        show (if n = f then _ else x :: putV f o' ns xs) = _
        rw [if_neg q]
      have e5 : putN f (n :: ns) = n :: putN f ns := by
        show (if n = f then _ else n :: putN f ns) = _
        rw [if_neg q]
      rw [e3, e4, e5]
      refine ⟨⟨w, _, f1, _, rfl, by rw [List.append_assoc], RO.frame hF x w f1 (fun b hb => kp b (by simp [hb])) r1, z1⟩, ?_⟩
      show k :: (putF (G.att f) w' fs).map (·.1) = G.att n :: (putN f ns).map G.att
      rw [z2, h1]

/-- some places frozen -/
def frzH (F H : Hp) (f : List Addr) : Hp := fun b => if b ∈ f then H b else F b
theorem frzH_in {f : List Addr} {a : Addr} (h : a ∈ f) : frzH F H f a = H a := if_pos h
theorem frzH_out {f : List Addr} {a : Addr} (h : a ∉ f) : frzH F H f a = F a := if_neg h
theorem sub_frzH (h : SubH F H) {f : List Addr} : SubH (frzH F H f) H := fun a u e => by
  by_cases z : a ∈ f
  · rw [frzH_in z] at e; exact ⟨u, e, .inl rfl⟩
  · rw [frzH_out z] at e; exact h _ _ e
theorem frzH_sub {f : List Addr} (off : ∀ a ∈ f, F a = none) : SubH F (frzH F H f) := fun a u e => by
  have z : a ∉ f := fun z => by rw [off a z] at e; cases e
  exact ⟨u, by rw [frzH_out z]; exact e, .inl rfl⟩

theorem nd_mid {α : Type} {l f r : List α} (h : (l ++ (f ++ r)).Nodup) : (l ++ r).Nodup ∧ ∀ b, b ∈ l ++ r → b ∉ f := by
  obtain ⟨n1, n2, n3⟩ := List.nodup_append.mp h
  obtain ⟨n4, n5, n6⟩ := List.nodup_append.mp n2
  refine ⟨List.nodup_append.mpr ⟨n1, n5, fun a m b m' => n3 a m b (List.mem_append_right _ m')⟩, fun b m mf => ?_⟩
  rcases List.mem_append.mp m with z | z
  · exact n3 b z b (List.mem_append_left _ mf) rfl
  · exact n6 b mf b z rfl
theorem set_self {α : Type} {l : List α} {i : Nat} {v : α} (h : l[i]? = some v) : l.set i v = l := List.ext_getElem? fun j => by
  rw [List.getElem?_set]
  split
  · rename_i hj
    subst hj
    split
    · rw [h]
    · rename_i hl
      rw [List.getElem?_eq_none (by omega)]
  · rfl
/-- what stands by keeps clear when a part is frozen -/
theorem frz_part {c : Bool} {l f r : List Addr} {fp1 : List Addr} {F1 : Hp} {ts2 : Slots} {R : Hp → List Addr → List Addr → Prop} (e : fp1 = l ++ (f ++ r)) (S1 : SubH F1 H') (nd : fp1.Nodup) (off : ∀ a ∈ fp1, F1 a = none) (ex1 : Ex H H' F F1 fp (fp1 ++ [])) (cal1 : c = true → ∀ a, H a ≠ none → H' a = H a)
    (k : SubH F1 (frzH F1 H' f) → SL G (frzH F1 H' f) H' ts2 σ (l ++ r) ∧ R (frzH F1 H' f) (l ++ r) []) : Aft G F H σ fp c ts2 H' R := by
  subst e
  obtain ⟨n1, n2⟩ := nd_mid nd
  have hF : SubH F1 (frzH F1 H' f) := frzH_sub fun a m => off a (by simp [m])
  obtain ⟨k1, k2⟩ := k hF
  refine ⟨frzH F1 H' f, l ++ r, [], ⟨sub_frzH S1, k1, n1, fun a m => ?_⟩, k2, by simpa using n1, (fun _ m => by cases m), ⟨ex1.sub.trans hF, ex1.keep, ex1.live, fun a m => ?_, fun a lv => ?_⟩, cal1⟩
  · rw [frzH_out (n2 a m)]
    exact off a (by rcases List.mem_append.mp m with z | z <;> simp [z])
  · exact ex1.new a (by simp at m ⊢; rcases m with z | z <;> simp [z])
  · by_cases mf : a ∈ f
    · rcases ex1.new a (by simp [mf]) with z | z
      · exact .inr (.inl z)
      · exact .inr (.inr z)
    · rw [frzH_out mf] at lv
      exact ex1.fro a lv
theorem esc_okW {c : Bool} {o : Opd} {ov : OV} {v : V} {ts2 : Slots} (ae : Aft G F H σ fp c ts' H' fun F' _ fo => OK G F' H' σ (fun _ => True) o v fo) (e : esc o ts' = .ok ov ts2) : Aft G F H σ fp c ts2 H' fun F' _ fo => RO G F' H' ov v fo := by
  obtain ⟨F1, fp1, fo, S1, ok1, nd1, off1, ex1, cal1⟩ := ae
  cases o with
  | val y =>
    have e' : Out.ok y ts' = Out.ok ov ts2 := e
    cases e'
    exact ⟨F1, fp1, fo, S1, ok1, nd1, off1, ex1, cal1⟩
  | «at» i =>
    have e' : (match slot ts' i with | some o => Out.ok (.frz o.fz) (ts'.set i (some (.frz o.fz))) | none => .bad) = Out.ok ov ts2 := e
    cases q : slot ts' i with
    | none => rw [q] at e'; cases e'
    | some x =>
      rw [q] at e'
      cases e'
      obtain ⟨w, l, f, r, h1, h2, h3, h4⟩ := SL.at S1.sl q
      obtain ⟨z1, z2⟩ := ok1
      rw [h1] at z2
      have z := Option.some.inj (Option.some.inj z2)
      subst z z1
      refine frz_part h2 S1.sub S1.nd S1.off ex1 cal1 fun hF => ?_
      have rf : RF G (frzH F1 H' f) x.fz w := RO.freeze hF x w f (fun a m => frzH_in m) h3
      have sl := h4 (frzH F1 H' f) H' (.frz x.fz) w [] hF (fun _ _ => rfl) ⟨rfl, rf⟩
      rw [set_self h1] at sl
      exact ⟨sl, rfl, rf⟩
  | fld i fl =>
    have e' : (match slot ts' i with
      | some (.obj c ns vs) => match look fl ns vs with
        | some o => Out.ok (.frz o.fz) (ts'.set i (some (.obj c ns (putV fl (.frz o.fz) ns vs))))
        | none => .bad
      | _ => .bad) = Out.ok ov ts2 := e
    cases q : slot ts' i with
    | none => rw [q] at e'; cases e'
    | some x0 =>
      rw [q] at e'
      cases x0 with
      | obj cc ns vs =>
        dsimp only at e'
        cases q2 : look fl ns vs with
        | none => rw [q2] at e'; cases e'
        | some x =>
          rw [q2] at e'
          cases e'
          obtain ⟨w0, l0, f0, r0, h1, h2, h3, h4⟩ := SL.at S1.sl q
          obtain ⟨a, dx, fs, fr, e1, e2, e3, e4, e5⟩ := h3
          obtain ⟨w, l, f, r, k1, k2, k3, k4, _, k5⟩ := look_put e4 e5 q2
          obtain ⟨zo, a', C', dx', fs', m1, m2, m3, m4⟩ := ok1
          rw [h1, e1] at m1
          have za : a = a' := by injection Option.some.inj (Option.some.inj m1)
          subst za
          rw [e3] at m3
          injection m3 with m3
          injection m3 with _ _ m3
          subst m3
          rw [k1] at m4
          have zw := Option.some.inj m4
          subst zw zo
          have e9 : fp1 = (l0 ++ a :: l) ++ (f ++ (r ++ r0)) := by rw [h2, e2, k2]; simp
          refine frz_part e9 S1.sub S1.nd S1.off ex1 cal1 fun hF => ?_
          have rf : RF G (frzH F1 H' f) x.fz w := RO.freeze hF x w f (fun a m => frzH_in m) k3
          obtain ⟨z1, z2⟩ := k5 (frzH F1 H' f) H' (.frz x.fz) w [] hF (fun _ _ => rfl) ⟨rfl, rf⟩
          rw [k4] at z1 z2
          have ro : RO G (frzH F1 H' f) H' (.obj cc ns (putV fl (.frz x.fz) ns vs)) w0 (a :: (l ++ ([] ++ r))) := ⟨a, dx, fs, _, e1, rfl, e3, e4, z1⟩
          have sl := h4 (frzH F1 H' f) H' _ w0 _ hF (fun _ _ => rfl) ro
          rw [set_self h1] at sl
          refine ⟨?_, rfl, rf⟩
          have e10 : l0 ++ ((a :: (l ++ ([] ++ r))) ++ r0) = (l0 ++ a :: l) ++ (r ++ r0) := by simp
          rw [← e10]
          exact sl
      | _ => cases e'
theorem Aft.imp {c : Bool} {R R' : Hp → List Addr → List Addr → Prop} (h : Aft G F H σ fp c ts' H' R) (k : ∀ F' fp' fo, R F' fp' fo → R' F' fp' fo) : Aft G F H σ fp c ts' H' R' := by
  obtain ⟨F1, fp1, fo, S1, r, nd1, off1, ex1, cal1⟩ := h
  exact ⟨F1, fp1, fo, S1, k _ _ _ r, nd1, off1, ex1, cal1⟩
theorem AE.weak {c : Bool} {o : Opd} {v : V} (ae : AE G F H σ fp c o ts' v H') : Aft G F H σ fp c ts' H' fun F' _ fo => OK G F' H' σ (fun _ => True) o v fo := Aft.imp ae fun _ _ _ k => k.weak fun _ _ => trivial
theorem esc_ok {c : Bool} {o : Opd} {ov : OV} {v : V} {ts2 : Slots} (ae : AE G F H σ fp c o ts' v H') (e : esc o ts' = .ok ov ts2) : Aft G F H σ fp c ts2 H' fun F' _ fo => RO G F' H' ov v fo := esc_okW (AE.weak ae) e
end
end Tv
end

section
/-! Lists of operands; a step on them. -/
namespace Tv
open PySem L2
open PySem (Str Expr)

/-! ### readings -/
/-- the values of several expressions, from the left; a starred one gives its items -/
def SEs (X : Cx) : List Expr → TA
  | [] => fun _ H Q => Q [] H
  | .Starred e _ :: es => tStarX X e (SEs X es)
  | e :: es => fun σ H Q => SE X e σ H fun v H1 => SEs X es σ H1 fun vs H2 => Q (v :: vs) H2
where tStarX (X : Cx) (e : Expr) (t : TA) : TA := fun σ H Q => SE X e σ H fun x H1 => ∃ p xs, x = V.ref p ∧ (SqT X.K H1 p xs ∨ SqL X.K H1 p xs) ∧ t σ H1 fun ys H2 => Q (xs ++ ys) H2
def isStar : Expr → Bool
  | .Starred _ _ => true
  | _ => false
theorem SEs_cons {X : Cx} {e : Expr} {es : List Expr} (h : isStar e = false) : SEs X (e :: es) = fun σ H Q => SE X e σ H fun v H1 => SEs X es σ H1 fun vs H2 => Q (v :: vs) H2 := by
  cases e <;> first | rfl | cases h
theorem starEach_cons {e : Expr} {es : List Expr} {env : Env} (h : isStar e = false) : starEach (e :: es) env = (false, eval e env) :: starEach es env := by
  cases e <;> first | rfl | cases h
theorem pa_SEs {X : Cx} : ∀ {es : List Expr}, PA X es (SEs X es)
  | [] => pa_nil
  | e :: es => by
    by_cases h : isStar e = false
    · rw [SEs_cons h]
      exact pa_cons pe_SE pa_SEs (starEach_cons h)
    · cases e with
      | Starred e p => exact StX.pa_star pe_SE pa_SEs
      | _ => exact absurd rfl h

/-- a step on values -/
def SA (X : Cx) (act : List Value → Sem Value) (σ : St) : List V → Hp → VK → Prop := fun vs H Q => ∀ (pn : List (Addr × Obj)) (s : Shared) (us : List Value), Inv X pn σ H s → Vals vs us → wpAny (model X.prog X.w) X.A (act us) (EP X pn σ Q) X.xe s
def act1 (g : Value → Sem Value) : List Value → Sem Value
  | [u] => g u
  | _ => pure .none
def act2 (g : Value → Value → Sem Value) : List Value → Sem Value
  | [u, v] => g u v
  | _ => pure .none

/-! ### operands -/
def OKs (G : Gs) (F H : Hp) (σ : St) (p : Addr → Prop) : List Opd → List V → List Addr → Prop
  | [], vs, fo => vs = [] ∧ fo = []
  | o :: os, vs, fo => ∃ v vr f1 f2, vs = v :: vr ∧ fo = f1 ++ f2 ∧ OK G F H σ p o v f1 ∧ OKs G F H σ p os vr f2
abbrev AO (G : Gs) (F H : Hp) (σ : St) (fp : List Addr) (c : Bool) (os : List Opd) (ts' : Slots) (vs : List V) (H' : Hp) : Prop :=
  Aft G F H σ fp c ts' H' fun F' _ fo => OKs G F' H' σ (fun _ => True) os vs fo
def SndO (G : Gs) (X : Cx) (es : List Expr) (m : TM (List Opd)) (c : Bool) : Prop := ∀ (σ : St) (H F : Hp) (ts : Slots) (fp : List Addr), Sim G F H σ ts fp → ∀ (W : WX), Takes X W → ∀ (Q : List V → Hp → Prop),
  OutP (m ts) (fun os ts' => ∀ vs H', AO G F H σ fp c os ts' vs H' → Q vs H') (XW G W F H σ fp) → SEs X es σ H Q
/-- a step on operands -/
def Stp (G : Gs) (X : Cx) (act : List Value → Sem Value) (f : List Opd → TM Opd) (c : Bool) : Prop := ∀ (σ : St) (H F : Hp) (ts : Slots) (fp fo : List Addr) (os : List Opd) (vs : List V), Sim G F H σ ts fp → OKs G F H σ (fun _ => True) os vs fo → (fp ++ fo).Nodup → (∀ a ∈ fo, F a = none) →
  ∀ (W : WX), Takes X W → ∀ (Q : VK), OutP (f os ts) (fun o ts' => ∀ v H', AE G F H σ (fp ++ fo) c o ts' v H' → Q v H') (XW G W F H σ (fp ++ fo)) → SA X act σ vs H Q

/-- an operand that is held while something else is asked; c: that is calm -/
def tkeep (c : Bool) (m : TM Opd) : TM Opd := tb m fun o => if !c && isFld o then tb (esc o) fun v => tp (.val v) else tp o
def tcons (a : TM Opd) (r : TM (List Opd)) : TM (List Opd) := tb a fun o => tb r fun os => tp (o :: os)
/-- frozen, and nobody's -/
def tesc (m : TM Opd) : TM Opd := tb m fun o => tb (esc o) fun v => tp (.val v)
def opds (xs : List FV) : List Opd := xs.map fun x => .val (.frz x)
/-- the items of *e -/
def tstar (a : TM Opd) (r : TM (List Opd)) : TM (List Opd) := tb (tesc a) fun o s => match o with
  | .val v => match v.fz with
    | .lst xs => tb r (fun os => tp (opds xs ++ os)) s
    | .tup xs => tb r (fun os => tp (opds xs ++ os)) s
    | _ => .bad
  | _ => .bad
def gets (s : Slots) : List Opd → Option (List OV)
  | [] => some []
  | o :: os => match o.get s, gets s os with
    | some x, some xs => some (x :: xs)
    | _, _ => none
def pureN (g : List OV → Option OV) (os : List Opd) : TM Opd := fun s => match gets s os with
  | some xs => match g xs with
    | some r => .ok (.val r) s
    | none => .bad
  | none => .bad
def of1 (f : OV → Option OV) : List OV → Option OV
  | [x] => f x
  | _ => none
def of2 (f : OV → OV → Option OV) : List OV → Option OV
  | [x, y] => f x y
  | _ => none

section
variable {G : Gs} {X : Cx} {F H H' : Hp} {σ : St} {ts ts' : Slots} {fp : List Addr} {c : Bool}
theorem OKs.weak {p q : Addr → Prop} (h : ∀ a, p a → q a) : ∀ {os : List Opd} {vs : List V} {fo : List Addr}, OKs G F H σ p os vs fo → OKs G F H σ q os vs fo
  | [], _, _, k => k
  | o :: os, _, _, ⟨v, vr, f1, f2, e1, e2, k, r⟩ => ⟨v, vr, f1, f2, e1, e2, k.weak h, r.weak h⟩
theorem OK.live {p : Addr → Prop} {o : Opd} {v : V} {fo : List Addr} (k : OK G F H σ p o v fo) : ∀ a ∈ fo, H a ≠ none := by
  cases o with
  | val y => exact RO.live y v fo k
  | «at» i => intro a m; rw [k.1] at m; cases m
  | fld i f => intro a m; rw [k.1] at m; cases m
/-- an operand held by: where it is then -/
theorem OK.held {o : Opd} {v : V} {fo f1 f2 : List Addr} {c : Bool} {F' : Hp} (k : OK G F H σ (· ∈ f1) o v fo) (h : isFld o = false ∨ c = true) (x : Ex H H' F F' f1 f2) (d : ∀ a ∈ fo, a ∉ f1) (off : ∀ a ∈ fo, F a = none) (cal : c = true → ∀ a, H a ≠ none → H' a = H a) :
    OK G F' H' σ (fun _ => True) o v fo ∧ (∀ a ∈ fo, a ∉ f2) ∧ ∀ a ∈ fo, F' a = none := by
  refine ⟨k.stand h x d off cal, ?_⟩
  cases o with
  | val y => exact x.apart k d off
  | «at» i => rw [k.1]; exact ⟨fun _ m => (by cases m), fun _ m => (by cases m)⟩
  | fld i f => rw [k.1]; exact ⟨fun _ m => (by cases m), fun _ m => (by cases m)⟩

/-- e, then esc -/
theorem snd_esc_gen {e : Expr} {m : TM Opd} {P : Opd → Bool} (h : Snd G X e m c) : Snd G X e (tb m fun o => if P o then tb (esc o) fun v => tp (.val v) else tp o) c := by
  intro σ H F ts fp S W tk Q q
  refine h σ H F ts fp S W tk Q (q.bind.mono (fun o ts1 q v H1 ae => ?_) fun _ _ q => q)
  by_cases z : P o = true
  · rw [if_pos z] at q
    have q := q.bind
    cases e1 : esc o ts1 with
    | ok ov ts2 =>
      rw [e1] at q
      exact q v H1 (esc_ok ae e1)
    | exc x s => cases o <;> (unfold esc at e1; try cases e1)
                 all_goals (dsimp only at e1; split at e1 <;> try cases e1)
                 all_goals (split at e1 <;> cases e1)
    | bad => rw [e1] at q; exact q.elim
  · rw [if_neg z] at q
    exact q v H1 ae
theorem snd_keep {e : Expr} {m : TM Opd} {d : Bool} (h : Snd G X e m c) : Snd G X e (tkeep d m) c := snd_esc_gen h
theorem snd_tesc {e : Expr} {m : TM Opd} (h : Snd G X e m c) : Snd G X e (tesc m) c := by
  have z := snd_esc_gen (P := fun _ => true) h
  exact z
theorem keep_fld {d : Bool} {m : TM Opd} {P : Opd → Slots → Prop} {E : XV → Slots → Prop} (h : OutP (tkeep d m ts) P E) : OutP (tkeep d m ts) (fun o s => (isFld o = false ∨ d = true) ∧ P o s) E := by
  unfold tkeep tb at h ⊢
  cases e : m ts with
  | ok o s =>
    rw [e] at h
    dsimp only at h ⊢
    cases d with
    | true => exact (show OutP (tp o s) P E from h).mono (fun _ _ q => ⟨.inr rfl, q⟩) fun _ _ q => q
    | false =>
      cases z : isFld o with
      | true =>
        rw [z] at h
        have h := (show OutP (tb (esc o) (fun v => tp (Opd.val v)) s) P E from h).bind
        show OutP (tb (esc o) (fun v => tp (Opd.val v)) s) _ E
        unfold tb
        cases e2 : esc o s with
        | ok v s2 => rw [e2] at h; exact ⟨.inl rfl, h⟩
        | exc x s2 => rw [e2] at h; exact h
        | bad => rw [e2] at h; exact h.elim
      | false =>
        rw [z] at h
        exact ⟨.inl z, h⟩
  | exc x s => rw [e] at h; exact h
  | bad => rw [e] at h; exact h.elim
theorem sndo_nil : SndO G X [] (tp []) true := fun σ H F ts fp S W tk Q q => q [] H (Aft.here S ⟨rfl, rfl⟩)
theorem aft_two {c1 c2 : Bool} {H1 H2 F1 : Hp} {fp1 fo1 : List Addr} {ts2 : Slots} {o : Opd} {v : V} {R R' : Hp → List Addr → List Addr → Prop} (ok1 : OK G F1 H1 σ (· ∈ fp1) o v fo1) (nf : isFld o = false ∨ c2 = true) (nd1 : (fp1 ++ fo1).Nodup) (off1 : ∀ a ∈ fo1, F1 a = none) (ex1 : Ex H H1 F F1 fp (fp1 ++ fo1)) (cal1 : c1 = true → ∀ a, H a ≠ none → H1 a = H a)
    (h : Aft G F1 H1 σ fp1 c2 ts2 H2 R) (k : ∀ F2 fp2 fo2, Sim G F2 H2 σ ts2 fp2 → OK G F2 H2 σ (fun _ => True) o v fo1 → R F2 fp2 fo2 → R' F2 fp2 (fo1 ++ fo2)) : Aft G F H σ fp (c1 && c2) ts2 H2 R' := by
  obtain ⟨F2, fp2, fo2, S2, r, nd2, off2, ex2, cal2⟩ := h
  obtain ⟨_, ndo, dj⟩ := List.nodup_append.mp nd1
  obtain ⟨st, ap, of1⟩ := ok1.held nf ex2 (fun a m z => dj a z a m rfl) off1 cal2
  obtain ⟨n1, n2, n3⟩ := List.nodup_append.mp nd2
  refine ⟨F2, fp2, fo1 ++ fo2, S2, k F2 fp2 fo2 S2 st r, ?_, fun a m => ?_, (ex1.trans ex2).less fun a m => ?_, fun hc => cal_then (cal1 (bth hc).1) (cal2 (bth hc).2)⟩
  · refine List.nodup_append.mpr ⟨n1, List.nodup_append.mpr ⟨ndo, n2, fun a m b m' e => ap a m (by rw [e]; exact List.mem_append_right _ m')⟩, fun a m b m' e => ?_⟩
    rcases List.mem_append.mp m' with z | z
    · exact ap b z (by rw [← e]; exact List.mem_append_left _ m)
    · exact n3 a m b z e
  · rcases List.mem_append.mp m with z | z
    · exact of1 a z
    · exact off2 a z
  · simp only [List.mem_append] at m ⊢
    rcases m with z | z | z
    · exact .inl (.inl z)
    · exact .inr z
    · exact .inl (.inr z)
theorem sndo_cons {e : Expr} {es : List Expr} {ma : TM Opd} {mr : TM (List Opd)} {ca cr : Bool} (hs : isStar e = false) (ha : Snd G X e ma ca) (hr : SndO G X es mr cr) : SndO G X (e :: es) (tcons (tkeep cr ma) mr) (ca && cr) := by
  intro σ H F ts fp S W tk Q q
  rw [SEs_cons hs]
  refine snd_keep ha σ H F ts fp S W tk _ ((keep_fld q.bind).mono (fun o ts1 q v H1 ae => ?_) fun _ _ q => q)
  obtain ⟨nf, q⟩ := q
  obtain ⟨F1, fp1, fo1, S1, ok1, nd1, off1, ex1, cal1⟩ := ae
  refine hr σ H1 F1 ts1 fp1 S1 W tk _ (q.bind.mono (fun os ts2 q vs H2 af => ?_) fun x s q => ax_then ex1 q)
  exact q (v :: vs) H2 (aft_two ok1 nf nd1 off1 ex1 cal1 af fun F2 fp2 fo2 S2 st r => ⟨v, vs, fo1, fo2, rfl, rfl, st, r⟩)
/-- what is nobody's is frozen -/
theorem frz_fo {o : OV} {v : V} (h : Aft G F H σ fp c ts' H' fun F' _ fo => RO G F' H' o v fo) : Aft G F H σ fp c ts' H' fun F' _ fo => fo = [] ∧ RF G F' o.fz v := by
  obtain ⟨F1, fp1, fo, S1, r, nd1, off1, ex1, cal1⟩ := h
  have hF : SubH F1 (frzH F1 H' fo) := frzH_sub off1
  obtain ⟨n1, n2, n3⟩ := List.nodup_append.mp nd1
  refine ⟨frzH F1 H' fo, fp1, [], ⟨sub_frzH S1.sub, SL.frame hF (fun _ _ => rfl) S1.sl, n1, fun a m => ?_⟩, ⟨rfl, RO.freeze hF o v fo (fun a m => frzH_in m) r⟩, by simpa using n1, (fun _ m => by cases m), ⟨ex1.sub.trans hF, ex1.keep, ex1.live, fun a m => ?_, fun a lv => ?_⟩, cal1⟩
  · rw [frzH_out fun z => n3 a m a z rfl]
    exact S1.off a m
  · exact ex1.new a (List.mem_append_left _ (by simpa using m))
  · by_cases mf : a ∈ fo
    · rcases ex1.new a (List.mem_append_right _ mf) with z | z
      · exact .inr (.inl z)
      · exact .inr (.inr z)
    · rw [frzH_out mf] at lv
      exact ex1.fro a lv
theorem OKs_opds : ∀ {xs : List FV} {ws : List V} {p : Addr → Prop}, RFs G F xs ws → OKs G F H σ p (opds xs) ws []
  | [], _, _, r => ⟨r, rfl⟩
  | x :: xs, _, _, r => by
    obtain ⟨v, vr, e, r1, r2⟩ := r
    exact ⟨v, vr, [], [], e, rfl, ⟨rfl, r1⟩, OKs_opds r2⟩
theorem OKs.app {p : Addr → Prop} : ∀ {os os' : List Opd} {vs vs' : List V} {f1 f2 : List Addr}, OKs G F H σ p os vs f1 → OKs G F H σ p os' vs' f2 → OKs G F H σ p (os ++ os') (vs ++ vs') (f1 ++ f2)
  | [], _, _, _, _, _, k, r => by rw [k.1, k.2]; exact r
  | o :: os, _, _, _, _, _, ⟨v, vr, f1, f2, e1, e2, k, r⟩, q => by
    subst e1 e2
    exact ⟨v, vr ++ _, f1, f2 ++ _, rfl, List.append_assoc .., k, r.app q⟩
/-- a first part is dropped, or stays where it does not matter -/
theorem aft_comp {c1 c2 : Bool} {H1 H2 F1 : Hp} {fp1 fo1 : List Addr} {ts2 : Slots} {R R' : Hp → List Addr → List Addr → Prop} (ex1 : Ex H H1 F F1 fp (fp1 ++ fo1)) (cal1 : c1 = true → ∀ a, H a ≠ none → H1 a = H a)
    (h : Aft G F1 H1 σ fp1 c2 ts2 H2 R) (k : ∀ F2 fp2 fo2, Sim G F2 H2 σ ts2 fp2 → SubH F1 F2 → R F2 fp2 fo2 → R' F2 fp2 fo2) : Aft G F H σ fp (c1 && c2) ts2 H2 R' := by
  obtain ⟨F2, fp2, fo2, S2, r, nd2, off2, ex2, cal2⟩ := h
  exact ⟨F2, fp2, fo2, S2, k F2 fp2 fo2 S2 ex2.sub r, nd2, off2, (ex1.trans ex2).less (fun a m => List.mem_append_left _ m), fun hc => cal_then (cal1 (bth hc).1) (cal2 (bth hc).2)⟩
theorem sndo_star {e : Expr} {es : List Expr} {p : Pos} {ma : TM Opd} {mr : TM (List Opd)} {ca cr : Bool} (hK : X.K = G.K) (ha : Snd G X e ma ca) (hr : SndO G X es mr cr) : SndO G X (.Starred e p :: es) (tstar ma mr) (ca && cr) := by
  intro σ H F ts fp S W tk Q q
  refine snd_tesc ha σ H F ts fp S W tk _ (q.bind.mono (fun o ts1 q v H1 ae => ?_) fun _ _ q => q)
  cases o with
  | val y =>
    obtain ⟨F1, fp1, fo1, S1, ⟨efo, rf⟩, nd1, off1, ex1, cal1⟩ := frz_fo ae
    subst efo
    have go : ∀ xs a ws, v = .ref a → (SqT X.K H1 a ws ∨ SqL X.K H1 a ws) → RFs G F1 xs ws → OutP (tb mr (fun os => tp (opds xs ++ os)) ts1) (fun os ts' => ∀ vs H', AO G F H σ fp (ca && cr) os ts' vs H' → Q vs H') (XW G W F H σ fp) → ∃ p xs, v = V.ref p ∧ (SqT X.K H1 p xs ∨ SqL X.K H1 p xs) ∧ SEs X es σ H1 fun ys H2 => Q (xs ++ ys) H2 := by
      intro xs a ws ev hq rfs q
      refine ⟨a, ws, ev, hq, hr σ H1 F1 ts1 fp1 S1 W tk _ (q.bind.mono (fun os ts2 q vs H2 af => ?_) fun x s q => ax_then ex1 q)⟩
      exact q (ws ++ vs) H2 (aft_comp ex1 cal1 af fun F2 fp2 fo2 S2 sb r => (OKs_opds (RFs.mono sb xs ws rfs)).app r)
    dsimp only at q
    cases z : y.fz with
    | lst xs =>
      rw [z] at q rf
      obtain ⟨a, ws, e1, e2, e3⟩ := rf
      exact go xs a ws e1 (.inr (SqL.of (S1.sub.lst e2))) e3 q
    | tup xs =>
      rw [z] at q rf
      obtain ⟨a, ws, e1, e2, e3⟩ := rf
      exact go xs a ws e1 (.inl (by rw [hK]; exact sqt_mono S1.sub e2)) e3 q
    | _ => rw [z] at q; exact q.elim
  | «at» i => exact q.elim
  | fld i f => exact q.elim

/-! ### steps -/
theorem gets_ok : ∀ {os : List Opd} {vs : List V} {fo : List Addr} {xs : List OV} {p : Addr → Prop}, Sim G F H σ ts fp → OKs G F H σ p os vs fo → gets ts os = some xs → Paired (fun x v => ∃ fx, RO G F H x v fx) xs vs
  | [], vs, fo, xs, p, S, k, e => by
    have z : [] = xs := Option.some.inj e
    subst z
    rw [k.1]
    exact .nil
  | o :: os, vs, fo, xs, p, S, k, e => by
    obtain ⟨v, vr, f1, f2, e1, e2, k1, k2⟩ := k
    have e' : (match o.get ts, gets ts os with | some x, some xs => some (x :: xs) | _, _ => none) = some xs := e
    cases z1 : o.get ts with
    | none => rw [z1] at e'; cases e'
    | some x =>
      cases z2 : gets ts os with
      | none => rw [z1, z2] at e'; cases e'
      | some ys =>
        rw [z1, z2] at e'
        cases Option.some.inj e'
        subst e1
        obtain ⟨fx, ro, _⟩ := get_ok S k1 z1
        exact .cons ⟨fx, ro⟩ (gets_ok S k2 z2)
def OpN (G : Gs) (T : List V → Hp → VK → Prop) (g : List OV → Option OV) : Prop := ∀ (H F : Hp) (xs : List OV) (r : OV) (vs : List V) (Q : VK), SubH F H → Paired (fun x v => ∃ fx, RO G F H x v fx) xs vs → g xs = some r → (∀ z H', Res G F H r z H' → Q z H') → T vs H Q
theorem res_own {fo : List Addr} {r : OV} {z : V} {H2 : Hp} (S : Sim G F H σ ts fp) (nd : (fp ++ fo).Nodup) (res : Res G F H r z H2) : AE G F H σ (fp ++ fo) true (.val r) ts z H2 := by
  have x : Ex H H F F (fp ++ fo) (fp ++ []) := (Ex.refl H F (fp ++ fo)).less fun a m => List.mem_append_left _ (by simpa using m)
  exact res_aft (c := true) S x (fun _ _ _ => rfl) res
theorem Stp.of {act : List Value → Sem Value} {g : List OV → Option OV} (h : OpN G (fun vs H Q => ∀ σ, SA X act σ vs H Q) g) : Stp G X act (pureN g) true := by
  intro σ H F ts fp fo os vs S k nd off W tk Q q
  unfold pureN at q
  cases e1 : gets ts os with
  | none => rw [e1] at q; exact q.elim
  | some xs =>
    rw [e1] at q
    dsimp only at q
    cases e2 : g xs with
    | none => rw [e2] at q; exact q.elim
    | some r =>
      rw [e2] at q
      exact h H F xs r vs Q S.sub (gets_ok S k e1) e2 (fun z H' res => q z H' (res_own S nd res)) σ
theorem opN_call {fn : Value} {g : List OV → Option OV} (h : OpN G (SC X fn) g) : OpN G (fun vs H Q => ∀ σ, SA X (fun us => call fn us) σ vs H Q) g := fun H F xs r vs Q sub p e q σ pn s us J rv => h H F xs r vs Q sub p e q pn s σ us J rv
theorem opN_1 {un : Value → Sem Value} {f : OV → Option OV} (h : Op1 G (SU X un) f) : OpN G (fun vs H Q => ∀ σ, SA X (act1 un) σ vs H Q) (of1 f) := by
  intro H F xs r vs Q sub p e q σ pn s us J rv
  cases p with
  | nil => cases e
  | cons p1 p2 =>
    cases p2 with
    | nil =>
      obtain ⟨fx, ro⟩ := p1
      cases rv with
      | cons r1 r2 =>
        cases r2
        exact h H F _ r _ fx Q sub ro e q pn s σ _ J r1
    | cons p3 p4 => cases e
theorem opN_2 {g : Value → Value → Sem Value} {f : OV → OV → Option OV} (h : Op2 G (SO X g) f) : OpN G (fun vs H Q => ∀ σ, SA X (act2 g) σ vs H Q) (of2 f) := by
  intro H F xs r vs Q sub p e q σ pn s us J rv
  cases p with
  | nil => cases e
  | cons p1 p2 =>
    cases p2 with
    | nil => cases e
    | cons p3 p4 =>
      cases p4 with
      | nil =>
        obtain ⟨fx, ro⟩ := p1
        obtain ⟨fy, ry⟩ := p3
        cases rv with
        | cons r1 r2 =>
          cases r2 with
          | cons r3 r4 =>
            cases r4
            exact h H F _ _ r _ _ fx fy Q sub ro ry e q pn s σ _ _ J r1 r3
      | cons p5 p6 => cases e
/-- operands, then a step -/
theorem rd_app {es : List Expr} {act : List Value → Sem Value} {f : List Opd → TM Opd} {m : TM (List Opd)} {c1 c2 : Bool} (hm : SndO G X es m c1) (hf : Stp G X act f c2) (S : Sim G F H σ ts fp) {W : WX} (tk : Takes X W) {Q : VK}
    (q : OutP (tb m f ts) (fun o ts' => ∀ v H', AE G F H σ fp (c1 && c2) o ts' v H' → Q v H') (XW G W F H σ fp)) : SEs X es σ H fun vs H1 => SA X act σ vs H1 Q := by
  refine hm σ H F ts fp S W tk _ (q.bind.mono (fun os ts1 q vs H1 af => ?_) fun _ _ q => q)
  obtain ⟨F1, fp1, fo1, S1, oks, nd1, off1, ex1, cal1⟩ := af
  have ex1' : Ex H H1 F F1 fp ((fp1 ++ fo1) ++ []) := ex1.less fun a m => by simpa using m
  refine hf σ H1 F1 ts1 fp1 fo1 os vs S1 oks nd1 off1 W tk Q (q.mono (fun o ts2 q v H2 ae => q v H2 ?_) fun x s q => ?_)
  · exact aft_comp (fp1 := fp1 ++ fo1) ex1' cal1 ae fun _ _ _ _ _ r => r
  · exact ax_then (fp1 := fp1 ++ fo1) ex1' q
end
end Tv
end

section
/-! Statements. -/
namespace Tv
open PySem L2
open PySem (Str Expr Stmt)

inductive Fl where
  | nx | rt (o : OV)

/-! ### readings -/
def S1 (X : Cx) (st : Stmt) : TS := fun D σ H => ∀ (pn : List (Addr × Obj)) (s : Shared), Inv X pn σ H s → wpAny (model X.prog X.w) X.A (exec st X.env) (SP X pn D) X.xe s
def SS (X : Cx) (sts : List Stmt) : TS := fun D σ H => ∀ (pn : List (Addr × Obj)) (s : Shared), Inv X pn σ H s → wpAny (model X.prog X.w) X.A (execs sts X.env) (SP X pn D) X.xe s
theorem ps_S1 {X : Cx} {st : Stmt} : PS X st (S1 X st) := ⟨fun pn s σ H D J h => h pn s J⟩
theorem pss_SS {X : Cx} {st : List Stmt} : PSs X st (SS X st) := ⟨fun pn s σ H D J h => h pn s J⟩
theorem S1.of {X : Cx} {st : Stmt} {t : TS} (h : PS X st t) {σ : St} {H : Hp} {D : Ends} (q : t D σ H) : S1 X st D σ H := fun pn s J => h.run pn s σ H D J q
theorem SS.of {X : Cx} {st : List Stmt} {t : TS} (h : PSs X st t) {σ : St} {H : Hp} {D : Ends} (q : t D σ H) : SS X st D σ H := fun pn s J => h.run pn s σ H D J q
def SG (X : Cx) (tg : Expr) : TG := fun v σ H Q => ∀ (pn : List (Addr × Obj)) (s : Shared) (u : Value), Inv X pn σ H s → RelV v u → wpAny (model X.prog X.w) X.A (assign tg X.env u) (fun _ s' => ∃ σ' H', Inv X pn σ' H' s' ∧ Q σ' H') X.xe s
theorem pg_SG {X : Cx} {tg : Expr} : PG X tg (SG X tg) := ⟨fun pn s σ H v u Q J r h => h pn s u J r⟩
theorem SG.of {X : Cx} {tg : Expr} {t : TG} (h : PG X tg t) {v : V} {σ : St} {H : Hp} {Q : St → Hp → Prop} (q : t v σ H Q) : SG X tg v σ H Q := fun pn s u J r => h.run pn s σ H v u Q J r q
def SGs (X : Cx) (tgs : List Expr) : TGs := fun vs σ H Q => ∀ (pn : List (Addr × Obj)) (s : Shared) (us : List Value), Inv X pn σ H s → Vals vs us → wpAny (model X.prog X.w) X.A (assignInOrder ((assignEach tgs X.env).map (·.2)) us) (fun _ s' => ∃ σ' H', Inv X pn σ' H' s' ∧ Q σ' H') X.xe s
theorem pgs_SGs {X : Cx} {tgs : List Expr} : PGs X tgs (SGs X tgs) := ⟨fun pn s σ H vs us Q J r h => h pn s us J r⟩
theorem SGs.of {X : Cx} {tgs : List Expr} {t : TGs} (h : PGs X tgs t) {vs : List V} {σ : St} {H : Hp} {Q : St → Hp → Prop} (q : t vs σ H Q) : SGs X tgs vs σ H Q := fun pn s us J r => h.run pn s σ H vs us Q J r q

/-- the names that are not stored to -/
def Fix (w : Nat → Bool) (σ σ' : St) : Prop := (∀ i, w i = false → σ'[i]? = σ[i]?) ∧ σ'.length = σ.length
theorem Fix.refl {w : Nat → Bool} {σ : St} : Fix w σ σ := ⟨fun _ _ => rfl, rfl⟩
theorem Fix.trans {w : Nat → Bool} {σ σ1 σ2 : St} (h : Fix w σ σ1) (k : Fix w σ1 σ2) : Fix w σ σ2 := ⟨fun i e => (k.1 i e).trans (h.1 i e), k.2.trans h.2⟩
theorem Fix.set {w : Nat → Bool} {σ : St} {i : Nat} {x : Option V} (h : w i = true) : Fix w σ (σ.set i x) := ⟨fun j e => by
  rw [List.getElem?_set_ne]
  intro z
  rw [z, e] at h
  exact absurd h (by decide), List.length_set⟩
theorem Fix.mono {w w' : Nat → Bool} {σ σ' : St} (h : Fix w' σ σ') (k : ∀ i, w' i = true → w i = true) : Fix w σ σ' := ⟨fun i e => h.1 i (by
  cases z : w' i with
  | false => rfl
  | true => rw [k i z] at e; exact absurd e (by decide)), h.2⟩

abbrev AS (G : Gs) (F H : Hp) (σ : St) (fp : List Addr) (w : Nat → Bool) (ts' : Slots) (σ' : St) (H' : Hp) : Prop := (Aft G F H σ' fp false ts' H' fun _ _ fo => fo = []) ∧ Fix w σ σ'
abbrev AR (G : Gs) (F H : Hp) (σ : St) (fp : List Addr) (w : Nat → Bool) (o : OV) (ts' : Slots) (σ' : St) (v : V) (H' : Hp) : Prop := (Aft G F H σ' fp false ts' H' fun F' _ fo => RO G F' H' o v fo) ∧ Fix w σ σ'
abbrev XS (G : Gs) (W : WX) (F H : Hp) (σ : St) (fp : List Addr) (w : Nat → Bool) (x : XV) (ts' : Slots) : Prop := ∀ σ' cls d H', AX G F H σ' fp x ts' cls d H' → Fix w σ σ' → W cls d σ' H'
def FlP (G : Gs) (F H : Hp) (σ : St) (fp : List Addr) (w : Nat → Bool) (D : Ends) (f : Fl) (ts' : Slots) : Prop := match f with
  | .nx => ∀ σ' H', AS G F H σ fp w ts' σ' H' → D.nx σ' H'
  | .rt o => ∀ σ' v H', AR G F H σ fp w o ts' σ' v H' → D.rt v H'
def Snd1 (G : Gs) (X : Cx) (st : Stmt) (m : TM Fl) (w : Nat → Bool) : Prop := ∀ (σ : St) (H F : Hp) (ts : Slots) (fp : List Addr), Sim G F H σ ts fp → ∀ (W : WX), Takes X W → ∀ (D : Ends),
  OutP (m ts) (FlP G F H σ fp w D) (XS G W F H σ fp w) → S1 X st D σ H
def SndS (G : Gs) (X : Cx) (st : List Stmt) (m : TM Fl) (w : Nat → Bool) : Prop := ∀ (σ : St) (H F : Hp) (ts : Slots) (fp : List Addr), Sim G F H σ ts fp → ∀ (W : WX), Takes X W → ∀ (D : Ends),
  OutP (m ts) (FlP G F H σ fp w D) (XS G W F H σ fp w) → SS X st D σ H
def SndG (G : Gs) (X : Cx) (tg : Expr) (m : OV → TM Unit) (w : Nat → Bool) : Prop := ∀ (σ : St) (H F : Hp) (ts : Slots) (fp fo : List Addr) (o : OV) (v : V), Sim G F H σ ts fp → RO G F H o v fo → (fp ++ fo).Nodup → (∀ a ∈ fo, F a = none) → ∀ (W : WX), Takes X W → ∀ (Q : St → Hp → Prop),
  OutP (m o ts) (fun _ ts' => ∀ σ' H', AS G F H σ (fp ++ fo) w ts' σ' H' → Q σ' H') (XS G W F H σ (fp ++ fo) w) → SG X tg v σ H Q
def SndGs (G : Gs) (X : Cx) (tgs : List Expr) (m : List OV → TM Unit) (w : Nat → Bool) : Prop := ∀ (σ : St) (H F : Hp) (ts : Slots) (fp fo : List Addr) (os : List OV) (vs : List V), Sim G F H σ ts fp → ROs G F H os vs fo → (fp ++ fo).Nodup → (∀ a ∈ fo, F a = none) → ∀ (W : WX), Takes X W → ∀ (Q : St → Hp → Prop),
  OutP (m os ts) (fun _ ts' => ∀ σ' H', AS G F H σ (fp ++ fo) w ts' σ' H' → Q σ' H') (XS G W F H σ (fp ++ fo) w) → SGs X tgs vs σ H Q

/-! ### the functions -/
def tseq (a b : TM Fl) : TM Fl := tb a fun f => match f with
  | .nx => b
  | .rt o => tp (.rt o)
def tdrop (m : TM Opd) : TM Fl := tb m fun _ => tp .nx
def tretn : TM Fl := tp (.rt (.frz .non))
/-- what a def hands back; a name's own goes along; par: the first so many names are lent -/
def tret (par : Nat) (m : TM Opd) : TM Fl := tb m fun o s => match o with
  | .at i => if i < par then tb (esc o) (fun v => tp (.rt v)) s else match slot s i with
    | some v => .ok (.rt v) (s.set i none)
    | none => .bad
  | o => tb (esc o) (fun v => tp (.rt v)) s
def tifs (c : TM Bool) (a b : TM Fl) : TM Fl := tb c fun x => if x = true then a else b
def twh (c : TM Bool) (b : TM Fl) : Nat → TM Fl
  | 0 => tbad
  | n + 1 => tb c fun x => if x = true then tseq b (twh c b n) else tp .nx
def gname (w : Nat → Bool) (i : Nat) (o : OV) : TM Unit := fun s => if w i = true ∧ i < s.length then .ok () (s.set i (some o)) else .bad
def tasg (m : TM Opd) (g : OV → TM Unit) : TM Fl := tb (tval m) fun o => tb (g o) fun _ => tp .nx

section
variable {G : Gs} {X : Cx} {F H H' : Hp} {σ : St} {ts ts' : Slots} {fp : List Addr} {c : Bool} {w : Nat → Bool}
theorem AS.of {c : Bool} {σ' : St} {R : Hp → List Addr → List Addr → Prop} (h : Aft G F H σ' fp c ts' H' R) (k : Fix w σ σ') : AS G F H σ fp w ts' σ' H' := ⟨(h.calm fun z => by cases z).drop fun _ _ => rfl, k⟩
/-- after a first step -/
theorem as_then {H1 H2 F1 : Hp} {fp1 fo : List Addr} {σ1 σ2 : St} {ts2 : Slots} (ex1 : Ex H H1 F F1 fp (fp1 ++ fo)) (k : Fix w σ σ1) (h : AS G F1 H1 σ1 fp1 w ts2 σ2 H2) : AS G F H σ fp w ts2 σ2 H2 :=
  ⟨(aft_then (c1 := false) (c2 := false) ex1 (fun z => by cases z) h.1).calm (fun z => by cases z), k.trans h.2⟩
theorem ar_then {H1 H2 F1 : Hp} {fp1 fo : List Addr} {σ1 σ2 : St} {ts2 : Slots} {o : OV} {v : V} (ex1 : Ex H H1 F F1 fp (fp1 ++ fo)) (k : Fix w σ σ1) (h : AR G F1 H1 σ1 fp1 w o ts2 σ2 v H2) : AR G F H σ fp w o ts2 σ2 v H2 :=
  ⟨(aft_then (c1 := false) (c2 := false) ex1 (fun z => by cases z) h.1).calm (fun z => by cases z), k.trans h.2⟩
theorem xs_then {W : WX} {H1 F1 : Hp} {fp1 fo : List Addr} {σ1 : St} {x : XV} {ts2 : Slots} (ex1 : Ex H H1 F F1 fp (fp1 ++ fo)) (k : Fix w σ σ1) (h : XS G W F H σ fp w x ts2) : XS G W F1 H1 σ1 fp1 w x ts2 := fun σ' cls d H2 ax fx =>
  h σ' cls d H2 ((aft_then (c1 := false) (c2 := false) ex1 (fun z => by cases z) ax).calm fun z => by cases z) (k.trans fx)
theorem fl_then {H1 F1 : Hp} {fp1 fo : List Addr} {σ1 : St} {D : Ends} {f : Fl} {ts2 : Slots} (ex1 : Ex H H1 F F1 fp (fp1 ++ fo)) (k : Fix w σ σ1) (h : FlP G F H σ fp w D f ts2) : FlP G F1 H1 σ1 fp1 w D f ts2 := by
  cases f with
  | nx => exact fun σ' H' a => h σ' H' (as_then ex1 k a)
  | rt o => exact fun σ' v H' a => h σ' v H' (ar_then ex1 k a)
/-- an exception of an expression, of a statement -/
theorem xw_of {W : WX} {x : XV} {s : Slots} (h : XS G W F H σ fp w x s) : XW G W F H σ fp x s := fun cls d H' ax => h σ cls d H' ax Fix.refl

theorem snds_nil : SndS G X [] (tp .nx) w := fun σ H F ts fp S W tk D q => SS.of pss_nil (q σ H (AS.of (c := true) (R := fun _ _ _ => True) (Aft.here S trivial) Fix.refl))
/-- the second of two blocks -/
theorem fl_seq {mb : TM Fl} {W : WX} {D : Ends} {f : Fl} {ts1 : Slots} {m2 : Ends → St → Hp → Prop} (tk : Takes X W)
    (hb : ∀ σ1 H1 F1 fp1, Sim G F1 H1 σ1 ts1 fp1 → Ex H H1 F F1 fp (fp1 ++ []) → Fix w σ σ1 → OutP (mb ts1) (FlP G F1 H1 σ1 fp1 w D) (XS G W F1 H1 σ1 fp1 w) → m2 D σ1 H1)
    (q : OutP (match f with | .nx => mb ts1 | .rt o => tp (.rt o) ts1) (FlP G F H σ fp w D) (XS G W F H σ fp w)) : FlP G F H σ fp w { D with nx := m2 D } f ts1 := by
  cases f with
  | nx =>
    intro σ1 H1 a
    obtain ⟨⟨F1, fp1, fo, S1, e, nd1, off1, ex1, _⟩, fx⟩ := a
    subst e
    exact hb σ1 H1 F1 fp1 S1 ex1 fx (q.mono (fun f s q => fl_then ex1 fx q) fun x s q => xs_then ex1 fx q)
  | rt o => exact q
theorem snds_cons {st : Stmt} {rest : List Stmt} {ma mb : TM Fl} (ha : Snd1 G X st ma w) (hb : SndS G X rest mb w) : SndS G X (st :: rest) (tseq ma mb) w := by
  intro σ H F ts fp S W tk D q
  refine SS.of (pss_cons ps_S1 pss_SS) (ha σ H F ts fp S W tk _ (q.bind.mono (fun f ts1 q => ?_) fun _ _ q => q))
  refine fl_seq (mb := mb) tk (fun σ1 H1 F1 fp1 S1 ex fx q => hb σ1 H1 F1 ts1 fp1 S1 W tk D q) ?_
  cases f <;> exact q
theorem snd1_pass {pos : Pos} : Snd1 G X (.Pass pos) (tp .nx) w := fun σ H F ts fp S W tk D q => S1.of ps_pass (q σ H (AS.of (c := true) (R := fun _ _ _ => True) (Aft.here S trivial) Fix.refl))
theorem snd1_doc {x j pos pos'} : Snd1 G X (.Expr (.Constant (.str x) j pos) pos') (tp .nx) w := fun σ H F ts fp S W tk D q => S1.of ps_doc (q σ H (AS.of (c := true) (R := fun _ _ _ => True) (Aft.here S trivial) Fix.refl))
theorem snd1_expr {e : Expr} {m : TM Opd} {pos : Pos} (h : Snd G X e m c) (hs : swapsWith e none pos.line X.env = pure false) : Snd1 G X (.Expr e pos) (tdrop m) w := fun σ H F ts fp S W tk D q =>
  S1.of (ps_expr pe_SE hs) (h σ H F ts fp S W tk _ (q.bind.mono (fun o ts1 q v H1 ae => q σ H1 (AS.of ae Fix.refl)) fun x s q => xw_of q))
theorem snd1_retn {pos : Pos} : Snd1 G X (.Return none pos) tretn w := fun σ H F ts fp S W tk D q => S1.of ps_retN (q σ .non H ⟨Aft.here S ⟨rfl, rfl⟩, Fix.refl⟩)
/-- a row is emptied, and what it owned is nobody's -/
theorem SL.rem {o : OV} : ∀ {i : Nat} {ts : Slots} {σ : St} {fp : List Addr}, SL G F H ts σ fp → slot ts i = some o → ∃ v l f r, σ[i]? = some (some v) ∧ fp = l ++ (f ++ r) ∧ RO G F H o v f ∧ SL G F H (ts.set i none) σ (l ++ r)
  | 0, [], _, _, _, e => by simp [slot] at e
  | i + 1, [], _, _, _, e => by simp [slot] at e
  | 0, none :: ts, _, _, _, e => by simp [slot] at e
  | 0, some o1 :: ts, _, _, s, e => by
    obtain ⟨v, σr, f1, f2, es, ef, r1, t⟩ := s
    have eo : o1 = o := by simpa [slot] using e
    subst eo es ef
    exact ⟨v, [], f1, f2, rfl, rfl, r1, some v, σr, rfl, t⟩
  | i + 1, none :: ts, _, fp, s, e => by
    obtain ⟨x, σr, es, t⟩ := s
    subst es
    obtain ⟨v, l, f, r, h1, h2, h3, h4⟩ := SL.rem (i := i) t (by simpa [slot] using e)
    exact ⟨v, l, f, r, by simpa using h1, h2, h3, x, σr, rfl, h4⟩
  | i + 1, some o1 :: ts, _, fp, s, e => by
    obtain ⟨v1, σr, f1, f2, es, ef, r1, t⟩ := s
    subst es ef
    obtain ⟨v, l, f, r, h1, h2, h3, h4⟩ := SL.rem (i := i) t (by simpa [slot] using e)
    exact ⟨v, f1 ++ l, f, r, by simpa using h1, by rw [h2, List.append_assoc], h3, v1, σr, f1, l ++ r, rfl, by rw [List.append_assoc], r1, h4⟩
theorem aft_move {i : Nat} {o : OV} {v : V} (ae : AE G F H σ fp c (.at i) ts' v H') (e : slot ts' i = some o) : Aft G F H σ fp c (ts'.set i none) H' fun F' _ fo => RO G F' H' o v fo := by
  obtain ⟨F1, fp1, fo, S1, ⟨e1, e2⟩, nd1, off1, ex1, cal1⟩ := ae
  subst e1
  obtain ⟨v', l, f, r, h1, h2, h3, h4⟩ := SL.rem S1.sl e
  rw [h1] at e2
  have z := Option.some.inj (Option.some.inj e2)
  subst z h2
  obtain ⟨n1, n2⟩ := nd_mid S1.nd
  refine ⟨F1, l ++ r, f, ⟨S1.sub, h4, n1, fun a m => S1.off a ?_⟩, h3, List.nodup_append.mpr ⟨n1, ?_, fun a m b m' e => n2 a m (by rw [e]; exact m')⟩, fun a m => S1.off a (by simp [m]), ex1.less fun a m => ?_, cal1⟩
  · rcases List.mem_append.mp m with z | z <;> simp [z]
  · exact (List.nodup_append.mp (List.nodup_append.mp S1.nd).2.1).1
  · simp at m ⊢
    rcases m with z | z | z <;> simp [z]
theorem esc_exc {o : Opd} {x : XV} {s s2 : Slots} (h : esc o s = .exc x s2) : False := by
  cases o <;> (unfold esc at h; try cases h)
  all_goals (dsimp only at h; split at h <;> try cases h)
  all_goals (split at h <;> cases h)
/-- the operand goes elsewhere -/
theorem esc_then {α : Type} {o : Opd} {v : V} {k : OV → TM α} {P : α → Slots → Prop} {E : XV → Slots → Prop} (ae : AE G F H σ fp c o ts' v H') (q : OutP (tb (esc o) k ts') P E) : ∃ ov ts2, (Aft G F H σ fp c ts2 H' fun F' _ fo => RO G F' H' ov v fo) ∧ OutP (k ov ts2) P E := by
  have q := q.bind
  cases e1 : esc o ts' with
  | ok ov ts2 =>
    rw [e1] at q
    exact ⟨ov, ts2, esc_ok ae e1, q⟩
  | exc x s => exact (esc_exc e1).elim
  | bad => rw [e1] at q; exact q.elim
theorem snd1_ret {e : Expr} {m : TM Opd} {pos : Pos} {par : Nat} (h : Snd G X e m c) : Snd1 G X (.Return (some e) pos) (tret par m) w := by
  intro σ H F ts fp S W tk D q
  refine S1.of (ps_ret pe_SE) (h σ H F ts fp S W tk _ (q.bind.mono (fun o ts1 q v H1 ae => ?_) fun x s q => xw_of q))
  have go : OutP (tb (esc o) (fun v => tp (Fl.rt v)) ts1) (FlP G F H σ fp w D) (XS G W F H σ fp w) → D.rt v H1 := fun q => by
    obtain ⟨ov, ts2, af, q⟩ := esc_then ae q
    exact q σ v H1 ⟨af.calm (fun z => by cases z), Fix.refl⟩
  cases o with
  | val y => exact go q
  | fld i f => exact go q
  | «at» i =>
    dsimp only at q
    by_cases z : i < par
    · rw [if_pos z] at q; exact go q
    · rw [if_neg z] at q
      cases e1 : slot ts1 i with
      | none => rw [e1] at q; exact q.elim
      | some y =>
        rw [e1] at q
        exact q σ v H1 ⟨(aft_move ae e1).calm (fun z => by cases z), Fix.refl⟩
theorem snd1_if {e : Expr} {a b : List Stmt} {mc : TM Bool} {ma mb : TM Fl} {pos : Pos} (hc : SndT G X e mc c) (ha : SndS G X a ma w) (hb : SndS G X b mb w) : Snd1 G X (.If e a b pos) (tifs mc ma mb) w := by
  intro σ H F ts fp S W tk D q
  refine S1.of (ps_if pt_ST pss_SS pss_SS) (hc σ H F ts fp S W tk _ (q.bind.mono (fun x ts1 q H1 af => ?_) fun x s q => xw_of q))
  obtain ⟨F1, fp1, fo, S1, e1, nd1, off1, ex1, _⟩ := af
  have q' : OutP ((if x = true then ma else mb) ts1) (FlP G F1 H1 σ fp1 w D) (XS G W F1 H1 σ fp1 w) := q.mono (fun f s q => fl_then ex1 Fix.refl q) fun x s q => xs_then ex1 Fix.refl q
  cases x with
  | true => exact ha σ H1 F1 ts1 fp1 S1 W tk D q'
  | false => exact hb σ H1 F1 ts1 fp1 S1 W tk D q'
theorem snd1_while {e : Expr} {body : List Stmt} {mc : TM Bool} {mb : TM Fl} {pos : Pos} {n : Nat} (hp : PassesOwn (model X.prog X.w) X.A X.env X.xe) (hc : SndT G X e mc c) (hb : SndS G X body mb w) : Snd1 G X (.While e body [] pos) (twh mc mb n) w := by
  intro σ H F ts fp S W tk D q
  refine S1.of (ps_while hp pt_ST pss_SS) ?_
  refine ⟨fun m σ1 H1 => ∃ F1 ts1 fp1, Sim G F1 H1 σ1 ts1 fp1 ∧ OutP (twh mc mb m ts1) (FlP G F1 H1 σ1 fp1 w D) (XS G W F1 H1 σ1 fp1 w), ⟨n, F, ts, fp, S, q⟩, ?_⟩
  rintro m σ1 H1 ⟨F1, ts1, fp1, S1, q1⟩
  cases m with
  | zero => exact q1.elim
  | succ m =>
    refine hc σ1 H1 F1 ts1 fp1 S1 W tk _ (q1.bind.mono (fun x ts2 q H2 af => ?_) fun x s q => xw_of q)
    obtain ⟨F2, fp2, fo, S2, e1, nd2, off2, ex2, cal2⟩ := af
    cases x with
    | false =>
      rw [if_neg Bool.false_ne_true] at q ⊢
      refine q σ1 H2 ⟨?_, Fix.refl⟩
      exact (Aft.calm (c1 := c) ⟨F2, fp2, fo, S2, e1, nd2, off2, ex2, cal2⟩ fun z => by cases z)
    | true =>
      rw [if_pos rfl] at q ⊢
      have q' : OutP (tseq mb (twh mc mb m) ts2) (FlP G F2 H2 σ1 fp2 w D) (XS G W F2 H2 σ1 fp2 w) := q.mono (fun f s q => fl_then ex2 Fix.refl q) fun x s q => xs_then ex2 Fix.refl q
      refine ⟨fun σ' H' => ∃ F1 ts1 fp1, Sim G F1 H' σ' ts1 fp1 ∧ OutP (twh mc mb m ts1) (FlP G F1 H' σ' fp1 w D) (XS G W F1 H' σ' fp1 w), fun σ' H' h => ⟨m, Nat.lt_succ_self m, h⟩, ?_⟩
      refine hb σ1 H2 F2 ts2 fp2 S2 W tk _ (q'.bind.mono (fun f ts3 q => ?_) fun x s q => q)
      cases f with
      | nx =>
        intro σ3 H3 a
        obtain ⟨⟨F3, fp3, fo3, S3, e3, nd3, off3, ex3, _⟩, fx⟩ := a
        exact ⟨F3, ts3, fp3, S3, q.mono (fun f s q => fl_then ex3 fx q) fun x s q => xs_then ex3 fx q⟩
      | rt o => exact q

/-! ### targets -/
theorem name_put {i : Nat} {o : OV} {v : V} {fo : List Addr} (S : Sim G F H σ ts fp) (r : RO G F H o v fo) (nd : (fp ++ fo).Nodup) (off : ∀ a ∈ fo, F a = none) (z : w i = true ∧ i < ts.length) : AS G F H σ (fp ++ fo) w (ts.set i (some o)) (σ.set i (some v)) H := by
  refine ⟨?_, Fix.set z.1⟩
  obtain ⟨l, rr, h1, h2, h3⟩ := SL.put r S.sl z.2
  obtain ⟨n1, n2, n3⟩ := List.nodup_append.mp nd
  have n4 := h2 n1
  have mem : ∀ a, a ∈ l ++ (fo ++ rr) → a ∈ fp ++ fo := fun a m => by
    simp only [List.mem_append] at m ⊢
    rcases m with m | m | m
    · exact .inl (h1 a (List.mem_append_left _ m))
    · exact .inr m
    · exact .inl (h1 a (List.mem_append_right _ m))
  obtain ⟨n5, n6, n7⟩ := List.nodup_append.mp n4
  have nd' : (l ++ (fo ++ rr)).Nodup := by
    refine List.nodup_append.mpr ⟨n5, List.nodup_append.mpr ⟨n2, n6, fun a m b m' e => ?_⟩, fun a m b m' e => ?_⟩
    · exact n3 b (h1 b (List.mem_append_right _ m')) a m e.symm
    · rcases List.mem_append.mp m' with y | y
      · exact n3 a (h1 a (List.mem_append_left _ m)) b y e
      · exact n7 a m b y e
  refine ⟨F, l ++ (fo ++ rr), [], ⟨S.sub, h3, nd', fun a m => ?_⟩, rfl, by simpa using nd', (fun _ m => by cases m), (Ex.refl H F (fp ++ fo)).less fun a m => mem a (by simpa using m), fun z => by cases z⟩
  rcases List.mem_append.mp (mem a m) with y | y
  · exact S.off a y
  · exact off a y
theorem gname_ok {i : Nat} {o : OV} {P : Unit → Slots → Prop} {E : XV → Slots → Prop} (q : OutP (gname w i o ts) P E) : (w i = true ∧ i < ts.length) ∧ P () (ts.set i (some o)) := by
  unfold gname at q
  by_cases z : w i = true ∧ i < ts.length
  · rw [if_pos z] at q; exact ⟨z, q⟩
  · rw [if_neg z] at q; exact q.elim
theorem sndg_name {i : Nat} {x : Str} {pos : Pos} (hN : X.N.Nodup) (hi : X.N[i]? = some x) (hx : Loc X.env.scope x) (hf : X.fn x = true ∨ X.env.scope.names.lookup x = some .local) : SndG G X (.Name x pos) (gname w i) w := by
  intro σ H F ts fp fo o v S r nd off W tk Q q
  obtain ⟨z, q⟩ := gname_ok q
  exact SG.of (pg_name hN hi hx hf) (q _ H (name_put S r nd off z))
/-- the value, then the target -/
theorem asg_then {m : OV → TM Unit} {tg : Expr} {ov : OV} {v : V} {ts2 : Slots} {W : WX} {D : Ends} (hg : SndG G X tg m w) (tk : Takes X W) (af : Aft G F H σ fp c ts2 H' fun F' _ fo => RO G F' H' ov v fo)
    (q : OutP (tb (m ov) (fun _ => tp Fl.nx) ts2) (FlP G F H σ fp w D) (XS G W F H σ fp w)) : SG X tg v σ H' D.nx := by
  obtain ⟨F1, fp1, fo, S1, r, nd1, off1, ex1, _⟩ := af
  have ex1' : Ex H H' F F1 fp ((fp1 ++ fo) ++ []) := ex1.less fun a m => by simpa using m
  refine hg σ H' F1 ts2 fp1 fo ov v S1 r nd1 off1 W tk D.nx (q.bind.mono (fun _ ts3 q σ3 H3 a => ?_) fun x s q => ?_)
  · exact q σ3 H3 (as_then ex1' Fix.refl a)
  · exact xs_then ex1' Fix.refl q
theorem snd1_asg {e tg : Expr} {m : TM Opd} {g : OV → TM Unit} {pos : Pos} (he : Snd G X e m c) (hg : SndG G X tg g w) (hs : swapsWithSole [tg] e pos.line X.env = pure false) (hw : swappedStores [tg] e X.env = pure none) (h1 : (assignEach [tg] X.env).map (·.2) = [assign tg X.env]) : Snd1 G X (.Assign [tg] e pos) (tasg m g) w := by
  intro σ H F ts fp S W tk D q
  unfold tasg tval at q
  refine S1.of (ps_asg pe_SE pg_SG hs hw h1) (he σ H F ts fp S W tk _ (q.bind.bind.mono (fun o ts1 q v H1 ae => ?_) fun x s q => xw_of q))
  have q2 : OutP (tb (esc o) (fun o => tb (g o) fun _ => tp Fl.nx) ts1) (FlP G F H σ fp w D) (XS G W F H σ fp w) := by
    unfold tb
    cases e1 : esc o ts1 with
    | ok ov ts2 => rw [e1] at q; exact q
    | exc x s => exact (esc_exc e1).elim
    | bad => rw [e1] at q; exact q.elim
  obtain ⟨ov, ts2, af, q⟩ := esc_then ae q2
  exact asg_then hg tk af q
theorem snd1_set {e : Expr} {m : TM Opd} {i : Nat} {x : Str} {pos pos' : Pos} (hN : X.N.Nodup) (hi : X.N[i]? = some x) (hx : Loc X.env.scope x) (hf : X.fn x = true ∨ X.env.scope.names.lookup x = some .local) (he : Snd G X e m c) (hs : swapsWith e (some (.Name x pos')) pos.line X.env = pure false) : Snd1 G X (.Assign [.Name x pos'] e pos) (tasg m (gname w i)) w := by
  intro σ H F ts fp S W tk D q
  unfold tasg tval at q
  refine S1.of (ps_set hN hi hx pe_SE hs hf) (he σ H F ts fp S W tk _ (q.bind.bind.mono (fun o ts1 q v H1 ae => ?_) fun x s q => xw_of q))
  have q2 : OutP (tb (esc o) (fun o => tb (gname w i o) fun _ => tp Fl.nx) ts1) (FlP G F H σ fp w D) (XS G W F H σ fp w) := by
    unfold tb
    cases e1 : esc o ts1 with
    | ok ov ts2 => rw [e1] at q; exact q
    | exc x s => exact (esc_exc e1).elim
    | bad => rw [e1] at q; exact q.elim
  obtain ⟨ov, ts2, af, q⟩ := esc_then ae q2
  obtain ⟨F1, fp1, fo, S1, r, nd1, off1, ex1, _⟩ := af
  have ex1' : Ex H H1 F F1 fp ((fp1 ++ fo) ++ []) := ex1.less fun a m => by simpa using m
  obtain ⟨z, q⟩ := gname_ok q.bind
  exact q _ H1 (as_then ex1' Fix.refl (name_put S1 r nd1 off1 z))
end
end Tv
end

section
/-! Targets: several names, tuples, fields, items. -/
namespace Tv
open PySem L2
open PySem (Str Expr Stmt)

def gall : List (OV → TM Unit) → List OV → TM Unit
  | [], [] => tp ()
  | g :: gs, o :: os => tb (g o) fun _ => gall gs os
  | _, _ => tbad
/-- what is unpacked -/
def OV.parts : OV → Option (List OV)
  | .frz (.tup xs) => some (xs.map .frz)
  | .tup os => some os
  | .frz (.lst xs) => some (xs.map .frz)
  | .lst os => some os
  | _ => none
def OV.tparts : OV → Option (List OV)
  | .frz (.tup xs) => some (xs.map .frz)
  | .tup os => some os
  | _ => none
def gtup (gs : List OV → TM Unit) (n : Nat) (o : OV) : TM Unit := match o.parts with
  | some os => if os.length = n then gs os else tbad
  | none => tbad
/-- names stored from the right -/
def gswap (w : Nat → Bool) (is : List Nat) (o : OV) : TM Unit := match o.tparts with
  | some os => if os.length = is.length then gall (is.map (gname w)) os.reverse else tbad
  | none => tbad

section
variable {G : Gs} {X : Cx} {F H H' : Hp} {σ : St} {ts ts' : Slots} {fp : List Addr} {c : Bool} {w : Nat → Bool}
theorem Ex.standsL {F' : Hp} {fp' fo : List Addr} {os : List OV} {vs : List V} (x : Ex H H' F F' fp fp') (r : ROs G F H os vs fo) (d : ∀ a ∈ fo, a ∉ fp) (off : ∀ a ∈ fo, F a = none) : ROs G F' H' os vs fo :=
  ROs.frame x.sub os vs fo (fun a m => x.keep a (ROs.live os vs fo r a m) (d a m) (off a m)) r
theorem Ex.apartL {F' : Hp} {fp' fo : List Addr} {os : List OV} {vs : List V} (x : Ex H H' F F' fp fp') (r : ROs G F H os vs fo) (d : ∀ a ∈ fo, a ∉ fp) (off : ∀ a ∈ fo, F a = none) : (∀ a ∈ fo, a ∉ fp') ∧ ∀ a ∈ fo, F' a = none := by
  refine ⟨fun a m z => ?_, fun a m => x.still (ROs.live os vs fo r a m) (d a m) (off a m)⟩
  rcases x.new a z with q | q
  · exact d a m q
  · exact ROs.live os vs fo r a m q
/-- something is owned less -/
theorem Ex.more {F' : Hp} {fp fp' fp2 : List Addr} (x : Ex H H' F F' fp fp') (h : ∀ a ∈ fp, a ∈ fp2) : Ex H H' F F' fp2 fp' := ⟨x.sub, fun a l m => x.keep a l (fun z => m (h a z)), x.live, fun a m => (x.new a m).imp (h a) id, fun a l => (x.fro a l).imp id fun z => z.imp (h a) id⟩
/-- a first store, while the rest stands by -/
theorem as_rest {σ1 : St} {H1 : Hp} {ts1 : Slots} {f1 f2 : List Addr} {os : List OV} {vs : List V} (nd : (fp ++ (f1 ++ f2)).Nodup) (off : ∀ a ∈ f1 ++ f2, F a = none) (r : ROs G F H os vs f2) (a : AS G F H σ (fp ++ f1) w ts1 σ1 H1) :
    ∃ F1 fp1, Sim G F1 H1 σ1 ts1 fp1 ∧ ROs G F1 H1 os vs f2 ∧ (fp1 ++ f2).Nodup ∧ (∀ a ∈ f2, F1 a = none) ∧ Ex H H1 F F1 (fp ++ (f1 ++ f2)) ((fp1 ++ f2) ++ []) ∧ Fix w σ σ1 := by
  obtain ⟨⟨F1, fp1, fo, S1, e, nd1, off1, ex1, _⟩, fx⟩ := a
  subst e
  obtain ⟨n1, n2, n3⟩ := List.nodup_append.mp nd
  obtain ⟨n4, n5, n6⟩ := List.nodup_append.mp n2
  have d : ∀ a ∈ f2, a ∉ fp ++ f1 := fun a m z => by
    rcases List.mem_append.mp z with z | z
    · exact n3 a z a (List.mem_append_right _ m) rfl
    · exact n6 a z a m rfl
  obtain ⟨ap, of2⟩ := ex1.apartL r d fun a m => off a (List.mem_append_right _ m)
  refine ⟨F1, fp1, S1, ex1.standsL r d (fun a m => off a (List.mem_append_right _ m)), List.nodup_append.mpr ⟨S1.nd, n5, fun a m b m' e => ap b m' (by rw [← e]; simp [m])⟩, of2, ?_, fx⟩
  have ex2 := ex1.more (fp2 := fp ++ (f1 ++ f2)) fun a m => by
    simp only [List.mem_append] at m ⊢
    rcases m with z | z
    · exact .inl z
    · exact .inr (.inl z)
  refine ⟨ex2.sub, ex2.keep, ex2.live, fun a m => ?_, ex2.fro⟩
  simp only [List.append_nil, List.mem_append] at m
  rcases m with z | z
  · exact ex2.new a (by simp [z])
  · exact .inl (by simp [z])
theorem sndgs_nil : SndGs G X [] (gall []) w := by
  intro σ H F ts fp fo os vs S r nd off W tk Q q
  cases os with
  | nil =>
    obtain ⟨e1, e2⟩ := r
    subst e1 e2
    exact SGs.of pgs_nil ⟨rfl, q σ H (by rw [List.append_nil]; exact AS.of (c := true) (R := fun _ _ _ => True) (Aft.here S trivial) Fix.refl)⟩
  | cons o os => exact q.elim
theorem sndgs_cons {e : Expr} {es : List Expr} {g : OV → TM Unit} {gs : List (OV → TM Unit)} (hs : isStar e = false) (hg : SndG G X e g w) (hr : SndGs G X es (gall gs) w) : SndGs G X (e :: es) (gall (g :: gs)) w := by
  intro σ H F ts fp fo os vs S r nd off W tk Q q
  cases os with
  | nil => exact q.elim
  | cons o os =>
    obtain ⟨v, vr, f1, f2, e1, e2, r1, r2⟩ := r
    subst e1 e2
    have q : OutP (tb (g o) (fun _ => gall gs os) ts) _ _ := q
    refine SGs.of (pgs_cons pg_SG pgs_SGs (by cases e <;> first | rfl | cases hs)) ⟨v, vr, rfl, ?_⟩
    have nd1 : (fp ++ f1).Nodup := nd.sublist (List.Sublist.append (List.Sublist.refl _) (List.sublist_append_left f1 f2))
    refine hg σ H F ts fp f1 o v S r1 nd1 (fun a m => off a (List.mem_append_left _ m)) W tk _ (q.bind.mono (fun _ ts1 q σ1 H1 a => ?_) fun x s q σ' cls d H' ax fx => ?_)
    · obtain ⟨F1, fp1, S1, rr, nd2, off2, ex2, fx⟩ := as_rest nd off r2 a
      exact hr σ1 H1 F1 ts1 fp1 f2 os vr S1 rr nd2 off2 W tk Q (q.mono (fun _ ts2 q σ2 H2 a => q σ2 H2 (as_then ex2 fx a)) fun x s q => xs_then ex2 fx q)
    · refine q σ' cls d H' ?_ fx
      obtain ⟨F1, fp1, fo, S1, e, nd1, off1, ex1, cal1⟩ := ax
      exact ⟨F1, fp1, fo, S1, e, nd1, off1, ex1.more fun a m => by
        simp only [List.mem_append] at m ⊢
        rcases m with z | z
        · exact .inl z
        · exact .inr (.inl z), fun z => by cases z⟩
theorem ROs.len : ∀ {xs : List OV} {ws : List V} {fr : List Addr}, ROs G F H xs ws fr → ws.length = xs.length
  | [], _, _, r => by rw [r.1]; rfl
  | x :: xs, _, _, r => by
    obtain ⟨v, vr, f1, f2, e, _, _, r2⟩ := r
    rw [e, List.length_cons, List.length_cons, ROs.len r2]
theorem parts_ok (h : SubH F H) {o : OV} {v : V} {fo : List Addr} {os : List OV} (e : o.parts = some os) (r : RO G F H o v fo) : ∃ a ws fr, v = .ref a ∧ (SqT G.K H a ws ∨ SqL G.K H a ws) ∧ ROs G F H os ws fr ∧ (fr.Sublist fo) := by
  cases o with
  | frz x =>
    obtain ⟨e0, r⟩ := r
    cases x with
    | tup xs =>
      cases Option.some.inj e
      obtain ⟨a, ws, e1, q, t⟩ := r
      exact ⟨a, ws, [], e1, .inl (sqt_mono h q), ROs_frz t, List.nil_sublist _⟩
    | lst xs =>
      cases Option.some.inj e
      obtain ⟨a, ws, e1, q, t⟩ := r
      exact ⟨a, ws, [], e1, .inr (SqL.of (h.lst q)), ROs_frz t, List.nil_sublist _⟩
    | _ => cases e
  | lst xs =>
    cases Option.some.inj e
    obtain ⟨a, ws, fr, e1, ef, q, t⟩ := r
    exact ⟨a, ws, fr, e1, .inr (SqL.of q), t, by rw [ef]; exact List.sublist_cons_self a fr⟩
  | tup xs =>
    cases Option.some.inj e
    obtain ⟨a, ws, fr, e1, ef, q, t⟩ := r
    exact ⟨a, ws, fr, e1, .inl (SqT.of q), t, by rw [ef]; exact List.sublist_cons_self a fr⟩
  | _ => cases e
theorem as_less {f1 f2 : List Addr} {σ' : St} (h : ∀ a ∈ f1, a ∈ f2) (a : AS G F H σ (fp ++ f1) w ts' σ' H') : AS G F H σ (fp ++ f2) w ts' σ' H' := by
  obtain ⟨⟨F1, fp1, fo, S1, e, nd1, off1, ex1, cal1⟩, fx⟩ := a
  exact ⟨⟨F1, fp1, fo, S1, e, nd1, off1, ex1.more fun a m => by
    simp only [List.mem_append] at m ⊢
    exact m.imp id (h a), fun z => by cases z⟩, fx⟩
theorem xs_less {f1 f2 : List Addr} {W : WX} {x : XV} (h : ∀ a ∈ f1, a ∈ f2) (a : XS G W F H σ (fp ++ f2) w x ts') : XS G W F H σ (fp ++ f1) w x ts' := fun σ' cls d H' ax fx => by
  refine a σ' cls d H' ?_ fx
  obtain ⟨F1, fp1, fo, S1, e, nd1, off1, ex1, cal1⟩ := ax
  exact ⟨F1, fp1, fo, S1, e, nd1, off1, ex1.more fun a m => by
    simp only [List.mem_append] at m ⊢
    exact m.imp id (h a), fun z => by cases z⟩
theorem sndg_tup {es : List Expr} {k : Nat} {p : Pos} {gs : List OV → TM Unit} (hK : X.K = G.K) (hc : X.calm = true) (hs : es.all (fun e => !isStar e) = true) (h : SndGs G X es gs w) : SndG G X (.Tuple es k p) (gtup gs es.length) w := by
  intro σ H F ts fp fo o v S r nd off W tk Q q
  unfold gtup at q
  have hn : ∀ es : List Expr, es.all (fun e => !isStar e) = true → (assignEach es X.env).length = es.length ∧ (assignEach es X.env).findIdx? (·.1) = none := by
    intro es
    induction es with
    | nil => intro _; exact ⟨rfl, rfl⟩
    | cons e es ih =>
      intro z
      simp only [List.all_cons, Bool.and_eq_true] at z
      obtain ⟨z1, z2⟩ := ih z.2
      have e1 : assignEach (e :: es) X.env = (false, assign e X.env) :: assignEach es X.env := by
        cases e <;> first | rfl | cases z.1
      rw [e1]
      exact ⟨by rw [List.length_cons, List.length_cons, z1], by rw [List.findIdx?_cons]; simp [z2]⟩
  obtain ⟨hl, hst⟩ := hn es hs
  cases e1 : o.parts with
  | none => rw [e1] at q; exact q.elim
  | some os =>
    rw [e1] at q
    dsimp only at q
    by_cases z : os.length = es.length
    · rw [if_pos z] at q
      obtain ⟨a, ws, fr, e2, hq, rr, sl⟩ := parts_ok S.sub e1 r
      have nd2 : (fp ++ fr).Nodup := nd.sublist (List.Sublist.append (List.Sublist.refl _) sl)
      have go : SGs X es ws σ H Q := h σ H F ts fp fr os ws S rr nd2 (fun a m => off a (sl.subset m)) W tk Q (q.mono (fun _ ts1 q σ1 H1 as => q σ1 H1 (as_less (fun a m => sl.subset m) as)) fun x s q => xs_less (fun a m => sl.subset m) q)
      have hlen : ws.length = es.length := rr.len.trans z
      rcases hq with hq | hq
      · exact SG.of (pg_tup hc pgs_SGs hl hst) ⟨a, ws, e2, by rw [hK]; exact hq, hlen, go⟩
      · exact SG.of (pg_lst hc pgs_SGs hl hst) ⟨a, ws, e2, by rw [hK]; exact hq, hlen, go⟩
    · rw [if_neg z] at q; exact q.elim
/-! names stored from the right -/
theorem rel_rev : ∀ {os : List OV} {vs : List V} {fo : List Addr}, ROs G F H os vs fo → ∃ fr, ROs G F H os.reverse vs.reverse fr ∧ fr.Perm fo
  | [], _, _, r => ⟨[], by rw [r.1]; exact ⟨rfl, rfl⟩, by rw [r.2]⟩
  | o :: os, _, _, r => by
    obtain ⟨v, vr, f1, f2, e, ef, r1, r2⟩ := r
    subst e ef
    obtain ⟨fr, k1, k2⟩ := rel_rev r2
    refine ⟨fr ++ f1, ?_, (List.perm_append_comm).trans (List.Perm.append_left f1 k2)⟩
    have ap : ∀ {xs : List OV} {ws : List V} {g1 : List Addr}, ROs G F H xs ws g1 → ROs G F H (xs ++ [o]) (ws ++ [v]) (g1 ++ f1) := by
      intro xs
      induction xs with
      | nil => intro ws g1 k; rw [k.1, k.2]; exact ⟨v, [], f1, [], rfl, by simp, r1, rfl, rfl⟩
      | cons x xs ih =>
        intro ws g1 k
        obtain ⟨u, ur, h1, h2, e1, e2, k1, k2⟩ := k
        subst e1 e2
        exact ⟨u, ur ++ [v], h1, h2 ++ f1, rfl, by rw [List.append_assoc], k1, ih k2⟩
    rw [List.reverse_cons, List.reverse_cons]
    exact ap k1
theorem tparts_ok (h : SubH F H) {o : OV} {v : V} {fo : List Addr} {os : List OV} (e : o.tparts = some os) (r : RO G F H o v fo) : ∃ a ws fr, v = .ref a ∧ SqT G.K H a ws ∧ ROs G F H os ws fr ∧ (fr.Sublist fo) := by
  cases o with
  | frz x =>
    obtain ⟨e0, r⟩ := r
    cases x with
    | tup xs =>
      cases Option.some.inj e
      obtain ⟨a, ws, e1, q, t⟩ := r
      exact ⟨a, ws, [], e1, sqt_mono h q, ROs_frz t, List.nil_sublist _⟩
    | _ => cases e
  | tup xs =>
    cases Option.some.inj e
    obtain ⟨a, ws, fr, e1, ef, q, t⟩ := r
    exact ⟨a, ws, fr, e1, SqT.of q, t, by rw [ef]; exact List.sublist_cons_self a fr⟩
  | _ => cases e
end
end Tv
namespace Tv
open PySem L2 PySem.Spec PyProof.Rows
open PySem (Str Expr Stmt)
section
variable {G : Gs} {X : Cx} {F H H' : Hp} {σ : L2.St} {ts ts' : Slots} {fp : List Addr} {c : Bool} {w : Nat → Bool}
theorem names_ok {W : WX} {Q : L2.St → Hp → Prop} : ∀ {ns : List Str} {is : List Nat} {os : List OV} {vs : List V} {us : List Value} {σ : L2.St} {F : Hp} {ts : Slots} {fp fo : List Addr} {pn : List (Addr × Obj)} {s : Shared}, X.N.Nodup → (Paired (fun i x => X.N[i]? = some x ∧ X.env.scope.names.lookup x = some .local) is ns) → Inv X pn σ H s → Vals vs us →
    Sim G F H σ ts fp → ROs G F H os vs fo → (fp ++ fo).Nodup → (∀ a ∈ fo, F a = none) → OutP (gall (is.map (gname w)) os ts) (fun _ ts' => ∀ σ' H', AS G F H σ (fp ++ fo) w ts' σ' H' → Q σ' H') (XS G W F H σ (fp ++ fo) w) →
    wpAny (model X.prog X.w) X.A (assignInOrder (ns.map fun n => bindName X.env n) us) (fun _ s' => ∃ σ' H', Inv X pn σ' H' s' ∧ Q σ' H') X.xe s
  | _, [], [], vs, us, σ, F, ts, fp, fo, pn, s, hN, p, I, rv, S, r, nd, off, q => by
    cases p
    obtain ⟨e1, e2⟩ := r
    subst e1 e2
    cases rv
    exact assignInOrder_nil ⟨σ, H, I, q σ H (by rw [List.append_nil]; exact AS.of (c := true) (R := fun _ _ _ => True) (Aft.here S trivial) Fix.refl)⟩
  | _, i :: is, o :: os, vs, us, σ, F, ts, fp, fo, pn, s, hN, p, I, rv, S, r, nd, off, q => by
    cases p with
    | cons p1 p2 =>
      obtain ⟨v, vr, f1, f2, e1, e2, r1, r2⟩ := r
      subst e1 e2
      cases rv with
      | cons rv1 rv2 =>
        have q : OutP (tb (gname w i o) (fun _ => gall (is.map (gname w)) os) ts) _ _ := q
        obtain ⟨z, q⟩ := gname_ok q.bind
        have nd1 : (fp ++ f1).Nodup := nd.sublist (List.Sublist.append (List.Sublist.refl _) (List.sublist_append_left f1 f2))
        obtain ⟨F1, fp1, S1, rr, nd2, off2, ex2, fx⟩ := as_rest nd off r2 (name_put S r1 nd1 (fun a m => off a (List.mem_append_left _ m)) z)
        refine assignInOrder_cons (wpAny_bindName (store_ok I hN p1.1 (.inl p1.2) rv1 (fun s2 I2 => ?_) (.inr p1.2)))
        exact names_ok hN p2 I2 rv2 S1 rr nd2 off2 (q.mono (fun _ ts2 q σ2 H2 a => q σ2 H2 (as_then ex2 fx a)) fun x s q => xs_then ex2 fx q)
  | _, [], _ :: _, _, _, _, _, _, _, _, _, _, _, _, _, _, _, _, _, _, q => q.elim
  | _, _ :: _, [], _, _, _, _, _, _, _, _, _, _, _, _, _, _, _, _, _, q => q.elim
theorem paired_app {α β : Type} {R : α → β → Prop} : ∀ {xs ys : List α} {us vs : List β}, Paired R xs us → Paired R ys vs → Paired R (xs ++ ys) (us ++ vs)
  | [], _, _, _, .nil, q => q
  | _ :: _, _, _, _, .cons a r, q => .cons a (paired_app r q)
theorem paired_rev {α β : Type} {R : α → β → Prop} : ∀ {xs : List α} {us : List β}, Paired R xs us → Paired R xs.reverse us.reverse
  | [], _, .nil => .nil
  | _ :: _, _, .cons a r => by
    rw [List.reverse_cons, List.reverse_cons]
    exact paired_app (paired_rev r) (.cons a .nil)
theorem snd1_swap {e : Expr} {ts0 : List Expr} {k : Nat} {pt pos : Pos} {m : TM Opd} {is : List Nat} {ns : List Str} (hK : X.K = G.K) (hc : X.calm = true) (hN : X.N.Nodup) (hp : Paired (fun i x => X.N[i]? = some x ∧ X.env.scope.names.lookup x = some .local) is ns.reverse) (he : Snd G X e m c)
    (hs : swapsWithSole [.Tuple ts0 k pt] e pos.line X.env = pure false) (hw : swappedStores [.Tuple ts0 k pt] e X.env = pure (some ns)) : Snd1 G X (.Assign [.Tuple ts0 k pt] e pos) (tasg m (gswap w is)) w := by
  intro σ H F ts fp S W tk D q pn s I
  unfold tasg tval at q
  rw [exec_Assign_arm]
  refine wpAny_bind (wpAny_standAt ?_)
  rw [hs]
  refine wpAny_bind (wpAny_pure ?_)
  rw [if_neg (by decide)]
  refine wpAny_bind (thn (he σ H F ts fp S W tk (fun v H1 => ∃ ov ts2, (Aft G F H σ fp c ts2 H1 fun F' _ fo => RO G F' H1 ov v fo) ∧ OutP (tb (gswap w is ov) (fun _ => tp Fl.nx) ts2) (FlP G F H σ fp w D) (XS G W F H σ fp w)) (q.bind.bind.mono (fun o ts1 q v H1 ae => ?_) fun x s q => xw_of q) pn s I) fun u s1 hu => ?_)
  · have q2 : OutP (tb (esc o) (fun o => tb (gswap w is o) fun _ => tp Fl.nx) ts1) (FlP G F H σ fp w D) (XS G W F H σ fp w) := by
      unfold tb
      cases e1 : esc o ts1 with
      | ok ov ts2 => rw [e1] at q; exact q
      | exc x s => exact (esc_exc e1).elim
      | bad => rw [e1] at q; exact q.elim
    obtain ⟨ov, ts2, af, q⟩ := esc_then ae q2
    exact ⟨ov, ts2, af, q⟩
  · obtain ⟨v, H1, I1, rv, ov, ts2, ⟨F1, fp1, fo, S1, r, nd1, off1, ex1, _⟩, q⟩ := hu
    have q := q.bind
    unfold gswap at q
    cases e1 : ov.tparts with
    | none => rw [e1] at q; exact q.elim
    | some os =>
      rw [e1] at q
      dsimp only at q
      by_cases z : os.length = is.length
      · rw [if_pos z] at q
        obtain ⟨a, ws, fr, e2, hq, rr, sl⟩ := tparts_ok S1.sub e1 r
        subst e2
        cases rv
        obtain ⟨its, rvs, ht, hz⟩ := I1.tuple (by rw [hK]; exact hq)
        rw [hw]
        refine wpAny_bind (wpAny_pure ?_)
        have hl : ns.length = its.toArray.size := by
          have l1 := hp.length
          have l2 := rr.len
          have l3 := rvs.length
          rw [List.length_reverse] at l1
          rw [List.size_toArray]
          omega
        show wpAny (model X.prog X.w) X.A (do rule "assign.swapped-stores"; let items ← unpackItems (.ref a) ns.length none; assignInOrder (ns.reverse.map fun n => bindName X.env n) items.reverse; pure Flow.next) _ _ _
        rw [hl]
        refine wpAny_bind (wpAny_rule (wpAny_bind (unpackItems_tuple (I1.ok.hd hc) ht fun h' hx => ?_)))
        have I2 : Inv X pn σ H1 { s1 with heap := h' } := I1.kept (t' := s1.toks) fun b o e => hx b o (Nat.ne_of_lt (Heap.lt_size e)) e
        obtain ⟨fr2, rr2, pm⟩ := rel_rev rr
        have nd2 : (fp1 ++ fr).Nodup := nd1.sublist (List.Sublist.append (List.Sublist.refl _) sl)
        have nd3 : (fp1 ++ fr2).Nodup := (List.Perm.nodup_iff (List.Perm.append_left fp1 pm)).mpr nd2
        have sub3 : ∀ b ∈ fr2, b ∈ fo := fun b m => sl.subset (pm.mem_iff.mp m)
        have ex1' : Ex H H1 F F1 fp ((fp1 ++ fo) ++ []) := ex1.less fun a m => by simpa using m
        refine wpAny_bind (thn (names_ok (W := W) (Q := D.nx) hN hp I2 (paired_rev (by simpa using rvs)) S1 rr2 nd3 (fun b m => off1 b (sub3 b m)) (q.mono (fun _ ts3 q σ3 H3 a => ?_) fun x s q => ?_)) fun _ s' ⟨σ', H', I', q'⟩ => wpAny_pure ⟨σ', H', I', q'⟩)
        · exact q σ3 H3 (as_then ex1' Fix.refl (as_less sub3 a))
        · exact xs_less sub3 (xs_then ex1' Fix.refl q)
      · rw [if_neg z] at q; exact q.elim
end
end Tv
end

section
/-! What is walked; for. -/
namespace Tv
open PySem L2
open PySem (Str Expr Stmt)

def SI (X : Cx) (tg iter : Expr) : TI := fun σ H R => ∀ (pn : List (Addr × Obj)) (s : Shared), Inv X pn σ H s →
  wpAny (model X.prog X.w) X.A (eval iter X.env) (fun v s1 => wpAny (model X.prog X.w) X.A (pyIter v) (PIE X pn σ tg R) X.xe s1) X.xe s
theorem pi_SI {X : Cx} {tg iter : Expr} : PI X tg iter (SI X tg iter) := ⟨fun pn s σ H R J h => h pn s J⟩
theorem SI.of {X : Cx} {tg iter : Expr} {t : TI} (h : PI X tg iter t) {σ : St} {H : Hp} {R : It → Hp → Prop} (q : t σ H R) : SI X tg iter σ H R := fun pn s J => h.run pn s σ H R J q
/-- the walk J yields just xs while the frozen part stands -/
def Wk (G : Gs) (J : It) (F : Hp) (xs : List FV) : Prop := ∀ (F1 H : Hp) (i : Nat), SubH F F1 → SubH F1 H →
  (i < xs.length → J.go i H) ∧ (∀ x v H', xs[i]? = some x → J.yld i H v H' → Res G F1 H (.frz x) v H') ∧ (xs.length ≤ i → J.stop i H)
def SndI (G : Gs) (X : Cx) (tg iter : Expr) (m : TM (List FV)) : Prop := ∀ (σ : St) (H F : Hp) (ts : Slots) (fp : List Addr), Sim G F H σ ts fp → ∀ (W : WX), Takes X W → ∀ (R : It → Hp → Prop),
  OutP (m ts) (fun xs ts' => ∀ J H', (Aft G F H σ fp false ts' H' fun F' _ fo => fo = [] ∧ Wk G J F' xs) → R J H') (XW G W F H σ fp) → SI X tg iter σ H R

def tfr (g : OV → TM Unit) (b : TM Fl) : List FV → TM Fl
  | [] => tp .nx
  | x :: xs => tb (g (.frz x)) fun _ => tseq b (tfr g b xs)
def tfor (m : TM (List FV)) (g : OV → TM Unit) (b : TM Fl) : TM Fl := tb m fun xs => tfr g b xs
/-- the list that a name owns, as it stands at each turn -/
def tfl (i : Nat) (g : OV → TM Unit) (b : TM Fl) : Nat → Nat → TM Fl
  | 0, _ => tbad
  | n + 1, k => fun s => match slot s i with
    | some o => match o.els with
      | some xs => match xs[k]? with
        | some x => tb (g (.frz x)) (fun _ => tseq b (tfl i g b n (k + 1))) s
        | none => .ok .nx s
      | none => .bad
    | none => .bad
/-- the items of a frozen thing -/
def FV.walk : FV → Option (List FV)
  | .lst xs => some xs
  | .tup xs => some xs
  | .str x => some (x.cps.toList.map fun c => .str ⟨#[c]⟩)
  | .scr ns => some (ns.map .int)
  | _ => none
def twalk (m : TM Opd) : TM (List FV) := tb (tesc m) fun o s => match o with
  | .val v => match v.fz.walk with
    | some xs => .ok xs s
    | none => .bad
  | _ => .bad
def lck (w : Nat → Bool) (i : Nat) : Nat → Bool := fun j => w j && !(j == i)

section
variable {G : Gs} {X : Cx} {F H H' : Hp} {σ : St} {ts ts' : Slots} {fp : List Addr} {c : Bool} {w w' : Nat → Bool}
theorem fl_mono {D : Ends} {f : Fl} {s : Slots} (k : ∀ i, w' i = true → w i = true) (h : FlP G F H σ fp w D f s) : FlP G F H σ fp w' D f s := by
  cases f with
  | nx => exact fun σ' H' a => h σ' H' ⟨a.1, a.2.mono k⟩
  | rt o => exact fun σ' v H' a => h σ' v H' ⟨a.1, a.2.mono k⟩
theorem xs_mono {W : WX} {x : XV} {s : Slots} (k : ∀ i, w' i = true → w i = true) (h : XS G W F H σ fp w x s) : XS G W F H σ fp w' x s := fun σ' cls d H' ax fx => h σ' cls d H' ax (fx.mono k)
/-- one turn: the item, the target, the body -/
theorem turn_ok {tg : Expr} {body : List Stmt} {g : OV → TM Unit} {mb mn : TM Fl} {x : FV} {v : V} {H2 : Hp} {W : WX} {D : Ends} {N : St → Hp → Prop} (hg : SndG G X tg g w) (hb : SndS G X body mb w) (tk : Takes X W) (S : Sim G F H σ ts fp) (res : Res G F H (.frz x) v H2)
    (q : OutP (tb (g (.frz x)) (fun _ => tseq mb mn) ts) (FlP G F H σ fp w D) (XS G W F H σ fp w))
    (hN : ∀ σ3 H3 F3 ts3 fp3, Sim G F3 H3 σ3 ts3 fp3 → SubH F F3 → Fix w σ σ3 → OutP (mn ts3) (FlP G F3 H3 σ3 fp3 w D) (XS G W F3 H3 σ3 fp3 w) → N σ3 H3) : SG X tg v σ H2 fun σ2 H3 => SS X body { D with nx := N, ct := N, bk := D.nx } σ2 H3 := by
  obtain ⟨F2, fo, sub, y, kp, nd, off, e, rf⟩ := res
  subst e
  have S2 : Sim G F2 H2 σ ts fp := S.frame sub (y.less fun a m => by cases m)
  have ex1 : Ex H H2 F F2 fp (fp ++ []) := ⟨y.sub, fun a l m e => y.keep a l (by simp) e, y.live, fun a m => .inl (by simpa using m), fun a l => (y.fro a l).imp id fun z => z.elim (fun z => by cases z) .inr⟩
  refine hg σ H2 F2 ts fp [] (.frz x) v S2 ⟨rfl, rf⟩ (by simpa using S2.nd) (fun _ m => by cases m) W tk _ (q.bind.mono (fun _ ts3 q σ3 H3 a => ?_) fun x s q σ' cls d H' ax fx => ?_)
  · rw [List.append_nil] at a
    obtain ⟨⟨F3, fp3, fo3, S3, e3, nd3, off3, ex3, _⟩, fx3⟩ := a
    subst e3
    have ex13 : Ex H H3 F F3 fp (fp3 ++ []) := by
      have z := ex1.trans ex3
      exact z.less fun a m => by simpa using m
    have q2 : OutP (tseq mb mn ts3) (FlP G F3 H3 σ3 fp3 w D) (XS G W F3 H3 σ3 fp3 w) := q.mono (fun f s q => fl_then ex13 fx3 q) fun x s q => xs_then ex13 fx3 q
    refine hb σ3 H3 F3 ts3 fp3 S3 W tk _ (q2.bind.mono (fun f ts4 q4 => ?_) fun _ _ q => q)
    cases f with
    | nx =>
      intro σ4 H4 a4
      obtain ⟨⟨F4, fp4, fo4, S4, e4, nd4, off4, ex4, _⟩, fx4⟩ := a4
      subst e4
      exact hN σ4 H4 F4 ts4 fp4 S4 (ex13.sub.trans ex4.sub) (fx3.trans fx4) (q4.mono (fun f s q => fl_then ex4 fx4 q) fun x s q => xs_then ex4 fx4 q)
    | rt o => exact q4
  · rw [List.append_nil] at ax
    exact xs_then ex1 Fix.refl q σ' cls d H' ax fx
theorem snd1_for {tg iter : Expr} {body : List Stmt} {pos : Pos} {m : TM (List FV)} {g : OV → TM Unit} {mb : TM Fl} (hp : PassesOwn (model X.prog X.w) X.A X.env X.xe) (hc : X.calm = true) (hi : SndI G X tg iter m) (hg : SndG G X tg g w) (hb : SndS G X body mb w) (hs : ∀ x, foldedSetIterable iter X.env x = pure x) :
    Snd1 G X (.For tg iter body [] pos) (tfor m g mb) w := by
  intro σ H F ts fp S W tk D q
  refine S1.of (ps_for hp hc pi_SI pg_SG pss_SS hs) (hi σ H F ts fp S W tk _ (q.bind.mono (fun xs ts1 q J H1 af => ?_) fun x s q => xw_of q))
  obtain ⟨F1, fp1, fo, S1, ⟨efo, wk⟩, nd1, off1, ex1, _⟩ := af
  subst efo
  have q := q.mono (fun f s q => fl_then ex1 Fix.refl q) fun x s q => xs_then ex1 Fix.refl q
  refine ⟨fun i m σ2 H2 => m = xs.length - i ∧ i ≤ xs.length ∧ ∃ F2 ts2 fp2, Sim G F2 H2 σ2 ts2 fp2 ∧ SubH F1 F2 ∧ OutP (tfr g mb (xs.drop i) ts2) (FlP G F2 H2 σ2 fp2 w D) (XS G W F2 H2 σ2 fp2 w), ⟨xs.length, by simp, Nat.zero_le _, F1, ts1, fp1, S1, SubH.refl _, q⟩, ?_⟩
  rintro i m σ2 H2 ⟨rfl, hi, F2, ts2, fp2, S2, sb, q2⟩
  obtain ⟨w1, w2, w3⟩ := wk F2 H2 i sb S2.sub
  by_cases hlt : i < xs.length
  · refine .inr ⟨w1 hlt, fun σ3 H3 => ∃ F2 ts2 fp2, Sim G F2 H3 σ3 ts2 fp2 ∧ SubH F1 F2 ∧ OutP (tfr g mb (xs.drop (i + 1)) ts2) (FlP G F2 H3 σ3 fp2 w D) (XS G W F2 H3 σ3 fp2 w), fun σ3 H3 h => ⟨xs.length - (i + 1), by omega, rfl, hlt, h⟩, fun v H3 y => ?_⟩
    rw [List.drop_eq_getElem_cons hlt] at q2
    exact turn_ok hg hb tk S2 (w2 xs[i] v H3 (List.getElem?_eq_getElem hlt) y) q2 fun σ3 H3 F3 ts3 fp3 S3 sb3 fx q3 => ⟨F3, ts3, fp3, S3, sb.trans sb3, q3⟩
  · have e : i = xs.length := by omega
    refine .inl ⟨w3 (by omega), ?_⟩
    rw [e, List.drop_length] at q2
    exact q2 σ2 H2 (AS.of (c := true) (R := fun _ _ _ => True) (Aft.here S2 trivial) Fix.refl)
/-- over a name's own list -/
theorem snd1_forl {i : Nat} {x : Str} {p pos : Pos} {tg : Expr} {body : List Stmt} {g : OV → TM Unit} {mb : TM Fl} {n : Nat} (hK : X.K = G.K) (hp : PassesOwn (model X.prog X.w) X.A X.env X.xe) (hc : X.calm = true) (hN : X.N[i]? = some x) (hv : Vis X.env.scope x) (hd : (x == ("__debug__" : Str)) = false) (hcd : (x == ("__classdict__" : Str)) = false)
    (hg : SndG G X tg g (lck w i)) (hb : SndS G X body mb (lck w i)) (ho : ∀ s, slot ts i = some s → ∃ xs, s = .lst xs) : (∀ (σ : St) (H F : Hp) (fp : List Addr), Sim G F H σ ts fp → ∀ (W : WX), Takes X W → ∀ (D : Ends),
  OutP (tfl i g mb n 0 ts) (FlP G F H σ fp w D) (XS G W F H σ fp w) → S1 X (.For tg (.Name x p) body [] pos) D σ H) := by
  intro σ H F fp S W tk D q
  have kw : ∀ j, lck w i j = true → w j = true := fun j h => (Bool.and_eq_true_iff.mp h).1
  have q := q.mono (fun f s q => fl_mono kw q) fun x s q => xs_mono kw q
  -- the list at the start
  cases n with
  | zero => exact q.elim
  | succ n =>
    have q0 := q
    unfold tfl at q
    cases e1 : slot ts i with
    | none => rw [e1] at q; exact q.elim
    | some o =>
      rw [e1] at q
      dsimp only at q
      cases e2 : o.els with
      | none => rw [e2] at q; exact q.elim
      | some xs =>
        obtain ⟨v, l, f, r, h1, h2, h3, _⟩ := SL.at S.sl e1
        obtain ⟨a, ws, ev, hw, rfs⟩ := els_ok S.sub e2 h3
        subst ev
        refine S1.of (ps_for hp hc (pi_list (pe_var hN hv hd hcd)) pg_SG pss_SS (fun _ => rfl)) ⟨.ref a, h1, a, rfl, ⟨ws, SqL.of hw⟩, ?_⟩
        refine ⟨fun k m σ2 H2 => σ2[i]? = some (some (.ref a)) ∧ ∃ F2 ts2 fp2, Sim G F2 H2 σ2 ts2 fp2 ∧ OutP (tfl i g mb m k ts2) (FlP G F2 H2 σ2 fp2 (lck w i) D) (XS G W F2 H2 σ2 fp2 (lck w i)), ⟨n + 1, h1, F, ts, fp, S, q0⟩, ?_⟩
        rintro k m σ2 H2 ⟨ha, F2, ts2, fp2, S2, q2⟩
        cases m with
        | zero => exact q2.elim
        | succ m =>
          unfold tfl at q2
          cases e3 : slot ts2 i with
          | none => rw [e3] at q2; exact q2.elim
          | some o2 =>
            rw [e3] at q2
            dsimp only at q2
            cases e4 : o2.els with
            | none => rw [e4] at q2; exact q2.elim
            | some ys =>
              rw [e4] at q2
              dsimp only at q2
              obtain ⟨v2, l2, f2, r2, k1, k2, k3, _⟩ := SL.at S2.sl e3
              obtain ⟨a2, us, ev2, hu, rfu⟩ := els_ok S2.sub e4 k3
              rw [k1, ev2] at ha
              have za : a2 = a := by injection Option.some.inj (Option.some.inj ha)
              subst za
              cases e5 : ys[k]? with
              | none =>
                rw [e5] at q2
                refine .inl ⟨⟨us, SqL.of hu, ?_⟩, q2 σ2 H2 (AS.of (c := true) (R := fun _ _ _ => True) (Aft.here S2 trivial) Fix.refl)⟩
                rw [rfu.len]
                exact List.getElem?_eq_none_iff.mp e5
              | some x =>
                rw [e5] at q2
                obtain ⟨u, hu2, rx⟩ := RFs.at rfu e5
                refine .inr ⟨⟨us, u, SqL.of hu, hu2⟩, fun σ3 H3 => σ3[i]? = some (some (.ref a2)) ∧ ∃ F2 ts2 fp2, Sim G F2 H3 σ3 ts2 fp2 ∧ OutP (tfl i g mb m (k + 1) ts2) (FlP G F2 H3 σ3 fp2 (lck w i) D) (XS G W F2 H3 σ3 fp2 (lck w i)), fun σ3 H3 h => ⟨m, Nat.lt_succ_self m, h⟩, fun v3 H3 y => ?_⟩
                obtain ⟨y1, y2⟩ := y
                subst y1
                have ev3 : v3 = u := by
                  have z := y2 us (SqL.of hu)
                  rw [hu2] at z
                  exact (Option.some.inj z).symm
                subst ev3
                refine turn_ok hg hb tk S2 (Res.same S2.sub rx) q2 fun σ3 H3 F3 ts3 fp3 S3 sb3 fx q3 => ⟨?_, F3, ts3, fp3, S3, q3⟩
                rw [fx.1 i (by simp [lck])]
                rw [k1, ev2]
end
end Tv
end

section
/-! Instances of walks. -/
namespace Tv
open PySem L2
open PySem (Str Expr Stmt)

section
variable {G : Gs} {X : Cx} {F H H' : Hp} {σ : St} {ts ts' : Slots} {fp : List Addr} {c : Bool}
theorem wk_list {a : Addr} {ws : List V} {xs : List FV} (hK : X.K = G.K) (e : F a = some (.lst ws)) (t : RFs G F xs ws) : Wk G (Itl X.K a) F xs := fun F1 H i s1 s2 => by
  have eH := s2.lst (s1.lst e)
  refine ⟨fun h => ?_, fun x v H' ex y => ?_, fun h => ⟨ws, SqL.of eH, by rw [t.len]; exact h⟩⟩
  · obtain ⟨w, hw, _⟩ := t.at (List.getElem?_eq_getElem h)
    exact ⟨ws, w, SqL.of eH, hw⟩
  · obtain ⟨y1, y2⟩ := y
    subst y1
    obtain ⟨w, hw, r⟩ := t.at ex
    have z := y2 ws (SqL.of eH)
    rw [hw] at z
    cases Option.some.inj z
    exact Res.same s2 (RF.mono s1 _ _ r)
theorem wk_tup {a : Addr} {ws : List V} {xs : List FV} (hK : X.K = G.K) (e : SqT G.K F a ws) (t : RFs G F xs ws) : Wk G (Itt X.K a) F xs := fun F1 H i s1 s2 => by
  have eH : SqT X.K H a ws := by rw [hK]; exact sqt_mono s2 (sqt_mono s1 e)
  refine ⟨fun h => ?_, fun x v H' ex y => ?_, fun h => ⟨ws, eH, by rw [t.len]; exact h⟩⟩
  · obtain ⟨w, hw, _⟩ := t.at (List.getElem?_eq_getElem h)
    exact ⟨ws, w, eH, hw⟩
  · obtain ⟨y1, y2⟩ := y
    subst y1
    obtain ⟨w, hw, r⟩ := t.at ex
    have z := y2 ws eH
    rw [hw] at z
    cases Option.some.inj z
    exact Res.same s2 (RF.mono s1 _ _ r)
theorem wk_scr {a : Addr} {ns : List Int} (hK : X.K = G.K) (e : SqL G.K F a (ns.map V.int)) : Wk G (Itl X.K a) F (ns.map .int) := fun F1 H i s1 s2 => by
  have eH : SqL X.K H a (ns.map V.int) := by rw [hK]; exact sql_mono s2 (sql_mono s1 e)
  refine ⟨fun h => ?_, fun x v H' ex y => ?_, fun h => ⟨_, eH, by simpa using h⟩⟩
  · have h' : i < (ns.map V.int).length := by simpa using h
    exact ⟨_, _, eH, List.getElem?_eq_getElem h'⟩
  · obtain ⟨y1, y2⟩ := y
    subst y1
    have z := y2 _ eH
    rw [List.getElem?_map] at z ex
    cases q : ns[i]? with
    | none => rw [q] at z; cases z
    | some n =>
      rw [q] at z ex
      cases Option.some.inj z
      cases Option.some.inj ex
      exact Res.same s2 rfl
theorem wk_str {x : Str} : sok x = true → Wk G (Its x) F (x.cps.toList.map fun c => .str ⟨#[c]⟩) := fun hx F1 H i s1 s2 => by
  refine ⟨fun h => show i < x.cps.size by simpa using h, fun y v H' ex yl => ?_, fun h => show x.cps.size ≤ i by simpa using h⟩
  obtain ⟨y1, c, y2, y3⟩ := yl
  subst y1
  rw [List.getElem?_map, Array.getElem?_toList, y2] at ex
  cases Option.some.inj ex
  refine Res.same s2 ⟨y3, ?_⟩
  have hx' : x.cps.all (· < 0x110000) = true := hx
  rw [Array.all_eq_true] at hx'
  obtain ⟨hi, hc⟩ := Array.getElem?_eq_some_iff.mp y2
  have := hx' i hi
  rw [hc] at this
  show (#[c] : Array Nat).all (· < 0x110000) = true
  simpa using this
theorem wk_range {lo : Int} {n : Nat} : Wk G (Itr lo n) F ((List.range n).map fun (i : Nat) => .int (lo + i)) := fun F1 H i s1 s2 => by
  refine ⟨fun h => show i < n by simpa using h, fun y v H' ex yl => ?_, fun h => show n ≤ i by simpa using h⟩
  obtain ⟨y1, y2⟩ := yl
  subst y1
  by_cases hi : i < n
  · rw [List.getElem?_map, List.getElem?_range hi] at ex
    cases Option.some.inj ex
    exact Res.same s2 y2
  · rw [List.getElem?_eq_none (by simpa using hi)] at ex
    cases ex
/-- the pairs of two walks, each a new tuple -/
theorem wk_zipT {a b : Addr} {ws us : List V} {xs ys : List FV} (hK : X.K = G.K) (e1 : SqT G.K F a ws) (t1 : RFs G F xs ws) (e2 : SqT G.K F b us) (t2 : RFs G F ys us) : Wk G (RZ.ItzT X.K a b) F ((xs.zip ys).map fun p => .tup [p.1, p.2]) := fun F1 H i s1 s2 => by
  have eA : SqT X.K H a ws := by rw [hK]; exact sqt_mono s2 (sqt_mono s1 e1)
  have eB : SqT X.K H b us := by rw [hK]; exact sqt_mono s2 (sqt_mono s1 e2)
  refine ⟨fun h => ?_, fun x v H' ex y => ?_, fun h => ⟨ws, us, eA, eB, ?_⟩⟩
  · have h' : i < xs.length ∧ i < ys.length := by simpa [Nat.lt_min] using h
    obtain ⟨w, hw, _⟩ := t1.at (List.getElem?_eq_getElem h'.1)
    obtain ⟨u, hu, _⟩ := t2.at (List.getElem?_eq_getElem h'.2)
    exact ⟨ws, us, w, u, eA, eB, hw, hu⟩
  · obtain ⟨T, w, u, y1, y2, y3, y4, y5⟩ := y
    subst y1 y3
    rw [List.getElem?_map] at ex
    cases q : (xs.zip ys)[i]? with
    | none => rw [q] at ex; cases ex
    | some p =>
      rw [q] at ex
      cases Option.some.inj ex
      obtain ⟨q1, q2⟩ := List.getElem?_zip_eq_some.mp q
      obtain ⟨w', hw, rw1⟩ := t1.at q1
      obtain ⟨u', hu, ru1⟩ := t2.at q2
      have z1 := y4 ws eA
      have z2 := y5 us eB
      rw [hw] at z1
      rw [hu] at z2
      cases Option.some.inj z1
      cases Option.some.inj z2
      exact Res.newT s2 y2 ⟨w, [u], rfl, RF.mono s1 _ _ rw1, u, [], rfl, RF.mono s1 _ _ ru1, rfl⟩
  · rw [t1.len, t2.len]
    have : min xs.length ys.length ≤ i := by simpa using h
    omega
theorem wk_zipL {a b : Addr} {ws us : List V} {xs ys : List FV} (hK : X.K = G.K) (e1 : F a = some (.lst ws)) (t1 : RFs G F xs ws) (e2 : F b = some (.lst us)) (t2 : RFs G F ys us) : Wk G (Itz X.K a b) F ((xs.zip ys).map fun p => .tup [p.1, p.2]) := fun F1 H i s1 s2 => by
  have eA : SqL X.K H a ws := SqL.of (s2.lst (s1.lst e1))
  have eB : SqL X.K H b us := SqL.of (s2.lst (s1.lst e2))
  refine ⟨fun h => ?_, fun x v H' ex y => ?_, fun h => ⟨ws, us, eA, eB, ?_⟩⟩
  · have h' : i < xs.length ∧ i < ys.length := by simpa [Nat.lt_min] using h
    obtain ⟨w, hw, _⟩ := t1.at (List.getElem?_eq_getElem h'.1)
    obtain ⟨u, hu, _⟩ := t2.at (List.getElem?_eq_getElem h'.2)
    exact ⟨ws, us, w, u, eA, eB, hw, hu⟩
  · obtain ⟨T, w, u, y1, y2, y3, y4, y5⟩ := y
    subst y1 y3
    rw [List.getElem?_map] at ex
    cases q : (xs.zip ys)[i]? with
    | none => rw [q] at ex; cases ex
    | some p =>
      rw [q] at ex
      cases Option.some.inj ex
      obtain ⟨q1, q2⟩ := List.getElem?_zip_eq_some.mp q
      obtain ⟨w', hw, rw1⟩ := t1.at q1
      obtain ⟨u', hu, ru1⟩ := t2.at q2
      have z1 := y4 ws eA
      have z2 := y5 us eB
      rw [hw] at z1
      rw [hu] at z2
      cases Option.some.inj z1
      cases Option.some.inj z2
      exact Res.newT s2 y2 ⟨w, [u], rfl, RF.mono s1 _ _ rw1, u, [], rfl, RF.mono s1 _ _ ru1, rfl⟩
  · rw [t1.len, t2.len]
    have : min xs.length ys.length ≤ i := by simpa using h
    omega
/-- .. with their numbers -/
def enumF (xs : List FV) : List FV := (xs.zipIdx).map fun p => .tup [.int (p.2 : Nat), p.1]
theorem wk_enumL {a : Addr} {ws : List V} {xs : List FV} (hK : X.K = G.K) (e1 : F a = some (.lst ws)) (t1 : RFs G F xs ws) : Wk G (Ite X.K a) F (enumF xs) := fun F1 H i s1 s2 => by
  have eA : SqL X.K H a ws := SqL.of (s2.lst (s1.lst e1))
  refine ⟨fun h => ?_, fun x v H' ex y => ?_, fun h => ⟨ws, eA, ?_⟩⟩
  · have h' : i < xs.length := by simpa [enumF] using h
    obtain ⟨w, hw, _⟩ := t1.at (List.getElem?_eq_getElem h')
    exact ⟨ws, w, eA, hw⟩
  · obtain ⟨T, w, y1, y2, y3, y4⟩ := y
    subst y1 y3
    unfold enumF at ex
    rw [List.getElem?_map, List.getElem?_zipIdx] at ex
    cases q : xs[i]? with
    | none => rw [q] at ex; cases ex
    | some p =>
      rw [q] at ex
      cases Option.some.inj ex
      obtain ⟨w', hw, rw1⟩ := t1.at q
      have z1 := y4 ws eA
      rw [hw] at z1
      cases Option.some.inj z1
      exact Res.newT s2 y2 ⟨.int (0 + i : Nat), [w], by rw [Nat.zero_add], rfl, w, [], rfl, RF.mono s1 _ _ rw1, rfl⟩
  · rw [t1.len]
    simpa [enumF] using h

/-! ### locked dicts -/
/-- its value, the dict locked -/
def tLk (te : TE) : TE := fun σ H Q => te σ H fun x H1 => ∃ d, x = .ref d ∧ ((∃ u, H1 d = some u ∧ isDk u ∧ ∀ o, Q x (upd H1 d (.frz o u))) ∨ Q x H1)
theorem pe_lk {e : Expr} {te : TE} (he : PE X e te) : PE X e (tLk te) := by
  refine ⟨fun pn s σ H Q J h => ?_⟩
  refine thn (he.run pn s σ H _ J h) fun u s1 ⟨x, H1, J1, r, d, ex, q⟩ => ?_
  rcases q with ⟨o, hd, dk, q⟩ | q
  · obtain ⟨od, J2⟩ := J1.lock hd (by cases o <;> first | trivial | exact dk.elim)
    exact ⟨x, _, J2, r, q od⟩
  · exact ⟨x, H1, J1, r, q⟩
theorem sub_lock {F : Hp} {d : Addr} {u : HO} {o : Obj} (dk : isDk u) (h : F d = some u ∨ F d = some (.frz o u)) : SubH F (upd F d (.frz o u)) := fun a u' e => by
  by_cases z : a = d
  · subst z
    rw [upd_same]
    rcases h with h | h
    · rw [h] at e; cases e
      exact ⟨_, rfl, .inr ⟨dk, o, rfl⟩⟩
    · rw [h] at e; cases e
      exact ⟨_, rfl, .inl rfl⟩
  · rw [upd_ne z]; exact ⟨u', e, .inl rfl⟩
theorem aft_lock {d : Addr} {u : HO} {o : Obj} {H2 : Hp} {R : Hp → Prop} (dk : isDk u) (h : Aft G F H σ fp c ts' H' fun F' _ fo => fo = [] ∧ Rd F' d u ∧ (∀ F2, SubH F' F2 → F2 d = some (.frz o u) → R F2))
    (h2 : (H' d = some u ∧ H2 = upd H' d (.frz o u)) ∨ (H' d = some (.frz o u) ∧ H2 = H')) : Aft G F H σ fp false ts' H2 fun F' _ fo => fo = [] ∧ R F' := by
  obtain ⟨F1, fp1, fo, S1, ⟨efo, rd, k⟩, nd1, off1, ex1, _⟩ := h
  subst efo
  have hd2 : H2 d = some (.frz o u) := by
    rcases h2 with ⟨_, e⟩ | ⟨e, e'⟩
    · rw [e, upd_same]
    · rw [e', e]
  have oth : ∀ a, a ≠ d → H2 a = H' a := fun a z => by
    rcases h2 with ⟨_, e⟩ | ⟨_, e'⟩
    · rw [e, upd_ne z]
    · rw [e']
  have fd : F1 d = some u ∨ F1 d = some (.frz o u) := by
    rcases rd with rd | ⟨o', rd⟩
    · exact .inl rd
    · have z := S1.sub.at rd id
      rcases h2 with ⟨e, _⟩ | ⟨e, _⟩
      · rw [e] at z
        have z' := Option.some.inj z
        rw [z'] at dk
        exact dk.elim
      · rw [e] at z
        cases Option.some.inj z
        exact .inr rd
  have fnn : F1 d ≠ none := by rcases fd with e | e <;> (rw [e]; simp)
  have sb : SubH F1 (upd F1 d (.frz o u)) := sub_lock dk fd
  have nfp : ∀ a ∈ fp1, a ≠ d := fun a m z => fnn (by rw [← z]; exact S1.off a m)
  have hnn : H' d ≠ none := by rcases h2 with ⟨e, _⟩ | ⟨e, _⟩ <;> (rw [e]; simp)
  refine ⟨upd F1 d (.frz o u), fp1, [], ⟨fun a u' e => ?_, SL.frame sb (fun a m => oth a (nfp a m)) S1.sl, S1.nd, fun a m => by rw [upd_ne (nfp a m)]; exact S1.off a m⟩, ⟨rfl, k _ sb upd_same⟩, by simpa using S1.nd, (fun _ m => by cases m), ⟨ex1.sub.trans sb, fun a l m e => ?_, fun a l => ?_, ex1.new, fun a l => ?_⟩, fun z => by cases z⟩
  · by_cases z : a = d
    · subst z
      rw [upd_same] at e; cases e
      exact ⟨_, hd2, .inl rfl⟩
    · rw [upd_ne z] at e
      rw [oth a z]
      exact S1.sub a u' e
  · have z : a ≠ d := fun z => fnn (by rw [← z]; exact ex1.still l m e)
    rw [oth a z]
    exact ex1.keep a l m e
  · by_cases z : a = d
    · rw [z, hd2]; simp
    · rw [oth a z]; exact ex1.live a l
  · by_cases z : a = d
    · rw [z]
      exact ex1.fro d fnn
    · rw [upd_ne z] at l
      exact ex1.fro a l
theorem wk_keys {d : Addr} {o : Obj} {kvs : List (Key × V)} {ks : List FV} (e : F d = some (.frz o (.dK kvs))) (t : RFs G F ks (kvs.map fun q => kV q.1)) : Wk G (Itk d o kvs) F ks := fun F1 H i s1 s2 => by
  have eH := s2.at (s1.at e id) id
  have hl : ks.length = kvs.length := by have := t.len; simpa using this.symm
  refine ⟨fun h => ⟨eH, by omega⟩, fun x v H' ex y => ?_, fun h => ⟨eH, by omega⟩⟩
  obtain ⟨y1, k, w, y2, y3⟩ := y
  subst y1 y3
  obtain ⟨w', hw, r⟩ := t.at ex
  rw [List.getElem?_map, y2] at hw
  cases Option.some.inj hw
  exact Res.same s2 (RF.mono s1 _ _ r)

theorem wk_keysT {d : Addr} {o : Obj} (e : F d = some (.frz o (.dT []))) : Wk G (Itkt d o []) F [] := fun F1 H i s1 s2 => by
  have eH := s2.at (s1.at e id) id
  exact ⟨fun h => (by simp at h), fun x v H' ex y => (by simp at ex), fun h => ⟨eH, by simp⟩⟩
theorem keys_tup {ks : List FV} {kss : List (List Key)} (h : (fkeys ks).isSome = true) (t : RTs ks kss) : ks = [] ∧ kss = [] := by
  cases ks with
  | nil => exact ⟨rfl, t⟩
  | cons x xs =>
    obtain ⟨k, kr, _, r, _⟩ := t
    cases x with
    | tup ys => simp [fkeys, fkey] at h
    | _ => exact r.elim

/-! ### what stands behind in -/
def FV.walkD : FV → Option (List FV)
  | .dic ks _ => if (fkeys ks).isSome then some ks else none
  | v => v.walk
/-- .. dicts too (by their keys) -/
def twalkD (m : TM Opd) : TM (List FV) := tb (tesc m) fun o s => match o with
  | .val v => match v.fz.walkD with
    | some xs => .ok xs s
    | none => .bad
  | _ => .bad
theorem sndi_walk {tg e : Expr} {m : TM Opd} (hK : X.K = G.K) (he : Snd G X e m c) : SndI G X tg e (twalkD m) := by
  intro σ H F ts fp S W tk R q
  unfold twalkD tb at q
  have go := fun (Q : VK) => snd_tesc he σ H F ts fp S W tk Q
  cases e1 : tesc m ts with
  | bad => rw [e1] at q; exact q.elim
  | exc x s => rw [e1] at q go; exact SI.of (pi_list pe_SE) (go _ q)
  | ok o ts1 =>
    rw [e1] at q go
    dsimp only at q
    cases o with
    | val y =>
      dsimp only at q
      have goF : ∀ Q : VK, (∀ v H1, (Aft G F H σ fp c ts1 H1 fun F' _ fo => fo = [] ∧ RF G F' y.fz v) → Q v H1) → SE X e σ H Q := fun Q k => go Q fun v H1 ae => k v H1 (frz_fo ae)
      cases z : y.fz with
      | lst xs =>
        rw [z] at q goF
        refine SI.of (pi_list pe_SE) (goF _ fun v H1 af => ?_)
        obtain ⟨F1, fp1, fo, S1, ⟨efo, a, ws, ev, ea, t⟩, nd1, off1, ex1, cal1⟩ := af
        exact ⟨a, ev, ⟨ws, SqL.of (S1.sub.lst ea)⟩, q _ H1 ⟨F1, fp1, fo, S1, ⟨efo, wk_list hK ea t⟩, nd1, off1, ex1, fun z => by cases z⟩⟩
      | tup xs =>
        rw [z] at q goF
        refine SI.of (pi_tup pe_SE) (goF _ fun v H1 af => ?_)
        obtain ⟨F1, fp1, fo, S1, ⟨efo, a, ws, ev, ea, t⟩, nd1, off1, ex1, cal1⟩ := af
        exact ⟨a, ev, ⟨ws, by rw [hK]; exact sqt_mono S1.sub ea⟩, q _ H1 ⟨F1, fp1, fo, S1, ⟨efo, wk_tup hK ea t⟩, nd1, off1, ex1, fun z => by cases z⟩⟩
      | str x =>
        rw [z] at q goF
        refine SI.of (pi_str pe_SE) (goF _ fun v H1 af => ?_)
        obtain ⟨F1, fp1, fo, S1, ⟨efo, ev, hx⟩, nd1, off1, ex1, cal1⟩ := af
        exact ⟨x, ev, q _ H1 ⟨F1, fp1, fo, S1, ⟨efo, wk_str hx⟩, nd1, off1, ex1, fun z => by cases z⟩⟩
      | scr ns =>
        rw [z] at q goF
        refine SI.of (pi_list pe_SE) (goF _ fun v H1 af => ?_)
        obtain ⟨F1, fp1, fo, S1, ⟨efo, a, ev, ea⟩, nd1, off1, ex1, cal1⟩ := af
        exact ⟨a, ev, ⟨_, by rw [hK]; exact sql_mono S1.sub ea⟩, q _ H1 ⟨F1, fp1, fo, S1, ⟨efo, wk_scr hK ea⟩, nd1, off1, ex1, fun z => by cases z⟩⟩
      | dic ks vs =>
        rw [z] at q goF
        have q : OutP (match (if (fkeys ks).isSome then some ks else none) with | some xs => Out.ok xs ts1 | none => .bad) _ _ := q
        have hk : (fkeys ks).isSome = true := Classical.byContradiction fun hk => by
          rw [if_neg hk] at q; exact q.elim
        rw [if_pos hk] at q
        refine SI.of (pi_keys (pe_lk pe_SE)) (goF _ fun v H1 af => ?_)
        obtain ⟨F1, fp1, fo, S1, ⟨efo, d, ws, ev, tv, rd⟩, nd1, off1, ex1, cal1⟩ := id af
        refine ⟨d, ev, ?_⟩
        rcases rd with ⟨kvs, rd, e3, tk3⟩ | ⟨kvs, rd, e3, tk3⟩
        · have af2 : ∀ o, Aft G F H σ fp c ts1 H1 fun F' _ fo => fo = [] ∧ Rd F' d (.dK kvs) ∧ (∀ F2, SubH F' F2 → F2 d = some (.frz o (.dK kvs)) → Wk G (Itk d o kvs) F2 ks) := fun o =>
            ⟨F1, fp1, fo, S1, ⟨efo, rd, fun F2 sb e => wk_keys e (RFs.mono sb ks _ tk3)⟩, nd1, off1, ex1, cal1⟩
          rcases rd_mono S1.sub rd with hd | ⟨o, hd⟩
          · refine .inl ⟨_, hd, by trivial, fun o => ⟨d, o, ev, .inl ⟨kvs, upd_same, q _ _ (aft_lock (by trivial) (af2 o) (.inl ⟨hd, rfl⟩))⟩⟩⟩
          · exact .inr ⟨d, o, ev, .inl ⟨kvs, hd, q _ _ (aft_lock (by trivial) (af2 o) (.inr ⟨hd, rfl⟩))⟩⟩
        · obtain ⟨z1, z2⟩ := keys_tup hk tk3.2
          have z3 : kvs = [] := by simpa using z2
          subst z1 z3
          have af2 : ∀ o, Aft G F H σ fp c ts1 H1 fun F' _ fo => fo = [] ∧ Rd F' d (.dT []) ∧ (∀ F2, SubH F' F2 → F2 d = some (.frz o (.dT [])) → Wk G (Itkt d o []) F2 []) := fun o =>
            ⟨F1, fp1, fo, S1, ⟨efo, rd, fun F2 sb e => wk_keysT e⟩, nd1, off1, ex1, cal1⟩
          rcases rd_mono S1.sub rd with hd | ⟨o, hd⟩
          · refine .inl ⟨_, hd, by trivial, fun o => ⟨d, o, ev, .inr ⟨[], upd_same, q _ _ (aft_lock (by trivial) (af2 o) (.inl ⟨hd, rfl⟩))⟩⟩⟩
          · exact .inr ⟨d, o, ev, .inr ⟨[], hd, q _ _ (aft_lock (by trivial) (af2 o) (.inr ⟨hd, rfl⟩))⟩⟩
      | _ => rw [z] at q; exact q.elim
    | «at» i => exact q.elim
    | fld i f => exact q.elim
theorem ao_one {o : Opd} {vs : List V} (h : AO G F H σ fp c [o] ts' vs H') : ∃ v, vs = [v] ∧ Aft G F H σ fp c ts' H' fun F' _ fo => OK G F' H' σ (fun _ => True) o v fo := by
  obtain ⟨F1, fp1, fo, S1, ⟨v, vr, f1, f2, e1, e2, k, r1, r2⟩, nd1, off1, ex1, cal1⟩ := h
  subst e1 e2 r1 r2
  rw [List.append_nil] at nd1 off1 ex1
  exact ⟨v, rfl, F1, fp1, f1, S1, k, nd1, off1, ex1, cal1⟩
theorem esc_thenW {α : Type} {o : Opd} {v : V} {k : OV → TM α} {P : α → Slots → Prop} {E : XV → Slots → Prop} (ae : Aft G F H σ fp c ts' H' fun F' _ fo => OK G F' H' σ (fun _ => True) o v fo) (q : OutP (tb (esc o) k ts') P E) : ∃ ov ts2, (Aft G F H σ fp c ts2 H' fun F' _ fo => RO G F' H' ov v fo) ∧ OutP (k ov ts2) P E := by
  have q := q.bind
  cases e1 : esc o ts' with
  | ok ov ts2 =>
    rw [e1] at q
    exact ⟨ov, ts2, esc_okW ae e1, q⟩
  | exc x s => exact (esc_exc e1).elim
  | bad => rw [e1] at q; exact q.elim

/-! ### range, enumerate, zip -/
def rng (lo : Int) (n : Nat) : List FV := (List.range n).map fun (i : Nat) => .int (lo + i)
def small (i : Int) : Bool := decide (-(2 ^ 62) ≤ i) && decide (i < 2 ^ 62)
def trange1 (m : TM (List Opd)) : TM (List FV) := tb m fun os s => match gets s os with
  | some [.frz (.int j)] => if small j then .ok (rng 0 j.toNat) s else .bad
  | _ => .bad
def trange2 (m : TM (List Opd)) : TM (List FV) := tb m fun os s => match gets s os with
  | some [.frz (.int i), .frz (.int j)] => if small i && small j then .ok (rng i (j - i).toNat) s else .bad
  | _ => .bad
def tenum (m : TM (List Opd)) : TM (List FV) := tb m fun os => match os with
  | [o] => tb (esc o) fun v => match v.fz with
    | .lst xs => tp (enumF xs)
    | _ => tbad
  | _ => tbad
def zipF (xs ys : List FV) : List FV := (xs.zip ys).map fun p => .tup [p.1, p.2]
def zipK (v u : FV) : Option (List FV) := match v, u with
  | .lst xs, .lst ys => some (zipF xs ys)
  | .tup xs, .tup ys => some (zipF xs ys)
  | _, _ => none
def tsome {α : Type} (o : Option α) : TM α := fun s => match o with
  | some a => .ok a s
  | none => .bad
def tzip (a b : TM Opd) : TM (List FV) := tb (tesc a) fun x => tb (tesc b) fun y => match x, y with
  | .val v, .val u => tsome (zipK v.fz u.fz)
  | _, _ => tbad
theorem small_ok {i : Int} (h : small i = true) : -(2 ^ 62) ≤ i ∧ i < 2 ^ 62 := by simpa [small] using h
theorem ints_of {xs : List OV} {vs : List V} {is : List Int} (h : Paired (fun x v => ∃ fx, RO G F H x v fx) xs vs) (e : xs = is.map fint) : vs = is.map V.int := by
  subst e
  induction is generalizing vs with
  | nil => cases h; rfl
  | cons i is ih =>
    cases h with
    | cons a r =>
      obtain ⟨fx, _, ra⟩ := a
      rw [List.map_cons, ← ih r]
      exact congrArg (· :: _) ra
theorem ao_gets {os : List Opd} {vs : List V} {xs : List OV} (h : AO G F H σ fp c os ts' vs H') (e : gets ts' os = some xs) : ∃ F1, Paired (fun x v => ∃ fx, RO G F1 H' x v fx) xs vs := by
  obtain ⟨F1, fp1, fo, S1, k, nd1, off1, ex1, cal1⟩ := h
  exact ⟨F1, gets_ok S1 k e⟩
theorem ao_wk {os : List Opd} {vs : List V} {J : It} {xs : List FV} (h : AO G F H σ fp c os ts' vs H') (k : ∀ F', Wk G J F' xs) : Aft G F H σ fp false ts' H' fun F' _ fo => fo = [] ∧ Wk G J F' xs :=
  (Aft.calm h fun z => by cases z).drop fun F' _ => ⟨rfl, k F'⟩
theorem sndi_range1 {tg a : Expr} {p pos : Pos} {m : TM (List Opd)} (hg : Gl X "range") (hm : X.mg "range" = none) (hs : isStar a = false) (ha : SndO G X [a] m c) : SndI G X tg (.Call (.Name "range" p) [a] [] pos) (trange1 m) := by
  intro σ H F ts fp S W tk R q
  unfold trange1 at q
  refine SI.of (pi_range1 hg hm pa_SEs (starEach_cons hs)) (ha σ H F ts fp S W tk _ (q.bind.mono (fun os ts1 q vs H1 ao => ?_) fun _ _ q => q))
  split at q
  · rename_i j e
    obtain ⟨F1, r⟩ := ao_gets ao e
    have ev := ints_of (is := [j]) r rfl
    split at q
    · rename_i hj
      obtain ⟨h1, h2⟩ := small_ok hj
      exact ⟨j, ev, h1, h2, q _ H1 (ao_wk ao fun F' => wk_range)⟩
    · exact q.elim
  · exact q.elim
theorem sndi_range2 {tg a b : Expr} {p pos : Pos} {m : TM (List Opd)} (hg : Gl X "range") (hm : X.mg "range" = none) (hs : isStar a = false) (hs2 : isStar b = false) (ha : SndO G X [a, b] m c) : SndI G X tg (.Call (.Name "range" p) [a, b] [] pos) (trange2 m) := by
  intro σ H F ts fp S W tk R q
  unfold trange2 at q
  refine SI.of (pi_range2 hg hm pa_SEs (by rw [starEach_cons hs, starEach_cons hs2]; rfl) (starEach_cons hs2)) (ha σ H F ts fp S W tk _ (q.bind.mono (fun os ts1 q vs H1 ao => ?_) fun _ _ q => q))
  split at q
  · rename_i i j e
    obtain ⟨F1, r⟩ := ao_gets ao e
    have ev := ints_of (is := [i, j]) r rfl
    split at q
    · rename_i hj
      obtain ⟨h1, h2⟩ := Bool.and_eq_true_iff.mp hj
      obtain ⟨h3, h4⟩ := small_ok h1
      obtain ⟨h5, h6⟩ := small_ok h2
      exact ⟨i, j, ev, ⟨h3, h4, h5, h6⟩, q _ H1 (ao_wk ao fun F' => wk_range)⟩
    · exact q.elim
  · exact q.elim
theorem sndi_enum {e : Expr} {elts : List Expr} {kk : Nat} {p pos tpos : Pos} {m : TM (List Opd)} (hK : X.K = G.K) (hg : Gl X "enumerate") (hm : X.mg "enumerate" = none) (hs : isStar e = false) (ha : SndO G X [e] m c) : SndI G X (.Tuple elts kk tpos) (.Call (.Name "enumerate" p) [e] [] pos) (tenum m) := by
  intro σ H F ts fp S W tk R q
  unfold tenum at q
  refine SI.of (pi_enum hg hm pa_SEs (starEach_cons hs)) (ha σ H F ts fp S W tk _ (q.bind.mono (fun os ts1 q vs H1 ao => ?_) fun _ _ q => q))
  split at q
  · obtain ⟨v, ev, ae⟩ := ao_one ao
    obtain ⟨ov, ts2, af, q⟩ := esc_thenW ae q
    cases z : ov.fz with
    | lst xs =>
      rw [z] at q
      obtain ⟨F1, fp1, fo, S1, ⟨efo, rf⟩, nd1, off1, ex1, cal1⟩ := frz_fo af
      rw [z] at rf
      obtain ⟨a, ws, ev2, ea, t⟩ := rf
      subst ev ev2
      exact ⟨a, ws, rfl, SqL.of (S1.sub.lst ea), q _ H1 ⟨F1, fp1, fo, S1, ⟨efo, wk_enumL hK ea t⟩, nd1, off1, ex1, fun z => by cases z⟩⟩
    | _ => rw [z] at q; exact q.elim
  · exact q.elim
theorem tesc_val {m : TM Opd} {P : Opd → Slots → Prop} {E : XV → Slots → Prop} (h : OutP (tesc m ts) P E) : OutP (tesc m ts) (fun o s => (∃ v, o = .val v) ∧ P o s) E := by
  unfold tesc tb at h ⊢
  cases e : m ts with
  | ok o s =>
    rw [e] at h
    dsimp only at h ⊢
    cases e2 : esc o s with
    | ok v s2 => rw [e2] at h; exact ⟨⟨v, rfl⟩, h⟩
    | exc x s2 => rw [e2] at h; exact h
    | bad => rw [e2] at h; exact h.elim
  | exc x s => rw [e] at h; exact h
  | bad => rw [e] at h; exact h.elim
/-- two values, frozen -/
theorem two_frz {a b : Expr} {ma mb : TM Opd} {ca cb : Bool} (ha : Snd G X a ma ca) (hb : Snd G X b mb cb) (S : Sim G F H σ ts fp) {W : WX} (tk : Takes X W) {α : Type} {k : OV → OV → TM α} {P : α → Slots → Prop} {R : V → V → Hp → Prop}
    (q : OutP (tb (tesc ma) (fun x => tb (tesc mb) fun y => match x, y with | .val v, .val u => k v u | _, _ => tbad) ts) P (XW G W F H σ fp))
    (h : ∀ o1 o2 ts2 v u H2, (Aft G F H σ fp (ca && cb) ts2 H2 fun F' _ fo => fo = [] ∧ RF G F' o1.fz v ∧ RF G F' o2.fz u) → OutP (k o1 o2 ts2) P (XW G W F H σ fp) → R v u H2) : SE X a σ H fun v H1 => SE X b σ H1 fun u H2 => R v u H2 := by
  refine snd_tesc ha σ H F ts fp S W tk _ ((tesc_val q.bind).mono (fun o ts1 q v H1 ae => ?_) fun _ _ q => q)
  obtain ⟨⟨o1, eo⟩, q⟩ := q
  subst eo
  obtain ⟨F1, fp1, fo1, S1, ⟨efo, rf1⟩, nd1, off1, ex1, cal1⟩ := frz_fo ae
  subst efo
  refine snd_tesc hb σ H1 F1 ts1 fp1 S1 W tk _ ((tesc_val q.bind).mono (fun o ts2 q u H2 ae2 => ?_) fun x s q => ax_then ex1 q)
  obtain ⟨⟨o2, eo⟩, q⟩ := q
  subst eo
  exact h o1 o2 ts2 v u H2 (aft_comp ex1 cal1 (frz_fo ae2) fun F2 fp2 fo2 S2 sb r => ⟨r.1, RF.mono sb _ _ rf1, r.2⟩) q
theorem sndi_zip {a b : Expr} {elts : List Expr} {kk : Nat} {p pos tpos : Pos} {ma mb : TM Opd} {ca cb : Bool} (hK : X.K = G.K) (hg : Gl X "zip") (hm : X.mg "zip" = none) (hs : isStar a = false) (hs2 : isStar b = false) (ha : Snd G X a ma ca) (hb : Snd G X b mb cb) : SndI G X (.Tuple elts kk tpos) (.Call (.Name "zip" p) [a, b] [] pos) (tzip ma mb) := by
  intro σ H F ts fp S W tk R q
  have eSE : SEs X [a, b] = fun σ H Q => SE X a σ H fun v H1 => SE X b σ H1 fun u H2 => Q [v, u] H2 := by
    rw [SEs_cons hs, SEs_cons hs2]
    rfl
  have hpl : (backTo pos (starEach [b] X.env)).any (·.1) = false := by rw [starEach_cons hs2]; rfl
  refine SI.of (RZ.pi_zipA hg hm pa_SEs (starEach_cons hs) hpl) ?_
  unfold RZ.iZipA
  rw [eSE]
  refine two_frz ha hb S tk (P := fun xs ts' => ∀ J H', (Aft G F H σ fp false ts' H' fun F' _ fo => fo = [] ∧ Wk G J F' xs) → R J H') (k := fun v u => tsome (zipK v.fz u.fz)) q fun o1 o2 ts2 v u H2 af q => ?_
  obtain ⟨F1, fp1, fo, S1, ⟨efo, r1, r2⟩, nd1, off1, ex1, cal1⟩ := af
  cases z : zipK o1.fz o2.fz with
  | none => rw [z] at q; exact q.elim
  | some zs =>
    rw [z] at q
    unfold zipK at z
    split at z
    · rename_i xs ys z1 z2
      cases Option.some.inj z
      rw [z1] at r1
      rw [z2] at r2
      obtain ⟨x1, ws, e1, e2, t1⟩ := r1
      obtain ⟨x2, us, e3, e4, t2⟩ := r2
      exact ⟨x1, x2, ws, us, by rw [e1, e3], .inl ⟨SqL.of (S1.sub.lst e2), SqL.of (S1.sub.lst e4), q _ H2 ⟨F1, fp1, fo, S1, ⟨efo, wk_zipL hK e2 t1 e4 t2⟩, nd1, off1, ex1, fun z => by cases z⟩⟩⟩
    · rename_i xs ys z1 z2
      cases Option.some.inj z
      rw [z1] at r1
      rw [z2] at r2
      obtain ⟨x1, ws, e1, e2, t1⟩ := r1
      obtain ⟨x2, us, e3, e4, t2⟩ := r2
      exact ⟨x1, x2, ws, us, by rw [e1, e3], .inr ⟨by rw [hK]; exact sqt_mono S1.sub e2, by rw [hK]; exact sqt_mono S1.sub e4, q _ H2 ⟨F1, fp1, fo, S1, ⟨efo, wk_zipT hK e2 t1 e4 t2⟩, nd1, off1, ex1, fun z => by cases z⟩⟩⟩
    · cases z
end
end Tv
end

section
/-! List comprehensions. -/
namespace Tv
open PySem L2
open PySem (Str Expr Stmt Scope)

/-- the rows of the block's own names are emptied -/
def isFrz : Option OV → Bool
  | none => true
  | some (.frz _) => true
  | some _ => false
def twipe : List Nat → TM Unit
  | [] => tp ()
  | i :: is => fun s => if isFrz (slot s i) then twipe is (s.set i none) else .bad
/-- .. and filled again -/
def tfill (s0 : Slots) : List Nat → TM Unit
  | [] => tp ()
  | i :: is => fun s => match slot s0 i with
    | some (.frz v) => if isFrz (slot s i) then tfill s0 is (s.set i (some (.frz v))) else .bad
    | _ => tfill s0 is s
def tback (s0 : Slots) (is : List Nat) : TM Unit := tb (twipe is) fun _ => tfill s0 is
def noexc {α : Type} (m : TM α) : TM α := fun s => match m s with
  | .ok a s => .ok a s
  | _ => .bad
def tlcr (g : OV → TM Unit) (t : TM Bool) (e : TM Opd) (own : List Nat) : List FV → List OV → TM (List OV)
  | [], acc => tp acc
  | x :: xs, acc => tb (g (.frz x)) fun _ => tb t fun b => if b = true
    then tb (tval e) fun o => if acc.length < szl then tb (twipe own) fun _ => tlcr g t e own xs (acc ++ [o]) else tbad
    else tb (twipe own) fun _ => tlcr g t e own xs acc
def tlc (m : TM (List FV)) (g : OV → TM Unit) (t : TM Bool) (e : TM Opd) (own : List Nat) : TM Opd := tb m fun xs s0 =>
  tb (twipe own) (fun _ => tb (noexc (tlcr g t e own xs [])) fun os => tb (tback s0 own) fun _ => tp (.val (.lst os))) s0

/-! ### readings over all blocks -/
section
variable (X : Cx) (scope : Scope)
def SGa (tg : Expr) : TG := fun v σ H Q => ∀ (s : Shared) (H0 : Hp) (C : Addr) (cl : List (Str × Addr)) (fp : List Addr), SG (X.blk s H0 scope (compEnvC scope cl C X.env) fp) tg v σ H Q
def STsa (ifs : List Expr) : TT := match ifs with
  | [] => tYes
  | c :: _ => fun σ H Q => ∀ (s : Shared) (H0 : Hp) (C : Addr) (cl : List (Str × Addr)) (fp : List Addr), ST (X.blk s H0 scope (compEnvC scope cl C X.env) fp) c σ H Q
def SEa (e : Expr) : TE := fun σ H Q => ∀ (s : Shared) (H0 : Hp) (C : Addr) (cl : List (Str × Addr)) (fp : List Addr), SE (X.blk s H0 scope (compEnvC scope cl C X.env) fp) e σ H Q
end
/-- of all blocks -/
def Blk (X : Cx) (scope : Scope) (P : Cx → Prop) : Prop := ∀ (s : Shared) (H0 : Hp) (C : Addr) (cl : List (Str × Addr)) (fp : List Addr), P (X.blk s H0 scope (compEnvC scope cl C X.env) fp)
theorem takes_blk {X : Cx} {scope : Scope} : Blk X scope fun X' => Takes X' fun _ _ _ _ => False := fun s H0 C cl fp u s' x => by
  obtain ⟨_, _, _, _, _, _, _, _, _, _, _, _, _, _, _, _, w⟩ := x
  exact w.elim

section
variable {G : Gs} {X : Cx} {F H H' : Hp} {σ : St} {ts ts' : Slots} {fp : List Addr} {c : Bool} {w : Nat → Bool}
theorem SL.setN {i : Nat} {x : Option V} : ∀ {i : Nat} {ts : Slots} {σ : St} {fp : List Addr}, SL G F H ts σ fp → isFrz (slot ts i) = true → SL G F H (ts.set i none) (σ.set i x) fp
  | _, [], _, _, s, _ => by rw [s.1, s.2]; exact ⟨rfl, rfl⟩
  | 0, none :: ts, _, fp, s, _ => by
    obtain ⟨y, σr, e, t⟩ := s
    subst e
    exact ⟨x, σr, rfl, t⟩
  | 0, some o :: ts, _, _, s, h => by
    obtain ⟨v, σr, f1, f2, e, ef, r, t⟩ := s
    subst e ef
    cases o with
    | frz y =>
      rw [r.1]
      exact ⟨x, σr, rfl, t⟩
    | _ => cases h
  | i + 1, none :: ts, _, fp, s, h => by
    obtain ⟨y, σr, e, t⟩ := s
    subst e
    exact ⟨y, σr.set i x, rfl, SL.setN (i := i) t (by simpa [slot] using h)⟩
  | i + 1, some o :: ts, _, _, s, h => by
    obtain ⟨v, σr, f1, f2, e, ef, r, t⟩ := s
    subst e ef
    exact ⟨v, σr.set i x, f1, f2, rfl, rfl, r, SL.setN (i := i) t (by simpa [slot] using h)⟩
theorem SL.setF {v : FV} {u : V} (rf : RF G F v u) : ∀ {i : Nat} {ts : Slots} {σ : St} {fp : List Addr}, SL G F H ts σ fp → isFrz (slot ts i) = true → SL G F H (ts.set i (some (.frz v))) (σ.set i (some u)) fp
  | _, [], _, _, s, _ => by rw [s.1, s.2]; exact ⟨rfl, rfl⟩
  | 0, none :: ts, _, fp, s, _ => by
    obtain ⟨y, σr, e, t⟩ := s
    subst e
    exact ⟨u, σr, [], fp, rfl, rfl, ⟨rfl, rf⟩, t⟩
  | 0, some o :: ts, _, _, s, h => by
    obtain ⟨v1, σr, f1, f2, e, ef, r, t⟩ := s
    subst e ef
    cases o with
    | frz y =>
      rw [r.1]
      exact ⟨u, σr, [], f2, rfl, rfl, ⟨rfl, rf⟩, t⟩
    | _ => cases h
  | i + 1, none :: ts, _, fp, s, h => by
    obtain ⟨y, σr, e, t⟩ := s
    subst e
    exact ⟨y, σr.set i (some u), rfl, SL.setF rf (i := i) t (by simpa [slot] using h)⟩
  | i + 1, some o :: ts, _, _, s, h => by
    obtain ⟨v1, σr, f1, f2, e, ef, r, t⟩ := s
    subst e ef
    exact ⟨v1, σr.set i (some u), f1, f2, rfl, rfl, r, SL.setF rf (i := i) t (by simpa [slot] using h)⟩
/-- emptied: whatever stands there -/
theorem twipe_sl {P : Unit → Slots → Prop} {E : XV → Slots → Prop} : ∀ {is : List Nat} {ts : Slots}, OutP (twipe is ts) P E →
    ∃ ts2, P () ts2 ∧ ∀ (F H : Hp) (σ σ2 : St) (fp : List Addr), SL G F H ts σ fp → (∀ i, i ∉ is → σ2[i]? = σ[i]?) → σ2.length = σ.length → SL G F H ts2 σ2 fp
  | [], ts, q => ⟨ts, q, fun F H σ σ2 fp s h hl => by
    have e : σ2 = σ := List.ext_getElem? fun i => h i (by simp)
    rw [e]; exact s⟩
  | i :: is, ts, q => by
    unfold twipe at q
    by_cases z : isFrz (slot ts i) = true
    · rw [if_pos z] at q
      obtain ⟨ts2, p, k⟩ := twipe_sl q
      refine ⟨ts2, p, fun F H σ σ2 fp s h hl => k F H (σ.set i (σ2[i]?).join) σ2 fp (SL.setN (x := (σ2[i]?).join) (i := i) s z) (fun j hj => ?_) (by rw [List.length_set]; exact hl)⟩
      rw [List.getElem?_set]
      by_cases e : i = j
      · subst e
        rw [if_pos rfl]
        by_cases l : i < σ.length
        · rw [if_pos l, List.getElem?_eq_getElem (by omega)]; rfl
        · rw [if_neg l, List.getElem?_eq_none (by omega)]
      · rw [if_neg e]
        exact h j (by simp only [List.mem_cons, not_or]; exact ⟨fun e' => e e'.symm, hj⟩)
    · rw [if_neg z] at q; exact q.elim
theorem tfill_sl {s0 : Slots} {P : Unit → Slots → Prop} {E : XV → Slots → Prop} (h : ∀ i v, slot s0 i = some (.frz v) → ∃ u, σ[i]? = some (some u) ∧ RF G F v u) : ∀ {is : List Nat} {ts : Slots}, SL G F H ts σ fp → OutP (tfill s0 is ts) P E → ∃ ts2, P () ts2 ∧ SL G F H ts2 σ fp
  | [], ts, s, q => ⟨ts, q, s⟩
  | i :: is, ts, s, q => by
    unfold tfill at q
    split at q
    · rename_i v e
      obtain ⟨u, hu, rf⟩ := h i v e
      by_cases z : isFrz (slot ts i) = true
      · rw [if_pos z] at q
        have s2 := SL.setF rf (i := i) s z
        rw [set_self hu] at s2
        exact tfill_sl h s2 q
      · rw [if_neg z] at q; exact q.elim
    · exact tfill_sl h s q
theorem noexc_ok {α : Type} {m : TM α} {P : α → Slots → Prop} {E : XV → Slots → Prop} (q : OutP (noexc m ts) P E) : OutP (m ts) P fun _ _ => False := by
  unfold noexc at q
  cases e : m ts with
  | ok a s => rw [e] at q; exact q
  | exc x s => rw [e] at q; exact q.elim
  | bad => rw [e] at q; exact q.elim
theorem wipe_eq {σ σ2 : St} {own : List Nat} (h : ∀ i, i ∉ own → σ2[i]? = σ[i]?) (hl : σ2.length = σ.length) : wipe σ2 own = wipe σ own := by
  have look : ∀ (σ : St) (own : List Nat) (i : Nat), (wipe σ own)[i]? = if i ∈ own then (if i < σ.length then some none else none) else σ[i]? := by
    intro σ own
    induction own with
    | nil => intro i; simp [wipe]
    | cons j own ih =>
      intro i
      show ((wipe σ own).set j none)[i]? = _
      rw [List.getElem?_set, wipe_length]
      by_cases e : j = i
      · subst e
        rw [if_pos rfl, if_pos List.mem_cons_self]
      · rw [if_neg e, ih i]
        have : (i ∈ j :: own) ↔ i ∈ own := by simp [Ne.symm e]
        simp only [this]
  refine List.ext_getElem? fun i => ?_
  rw [look, look, hl]
  by_cases m : i ∈ own
  · rw [if_pos m, if_pos m]
  · rw [if_neg m, if_neg m, h i m]
theorem wipe_out (σ : St) : ∀ (own : List Nat) (i : Nat), i ∉ own → (wipe σ own)[i]? = σ[i]?
  | [], i, _ => rfl
  | j :: own, i, h => by
    simp only [List.mem_cons, not_or] at h
    show ((wipe σ own).set j none)[i]? = _
    rw [List.getElem?_set, if_neg fun e => h.1 e.symm]
    exact wipe_out σ own i h.2

/-- something stands by -/
theorem by_stand {Hs Fs F' : Hp} {fps fl fp' fo : List Addr} {o : OV} {v : V} (r : RO G F H o v fl) (nd : (fp ++ fl).Nodup) (off : ∀ a ∈ fl, F a = none) (exs : Ex Hs H Fs F fps (fp ++ fl)) (ex : Ex H H' F F' fp (fp' ++ fo)) (nd' : (fp' ++ fo).Nodup) :
    RO G F' H' o v fl ∧ ((fp' ++ fo) ++ fl).Nodup ∧ (∀ a ∈ fl, F' a = none) ∧ Ex Hs H' Fs F' fps ((fp' ++ fo) ++ fl) := by
  obtain ⟨n1, n2, n3⟩ := List.nodup_append.mp nd
  have d : ∀ a ∈ fl, a ∉ fp := fun a m z => n3 a z a m rfl
  obtain ⟨ap, off2⟩ := ex.apart r d off
  exact ⟨ex.stands r d off, List.nodup_append.mpr ⟨nd', n2, fun a m b m' e => ap b m' (by rw [← e]; exact m)⟩, off2, exs.trans ex⟩
theorem ROs.snoc {o : OV} {v : V} {f : List Addr} (r : RO G F H o v f) : ∀ {xs : List OV} {ws : List V} {fr : List Addr}, ROs G F H xs ws fr → ROs G F H (xs ++ [o]) (ws ++ [v]) (fr ++ f)
  | [], _, _, k => by rw [k.1, k.2]; exact ⟨v, [], f, [], rfl, by simp, r, rfl, rfl⟩
  | x :: xs, _, _, k => by
    obtain ⟨u, ur, h1, h2, e1, e2, k1, k2⟩ := k
    subst e1 e2
    exact ⟨u, ur ++ [v], h1, h2 ++ f, rfl, by rw [List.append_assoc], k1, ROs.snoc r k2⟩
theorem xs_false {E : XV → Slots → Prop} {x : XV} {s : Slots} (h : (fun (_ : XV) (_ : Slots) => False) x s) : E x s := h.elim

def own1 (own : List Nat) : Nat → Bool := fun i => own.contains i
/-- the block's rows while it turns -/
theorem lc_ok {tg iter elt : Expr} {ifs : List Expr} {scope : Scope} {m : TM (List FV)} {g : OV → TM Unit} {t : TM Bool} {e : TM Opd} {own : List Nat} {ct ce : Bool} {W : WX} {Q : VK} (hi : SndI G X tg iter m) (hg : Blk X scope fun X' => SndG G X' tg g (own1 own))
    (ht : (ifs = [] ∧ t = tp true) ∨ ∃ d, ifs = [d] ∧ Blk X scope fun X' => SndT G X' d t ct) (he : Blk X scope fun X' => Snd G X' elt e ce) (tk : Takes X W) (S : Sim G F H σ ts fp)
    (q : OutP (tlc m g t e own ts) (fun o ts' => ∀ v H', AE G F H σ fp false o ts' v H' → Q v H') (XW G W F H σ fp)) : tLc (SI X tg iter) (SGa X scope tg) (STsa X scope ifs) (SEa X scope elt) own σ H Q := by
  unfold tlc at q
  refine hi σ H F ts fp S W tk _ (q.bind.mono (fun xs s0 q J H1 af => ?_) fun _ _ q => q)
  obtain ⟨F1, fp1, fo, S1, ⟨efo, wk⟩, nd1, off1, ex1, _⟩ := af
  subst efo
  intro D hD
  obtain ⟨ts2, q2, sl2⟩ := twipe_sl (G := G) q.bind
  -- what a turn's start looks like
  let Inv2 : Nat → Hp → Prop := fun i H2 => ∃ F2 ts3 fp2 acc ws fr, (∀ σ2 : St, (∀ i, i ∉ own → σ2[i]? = σ[i]?) → σ2.length = σ.length → Sim G F2 H2 σ2 ts3 fp2) ∧ SubH F1 F2 ∧ H2 D = some (.lst ws) ∧ ROs G F2 H2 acc ws fr ∧ (fp2 ++ (D :: fr)).Nodup ∧ (∀ a ∈ D :: fr, F2 a = none) ∧
    Ex H H2 F F2 fp (fp2 ++ (D :: fr)) ∧ OutP (tlcr g t e own (xs.drop i) acc ts3) (fun os ts4 => OutP (tb (tback s0 own) (fun _ => tp (Opd.val (.lst os))) ts4) (fun o ts' => ∀ v H', AE G F H σ fp false o ts' v H' → Q v H') (XW G W F H σ fp)) (fun _ _ => False)
  refine ⟨fun i m H2 => m = xs.length - i ∧ i ≤ xs.length ∧ Inv2 i H2, ⟨xs.length, by simp, Nat.zero_le _, ?_⟩, ?_⟩
  · -- the start
    have fD : F1 D = none := S1.sub.free hD
    have S1D : ∀ σ2 : St, (∀ i, i ∉ own → σ2[i]? = σ[i]?) → σ2.length = σ.length → Sim G F1 (upd H1 D (.lst [])) σ2 ts2 fp1 := fun σ2 h hl => by
      have s1 := sl2 F1 H1 σ σ2 fp1 S1.sl h hl
      exact Sim.frame ⟨S1.sub, s1, S1.nd, S1.off⟩ (sub_new S1.sub hD) ((ex_new (F := F1) hD).less fun a m => by cases m)
    refine ⟨F1, ts2, fp1, [], [], [], S1D, SubH.refl _, upd_same, ⟨rfl, rfl⟩, ?_, ?_, ?_, ?_⟩
    · refine List.nodup_append.mpr ⟨S1.nd, by simp, fun a m b m' e => SL.live S1.sl a m (by rw [e, List.mem_singleton.mp m']; exact hD)⟩
    · intro a m
      rw [List.mem_singleton.mp m]; exact fD
    · have y : Ex H1 (upd H1 D (.lst [])) F1 F1 fp1 (fp1 ++ [D]) := ⟨SubH.refl _, fun a l _ _ => upd_ne fun z => l (by rw [z]; exact hD), (ex_new (F := F1) hD).live, fun a m => by
        rcases List.mem_append.mp m with z | z
        · exact .inl z
        · exact .inr (by rw [List.mem_singleton.mp z]; exact hD), fun a l => .inl l⟩
      exact (ex1.trans y).less fun a m => List.mem_append_left _ m
    · rw [List.drop_zero]
      exact noexc_ok q2.bind
  rintro i m H2 ⟨rfl, hi, F2, ts3, fp2, acc, ws, fr, S2, sb, hDw, rr, nd2, off2, ex2, q3⟩
  have S2w : Sim G F2 H2 (wipe σ own) ts3 fp2 := S2 _ (wipe_out σ own) (wipe_length σ own)
  obtain ⟨w1, w2, w3⟩ := wk F2 H2 i sb S2w.sub
  by_cases hlt : i < xs.length
  · refine .inr ⟨w1 hlt, Inv2 (i + 1), fun H3 h => ⟨xs.length - (i + 1), by omega, rfl, hlt, h⟩, fun v H3 y => ?_⟩
    rw [List.drop_eq_getElem_cons hlt] at q3
    have res := w2 xs[i] v H3 (List.getElem?_eq_getElem hlt) y
    obtain ⟨F3, fo3, sub3, y3, kp3, _, _, efo3, rf3⟩ := res
    subst efo3
    have S3 : Sim G F3 H3 (wipe σ own) ts3 fp2 := S2w.frame sub3 (y3.less fun a m => by cases m)
    have ex23 : Ex H2 H3 F2 F3 fp2 (fp2 ++ []) := ⟨y3.sub, fun a l m e => y3.keep a l (by simp) e, y3.live, fun a m => .inl (by simpa using m), fun a l => (y3.fro a l).imp id fun z => z.elim (fun z => by cases z) .inr⟩
    have L2 : RO G F2 H2 (.lst acc) (.ref D) (D :: fr) := ⟨D, ws, fr, rfl, rfl, hDw, rr⟩
    obtain ⟨L3, nd3, off3, ex3⟩ := by_stand L2 nd2 off2 ex2 ex23 (by simpa using S3.nd)
    rw [List.append_nil] at nd3 ex3
    have q3 : OutP (tb (g (.frz xs[i])) (fun _ => tb t fun b => if b = true
      then tb (tval e) fun o => if acc.length < szl then tb (twipe own) fun _ => tlcr g t e own (xs.drop (i + 1)) (acc ++ [o]) else tbad
      else tb (twipe own) fun _ => tlcr g t e own (xs.drop (i + 1)) acc) ts3) (fun os ts4 => OutP (tb (tback s0 own) (fun _ => tp (Opd.val (.lst os))) ts4) (fun o ts' => ∀ v H', AE G F H σ fp false o ts' v H' → Q v H') (XW G W F H σ fp)) (fun _ _ => False) := q3
    intro s_ H_ C cl fpp
    refine hg s_ H_ C cl fpp (wipe σ own) H3 F3 ts3 fp2 [] (.frz xs[i]) v S3 ⟨rfl, rf3⟩ (by simpa using S3.nd) (fun _ m => by cases m) _ (takes_blk s_ H_ C cl fpp) _ (q3.bind.mono (fun _ ts4 q4 σ4 H4 a4 => ?_) fun x s h => xs_false h)
    rw [List.append_nil] at a4
    obtain ⟨⟨F4, fp4, fo4, S4, e4, nd4, off4, ex34, _⟩, fx4⟩ := a4
    subst e4
    obtain ⟨L4, ndL4, offL4, exL4⟩ := by_stand L3 nd3 off3 ex3 ex34 nd4
    rw [List.append_nil] at ndL4 exL4
    have ag4 : ∀ j, j ∉ own → σ4[j]? = σ[j]? := fun j hj => (fx4.1 j (by simpa [own1] using hj)).trans (wipe_out σ own j hj)
    have len4 : σ4.length = σ.length := fx4.2.trans (wipe_length σ own)
    have sb4 : SubH F1 F4 := (sb.trans y3.sub).trans ex34.sub
    refine ⟨wipe_eq ag4 len4, ?_⟩
    -- behind the test
    have after : ∀ b H5 F5 fp5 ts5, Sim G F5 H5 σ4 ts5 fp5 → Ex H4 H5 F4 F5 fp4 (fp5 ++ []) → OutP ((if b = true
      then tb (tval e) fun o => if acc.length < szl then tb (twipe own) fun _ => tlcr g t e own (xs.drop (i + 1)) (acc ++ [o]) else tbad
      else tb (twipe own) fun _ => tlcr g t e own (xs.drop (i + 1)) acc) ts5) (fun os ts4 => OutP (tb (tback s0 own) (fun _ => tp (Opd.val (.lst os))) ts4) (fun o ts' => ∀ v H', AE G F H σ fp false o ts' v H' → Q v H') (XW G W F H σ fp)) (fun _ _ => False) →
      if b = true then SEa X scope elt σ4 H5 fun y H6 => ∃ acc, H6 D = some (.lst acc) ∧ acc.length < PySem.sizeLine ∧ Inv2 (i + 1) (upd H6 D (.lst (acc ++ [y]))) else Inv2 (i + 1) H5 := by
      intro b H5 F5 fp5 ts5 S5 ex45 q5
      obtain ⟨L5, ndL5, offL5, exL5⟩ := by_stand L4 ndL4 offL4 exL4 ex45 (by simpa using S5.nd)
      rw [List.append_nil] at ndL5 exL5
      have sb5 : SubH F1 F5 := sb4.trans ex45.sub
      cases b with
      | false =>
        rw [if_neg Bool.false_ne_true] at q5 ⊢
        obtain ⟨ts6, q6, sl6⟩ := twipe_sl (G := G) q5.bind
        obtain ⟨a, ws5, fr5, ea, ef, hD5, rr5⟩ := L5
        have ea : D = a := by injection ea
        subst ea
        have ef : fr = fr5 := by injection ef
        subst ef
        refine ⟨F5, ts6, fp5, acc, ws5, fr, fun σ2 h hl => ⟨S5.sub, sl6 F5 H5 σ4 σ2 fp5 S5.sl (fun j hj => (h j hj).trans (ag4 j hj).symm) (hl.trans len4.symm), S5.nd, S5.off⟩, sb5, hD5, rr5, ndL5, offL5, exL5, q6⟩
      | true =>
        rw [if_pos rfl] at q5 ⊢
        intro s_ H_ C cl fpp
        unfold tval at q5
        refine he s_ H_ C cl fpp σ4 H5 F5 ts5 fp5 S5 _ (takes_blk s_ H_ C cl fpp) _ (q5.bind.bind.mono (fun o ts6 q6 y H6 ae => ?_) fun x s h => xs_false h)
        have q6 : OutP (tb (esc o) (fun o => if acc.length < szl then tb (twipe own) fun _ => tlcr g t e own (xs.drop (i + 1)) (acc ++ [o]) else tbad) ts6) (fun os ts4 => OutP (tb (tback s0 own) (fun _ => tp (Opd.val (.lst os))) ts4) (fun o ts' => ∀ v H', AE G F H σ fp false o ts' v H' → Q v H') (XW G W F H σ fp)) (fun _ _ => False) := by
          unfold tb
          cases e1 : esc o ts6 with
          | ok ov ts7 => rw [e1] at q6; exact q6
          | exc x s => exact (esc_exc e1).elim
          | bad => rw [e1] at q6; exact q6.elim
        obtain ⟨ov, ts7, af, q7⟩ := esc_then ae q6
        obtain ⟨F6, fp6, fo6, S6, r6, nd6, off6, ex56, _⟩ := af
        obtain ⟨L6, ndL6, offL6, exL6⟩ := by_stand L5 ndL5 offL5 exL5 ex56 nd6
        obtain ⟨a, ws6, fr6, ea, ef, hD6, rr6⟩ := L6
        have ea : D = a := by injection ea
        subst ea
        have ef : fr = fr6 := by injection ef
        subst ef
        by_cases hz : acc.length < szl
        · rw [if_pos hz] at q7
          have hlen : ws6.length = acc.length := rr6.len
          refine ⟨ws6, hD6, by rw [hlen]; exact hz, ?_⟩
          obtain ⟨ts8, q8, sl8⟩ := twipe_sl (G := G) q7.bind
          obtain ⟨m1, m2, m3⟩ := List.nodup_append.mp ndL6
          obtain ⟨m4, m5, m6⟩ := List.nodup_append.mp m1
          have nDfp : ∀ a ∈ fp6, a ≠ D := fun a m z => m3 a (List.mem_append_left _ m) D (by simp) z
          have nDfo : ∀ a ∈ fo6, a ≠ D := fun a m z => m3 a (List.mem_append_right _ m) D (by simp) z
          have nDfr : ∀ a ∈ fr, a ≠ D := fun a m z => (List.nodup_cons.mp m2).1 (by rw [← z]; exact m)
          have fD6 : F6 D = none := offL6 D (by simp)
          have oth : ∀ a, a ≠ D → upd H6 D (.lst (ws6 ++ [y])) a = H6 a := fun a z => upd_ne z
          have subH : SubH F6 (upd H6 D (.lst (ws6 ++ [y]))) := fun a u e => by
            rw [oth a fun z => by rw [z, fD6] at e; cases e]
            exact S6.sub a u e
          refine ⟨F6, ts8, fp6, acc ++ [ov], ws6 ++ [y], fr ++ fo6, fun σ2 h hl => ⟨subH, ?_, S6.nd, S6.off⟩, sb5.trans ex56.sub, upd_same, ?_, ?_, ?_, ?_, q8⟩
          · exact sl8 F6 _ σ4 σ2 fp6 (SL.frame (SubH.refl F6) (fun a m => oth a (nDfp a m)) S6.sl) (fun j hj => (h j hj).trans (ag4 j hj).symm) (hl.trans len4.symm)
          · exact ROs.snoc (RO.frame (SubH.refl F6) ov y fo6 (fun a m => oth a (nDfo a m)) r6) (ROs.frame (SubH.refl F6) acc ws6 fr (fun a m => oth a (nDfr a m)) rr6)
          · have pm : (fp6 ++ (D :: (fr ++ fo6))).Perm ((fp6 ++ fo6) ++ (D :: fr)) := by
              rw [List.append_assoc]
              refine List.Perm.append_left fp6 ?_
              have : (D :: (fr ++ fo6)) = (D :: fr) ++ fo6 := rfl
              rw [this]
              exact List.perm_append_comm
            exact pm.nodup_iff.mpr ndL6
          · intro a m
            simp only [List.mem_cons, List.mem_append] at m
            rcases m with m | m | m
            · rw [m]; exact fD6
            · exact offL6 a (by simp [m])
            · exact off6 a m
          · refine ⟨exL6.sub, fun a l m e => ?_, fun a l => ?_, fun a m => exL6.new a ?_, exL6.fro⟩
            · have z : a ≠ D := fun z => by
                rcases exL6.new D (by simp) with k | k
                · exact m (by rw [z]; exact k)
                · exact l (by rw [z]; exact k)
              rw [oth a z]
              exact exL6.keep a l m e
            · by_cases z : a = D
              · rw [z, upd_same]; simp
              · rw [oth a z]; exact exL6.live a l
            · simp only [List.mem_cons, List.mem_append] at m ⊢
              rcases m with m | m | m | m
              · exact .inl (.inl m)
              · exact .inr (.inl m)
              · exact .inr (.inr m)
              · exact .inl (.inr m)
        · rw [if_neg hz] at q7; exact q7.elim
    rcases ht with ⟨e1, e2⟩ | ⟨d, e1, ht⟩
    · subst e1 e2
      exact after true H4 F4 fp4 ts4 S4 (by simpa using Ex.refl H4 F4 fp4) q4
    · subst e1
      intro s_ H_ C cl fpp
      refine ht s_ H_ C cl fpp σ4 H4 F4 ts4 fp4 S4 _ (takes_blk s_ H_ C cl fpp) _ (q4.bind.mono (fun b ts5 q5 H5 a5 => ?_) fun x s h => xs_false h)
      obtain ⟨F5, fp5, fo5, S5, e5, nd5, off5, ex45, _⟩ := a5
      subst e5
      exact after b H5 F5 fp5 ts5 S5 ex45 q5
  · have e0 : i = xs.length := by omega
    refine .inl ⟨w3 (by omega), ?_⟩
    rw [e0, List.drop_length] at q3
    have q4 : OutP (tb (tback s0 own) (fun _ => tp (Opd.val (.lst acc))) ts3) (fun o ts' => ∀ v H', AE G F H σ fp false o ts' v H' → Q v H') (XW G W F H σ fp) := q3
    unfold tback at q4
    obtain ⟨ts4, q5, sl5⟩ := twipe_sl (G := G) q4.bind.bind
    have S2s := S2 σ (fun _ _ => rfl) rfl
    have s5 := sl5 F2 H2 σ σ fp2 S2s.sl (fun _ _ => rfl) rfl
    have hfill : ∀ i v, slot s0 i = some (.frz v) → ∃ u, σ[i]? = some (some u) ∧ RF G F2 v u := fun i v ev => by
      obtain ⟨u, l, f, r, h1, h2, h3, _⟩ := SL.at S1.sl ev
      exact ⟨u, h1, RF.mono sb _ _ h3.2⟩
    obtain ⟨ts5, q6, s6⟩ := tfill_sl hfill s5 q5
    exact q6 (.ref D) H2 ⟨F2, fp2, D :: fr, ⟨S2s.sub, s6, S2s.nd, S2s.off⟩, ⟨D, ws, fr, rfl, rfl, hDw, rr⟩, nd2, off2, ex2, fun z => by cases z⟩
/-- the readings hold of every block -/
theorem pg_SGa {tg : Expr} {scope : Scope} : ∀ (s : Shared) (H : Hp) (C : Addr) (cl : List (Str × Addr)) (fp : List Addr), PG (X.blk s H scope (compEnvC scope cl C X.env) fp) tg (SGa X scope tg) := fun s H0 C cl fp => ⟨fun pn s' σ H v u Q J r h => h s H0 C cl fp pn s' u J r⟩
theorem pe_SEa {e : Expr} {scope : Scope} : ∀ (s : Shared) (H : Hp) (C : Addr) (cl : List (Str × Addr)) (fp : List Addr), PE (X.blk s H scope (compEnvC scope cl C X.env) fp) e (SEa X scope e) := fun s H0 C cl fp => ⟨fun pn s' σ H Q J h => h s H0 C cl fp pn s' J⟩
theorem pts_STsa {ifs : List Expr} {scope : Scope} (hl : ifs.length ≤ 1) : ∀ (s : Shared) (H : Hp) (C : Addr) (cl : List (Str × Addr)) (fp : List Addr), PTs (X.blk s H scope (compEnvC scope cl C X.env) fp) ifs (STsa X scope ifs) := fun s H0 C cl fp => by
  cases ifs with
  | nil => exact pts_nil
  | cons d r =>
    cases r with
    | nil => exact pts_one ⟨fun pn s' σ H Q J h => h s H0 C cl fp pn s' J⟩
    | cons d2 r => simp at hl
theorem ifs_len {ifs : List Expr} {t : TM Bool} {P : Expr → Prop} (ht : (ifs = [] ∧ t = tp true) ∨ ∃ d, ifs = [d] ∧ P d) : ifs.length ≤ 1 := by
  rcases ht with ⟨e, _⟩ | ⟨d, e, _⟩ <;> (rw [e]; simp)
theorem snd_lc {tg iter elt : Expr} {ifs : List Expr} {scope : Scope} {pos : Pos} {m : TM (List FV)} {g : OV → TM Unit} {t : TM Bool} {e : TM Opd} {own : List (Str × Nat)} {ct ce : Bool} (hc : X.calm = true) (hN : X.N.Nodup) (ok : BlkOk X.N X.env.scope scope own) (hs : ∀ x, foldedSetIterable iter X.env x = pure x)
    (hi : SndI G X tg iter m) (hg : Blk X scope fun X' => SndG G X' tg g (own1 (own.map (·.2)))) (ht : (ifs = [] ∧ t = tp true) ∨ ∃ d, ifs = [d] ∧ Blk X scope fun X' => SndT G X' d t ct) (he : Blk X scope fun X' => Snd G X' elt e ce) :
    Snd G X (.ListComp elt [⟨tg, iter, ifs, 0⟩] scope pos) (tlc m g t e (own.map (·.2))) false := fun σ H F ts fp S W tk Q q =>
  SE.of (pe_lc hc hN pi_SI ok pg_SGa (pts_STsa (ifs_len ht)) pe_SEa hs) (lc_ok hi hg ht he tk S q)
/-- name = [..] on one line -/
theorem snd1_setLc {i : Nat} {y : Str} {py spos : Pos} {tg iter elt : Expr} {ifs : List Expr} {scope : Scope} {pos : Pos} {m : TM (List FV)} {g : OV → TM Unit} {t : TM Bool} {e : TM Opd} {own : List (Str × Nat)} {ct ce : Bool} (hc : X.calm = true) (hN : X.N.Nodup) (hy : X.N[i]? = some y) (hyl : X.env.scope.names.lookup y = some .local)
    (hsw : swapsWith (.ListComp elt [⟨tg, iter, ifs, 0⟩] scope pos) (some (.Name y py)) spos.line X.env = pure true) (ok : BlkOk X.N X.env.scope scope own) (hs : ∀ x, foldedSetIterable iter X.env x = pure x)
    (hi : SndI G X tg iter m) (hg : Blk X scope fun X' => SndG G X' tg g (own1 (own.map (·.2)))) (ht : (ifs = [] ∧ t = tp true) ∨ ∃ d, ifs = [d] ∧ Blk X scope fun X' => SndT G X' d t ct) (he : Blk X scope fun X' => Snd G X' elt e ce) :
    Snd1 G X (.Assign [.Name y py] (.ListComp elt [⟨tg, iter, ifs, 0⟩] scope pos) spos) (tasg (tlc m g t e (own.map (·.2))) (gname w i)) w := by
  intro σ H F ts fp S W tk D q
  refine S1.of (ps_setLc hc hN hy hyl hsw pi_SI ok pg_SGa (pts_STsa (ifs_len ht)) pe_SEa hs) (lc_ok hi hg ht he tk S ?_)
  unfold tasg tval at q
  refine q.bind.bind.mono (fun o ts1 q v H1 ae => ?_) fun x s q => xw_of q
  have q2 : OutP (tb (esc o) (fun o => tb (gname w i o) fun _ => tp Fl.nx) ts1) (FlP G F H σ fp w D) (XS G W F H σ fp w) := by
    unfold tb
    cases e1 : esc o ts1 with
    | ok ov ts2 => rw [e1] at q; exact q
    | exc x s => exact (esc_exc e1).elim
    | bad => rw [e1] at q; exact q.elim
  obtain ⟨ov, ts2, af, q⟩ := esc_then ae q2
  obtain ⟨F1, fp1, fo, S1, r, nd1, off1, ex1, _⟩ := af
  have ex1' : Ex H H1 F F1 fp ((fp1 ++ fo) ++ []) := ex1.less fun a m => by simpa using m
  obtain ⟨z, q⟩ := gname_ok q.bind
  exact q _ H1 (as_then ex1' Fix.refl (name_put S1 r nd1 off1 z))
end
end Tv
end

section
/-! How arguments are bound, for every call of every def. -/
namespace Tv
open PySem L2 PySem.Spec PyProof.Rows
open PySem (Str Expr Stmt)

section
variable {α : Type}
def kfold (a : Str → Bool) (hk : Bool) : List (Str × α) → List (Str × α) → List (Str × α) → Option (List (Str × α) × List (Str × α))
  | [], s, ex => some (s, ex)
  | x :: r, s, ex => if a x.1 then (if (s.lookup x.1).isSome then none else kfold a hk r (s ++ [x]) ex) else if hk then kfold a hk r s (ex ++ [x]) else none
def fillD : List (Str × α) → List (Str × α) → List (Str × α)
  | [], s => s
  | p :: r, s => fillD r (if (s.lookup p.1).isNone then s ++ [p] else s)
def koF (kds : List (Str × α)) : List Str → List (Str × α) → Option (List (Str × α))
  | [], s => some s
  | n :: r, s => if (s.lookup n).isNone then match kds.lookup n with
      | some v => koF kds r (s ++ [(n, v)])
      | none => none
    else koF kds r s
/-- the parameters of a def -/
structure Sg where
  ps : List Str
  ko : List Str
  va : Option Str
  kw : Option Str
def Sg.names (g : Sg) : List Str := g.ps ++ g.ko ++ g.va.toList ++ g.kw.toList
def pick (s : List (Str × α)) : List Str → Option (List α)
  | [] => some []
  | n :: r => match s.lookup n, pick s r with
    | some v, some vs => some (v :: vs)
    | _, _ => none
/-- the values by the parameters, what is left over, the further keywords -/
def bnd (g : Sg) (dfs : List α) (kds : List (Str × α)) (us : List α) (kw : List (Str × α)) : Option (List α × List α × List (Str × α)) :=
  match kfold (fun n => g.ps.contains n || g.ko.contains n) g.kw.isSome kw (g.ps.zip us) [] with
  | none => none
  | some (s1, ex) =>
    if us.length > g.ps.length && g.va.isNone then none else
    let d := dfs.drop (dfs.length - g.ps.length)
    let fd := g.ps.length - d.length
    if !((g.ps.take fd).filter fun n => (s1.lookup n).isNone).isEmpty then none else
    match koF kds g.ko (fillD ((g.ps.drop fd).zip d) s1) with
    | none => none
    | some s3 => match pick s3 (g.ps.drop us.length ++ g.ko) with
      | none => none
      | some vs => some (us.take g.ps.length ++ vs, us.drop g.ps.length, ex)
end

theorem kloop {s1 ex1 : List (Str × Value)} {a : Str → Bool} {hk : Bool} (f : Str × Value → List (Str × Value) × List (Str × Value) → Sem (ForInStep (List (Str × Value) × List (Str × Value))))
    (h1 : ∀ x st, a x.1 = true → (st.1.lookup x.1).isSome = false → f x st = pure (.yield (st.1 ++ [x], st.2))) (h2 : ∀ x st, a x.1 = false → hk = true → f x st = pure (.yield (st.1, st.2 ++ [x]))) :
    ∀ (kw s ex : List (Str × Value)), kfold a hk kw s ex = some (s1, ex1) → forIn kw (s, ex) f = pure (s1, ex1)
  | [], s, ex, h => by
    cases Option.some.inj h
    rfl
  | x :: r, s, ex, h => by
    unfold kfold at h
    rw [List.forIn_cons]
    cases hA : a x.1 with
    | true =>
      rw [hA, if_pos rfl] at h
      cases hl : (s.lookup x.1).isSome with
      | true => rw [hl, if_pos rfl] at h; cases h
      | false =>
        rw [hl, if_neg Bool.false_ne_true] at h
        rw [h1 x (s, ex) hA hl]
        exact kloop f h1 h2 r _ _ h
    | false =>
      rw [hA, if_neg Bool.false_ne_true] at h
      cases hk' : hk with
      | false => rw [hk', if_neg Bool.false_ne_true] at h; cases h
      | true =>
        rw [hk', if_pos rfl] at h
        rw [h2 x (s, ex) hA hk']
        subst hk'
        exact kloop f h1 h2 r _ _ h
theorem dloop (f : Str × Value → List (Str × Value) → Sem (ForInStep (List (Str × Value)))) (h : ∀ x st, f x st = if (st.lookup x.1).isNone then pure (.yield (st ++ [x])) else pure (.yield st)) :
    ∀ (l s : List (Str × Value)), forIn l s f = pure (fillD l s)
  | [], s => rfl
  | x :: r, s => by
    rw [List.forIn_cons, h]
    unfold fillD
    cases hl : (s.lookup x.1).isNone with
    | true => rw [if_pos rfl, if_pos rfl]; exact dloop f h r _
    | false => rw [if_neg Bool.false_ne_true, if_neg Bool.false_ne_true]; exact dloop f h r _

theorem seq_none {α : Type} {M : Model} {A : Around} {k : Option (Array Value) → Sem α} {Q : α → Shared → Prop} {E : Value → Shared → Prop} {s : Shared} (h : wpAny M A (k none) Q E s) : wpAny M A (seqItems? .none >>= k) Q E s := by
  refine wpAny_bind ?_
  unfold seqItems?
  exact wpAny_pure h
/-! ### a new dict of keywords -/
theorem update_new (h : Heap) (o : Obj) (f : Obj → Obj) : (h.push o).update h.objs.size f = h.push (f o) := by
  obtain ⟨objs, l⟩ := h
  show (⟨(objs.push o).modify objs.size f, l⟩ : Heap) = ⟨objs.push (f o), l⟩
  congr 1
  refine Array.ext (by simp) fun i h1 h2 => ?_
  rw [Array.getElem_modify, Array.getElem_push, Array.getElem_push]
  by_cases e : objs.size = i
  · subst e; simp
  · have : i < objs.size := by simp at h1; omega
    rw [if_neg e, dif_pos this, dif_pos this]
theorem nsnew {prog : Program} {w : World} {A : Around} {E : Value → Shared → Prop} {s : Shared} {h : Heap} {es : List DictEntry} {n : Nat} {k : Str} {v : Value} {Q : Unit → Shared → Prop} (hh : s.heap = h.push (PySem.W.dictOf es n)) (hs : ∀ e ∈ es, e.key.isStr k = false) (hr : ∀ e ∈ es, e.refKey = false)
    (hq : Q () { s with heap := h.push (PySem.W.dictOf (es ++ [⟨PyData.keyHash w.params k, .str k s.toks, v⟩]) (n + 1)), toks := s.toks + 1 }) : wpAny (model prog w) A (nsSet h.objs.size k v) Q E s := by
  have e1 : es.any (·.key.isStr k) = false := by
    cases q : es.any (·.key.isStr k) with
    | false => rfl
    | true => obtain ⟨e, he, z⟩ := List.any_eq_true.mp q; rw [hs e he] at z; cases z
  have e2 : es.any (·.refKey) = false := by
    cases q : es.any (·.refKey) with
    | false => rfl
    | true => obtain ⟨e, he, z⟩ := List.any_eq_true.mp q; rw [hr e he] at z; cases z
  have e : Obj.putName k (PyData.keyHash w.params k) (.str k s.toks) v (PySem.W.dictOf es n) = PySem.W.dictOf (es ++ [⟨PyData.keyHash w.params k, .str k s.toks, v⟩]) (n + 1) := by
    rw [PySem.W.putName_dict, PySem.W.putL_new hs]
    show PySem.W.dictOf _ (if es.any (·.key.isStr k) then n else n + 1) = _
    rw [e1, if_neg Bool.false_ne_true]
  have D : s.heap.get? h.objs.size = some (PySem.W.dictOf es n) := by rw [hh]; exact Heap.get?_push_size _ rfl
  have c : aRefKeyMayBeTheName k es.toArray = false := by
    rw [aRefKeyMayBeTheName_at, ← Array.any_toList, ← Array.any_toList]
    show (!es.any (·.key.isStr k) && es.any (·.refKey)) = false
    rw [e2, Bool.and_false]
  unfold nsSet
  refine wpAny_bind (wpAny_bind (wpAny_askSetting (wpAny_pure (wpAny_bind (wpAny_mkText (wpAny_bind (wpAny_loadPart D ?_)))))))
  dsimp only
  rw [c]
  refine wpAny_updatePart D ?_
  have z : s.heap.update h.objs.size (Obj.putName k (PyData.keyHash w.params k) (.str k s.toks) v) = h.push (PySem.W.dictOf (es ++ [⟨PyData.keyHash w.params k, .str k s.toks, v⟩]) (n + 1)) := by
    rw [hh, update_new, e]
  show Q () { s with heap := s.heap.update h.objs.size (Obj.putName k (PyData.keyHash w.params k) (.str k s.toks) v), toks := s.toks + 1 }
  rw [z]
  exact hq
theorem nsfill {prog : Program} {w : World} {A : Around} {E : Value → Shared → Prop} {h : Heap} {Q : PUnit → Shared → Prop} : ∀ (ex : List (Str × Value)) (s : Shared) (es : List DictEntry) (n : Nat), s.heap = h.push (PySem.W.dictOf es n) → (∀ e ∈ es, ∀ x ∈ ex, e.key.isStr x.1 = false) → (∀ e ∈ es, e.refKey = false) → (ex.map (·.1)).Nodup →
    Q ⟨⟩ { s with heap := h.push (PySem.W.dictOf (es ++ PySem.W.kwEs w.params s.toks ex) (n + ex.length)), toks := s.toks + ex.length } →
    wpAny (model prog w) A (forIn ex PUnit.unit fun x _ => (nsSet h.objs.size x.1 x.2 >>= fun _ => pure (ForInStep.yield PUnit.unit))) Q E s
  | [], s, es, n, hh, _, _, _, q => by
    rw [List.forIn_nil]
    refine wpAny_pure ?_
    have e : PySem.W.kwEs w.params s.toks ([] : List (Str × Value)) = [] := rfl
    rw [e, List.append_nil] at q
    have z : s = { s with heap := h.push (PySem.W.dictOf es (n + 0)), toks := s.toks + 0 } := by
      obtain ⟨a, b, c, d, e⟩ := s
      dsimp only at hh
      subst hh
      rfl
    rw [z]
    exact q
  | x :: r, s, es, n, hh, hs, hr, hn, q => by
    obtain ⟨hn1, hn2⟩ := List.nodup_cons.mp (show (x.1 :: r.map (·.1)).Nodup from hn)
    rw [List.forIn_cons]
    refine wpAny_bind (wpAny_bind (nsnew hh (fun e he => hs e he x (.head _)) hr (wpAny_pure ?_)))
    refine nsfill r _ (es ++ [⟨PyData.keyHash w.params x.1, .str x.1 s.toks, x.2⟩]) (n + 1) rfl (fun e he y hy => ?_) (fun e he => ?_) hn2 ?_
    · rcases List.mem_append.mp he with he | he
      · exact hs e he y (.tail _ hy)
      · obtain rfl := List.mem_singleton.mp he
        show (x.1 == y.1) = false
        exact beq_eq_false_iff_ne.mpr fun q => hn1 (by rw [q]; exact List.mem_map_of_mem hy)
    · rcases List.mem_append.mp he with he | he
      · exact hr e he
      · obtain rfl := List.mem_singleton.mp he
        rfl
    · have t1 : s.toks + 1 + r.length = s.toks + (x :: r).length := by rw [List.length_cons]; omega
      have t2 : n + 1 + r.length = n + (x :: r).length := by rw [List.length_cons]; omega
      show Q ⟨⟩ { s with heap := h.push (PySem.W.dictOf (es ++ [⟨PyData.keyHash w.params x.1, .str x.1 s.toks, x.2⟩] ++ PySem.W.kwEs w.params (s.toks + 1) r) (n + 1 + r.length)), toks := s.toks + 1 + r.length }
      rw [t1, t2, List.append_assoc]
      exact q
theorem kw_pairs {prog : Program} {w : World} : ∀ (ex : List (Str × Value)) (t : Tok), Pairs (mixKind prog w) (PySem.W.kwEs w.params t ex) (ex.map fun p => (Sum.inr p.1, p.2)) ∧ (∀ e ∈ PySem.W.kwEs w.params t ex, ∃ k, (mixKind prog w).is k e.key = true ∧ e.hash = (mixKind prog w).hash k)
  | [], t => ⟨.nil, fun e he => by cases he⟩
  | x :: r, t => by
    obtain ⟨h1, h2⟩ := kw_pairs (prog := prog) (w := w) r (t + 1)
    refine ⟨.cons (keyIs_str x.1 t) rfl h1, fun e he => ?_⟩
    rcases List.mem_cons.mp he with z | z
    · subst z
      exact ⟨Sum.inr x.1, keyIs_str x.1 t, rfl⟩
    · exact h2 e z
theorem kw_dict {prog : Program} {w : World} {h : Heap} {ex : List (Str × Value)} {t : Tok} (hn : (ex.map (·.1)).Nodup) : (h.push (PySem.W.dictOf (PySem.W.kwEs w.params t ex) ex.length)).DictOf (mixKind prog w) h.objs.size (ex.map fun p => (Sum.inr p.1, p.2)) := by
  obtain ⟨h1, h2⟩ := kw_pairs (prog := prog) (w := w) ex t
  refine ⟨_, _, _, Heap.get?_push_size _ rfl, ⟨rfl, rfl, rfl⟩, rfl, fun e he => h2 e (by simpa using he), by simpa using h1, ?_⟩
  rw [List.map_map]
  have : ((fun x => x.fst) ∘ fun p : Str × Value => ((Sum.inr p.1 : Key), p.2)) = (fun p : Str × Value => (Sum.inr p.1 : Key)) := rfl
  rw [this]
  have e2 : ex.map (fun p : Str × Value => (Sum.inr p.1 : Key)) = (ex.map (·.1)).map Sum.inr := by rw [List.map_map]; rfl
  rw [e2]
  exact List.Pairwise.map _ (fun a b hab z => hab (Sum.inr.inj z)) hn

theorem koloop {M : Model} {A : Around} {E : Value → Shared → Prop} {s : Shared} {kds : List (Str × Value)} (f : Str → List (Str × Value) × List Str → Sem (ForInStep (List (Str × Value) × List Str)))
    (h1 : ∀ n st v Q, (st.1.lookup n).isNone = true → kds.lookup n = some v → Q (.yield (st.1 ++ [(n, v)], st.2)) s → wpAny M A (f n st) Q E s) (h2 : ∀ n st, (st.1.lookup n).isNone = false → f n st = pure (.yield (st.1, st.2))) :
    ∀ (ko : List Str) (st s3 : List (Str × Value)), koF kds ko st = some s3 → ∀ Q : List (Str × Value) × List Str → Shared → Prop, Q (s3, []) s → wpAny M A (forIn ko (st, []) f) Q E s
  | [], st, s3, h, Q, q => by
    cases Option.some.inj h
    exact wpAny_pure q
  | n :: r, st, s3, h, Q, q => by
    unfold koF at h
    rw [List.forIn_cons]
    cases hl : (st.lookup n).isNone with
    | true =>
      rw [hl, if_pos rfl] at h
      cases hv : kds.lookup n with
      | none => rw [hv] at h; cases h
      | some v =>
        rw [hv] at h
        exact wpAny_bind (h1 n (st, []) v _ hl hv (koloop f h1 h2 r _ s3 h Q q))
    | false =>
      rw [hl, if_neg Bool.false_ne_true] at h
      rw [h2 n (st, []) hl]
      exact wpAny_bind (wpAny_pure (koloop f h1 h2 r _ s3 h Q q))
section
variable {α : Type}
theorem kfold_app {a : Str → Bool} {hk : Bool} : ∀ {kw s ex s1 ex1 : List (Str × α)}, kfold a hk kw s ex = some (s1, ex1) → ∃ m, s1 = s ++ m
  | [], s, ex, s1, ex1, h => by cases Option.some.inj h; exact ⟨[], by simp⟩
  | x :: r, s, ex, s1, ex1, h => by
    unfold kfold at h
    split at h
    · split at h
      · cases h
      · obtain ⟨m, e⟩ := kfold_app h
        exact ⟨x :: m, by rw [e, List.append_assoc]; rfl⟩
    · split at h
      · exact kfold_app h
      · cases h
theorem fillD_app : ∀ {l s : List (Str × α)}, ∃ m, fillD l s = s ++ m
  | [], s => ⟨[], by simp [fillD]⟩
  | p :: r, s => by
    unfold fillD
    split
    · obtain ⟨m, e⟩ := fillD_app (l := r) (s := s ++ [p])
      exact ⟨p :: m, by rw [e, List.append_assoc]; rfl⟩
    · exact fillD_app
theorem koF_app {kds : List (Str × α)} : ∀ {l : List Str} {s s3 : List (Str × α)}, koF kds l s = some s3 → ∃ m, s3 = s ++ m
  | [], s, s3, h => by cases Option.some.inj h; exact ⟨[], by simp⟩
  | n :: r, s, s3, h => by
    unfold koF at h
    split at h
    · split at h
      · rename_i v _
        obtain ⟨m, e⟩ := koF_app h
        exact ⟨(n, v) :: m, by rw [e, List.append_assoc]; rfl⟩
      · cases h
    · exact koF_app h
theorem pick_skip {p : Str} {u : α} {s : List (Str × α)} : ∀ {l : List Str}, p ∉ l → pick ((p, u) :: s) l = pick s l
  | [], _ => rfl
  | n :: r, h => by
    simp only [List.mem_cons, not_or] at h
    unfold pick
    have e : List.lookup n ((p, u) :: s) = List.lookup n s := by
      rw [List.lookup_cons]
      have : (n == p) = false := beq_eq_false_iff_ne.mpr fun z => h.1 z.symm
      rw [this]
    rw [e, pick_skip h.2]
theorem pick_pre {more : List (Str × α)} : ∀ {ps : List Str} {us : List α}, ps.Nodup → pick (ps.zip us ++ more) (ps.take us.length) = some (us.take ps.length)
  | [], us, _ => by simp [pick]
  | p :: ps, [], _ => by simp [pick]
  | p :: ps, u :: us, h => by
    obtain ⟨h1, h2⟩ := List.nodup_cons.mp h
    have ih := pick_pre (more := more) (us := us) h2
    show pick ((p, u) :: (ps.zip us ++ more)) (p :: ps.take us.length) = some (u :: us.take ps.length)
    unfold pick
    rw [List.lookup_cons, beq_self_eq_true, pick_skip fun z => h1 (List.mem_of_mem_take z), ih]
theorem pick_app {s : List (Str × α)} : ∀ {l l' : List Str} {vs vs' : List α}, pick s l = some vs → pick s l' = some vs' → pick s (l ++ l') = some (vs ++ vs')
  | [], l', vs, vs', h, h' => by cases Option.some.inj h; exact h'
  | n :: r, l', vs, vs', h, h' => by
    unfold pick at h
    show pick s (n :: (r ++ l')) = _
    unfold pick
    split at h
    · rename_i v ws e1 e2
      cases Option.some.inj h
      rw [e1, pick_app e2 h']
      rfl
    · cases h
theorem pick_zip {s : List (Str × α)} : ∀ {l : List Str} {vs : List α}, pick s l = some vs → l.filterMap (fun n => (s.lookup n).map (n, ·)) = l.zip vs ∧ vs.length = l.length
  | [], vs, h => by cases Option.some.inj h; exact ⟨rfl, rfl⟩
  | n :: r, vs, h => by
    unfold pick at h
    split at h
    · rename_i v ws e1 e2
      cases Option.some.inj h
      obtain ⟨i1, i2⟩ := pick_zip e2
      rw [List.filterMap_cons, e1]
      exact ⟨by simp [i1], by simp [i2]⟩
    · cases h
end
/-- the state behind the binding -/
def BndEnd (w : World) (s : Shared) (g : Sg) (rest : List Value) (ex : List (Str × Value)) (tv : List Value) (s2 : Shared) : Prop :=
  ∃ (s1 : Shared) (t1 t2 : List Value), tv = t1 ++ t2 ∧ ((g.va = none ∧ t1 = [] ∧ s1 = s) ∨ (g.va.isSome = true ∧ t1 = [.ref s.heap.objs.size] ∧ s1 = { s with heap := s.heap.push { cls := .type "tuple", data := .seq rest.toArray } })) ∧
    ((g.kw = none ∧ t2 = [] ∧ s2 = s1) ∨ (g.kw.isSome = true ∧ t2 = [.ref s1.heap.objs.size] ∧ ∃ tk, s2 = { s1 with heap := s1.heap.push (PySem.W.dictOf (PySem.W.kwEs w.params s1.toks ex) ex.length), toks := tk }))
theorem bind_ok {prog : Program} {w : World} {A : Around} {fd : FuncData} {us its : List Value} {kw kds : List (Str × Value)} {g : Sg} {vs rest : List Value} {ex : List (Str × Value)} {Q : List (Str × Value) → Shared → Prop} {E : Value → Shared → Prop} {s : Shared} (hp : fd.params.posonlyargs = []) (hps : fd.params.args.map (·.arg) = g.ps) (hko : fd.params.kwonlyargs.map (·.arg) = g.ko)
    (hva : fd.params.vararg.map (·.arg) = g.va) (hkw : fd.params.kwarg.map (·.arg) = g.kw) (hd : (fd.defaults = .none ∧ its = []) ∨ ∃ T o n, fd.defaults = .ref T ∧ s.heap.get? T = some o ∧ o.data = .seq its.toArray n)
    (hkd : ∀ n v, kds.lookup n = some v → ∃ D, fd.kwdefaults = .ref D ∧ PySem.W.Looks (model prog w) s.heap (nsGet D n) (some v)) (hnd : g.ps.Nodup) (hb : bnd g its kds us kw = some (vs, rest, ex)) (hz1 : rest.length ≤ sizeLine) (hz2 : ex.length ≤ sizeLine) (hz3 : (ex.map (·.1)).Nodup)
    (hq : ∀ tv s2, BndEnd w s g rest ex tv s2 → Q (g.names.zip (vs ++ tv)) s2) : wpAny (model prog w) A (bindArgs fd ⟨us, kw⟩) Q E s := by
  unfold bnd at hb
  have hkw' : fd.params.kwarg.isSome = g.kw.isSome := by rw [← hkw, Option.isSome_map]
  have hva' : fd.params.vararg.isNone = g.va.isNone := by rw [← hva]; simp
  cases hk : kfold (fun n => g.ps.contains n || g.ko.contains n) g.kw.isSome kw (g.ps.zip us) [] with
  | none => rw [hk] at hb; cases hb
  | some p =>
    obtain ⟨s1, ex1⟩ := p
    rw [hk] at hb
    dsimp only at hb
    have c1 : ¬ (decide (us.length > g.ps.length) && g.va.isNone) = true := fun c1 => by rw [if_pos c1] at hb; cases hb
    rw [if_neg c1] at hb
    have c2 : ¬ (!((g.ps.take (g.ps.length - (its.drop (its.length - g.ps.length)).length)).filter fun n => (s1.lookup n).isNone).isEmpty) = true := fun c2 => by rw [if_pos c2] at hb; cases hb
    rw [if_neg c2] at hb
    cases hk3 : koF kds g.ko (fillD ((g.ps.drop (g.ps.length - (its.drop (its.length - g.ps.length)).length)).zip (its.drop (its.length - g.ps.length))) s1) with
    | none => rw [hk3] at hb; cases hb
    | some s3 =>
      rw [hk3] at hb
      dsimp only at hb
      unfold bindArgs
      dsimp only
      rw [hp, List.map_nil, List.nil_append, hps, hko]
      have stepK := kloop (s1 := s1) (ex1 := ex1) (a := fun n => g.ps.contains n || g.ko.contains n) (hk := g.kw.isSome)
      rw [stepK _ ?_ ?_ kw _ [] hk]
      · refine wpAny_bind (wpAny_pure ?_)
        have items : ∀ {β : Type} {k : Option (Array Value) → Sem β} {Q : β → Shared → Prop}, (∀ o : Option (Array Value), (o.getD #[]).toList = its → wpAny (model prog w) A (k o) Q E s) → wpAny (model prog w) A (seqItems? fd.defaults >>= k) Q E s := by
          intro β k Q h
          rcases hd with ⟨e1, e2⟩ | ⟨T, o, n, e1, e2, e3⟩
          · rw [e1]
            exact seq_none (h none (by rw [e2]; rfl))
          · rw [e1]
            exact wpAny_bind (wpAny_seqItems e2 e3 (h _ (by simp)))
        refine items fun o ho => ?_
        dsimp only
        rw [ho, hva', if_neg c1, if_neg c2]
        rw [dloop _ (fun x st => rfl)]
        refine wpAny_bind (wpAny_pure ?_)
        refine wpAny_bind (koloop _ ?_ ?_ g.ko _ s3 hk3 _ ?_)
        · intro n st v Q hl hv q
          rw [if_pos hl]
          obtain ⟨D, e1, L⟩ := hkd n v hv
          rw [e1]
          exact wpAny_bind (L.here (wpAny_pure q))
        · intro n st hl
          rw [if_neg (by rw [hl]; exact Bool.false_ne_true)]
        · dsimp only
          rw [if_neg (by decide)]
          cases hpk : pick s3 (g.ps.drop us.length ++ g.ko) with
          | none => rw [hpk] at hb; cases hb
          | some pv =>
            rw [hpk] at hb
            have hb' : (us.take g.ps.length ++ pv, us.drop g.ps.length, ex1) = (vs, rest, ex) := Option.some.inj hb
            injection hb' with b1 hb2
            injection hb2 with b2 b3
            obtain ⟨m1, e1⟩ := kfold_app hk
            obtain ⟨m2, e2⟩ := fillD_app (l := (g.ps.drop (g.ps.length - (its.drop (its.length - g.ps.length)).length)).zip (its.drop (its.length - g.ps.length))) (s := s1)
            rw [e2] at hk3
            obtain ⟨m3, e3⟩ := koF_app hk3
            have e4 : s3 = g.ps.zip us ++ (m1 ++ (m2 ++ m3)) := by rw [e3, e1]; simp
            have pk : pick s3 (g.ps ++ g.ko) = some vs := by
              have z := pick_app (s := s3) (by rw [e4]; exact pick_pre hnd) hpk
              rw [b1, ← List.append_assoc, List.take_append_drop] at z
              exact z
            obtain ⟨fm, fl⟩ := pick_zip pk
            rw [fm, b2]
            subst b3
            have kwt : ∀ (t1 : List Value) (sa : Shared), ((g.va = none ∧ t1 = [] ∧ sa = s) ∨ (g.va.isSome = true ∧ t1 = [.ref s.heap.objs.size] ∧ sa = { s with heap := s.heap.push { cls := .type "tuple", data := .seq rest.toArray } })) → ∀ b0 : List (Str × Value), b0 = (g.ps ++ g.ko ++ g.va.toList).zip (vs ++ t1) → (vs ++ t1).length = (g.ps ++ g.ko ++ g.va.toList).length →
                ∀ tr : Sem (List (Str × Value)), (fd.params.kwarg = none → tr = pure b0) → (∀ a, fd.params.kwarg = some a → tr = if ex1.length > sizeLine + 1 then do
                        unsupported "dict:memory"
                        let d ← alloc { cls := .type "dict", data := .dict #[] }
                        forIn ex1 PUnit.unit fun x __s => do
                            nsSet d x.fst x.snd
                            pure (ForInStep.yield PUnit.unit)
                        pure (b0 ++ [(a.arg, Value.ref d)])
                      else do
                        let d ← alloc { cls := .type "dict", data := .dict #[] }
                        forIn ex1 PUnit.unit fun x __s => do
                            nsSet d x.fst x.snd
                            pure (ForInStep.yield PUnit.unit)
                        pure (b0 ++ [(a.arg, Value.ref d)])) → wpAny (model prog w) A tr Q E sa := by
              intro t1 sa hsa b0 eb hlen tr tr0 tr1
              cases hkwc : fd.params.kwarg with
              | none =>
                have gk : g.kw = none := by rw [← hkw, hkwc]; rfl
                rw [tr0 hkwc]
                refine wpAny_pure ?_
                have z := hq (t1 ++ []) sa ⟨sa, t1, [], rfl, hsa, .inl ⟨gk, rfl, rfl⟩⟩
                unfold Sg.names at z
                rw [gk, List.append_nil] at z
                rw [eb]
                simpa using z
              | some a =>
                have gk : g.kw = some a.arg := by rw [← hkw, hkwc]; rfl
                rw [tr1 a hkwc, if_neg (by omega)]
                refine wpAny_bind (wpAny_alloc ?_)
                refine wpAny_bind (nsfill ex1 _ [] 0 rfl (fun e he => by cases he) (fun e he => by cases he) hz3 (wpAny_pure ?_))
                have z := hq (t1 ++ [.ref sa.heap.objs.size]) _ ⟨sa, t1, [.ref sa.heap.objs.size], rfl, hsa, .inr ⟨by rw [gk]; rfl, rfl, sa.toks + ex1.length, rfl⟩⟩
                unfold Sg.names at z
                rw [gk, ← List.append_assoc, Option.toList_some, List.zip_append hlen.symm] at z
                rw [eb]
                rw [List.nil_append, Nat.zero_add]
                exact z
            cases hvac : fd.params.vararg with
            | none =>
              have gv : g.va = none := by rw [← hva, hvac]; rfl
              exact kwt [] s (.inl ⟨gv, rfl, rfl⟩) ((g.ps ++ g.ko).zip vs) (by rw [gv]; simp) (by rw [gv]; simpa using fl) _ (fun h => by rw [h]) (fun a h => by rw [h])
            | some a =>
              have gv : g.va = some a.arg := by rw [← hva, hvac]; rfl
              refine wpAny_bind (wpAny_newTuple ?_ hz1)
              refine kwt [.ref s.heap.objs.size] _ (.inr ⟨by rw [gv]; rfl, rfl, rfl⟩) ((g.ps ++ g.ko).zip vs ++ [(a.arg, .ref s.heap.objs.size)]) ?_ (by rw [gv, List.length_append, fl, List.length_append, List.length_append, List.length_append]; rfl) _ (fun h => by rw [h]) (fun a h => by rw [h])
              rw [gv, Option.toList_some, List.zip_append fl.symm]
              rfl
      · intro x st ha hl
        rw [if_pos ha, if_neg (by rw [hl]; exact Bool.false_ne_true)]
      · intro x st ha hk
        rw [if_neg (by rw [ha]; exact Bool.false_ne_true), if_pos (by rw [hkw']; exact hk)]
end Tv
end

section
/-! Binding looks at names alone. -/
namespace Tv
open PySem (Str)
section
variable {α β : Type} (f : α → β)
abbrev mk2 : Str × α → Str × β := fun p => (p.1, f p.2)
theorem lookup_mk (n : Str) : ∀ s : List (Str × α), (s.map (mk2 f)).lookup n = (s.lookup n).map f
  | [] => rfl
  | p :: s => by
    obtain ⟨m, v⟩ := p
    show List.lookup n ((m, f v) :: s.map (mk2 f)) = _
    rw [List.lookup_cons, List.lookup_cons, lookup_mk n s]
    cases n == m <;> rfl
theorem kfold_mk {a : Str → Bool} {hk : Bool} : ∀ kw s ex : List (Str × α), kfold a hk (kw.map (mk2 f)) (s.map (mk2 f)) (ex.map (mk2 f)) = (kfold a hk kw s ex).map fun p => (p.1.map (mk2 f), p.2.map (mk2 f))
  | [], s, ex => rfl
  | x :: r, s, ex => by
    show kfold a hk (mk2 f x :: r.map (mk2 f)) _ _ = _
    unfold kfold
    show (if a x.1 then (if ((s.map (mk2 f)).lookup x.1).isSome then none else kfold a hk (r.map (mk2 f)) (s.map (mk2 f) ++ [mk2 f x]) (ex.map (mk2 f))) else if hk then kfold a hk (r.map (mk2 f)) (s.map (mk2 f)) (ex.map (mk2 f) ++ [mk2 f x]) else none) = _
    have e1 : s.map (mk2 f) ++ [mk2 f x] = (s ++ [x]).map (mk2 f) := by simp
    have e2 : ex.map (mk2 f) ++ [mk2 f x] = (ex ++ [x]).map (mk2 f) := by simp
    rw [lookup_mk, Option.isSome_map, e1, e2, kfold_mk r (s ++ [x]) ex, kfold_mk r s (ex ++ [x])]
    split <;> (try split) <;> rfl
theorem fillD_mk : ∀ l s : List (Str × α), fillD (l.map (mk2 f)) (s.map (mk2 f)) = (fillD l s).map (mk2 f)
  | [], s => rfl
  | p :: r, s => by
    show fillD (mk2 f p :: r.map (mk2 f)) _ = _
    unfold fillD
    show fillD (r.map (mk2 f)) (if ((s.map (mk2 f)).lookup p.1).isNone then s.map (mk2 f) ++ [mk2 f p] else s.map (mk2 f)) = _
    have e1 : s.map (mk2 f) ++ [mk2 f p] = (s ++ [p]).map (mk2 f) := by simp
    rw [lookup_mk, Option.isNone_map, e1]
    split
    · exact fillD_mk r _
    · exact fillD_mk r _
theorem koF_mk (kds : List (Str × α)) : ∀ (l : List Str) (s : List (Str × α)), koF (kds.map (mk2 f)) l (s.map (mk2 f)) = (koF kds l s).map fun t => t.map (mk2 f)
  | [], s => rfl
  | n :: r, s => by
    unfold koF
    rw [lookup_mk, Option.isNone_map, lookup_mk]
    split
    · cases e : kds.lookup n with
      | none => rfl
      | some v =>
        have e1 : s.map (mk2 f) ++ [(n, f v)] = (s ++ [(n, v)]).map (mk2 f) := by simp
        show koF (kds.map (mk2 f)) r (s.map (mk2 f) ++ [(n, f v)]) = _
        rw [e1]
        exact koF_mk kds r _
    · exact koF_mk kds r _
theorem pick_mk (s : List (Str × α)) : ∀ l : List Str, pick (s.map (mk2 f)) l = (pick s l).map fun t => t.map f
  | [] => rfl
  | n :: r => by
    unfold pick
    rw [lookup_mk, pick_mk s r]
    cases s.lookup n <;> cases pick s r <;> rfl
theorem zip_mk : ∀ (ns : List Str) (us : List α), ns.zip (us.map f) = (ns.zip us).map (mk2 f)
  | [], _ => rfl
  | _ :: _, [] => rfl
  | n :: ns, u :: us => by
    show (n, f u) :: ns.zip (us.map f) = _
    rw [zip_mk ns us]; rfl
theorem bnd_mk (g : Sg) (dfs us : List α) (kds kw : List (Str × α)) : bnd g (dfs.map f) (kds.map (mk2 f)) (us.map f) (kw.map (mk2 f)) = (bnd g dfs kds us kw).map fun p => (p.1.map f, p.2.1.map f, p.2.2.map (mk2 f)) := by
  unfold bnd
  rw [zip_mk]
  have k := kfold_mk f (a := fun n => g.ps.contains n || g.ko.contains n) (hk := g.kw.isSome) kw (g.ps.zip us) []
  rw [List.map_nil] at k
  rw [k]
  cases kfold (fun n => g.ps.contains n || g.ko.contains n) g.kw.isSome kw (g.ps.zip us) [] with
  | none => rfl
  | some p =>
    obtain ⟨s1, ex⟩ := p
    dsimp only [Option.map]
    rw [List.length_map, List.length_map]
    split
    · rfl
    · rw [← List.map_drop, List.length_map]
      have e1 : (fun n => ((s1.map (mk2 f)).lookup n).isNone) = fun n => (s1.lookup n).isNone := funext fun n => by rw [lookup_mk, Option.isNone_map]
      rw [e1]
      split
      · rfl
      · rw [zip_mk, fillD_mk, koF_mk]
        cases koF kds g.ko (fillD ((g.ps.drop (g.ps.length - (dfs.drop (dfs.length - g.ps.length)).length)).zip (dfs.drop (dfs.length - g.ps.length))) s1) with
        | none => rfl
        | some s3 =>
          dsimp only [Option.map]
          rw [pick_mk]
          cases pick s3 (g.ps.drop us.length ++ g.ko) with
          | none => rfl
          | some vs =>
            dsimp only [Option.map]
            rw [List.map_append, List.map_take, List.map_drop]
end
/-! where the values come from -/
section
variable {α : Type} {P : α → Prop}
theorem kfold_all {a : Str → Bool} {hk : Bool} : ∀ {kw s ex s1 ex1 : List (Str × α)}, kfold a hk kw s ex = some (s1, ex1) → (∀ p ∈ kw, P p.2) → ∃ m, s1 = s ++ m ∧ (∀ p ∈ m, P p.2) ∧ ∀ p ∈ ex1, p ∈ ex ∨ p ∈ kw
  | [], s, ex, s1, ex1, h, _ => by cases Option.some.inj h; exact ⟨[], by simp, by simp, fun p m => .inl m⟩
  | x :: r, s, ex, s1, ex1, h, k => by
    unfold kfold at h
    split at h
    · split at h
      · cases h
      · obtain ⟨m, e, h1, h2⟩ := kfold_all h fun p m => k p (List.mem_cons_of_mem _ m)
        refine ⟨x :: m, by rw [e, List.append_assoc]; rfl, fun p hp => ?_, fun p hp => (h2 p hp).imp id (List.mem_cons_of_mem _)⟩
        rcases List.mem_cons.mp hp with z | z
        · rw [z]; exact k x List.mem_cons_self
        · exact h1 p z
    · split at h
      · obtain ⟨m, e, h1, h2⟩ := kfold_all h fun p m => k p (List.mem_cons_of_mem _ m)
        refine ⟨m, e, h1, fun p hp => ?_⟩
        rcases h2 p hp with z | z
        · rcases List.mem_append.mp z with z | z
          · exact .inl z
          · rw [List.mem_singleton.mp z]; exact .inr List.mem_cons_self
        · exact .inr (List.mem_cons_of_mem _ z)
      · cases h
theorem fillD_all : ∀ {l s : List (Str × α)}, (∀ p ∈ l, P p.2) → ∃ m, fillD l s = s ++ m ∧ ∀ p ∈ m, P p.2
  | [], s, _ => ⟨[], by simp [fillD], by simp⟩
  | p :: r, s, k => by
    unfold fillD
    split
    · obtain ⟨m, e, h1⟩ := fillD_all (l := r) (s := s ++ [p]) fun q m => k q (List.mem_cons_of_mem _ m)
      refine ⟨p :: m, by rw [e, List.append_assoc]; rfl, fun q hq => ?_⟩
      rcases List.mem_cons.mp hq with z | z
      · rw [z]; exact k p List.mem_cons_self
      · exact h1 q z
    · exact fillD_all fun q m => k q (List.mem_cons_of_mem _ m)
theorem mem_of_lookup' {n : Str} {v : α} : ∀ {s : List (Str × α)}, s.lookup n = some v → (n, v) ∈ s
  | [], h => by cases h
  | (m, w) :: s, h => by
    rw [List.lookup_cons] at h
    cases e : n == m with
    | true =>
      rw [e] at h
      cases Option.some.inj h
      rw [eq_of_beq e]; exact List.mem_cons_self
    | false => rw [e] at h; exact List.mem_cons_of_mem _ (mem_of_lookup' h)
theorem koF_all {kds : List (Str × α)} (hk : ∀ p ∈ kds, P p.2) : ∀ {l : List Str} {s s3 : List (Str × α)}, koF kds l s = some s3 → ∃ m, s3 = s ++ m ∧ ∀ p ∈ m, P p.2
  | [], s, s3, h => by cases Option.some.inj h; exact ⟨[], by simp, by simp⟩
  | n :: r, s, s3, h => by
    unfold koF at h
    split at h
    · split at h
      · rename_i v e
        obtain ⟨m, e1, h1⟩ := koF_all hk h
        refine ⟨(n, v) :: m, by rw [e1, List.append_assoc]; rfl, fun q hq => ?_⟩
        rcases List.mem_cons.mp hq with z | z
        · rw [z]; exact hk _ (mem_of_lookup' e)
        · exact h1 q z
      · cases h
    · exact koF_all hk h
theorem lookup_app {n : Str} {s t : List (Str × α)} (h : s.lookup n = none) : (s ++ t).lookup n = t.lookup n := by
  induction s with
  | nil => rfl
  | cons p s ih =>
    obtain ⟨m, v⟩ := p
    rw [List.lookup_cons] at h
    rw [List.cons_append, List.lookup_cons]
    cases e : n == m with
    | true => rw [e] at h; cases h
    | false => rw [e] at h; exact ih h
theorem pick_all {s m : List (Str × α)} (hm : ∀ p ∈ m, P p.2) : ∀ {l : List Str} {vs : List α}, (∀ n ∈ l, s.lookup n = none) → pick (s ++ m) l = some vs → ∀ v ∈ vs, P v
  | [], vs, _, h => by cases Option.some.inj h; exact fun v hv => by cases hv
  | n :: r, vs, hn, h => by
    unfold pick at h
    split at h
    · rename_i v ws e1 e2
      cases Option.some.inj h
      intro u hu
      rcases List.mem_cons.mp hu with z | z
      · rw [lookup_app (hn n List.mem_cons_self)] at e1
        rw [z]
        exact hm _ (mem_of_lookup' e1)
      · exact pick_all hm (fun q hq => hn q (List.mem_cons_of_mem _ hq)) e2 u z
    · cases h
theorem zip_lookup {n : Str} : ∀ {ps : List Str} {us : List α}, n ∉ ps.take us.length → (ps.zip us).lookup n = none
  | [], us, _ => rfl
  | p :: ps, [], _ => rfl
  | p :: ps, u :: us, h => by
    have h : n ∉ p :: ps.take us.length := h
    simp only [List.mem_cons, not_or] at h
    show List.lookup n ((p, u) :: ps.zip us) = none
    rw [List.lookup_cons, beq_eq_false_iff_ne.mpr h.1]
    exact zip_lookup h.2
theorem bnd_all {g : Sg} {dfs us vs rest : List α} {kds kw ex : List (Str × α)} (nd : (g.ps ++ g.ko).Nodup) (h : bnd g dfs kds us kw = some (vs, rest, ex)) (h1 : ∀ x ∈ dfs, P x) (h2 : ∀ p ∈ kds, P p.2) (h3 : ∀ p ∈ kw, P p.2) :
    ∃ pv, vs = us.take g.ps.length ++ pv ∧ rest = us.drop g.ps.length ∧ (∀ v ∈ pv, P v) ∧ (∀ p ∈ ex, p ∈ kw) ∧ (g.va = none → rest = []) ∧ vs.length = (g.ps ++ g.ko).length := by
  have hb := h
  unfold bnd at h
  cases hk : kfold (fun n => g.ps.contains n || g.ko.contains n) g.kw.isSome kw (g.ps.zip us) [] with
  | none => rw [hk] at h; cases h
  | some p =>
    obtain ⟨s1, ex1⟩ := p
    rw [hk] at h
    dsimp only at h
    obtain ⟨m1, e1, k1, k1e⟩ := kfold_all hk h3
    split at h
    · cases h
    · rename_i c1
      split at h
      · cases h
      · cases hk3 : koF kds g.ko (fillD ((g.ps.drop (g.ps.length - (dfs.drop (dfs.length - g.ps.length)).length)).zip (dfs.drop (dfs.length - g.ps.length))) s1) with
        | none => rw [hk3] at h; cases h
        | some s3 =>
          rw [hk3] at h
          dsimp only at h
          obtain ⟨m2, e2, k2⟩ := fillD_all (P := P) (l := (g.ps.drop (g.ps.length - (dfs.drop (dfs.length - g.ps.length)).length)).zip (dfs.drop (dfs.length - g.ps.length))) (s := s1) fun p hp => h1 _ (List.mem_of_mem_drop (List.of_mem_zip hp).2)
          rw [e2] at hk3
          obtain ⟨m3, e3, k3⟩ := koF_all h2 hk3
          cases hpk : pick s3 (g.ps.drop us.length ++ g.ko) with
          | none => rw [hpk] at h; cases h
          | some pv =>
            rw [hpk] at h
            have hb' : (us.take g.ps.length ++ pv, us.drop g.ps.length, ex1) = (vs, rest, ex) := Option.some.inj h
            injection hb' with b1 hb2
            injection hb2 with b2 b3
            subst b1 b2 b3
            have e4 : s3 = g.ps.zip us ++ (m1 ++ (m2 ++ m3)) := by rw [e3, e1]; simp
            refine ⟨pv, rfl, rfl, ?_, fun p hp => (k1e p hp).resolve_left (by simp), fun e => ?_, ?_⟩
            · rw [e4] at hpk
              refine pick_all (fun p hp => ?_) (fun n hn => zip_lookup fun z => ?_) hpk
              · simp only [List.mem_append] at hp
                rcases hp with z | z | z
                · exact k1 p z
                · exact k2 p z
                · exact k3 p z
              · obtain ⟨d1, d2, d3⟩ := List.nodup_append.mp nd
                rcases List.mem_append.mp hn with q | q
                · have dd := d1
                  rw [← List.take_append_drop us.length g.ps] at dd
                  exact (List.nodup_append.mp dd).2.2 n z n q rfl
                · exact d3 n (List.mem_of_mem_take z) n q rfl
            · refine List.drop_eq_nil_of_le (Nat.le_of_not_lt fun z => c1 ?_)
              rw [e]
              simp [z]
            · have l1 := (pick_zip hpk).2
              rw [List.length_append, l1, List.length_append, List.length_append, List.length_take, List.length_drop]
              omega
end
end Tv
end

section
/-! A def's promise, and how it is kept. -/
namespace Tv
open PySem L2 PySem.Spec PyProof.Rows
open PySem (Str Expr Stmt Scope)

def tailF (g : Sg) (rest : List FV) (ex : List (Str × FV)) : List FV :=
  (if g.va.isSome then [.tup rest] else []) ++ (if g.kw.isSome then [.dic (ex.map fun p => .str p.1) (ex.map (·.2))] else [])
theorem vals_snd {zs : List V} {ex : List (Str × Value)} (h : Vals zs (ex.map (·.2))) : KV (((ex.map (·.1)).zip zs).map fun p => ((Sum.inr p.1 : Key), p.2)) (ex.map fun p => ((Sum.inr p.1 : Key), p.2)) := by
  induction ex generalizing zs with
  | nil => cases h; exact .nil
  | cons e ex ih =>
    cases h with
    | cons a r => exact .cons ⟨rfl, a⟩ (ih r)
section
variable {G : Gs} {P : Program} {w : World} {mg : Str → Option Value} {base : Heap} {A : Around} {outer : List Env} {s : Shared} {H F : Hp}
theorem bnd_end {g : Sg} {rest : List Value} {ex : List (Str × Value)} {tv : List Value} {s2 : Shared} {restF : List FV} {restV exV : List V} {exF : List (Str × FV)} (e0 : Env0 P w G.K mg base A outer s H) (sub : SubH F H) (r1 : RFs G F restF restV) (r2 : Vals restV rest) (k1 : RFs G F (exF.map (·.2)) exV) (k2 : Vals exV (ex.map (·.2))) (k3 : ex.map (·.1) = exF.map (·.1))
    (ks : ∀ p ∈ exF, sok p.1 = true) (hz1 : rest.length ≤ sizeLine) (hz2 : ex.length ≤ sizeLine) (hz3 : (ex.map (·.1)).Nodup) (b : BndEnd w s g rest ex tv s2) :
    ∃ tvV H2 F2, Vals tvV tv ∧ Env0 P w G.K mg base A outer s2 H2 ∧ Un (frs outer) [] H H2 s.heap s2.heap ∧ s2.os = s.os ∧ (∀ b o, s.heap.get? b = some o → s2.heap.get? b = some o) ∧ SubH F F2 ∧ SubH F2 H2 ∧ Ex H H2 F F2 [] [] ∧ (∀ a, H a ≠ none → H2 a = H a) ∧ RFs G F2 (tailF g restF exF) tvV := by
  obtain ⟨s1, t1, t2, et, b1, b2⟩ := b
  subst et
  -- the tuple
  have first : ∃ tV H1 F1, Vals tV t1 ∧ Env0 P w G.K mg base A outer s1 H1 ∧ Un (frs outer) [] H H1 s.heap s1.heap ∧ s1.os = s.os ∧ (∀ b o, s.heap.get? b = some o → s1.heap.get? b = some o) ∧ SubH F F1 ∧ SubH F1 H1 ∧ Ex H H1 F F1 [] [] ∧ (∀ a, H a ≠ none → H1 a = H a) ∧ RFs G F1 (if g.va.isSome then [.tup restF] else []) tV := by
    rcases b1 with ⟨gv, e1, e2⟩ | ⟨gv, e1, e2⟩
    · subst e1 e2
      rw [gv]
      exact ⟨[], H, F, .nil, e0, Un.refl .., rfl, fun _ _ h => h, SubH.refl F, sub, Ex.refl H F [], fun _ _ => rfl, rfl⟩
    · subst e1 e2
      rw [if_pos gv]
      have hn : H s.heap.objs.size = none := e0.hok.fresh (Nat.le_refl _)
      have new : ObjOk P w (upd H s.heap.objs.size (.tup restV)) (s.heap.push ({ cls := .type "tuple", data := .seq rest.toArray } : Obj)) s.heap.objs.size (.tup restV) := ⟨by rw [r2.length]; exact hz1, rest, r2, ⟨_, Heap.get?_push_size _ rfl, rfl, _, rfl⟩⟩
      exact ⟨[.ref s.heap.objs.size], _, upd F s.heap.objs.size (.tup restV), .cons rfl .nil, StX.env0_laid e0 new, StX.un_laid hn, rfl, fun b o h => Heap.get?_push_of_some _ h, (ex_newF sub hn).sub, sub_newF sub, ex_newF sub hn, kp_new hn, _, [], rfl, ⟨_, restV, rfl, .inl (.inl upd_same), RFs.mono (ex_newF sub hn).sub _ _ r1⟩, rfl⟩
  obtain ⟨tV, H1, F1, v1, e1, un1, os1, kp1, sb1, sub1, ex1, k1', rf1⟩ := first
  rcases b2 with ⟨gk, e2, e3⟩ | ⟨gk, e2, tk, e3⟩
  · subst e2 e3
    refine ⟨tV, H1, F1, by rw [List.append_nil]; exact v1, e1, un1, os1, kp1, sb1, sub1, ex1, k1', ?_⟩
    unfold tailF
    rw [gk]
    simpa using rf1
  · subst e2
    have hn : H1 s1.heap.objs.size = none := e1.hok.fresh (Nat.le_refl _)
    have dd := kw_dict (prog := P) (w := w) (h := s1.heap) (t := s1.toks) hz3
    have rel := vals_snd k2
    have hl : exV.length = ex.length := by have := k2.length; simpa using this
    have new : ObjOk P w (upd H1 s1.heap.objs.size (.dK (((ex.map (·.1)).zip exV).map fun p => ((Sum.inr p.1 : Key), p.2)))) (s1.heap.push (PySem.W.dictOf (PySem.W.kwEs w.params s1.toks ex) ex.length)) s1.heap.objs.size (.dK (((ex.map (·.1)).zip exV).map fun p => ((Sum.inr p.1 : Key), p.2))) := by
      refine ⟨?_, ?_, _, rel, dd⟩
      · have l1 : ((ex.map (·.1)).zip exV).length ≤ ex.length := by
          rw [List.length_zip, List.length_map]; exact Nat.min_le_left _ _
        rw [List.length_map]
        exact Nat.le_trans l1 hz2
      · have := StX.env0_big e1
        exact beq_eq_false_iff_ne.mpr fun z => Nat.ne_of_gt this z
    have sbT := sb1
    have e2 := StX.env0_laid e1 new
    have un2 := StX.un_laid (fs := frs outer) (s := s1) (o := PySem.W.dictOf (PySem.W.kwEs w.params s1.toks ex) ex.length) (u := .dK (((ex.map (·.1)).zip exV).map fun p => ((Sum.inr p.1 : Key), p.2))) hn
    have hx := ex_newF sub1 (o := .dK (((ex.map (·.1)).zip exV).map fun p => ((Sum.inr p.1 : Key), p.2))) hn
    have mp2 : (((ex.map (·.1)).zip exV).map fun p => ((Sum.inr p.1 : Key), p.2)).map (·.2) = exV := by
      rw [List.map_map]
      have : ((fun x : Key × V => x.2) ∘ fun p : Str × V => ((Sum.inr p.1 : Key), p.2)) = fun p => p.2 := rfl
      rw [this]
      exact List.map_snd_zip (by simp [hl])
    have mp1 : ((((ex.map (·.1)).zip exV).map fun p => ((Sum.inr p.1 : Key), p.2)).map fun q => kV q.1) = (exF.map (·.1)).map V.str := by
      rw [List.map_map, ← k3]
      have : ((fun q : Key × V => kV q.1) ∘ fun p : Str × V => ((Sum.inr p.1 : Key), p.2)) = (V.str ∘ fun p : Str × V => p.1) := rfl
      rw [this, ← List.map_map, List.map_fst_zip (by simp [hl])]
    have rfk : ∀ l : List (Str × FV), (∀ p ∈ l, sok p.1 = true) → RFs G (upd F1 s1.heap.objs.size (.dK (((ex.map (·.1)).zip exV).map fun p => ((Sum.inr p.1 : Key), p.2)))) (l.map fun p => .str p.1) ((l.map (·.1)).map V.str) := by
      intro l
      induction l with
      | nil => intro _; exact rfl
      | cons p l ih => intro h; exact ⟨_, _, rfl, ⟨rfl, h p (by simp)⟩, ih fun q hq => h q (by simp [hq])⟩
    refine ⟨tV ++ [V.ref s1.heap.objs.size], _, _, v1.append (.cons (show RelV (V.ref s1.heap.objs.size) _ from rfl) .nil), by rw [e3]; exact ⟨e2.frames, e2.mod, e2.bs, e2.bsz, e2.funs, e2.frf, e2.hok, e2.bare⟩, ?_, by rw [e3]; exact os1, by rw [e3]; exact fun b o h => Heap.get?_push_of_some _ (kp1 b o h), sb1.trans hx.sub, sub_newF sub1, ?_, fun a l => (kp_new hn a (by rw [k1' a l]; exact l)).trans (k1' a l), ?_⟩
    · rw [e3]; exact un1.trans un2
    · have := Ex.trans (fo := []) (f1 := []) ex1 hx
      exact this
    · unfold tailF
      rw [if_pos gk]
      refine (RFs.mono hx.sub _ _ rf1).app ⟨_, [], rfl, ⟨_, exV, rfl, RFs.mono (sb1.trans hx.sub) _ _ k1, .inl ⟨_, .inl upd_same, mp2, ?_⟩⟩, rfl⟩
      rw [mp1]
      exact rfk exF ks
end

/-! ### where code runs -/
structure GoodC (G : Gs) (P : Program) (w : World) (mg : Str → Option Value) (base : Heap) (k : Nat) (ns : List Str) (sn : List (Str × NameKind)) (X : Cx) : Prop where
  prog : X.prog = P
  w : X.w = w
  K : X.K = G.K
  mg : X.mg = mg
  base : X.base = base
  nm : X.N = ns
  room : Room k X.A
  gd : X.A.guards = some []
  calm : X.calm = true
  nd : ns.Nodup
  kind : X.env.scope.kind = .function
  sc : ∀ x kd, sn.lookup x = some kd → X.env.scope.names.lookup x = some kd ∨ (kd = .free ∧ X.env.scope.names.lookup x = some .cell)
  st : ∀ x, (sn.lookup x = some .local ∨ sn.lookup x = some .cell) → X.fn x = true ∨ X.env.scope.names.lookup x = some .local
structure GoodF (G : Gs) (P : Program) (w : World) (mg : Str → Option Value) (base : Heap) (k : Nat) (ns : List Str) (sn : List (Str × NameKind)) (X : Cx) : Prop extends GoodC G P w mg base k ns sn X where
  own : PassesOwn (model X.prog X.w) X.A X.env X.xe
  stk : X.stack = X.env :: X.outer
  frm : X.env.frame = some X.env.locals
  scope : X.env.scope.names = sn
theorem guards_deeper {A : Around} {env : Env} : (A.deeper env).guards = A.guards := by
  first | rfl | simp [Around.deeper, Around.under, Code.isGuard]

/-- a def of the text -/
structure FnI where
  f : Addr
  name : Str
  qual : Str
  params : Arguments
  body : List Stmt
  scope : Scope
  g : Sg
  ns : List Str
  dfs : List FV
  kds : List (Str × FV)
structure FnF (G : Gs) (I : FnI) : Prop where
  ex : ∃ (oc : Value) (od : Option Addr) (dV kV doc pm : Value) (an : Option Addr) (cdv ct : Value) (osl : Array (Option Value)), G.K.lookup I.f = some ⟨oc, od, .func (PySem.W.fnOf I.name I.qual I.params I.body I.scope dV kV doc pm an cdv ct), osl⟩ ∧ PySem.W.codeIn G.K cdv I.qual = true ∧
    (∃ dvs, DflV G.K dV dvs ∧ ∀ F, RFs G F I.dfs dvs) ∧ ∀ p ∈ I.kds, ∃ D u v, kV = .ref D ∧ PySem.W.nsIn G.K D p.1 = some (some u) ∧ RelV v u ∧ ∀ F, RF G F p.2 v
  kp : PySem.W.keepIn G.K (.ref I.f) = true
  S : FnScope I.ns I.g.names I.scope
  po : I.params.posonlyargs = []
  ps : I.params.args.map (·.arg) = I.g.ps
  ko : I.params.kwonlyargs.map (·.arg) = I.g.ko
  va : I.params.vararg.map (·.arg) = I.g.va
  kw : I.params.kwarg.map (·.arg) = I.g.kw
  nd : (I.g.ps ++ I.g.ko).Nodup

def nodupB : List Str → Bool
  | [] => true
  | x :: r => !r.contains x && nodupB r
theorem nodupB_ok : ∀ {l : List Str}, nodupB l = true → l.Nodup
  | [], _ => List.nodup_nil
  | x :: r, h => by
    obtain ⟨h1, h2⟩ := Bool.and_eq_true_iff.mp (show (!r.contains x && nodupB r) = true from h)
    refine List.nodup_cons.mpr ⟨fun m => ?_, nodupB_ok h2⟩
    rw [List.contains_iff_mem.mpr m] at h1
    cases h1
/-- the rows of a def at its entry -/
def FnI.rows (I : FnI) (cs : List OV) (pv rest : List FV) (ex : List (Str × FV)) : Slots :=
  (cs.take I.g.ps.length ++ (pv ++ tailF I.g rest ex).map OV.frz).map some ++ List.replicate (I.ns.length - I.g.names.length) none
/-- what the lent ones hold at the end -/
def outR : Nat → (Nat → Bool) → Slots → Slots
  | 0, _, _ => []
  | n + 1, w, [] => none :: outR n (fun j => w (j + 1)) []
  | n + 1, w, t :: ts => (if w 0 then none else t) :: outR n (fun j => w (j + 1)) ts
def Fl.val : Fl → OV
  | .nx => .frz .non
  | .rt o => o
def fnrun (I : FnI) (w : Nat → Bool) (m : TM Fl) (cs : List OV) (kws : List (Str × FV)) : Out OV :=
  match bnd I.g I.dfs I.kds (OV.fzs cs) kws with
  | none => .bad
  | some (vs, rest, ex) => if rest.length ≤ szl ∧ ex.length ≤ szl ∧ (ex.all (fun p => sok p.1) && nodupB (ex.map (·.1))) = true then
      match m (I.rows cs (vs.drop (min cs.length I.g.ps.length)) rest ex) with
      | .ok fl s => .ok fl.val (outR (min cs.length I.g.ps.length) w s)
      | .exc x s => .exc x (outR (min cs.length I.g.ps.length) w s)
      | .bad => .bad
    else .bad
/-- what a def promises -/
def CalT (G : Gs) (P : Program) (w : World) (mg : Str → Option Value) (base : Heap) (k np : Nat) (f : Addr) (run : List OV → List (Str × FV) → Out OV) : Prop :=
  ∀ (A : Around) (outer : List Env) (s : Shared) (H F : Hp) (cs : List OV) (vs : List V) (us : List Value) (fpc : List Addr) (kws : List (Str × FV)) (zs : List V) (ws : List Value), Room k A → A.guards = some [] → Env0 P w G.K mg base A outer s H → SubH F H → ROs G F H cs vs fpc → fpc.Nodup → (∀ a ∈ fpc, F a = none) → Vals vs us →
    RFs G F (kws.map (·.2)) zs → Vals zs ws → ∀ (Q : VK) (E : XK),
    OutP (run cs kws) (fun r cs' => ∀ v H', (Aft G F H ((vs.take np).map some) fpc false cs' H' fun F' _ fo => RO G F' H' r v fo) → Q v H') (fun x cs' => ∀ cls d H', AX G F H ((vs.take np).map some) fpc x cs' cls d H' → E cls d H') →
    codeAny (model P w) A (.call (.ref f) ⟨us, (kws.map (·.1)).zip ws⟩) (CR (CX P w) outer P w H s Q E) s

section
variable {G : Gs} {P : Program} {w : World} {mg : Str → Option Value} {base : Heap} {H F : Hp}
abbrev T3 := FV × V × Value
theorem trip {R : Hp} : ∀ {xs : List FV} {vs : List V} {us : List Value}, RFs G R xs vs → Vals vs us → ∃ l : List T3, l.map (·.1) = xs ∧ l.map (·.2.1) = vs ∧ l.map (·.2.2) = us ∧ ∀ t ∈ l, RF G R t.1 t.2.1 ∧ RelV t.2.1 t.2.2
  | [], _, _, r, v => by
    rw [show _ = [] from r] at v ⊢
    cases v
    exact ⟨[], rfl, rfl, rfl, by simp⟩
  | x :: xs, _, _, r, v => by
    obtain ⟨y, yr, e, r1, r2⟩ := r
    subst e
    cases v with
    | @cons _ u _ _ a b =>
      obtain ⟨l, h1, h2, h3, h4⟩ := trip r2 b
      refine ⟨(x, y, u) :: l, by simp [h1], by simp [h2], by simp [h3], fun t ht => ?_⟩
      rcases List.mem_cons.mp ht with z | z
      · rw [z]; exact ⟨r1, a⟩
      · exact h4 t z
theorem rfs_of {l : List T3} {R : Hp} (h : ∀ t ∈ l, RF G R t.1 t.2.1 ∧ RelV t.2.1 t.2.2) : RFs G R (l.map (·.1)) (l.map (·.2.1)) ∧ Vals (l.map (·.2.1)) (l.map (·.2.2)) := by
  induction l with
  | nil => exact ⟨rfl, .nil⟩
  | cons t l ih =>
    obtain ⟨i1, i2⟩ := ih fun q hq => h q (List.mem_cons_of_mem _ hq)
    obtain ⟨h1, h2⟩ := h t List.mem_cons_self
    exact ⟨⟨_, _, rfl, h1, i1⟩, .cons h2 i2⟩
theorem SL_of_ROs {n : Nat} : ∀ {os : List OV} {vs : List V} {fp : List Addr}, ROs G F H os vs fp → SL G F H (os.map some ++ List.replicate n none) (vs.map some ++ List.replicate n none) fp
  | [], _, _, r => by
    rw [r.1, r.2]
    induction n with
    | zero => exact ⟨rfl, rfl⟩
    | succ n ih => exact ⟨none, _, rfl, ih⟩
  | o :: os, _, _, r => by
    obtain ⟨v, vr, f1, f2, e, ef, r1, r2⟩ := r
    subst e ef
    exact ⟨v, _, f1, f2, rfl, rfl, r1, SL_of_ROs r2⟩
theorem ROs.app : ∀ {os os' : List OV} {vs vs' : List V} {f1 f2 : List Addr}, ROs G F H os vs f1 → ROs G F H os' vs' f2 → ROs G F H (os ++ os') (vs ++ vs') (f1 ++ f2)
  | [], _, _, _, _, _, k, r => by rw [k.1, k.2]; exact r
  | o :: os, _, _, _, _, _, k, q => by
    obtain ⟨v, vr, f1, f2, e1, e2, k, r⟩ := k
    subst e1 e2
    exact ⟨v, vr ++ _, f1, f2 ++ _, rfl, List.append_assoc .., k, r.app q⟩
theorem ROs.split : ∀ {n : Nat} {os : List OV} {vs : List V} {fp : List Addr}, ROs G F H os vs fp → ∃ f1 f2, fp = f1 ++ f2 ∧ ROs G F H (os.take n) (vs.take n) f1 ∧ ROs G F H (os.drop n) (vs.drop n) f2
  | 0, os, vs, fp, r => ⟨[], fp, rfl, ⟨rfl, rfl⟩, r⟩
  | n + 1, [], vs, fp, r => by rw [r.1, r.2]; exact ⟨[], [], rfl, ⟨rfl, rfl⟩, ⟨rfl, rfl⟩⟩
  | n + 1, o :: os, _, _, r => by
    obtain ⟨v, vr, f1, f2, e1, e2, k, r⟩ := r
    subst e1 e2
    obtain ⟨g1, g2, e, h1, h2⟩ := r.split (n := n)
    subst e
    exact ⟨f1 ++ g1, g2, by rw [List.append_assoc], ⟨v, vr.take n, f1, g1, rfl, rfl, k, h1⟩, h2⟩
theorem outR_ok : ∀ {n : Nat} {w : Nat → Bool} {ts : Slots} {σ σ0 : L2.St} {fp : List Addr}, SL G F H ts σ fp → (∀ j, j < n → w j = false → σ[j]? = σ0[j]?) → σ0.length = n → n ≤ σ.length → ∃ fp', fp'.Sublist fp ∧ SL G F H (outR n w ts) σ0 fp'
  | 0, w, ts, σ, σ0, fp, s, h, hn, _ => by
    rw [List.eq_nil_of_length_eq_zero hn]
    exact ⟨[], List.nil_sublist _, rfl, rfl⟩
  | n + 1, w, [], σ, σ0, fp, s, h, hn, hl => by
    rw [s.1] at hl
    simp at hl
  | n + 1, w, none :: ts, _, σ0, fp, s, h, hn, hl => by
    obtain ⟨x, σr, e, t⟩ := s
    subst e
    cases σ0 with
    | nil => simp at hn
    | cons y σ1 =>
      obtain ⟨fp', k1, k2⟩ := outR_ok (n := n) (w := fun j => w (j + 1)) (σ0 := σ1) t (fun j hj hw => by simpa using h (j + 1) (by omega) hw) (by simpa using hn) (by simpa using hl)
      refine ⟨fp', k1, ?_⟩
      show SL G F H ((if w 0 then none else none) :: outR n (fun j => w (j + 1)) ts) (y :: σ1) fp'
      rw [ite_self]
      exact ⟨y, σ1, rfl, k2⟩
  | n + 1, w, some o :: ts, _, σ0, _, s, h, hn, hl => by
    obtain ⟨v, σr, f1, f2, e, ef, r, t⟩ := s
    subst e ef
    cases σ0 with
    | nil => simp at hn
    | cons y σ1 =>
      obtain ⟨fp', k1, k2⟩ := outR_ok (n := n) (w := fun j => w (j + 1)) (σ0 := σ1) t (fun j hj hw => by simpa using h (j + 1) (by omega) hw) (by simpa using hn) (by simpa using hl)
      show ∃ fp', _ ∧ SL G F H ((if w 0 then none else some o) :: outR n (fun j => w (j + 1)) ts) (y :: σ1) fp'
      cases hw : w 0 with
      | true => exact ⟨fp', k1.trans (List.sublist_append_right f1 f2), y, σ1, rfl, k2⟩
      | false =>
        have z := h 0 (by omega) hw
        have z : some (some v) = some y := by simpa using z
        cases Option.some.inj z
        exact ⟨f1 ++ fp', List.Sublist.append (List.Sublist.refl _) k1, v, σ1, f1, fp', rfl, rfl, r, k2⟩
theorem kwtrip : ∀ (kws : List (Str × FV)) (l : List T3), l.map (·.1) = kws.map (·.2) → ∃ lw : List (Str × T3), lw.map (mk2 (·.1)) = kws ∧ lw.map (·.1) = kws.map (·.1) ∧ lw.map (·.2) = l
  | [], l, h => by
    have e : l = [] := by simpa using h
    subst e
    exact ⟨[], rfl, rfl, rfl⟩
  | (n, x) :: kws, [], h => by cases h
  | (n, x) :: kws, t :: l, h => by
    rw [List.map_cons, List.map_cons] at h
    injection h with h1 h2
    obtain ⟨lw, e1, e2, e3⟩ := kwtrip kws l h2
    have h1 : t.1 = x := h1
    exact ⟨(n, t) :: lw, by rw [List.map_cons, e1, mk2, h1], by simp [e2], by simp [e3]⟩
theorem cal_of {I : FnI} {wr : Nat → Bool} {m : TM Fl} {k : Nat} (FF : FnF G I) (hb : ∀ X, GoodF G P w mg base k I.ns I.scope.names X → SndS G X I.body m wr) : CalT G P w mg base (k + 1) I.g.ps.length I.f (fnrun I wr m) := by
  intro A outer s H F cs vs us fpc kws zs ws hr hgd e0 sub rc nd off rv rk rz Q E q
  obtain ⟨oc, od, dV, kV, doc, pm, an, cdv, ct, osl, lk, hcd, ⟨dvs, hD, rD⟩, hK⟩ := FF.ex
  have KX : G.K.In s.heap := e0.mod.kin.keeps fun b o e => (e0.bs b o e).1
  unfold fnrun at q
  cases hbf : bnd I.g I.dfs I.kds (OV.fzs cs) kws with
  | none => rw [hbf] at q; exact q.elim
  | some pr =>
    obtain ⟨vsF, rest, ex⟩ := pr
    rw [hbf] at q
    dsimp only at q
    by_cases cz : rest.length ≤ szl ∧ ex.length ≤ szl ∧ (ex.all (fun p => sok p.1) && nodupB (ex.map (·.1))) = true
    · rw [if_pos cz] at q
      obtain ⟨cz1, cz2, cz3⟩ := cz
      obtain ⟨cz3, cz4⟩ := Bool.and_eq_true_iff.mp cz3
      -- defaults as values
      have dits : ∃ its : List Value, Vals dvs its ∧ ((dV = .none ∧ its = []) ∨ ∃ T o n, dV = .ref T ∧ s.heap.get? T = some o ∧ o.data = .seq its.toArray n) := by
        rcases hD with ⟨e1, e2⟩ | ⟨_, T, o, its, n, e1, e2, e3, e4⟩
        · subst e1; exact ⟨[], .nil, .inl ⟨e2, rfl⟩⟩
        · exact ⟨its, e4, .inr ⟨T, o, n, e1, KX _ _ e2, e3⟩⟩
      obtain ⟨its, rits, hits⟩ := dits
      obtain ⟨lc, c1, c2, c3, c4⟩ := trip (R := H) (show RFs G H (OV.fzs cs) vs from ROs.freeze sub cs vs fpc (fun _ _ => rfl) rc) rv
      obtain ⟨ld, d1, d2, d3, d4⟩ := trip (rD F) rits
      obtain ⟨lk', k1, k2, k3, k4⟩ := trip rk rz
      have lks := kwtrip kws lk' k1
      obtain ⟨lw, w1, w2, w3⟩ := lks
      have kdl : ∃ lq : List (Str × T3), lq.map (mk2 (·.1)) = I.kds ∧ (∀ p ∈ lq, (RF G F p.2.1 p.2.2.1 ∧ RelV p.2.2.1 p.2.2.2) ∧ ∃ D, kV = .ref D ∧ PySem.W.nsIn G.K D p.1 = some (some p.2.2.2)) := by
        have hK' := hK
        generalize I.kds = kl at hK'
        clear hbf
        induction kl with
        | nil => exact ⟨[], rfl, by simp⟩
        | cons p l ih =>
          obtain ⟨lq, q1, q2⟩ := ih fun p hp => hK' p (List.mem_cons_of_mem _ hp)
          obtain ⟨D, u, v, e1, e2, e3, e4⟩ := hK' p List.mem_cons_self
          refine ⟨(p.1, (p.2, v, u)) :: lq, by simp [q1, mk2], fun q hq => ?_⟩
          rcases List.mem_cons.mp hq with z | z
          · rw [z]; exact ⟨⟨e4 F, e3⟩, D, e1, e2⟩
          · exact q2 q z
      obtain ⟨lq, q1, q2⟩ := kdl
      -- one binding of all three
      have b1 := bnd_mk (fun t : T3 => t.1) I.g ld lc lq lw
      rw [d1, c1, q1, w1, hbf] at b1
      cases hbt : bnd I.g ld lq lc lw with
      | none => rw [hbt] at b1; cases b1
      | some tr =>
        obtain ⟨tv, tr, te⟩ := tr
        rw [hbt] at b1
        have b1' := Option.some.inj b1
        injection b1' with f1 b2'
        injection b2' with f2 f3
        have b3 := bnd_mk (fun t : T3 => t.2.2) I.g ld lc lq lw
        rw [hbt, c3, d3] at b3
        obtain ⟨pv, g1, g2, g3, g4, g5, g6⟩ := bnd_all (P := fun t : T3 => RF G F t.1 t.2.1 ∧ RelV t.2.1 t.2.2) FF.nd hbt d4 (fun p hp => (q2 p hp).1) (fun p hp => k4 _ (by rw [← w3]; exact List.mem_map_of_mem hp))
        -- the rest is frozen
        obtain ⟨p1, p2, ep, r1, r2⟩ := rc.split (n := I.g.ps.length)
        subst ep
        obtain ⟨n1, n2, n3⟩ := List.nodup_append.mp nd
        have off2 : ∀ a ∈ p2, F a = none := fun a m => off a (List.mem_append_right _ m)
        have sF : SubH F (frzH F H p2) := frzH_sub off2
        have sub1 : SubH (frzH F H p2) H := sub_frzH sub
        have rrest : RFs G (frzH F H p2) rest (tr.map (·.2.1)) := by
          have z := ROs.freeze sF _ _ _ (fun a m => frzH_in m) r2
          rw [fzs_map, List.map_drop, ← fzs_map, ← c1, ← c2] at z
          rw [f2, g2, List.map_drop, List.map_drop]
          exact z
        have vrest : Vals (tr.map (·.2.1)) (tr.map (·.2.2)) := by
          refine (rfs_of (G := G) (R := H) fun t ht => c4 t ?_).2
          rw [g2] at ht
          exact List.mem_of_mem_drop ht
        have tmem : ∀ t ∈ te, t ∈ lw := g4
        have exr : RFs G (frzH F H p2) (ex.map (·.2)) (te.map (·.2.2.1)) ∧ Vals (te.map (·.2.2.1)) (te.map (·.2.2.2)) := by
          have z := rfs_of (G := G) (R := frzH F H p2) (l := te.map (·.2)) fun t ht => by
            obtain ⟨p, hp, e⟩ := List.mem_map.mp ht
            subst e
            have y := k4 p.2 (by rw [← w3]; exact List.mem_map_of_mem (tmem p hp))
            exact ⟨RF.mono sF _ _ y.1, y.2⟩
          rw [List.map_map, List.map_map, List.map_map] at z
          rw [f3, List.map_map]
          exact z
        have vtv : Vals (tv.map (·.2.1)) (tv.map (·.2.2)) := by
          rw [g1, List.map_append, List.map_append]
          exact paired_app (rfs_of (G := G) (R := H) fun t ht => c4 t (List.mem_of_mem_take ht)).2 (rfs_of (G := G) (R := F) g3).2
        have rc0 := rc
        have exn : (te.map (mk2 (fun t : T3 => t.2.2))).map (·.1) = ex.map (·.1) := by
          rw [f3, List.map_map, List.map_map]
          rfl
        have zl : ∀ {α β : Type} (h : α → β) (l : List (Str × α)), (l.map (mk2 h)).map (·.2) = l.map fun p => h p.2 := fun h l => by rw [List.map_map]; rfl
        refine StX.run_bnd (ps := I.g.names) (G := fun vs' H2 => ∃ F2 tvV, vs' = tv.map (·.2.1) ++ tvV ∧ SubH (frzH F H p2) F2 ∧ SubH F2 H2 ∧ Ex H H2 (frzH F H p2) F2 [] [] ∧ (∀ a, H a ≠ none → H2 a = H a) ∧ RFs G F2 (tailF I.g rest ex) tvV) lk hcd FF.S hr e0 (fun A' Ex Q' hh => ?_) fun s2 H2 vs' hG hr' => ?_
        · have kwz : (kws.map (·.1)).zip ws = lw.map (mk2 (fun t : T3 => t.2.2)) := by
            have y3 : ws = (lw.map (mk2 (fun t : T3 => t.2.2))).map (·.2) := by
              rw [zl, ← k3, ← w3, List.map_map]; rfl
            have y1 : kws.map (·.1) = (lw.map (mk2 (fun t : T3 => t.2.2))).map (·.1) := by
              rw [← w2, List.map_map]; rfl
            rw [y1, y3]
            generalize lw.map (mk2 (fun t : T3 => t.2.2)) = l
            induction l with
            | nil => rfl
            | cons a l ih => simp [ih]
          rw [kwz]
          refine bind_ok (its := its) (kds := lq.map (mk2 (fun t : T3 => t.2.2))) (g := I.g) FF.po FF.ps FF.ko FF.va FF.kw hits (fun n v hl => ?_) (List.nodup_append.mp FF.nd).1 b3 ?_ ?_ ?_ fun tvl s2 be => ?_
          · have hm := mem_of_lookup' hl
            obtain ⟨p, hp, e⟩ := List.mem_map.mp hm
            obtain ⟨_, D, e1, e2⟩ := q2 p hp
            injection e with e3 e4
            subst e3 e4
            exact ⟨D, e1, PySem.W.looks_nsIn KX e2⟩
          · rw [List.length_map]
            have : tr.length = rest.length := by rw [f2, List.length_map]
            rw [this]; exact cz1
          · rw [List.length_map]
            have : te.length = ex.length := by rw [f3, List.length_map]
            rw [this]; exact cz2
          · rw [exn]; exact nodupB_ok cz4
          · obtain ⟨tvV, H2, F2, m1, m2, m3, m4, m5, m6, m7, m8, m9, m10⟩ := bnd_end e0 sub1 rrest vrest exr.1 (by rw [zl]; exact exr.2) exn (fun p hp => List.all_eq_true.mp cz3 p hp) (by
                rw [List.length_map]
                have : tr.length = rest.length := by rw [f2, List.length_map]
                rw [this]; exact cz1) (by
                rw [List.length_map]
                have : te.length = ex.length := by rw [f3, List.length_map]
                rw [this]; exact cz2) (by rw [exn]; exact nodupB_ok cz4) be
            refine hh s2 H2 (tv.map (·.2.1) ++ tvV) (tv.map (·.2.2) ++ tvl) m2 m3 m4 (fun e s' hc => StX.cxUp outer s H s2 H2 E e s' m3 m5 m4 hc) ?_ ?_ ⟨F2, tvV, rfl, m6, m7, m8, m9, m10⟩
            · exact paired_app vtv m1
            · rw [List.length_append, List.length_map, g6, m10.len.symm.symm]
              unfold tailF Sg.names
              cases I.g.va <;> cases I.g.kw <;> simp <;> omega
        · obtain ⟨F2, tvV, ev, sb2, sub2, ex2, keep2, rft⟩ := hG
          have tvl : (tv.map (·.2.1)).length = (I.g.ps ++ I.g.ko).length := by rw [List.length_map]; exact g6
          have vl : vs'.length = I.g.names.length := by
            rw [ev, List.length_append, tvl, rft.len]
            unfold tailF Sg.names
            cases I.g.va <;> cases I.g.kw <;> simp <;> omega
          have good : GoodF G P w mg base k I.ns I.scope.names (cxOf (CX P w) P w G.K mg base I.ns I.qual I.scope I.f cdv A outer s2 H2 E) :=
            ⟨⟨rfl, rfl, rfl, rfl, rfl, rfl, hr', by show (A.deeper _).guards = _; rw [guards_deeper]; exact hgd, rfl, FF.S.nd, FF.S.kind, fun x kd h => .inl h, fun x _ => .inl rfl⟩, passes_of rfl, rfl, rfl, rfl⟩
          have tk : Takes (cxOf (CX P w) P w G.K mg base I.ns I.qual I.scope I.f cdv A outer s2 H2 E) (fun cls d _ H => E cls d H) := takes_of (X := cxOf (CX P w) P w G.K mg base I.ns I.qual I.scope I.f cdv A outer s2 H2 E) rfl rfl rfl rfl
          refine ⟨SS (cxOf (CX P w) P w G.K mg base I.ns I.qual I.scope I.f cdv A outer s2 H2 E) I.body, pss_SS, ?_⟩
          have csl : vs.length = cs.length := rc0.len
          have e1 : tv.map (·.2.1) = vs.take I.g.ps.length ++ pv.map (·.2.1) := by rw [g1, List.map_append, List.map_take, c2]
          have e2 : vsF.drop (min cs.length I.g.ps.length) = pv.map (·.1) := by
            rw [f1, g1, List.map_append, List.map_take, c1]
            refine List.drop_left' ?_
            rw [List.length_take, fzs_length, Nat.min_comm]
          have live1 : ∀ a ∈ p1, H a ≠ none := fun a ha => ROs.live _ _ _ r1 a ha
          have offF2 : ∀ a ∈ p1, F2 a = none := fun a ha => ex2.still (live1 a ha) (by simp) (by
            rw [frzH_out fun z => n3 a ha a z rfl]
            exact off a (List.mem_append_left _ ha))
          have rpv : RFs G F2 (pv.map (·.1)) (pv.map (·.2.1)) := RFs.mono (sF.trans sb2) _ _ (rfs_of (G := G) (R := F) g3).1
          have sl2 : SL G F2 H2 (I.rows cs (pv.map (·.1)) rest ex) (L2.start I.ns vs') p1 := by
            unfold FnI.rows L2.start
            rw [vl, ev, e1]
            have z := ROs.app (ROs.frame (sF.trans sb2) _ _ p1 (fun a ha => keep2 a (live1 a ha)) r1) (ROs_frz (H := H2) (rpv.app rft))
            rw [List.append_nil] at z
            rw [List.append_assoc]
            exact SL_of_ROs z
          have S2 : Sim G F2 H2 (L2.start I.ns vs') (I.rows cs (pv.map (·.1)) rest ex) p1 := ⟨sub2, sl2, n1, offF2⟩
          have ex0 : Ex H H2 F F2 (p1 ++ p2) (p1 ++ []) := ⟨sF.trans sb2, fun a l _ _ => keep2 a l, fun a l => by rw [keep2 a l]; exact l, fun a m => .inl (by simp at m; simp [m]), fun a l => by
            rcases ex2.fro a l with z | z | z
            · by_cases mf : a ∈ p2
              · exact .inr (.inl (List.mem_append_right _ mf))
              · rw [frzH_out mf] at z; exact .inl z
            · cases z
            · exact .inr (.inr z)⟩
          have back : ∀ {R0 : Hp → List Addr → Prop} {H' F3 : Hp} {fp3 fo3 : List Addr} {σ' : L2.St} {s' : Slots}, Sim G F3 H' σ' s' fp3 → R0 F3 fo3 → (fp3 ++ fo3).Nodup → (∀ a ∈ fo3, F3 a = none) → Ex H2 H' F2 F3 p1 (fp3 ++ fo3) → Fix wr (L2.start I.ns vs') σ' →
              Aft G F H ((vs.take I.g.ps.length).map some) (p1 ++ p2) false (outR (min cs.length I.g.ps.length) wr s') H' fun F' _ fo => R0 F' fo := by
            intro R0 H' F3 fp3 fo3 σ' s' S3 r nd3 off3 ex3 fx
            have hnl : min cs.length I.g.ps.length ≤ σ'.length := by
              rw [fx.2, SL.len sl2]
              unfold FnI.rows
              simp only [List.length_append, List.length_map, List.length_take]
              omega
            have hag : ∀ j, j < min cs.length I.g.ps.length → wr j = false → σ'[j]? = ((vs.take I.g.ps.length).map some)[j]? := fun j hj hw => by
              rw [fx.1 j hw]
              unfold L2.start
              have hj2 : j < (vs.take I.g.ps.length).length := by rw [List.length_take, csl]; omega
              rw [ev, e1, List.append_assoc, List.map_append, List.append_assoc, List.getElem?_append_left (by rw [List.length_map]; exact hj2)]
            obtain ⟨fp4, sl4, s4⟩ := outR_ok (n := min cs.length I.g.ps.length) (w := wr) (σ0 := (vs.take I.g.ps.length).map some) S3.sl hag (by rw [List.length_map, List.length_take, csl]; omega) hnl
            have nd4 : (fp4 ++ fo3).Nodup := nd3.sublist (List.Sublist.append sl4 (List.Sublist.refl _))
            refine ⟨F3, fp4, fo3, ⟨S3.sub, s4, (List.nodup_append.mp nd4).1, fun a m => S3.off a (sl4.subset m)⟩, r, nd4, off3, (ex0.trans ex3).less fun a m => ?_, fun z => by cases z⟩
            rw [List.append_nil]
            rcases List.mem_append.mp m with z | z
            · exact List.mem_append_left _ (sl4.subset z)
            · exact List.mem_append_right _ z
          rw [e2] at q
          refine hb _ good (L2.start I.ns vs') H2 F2 _ p1 S2 _ tk _ ?_
          cases hm : m (I.rows cs (pv.map (·.1)) rest ex) with
          | bad => rw [hm] at q; exact q.elim
          | ok fl s' =>
            rw [hm] at q
            cases fl with
            | nx =>
              intro σ' H' a
              obtain ⟨⟨F3, fp3, fo3, S3, e3, nd3, off3, ex3, _⟩, fx⟩ := a
              subst e3
              exact q .non H' (back (R0 := fun F' fo => RO G F' H' (.frz .non) .non fo) S3 ⟨rfl, rfl⟩ nd3 off3 ex3 fx)
            | rt o =>
              intro σ' v H' a
              obtain ⟨⟨F3, fp3, fo3, S3, r, nd3, off3, ex3, _⟩, fx⟩ := a
              exact q v H' (back (R0 := fun F' fo => RO G F' H' o v fo) S3 r nd3 off3 ex3 fx)
          | exc x s' =>
            rw [hm] at q
            intro σ' cls d H' ax fx
            obtain ⟨F3, fp3, fo3, S3, rx, nd3, off3, ex3, _⟩ := ax
            exact q cls d H' (back (R0 := fun F' fo => fo = [] ∧ RX G F' x cls d) S3 rx nd3 off3 ex3 fx)
    · rw [if_neg cz] at q; exact q.elim
end
end Tv
end

section
/-! Lending to a call, and what comes back. -/
namespace Tv
open PySem L2
open PySem (Str Expr Stmt Scope)

def isAt (i : Nat) : Opd → Bool
  | .at j => i == j
  | _ => false
def once (i : Nat) (os : List Opd) : Bool := (os.filter (isAt i)).length == 1
/-- the contents of operands: lent, or frozen -/
def tlend (reb : Nat → Bool) (all : List Opd) : Nat → List Opd → TM (List OV)
  | _, [] => tp []
  | j, o :: os => tb (match o with
      | .at i => if reb j || !once i all then esc o else fun s => match slot s i with
        | some c => .ok c (s.set i none)
        | none => .bad
      | o => esc o) fun c => tb (tlend reb all (j + 1) os) fun cs => tp (c :: cs)
/-- what comes back -/
def tput : List Opd → Slots → Slots → Slots
  | .at i :: os, some c :: cs, s => tput os cs (if (slot s i).isNone && decide (i < s.length) then s.set i (some c) else s)
  | _ :: os, _ :: cs, s => tput os cs s
  | _, _, s => s
/-- f(.., k = ..) on operands: the last ones are the keywords' -/
def tcall (reb : Nat → Bool) (run : List OV → List (Str × FV) → Out OV) (names : List Str) (os : List Opd) : TM Opd :=
  tb (tlend (fun j => reb j || decide (os.length - names.length ≤ j)) os 0 os) fun all s =>
    match run (all.take (os.length - names.length)) (names.zip ((all.drop (os.length - names.length)).map OV.fz)) with
    | .ok r cs => .ok (.val r) (tput os cs s)
    | .exc x cs => .exc x (tput os cs s)
    | .bad => .bad

section
variable {G : Gs} {F H H' : Hp} {σ : St} {ts ts' : Slots} {fp : List Addr}
theorem OKs.stay {F' : Hp} (h : SubH F F') {p : Addr → Prop} : ∀ {os : List Opd} {vs : List V} {fo : List Addr}, OKs G F H σ p os vs fo → OKs G F' H σ p os vs fo
  | [], _, _, k => k
  | o :: os, _, _, ⟨v, vr, f1, f2, e1, e2, k, r⟩ => by
    refine ⟨v, vr, f1, f2, e1, e2, ?_, r.stay h⟩
    cases o with
    | val y => exact RO.frame h y v f1 (fun _ _ => rfl) k
    | «at» i => exact k
    | fld i f => exact k
/-- one operand's content -/
theorem esc_step {o : Opd} {v : V} {fo : List Addr} {ov : OV} {ts2 : Slots} (S : Sim G F H σ ts fp) (k : OK G F H σ (fun _ => True) o v fo) (nd : (fp ++ fo).Nodup) (off : ∀ a ∈ fo, F a = none) (e : esc o ts = .ok ov ts2) :
    ∃ F' fp' fo', Sim G F' H σ ts2 fp' ∧ RO G F' H ov v fo' ∧ (fp' ++ fo').Nodup ∧ (∀ a ∈ fo', F' a = none) ∧ Ex H H F F' (fp ++ fo) (fp' ++ fo') := by
  have ae : Aft G F H σ (fp ++ fo) true ts H fun F' _ fo' => OK G F' H σ (fun _ => True) o v fo' := ⟨F, fp, fo, S, k, nd, off, Ex.refl H F (fp ++ fo), fun _ _ _ => rfl⟩
  obtain ⟨F', fp', fo', S', r, nd', off', ex', _⟩ := esc_okW ae e
  exact ⟨F', fp', fo', S', r, nd', off', ex'⟩
theorem lend_ok {reb : Nat → Bool} {all : List Opd} {P : List OV → Slots → Prop} {E : XV → Slots → Prop} : ∀ {os : List Opd} {j : Nat} {F : Hp} {ts : Slots} {fp fo : List Addr} {vs : List V}, Sim G F H σ ts fp → OKs G F H σ (fun _ => True) os vs fo → (fp ++ fo).Nodup → (∀ a ∈ fo, F a = none) → OutP (tlend reb all j os ts) P E →
    ∃ F' ts' fp' fo' cs, Sim G F' H σ ts' fp' ∧ ROs G F' H cs vs fo' ∧ (fp' ++ fo').Nodup ∧ (∀ a ∈ fo', F' a = none) ∧ Ex H H F F' (fp ++ fo) (fp' ++ fo') ∧ P cs ts'
  | [], j, F, ts, fp, fo, vs, S, k, nd, off, q => by
    obtain ⟨e1, e2⟩ := k
    subst e1 e2
    exact ⟨F, ts, fp, [], [], S, ⟨rfl, rfl⟩, nd, off, Ex.refl H F (fp ++ []), q⟩
  | o :: os, j, F, ts, fp, fo, vs, S, k, nd, off, q => by
    obtain ⟨v, vr, f1, f2, e1, e2, k1, k2⟩ := k
    subst e1 e2
    unfold tlend at q
    have q := q.bind
    obtain ⟨n1, n2, n3⟩ := List.nodup_append.mp nd
    obtain ⟨n4, n5, n6⟩ := List.nodup_append.mp n2
    have nd1 : (fp ++ f1).Nodup := nd.sublist (List.Sublist.append (List.Sublist.refl _) (List.sublist_append_left f1 f2))
    have off1 : ∀ a ∈ f1, F a = none := fun a m => off a (List.mem_append_left _ m)
    -- behind the first
    have go : ∀ {F1 : Hp} {ts1 : Slots} {fp1 fo1 : List Addr} {c : OV}, Sim G F1 H σ ts1 fp1 → RO G F1 H c v fo1 → (fp1 ++ fo1).Nodup → (∀ a ∈ fo1, F1 a = none) → Ex H H F F1 (fp ++ f1) (fp1 ++ fo1) → OutP (tb (tlend reb all (j + 1) os) (fun cs => tp (c :: cs)) ts1) P E →
        ∃ F' ts' fp' fo' cs, Sim G F' H σ ts' fp' ∧ ROs G F' H cs (v :: vr) fo' ∧ (fp' ++ fo').Nodup ∧ (∀ a ∈ fo', F' a = none) ∧ Ex H H F F' (fp ++ (f1 ++ f2)) (fp' ++ fo') ∧ P cs ts' := by
      intro F1 ts1 fp1 fo1 c S1 r1 ndA offA ex1 q1
      have live2 : ∀ a ∈ f2, H a ≠ none := by
        have : ∀ {os : List Opd} {vs : List V} {fo : List Addr}, OKs G F H σ (fun _ => True) os vs fo → ∀ a ∈ fo, H a ≠ none := by
          intro os
          induction os with
          | nil => intro vs fo k a m; rw [k.2] at m; cases m
          | cons o os ih =>
            intro vs fo k a m
            obtain ⟨v, vr, g1, g2, e1, e2, k1, k2⟩ := k
            subst e2
            rcases List.mem_append.mp m with z | z
            · exact OK.live k1 a z
            · exact ih k2 a z
        exact this k2
      have d2 : ∀ a ∈ f2, a ∉ fp ++ f1 := fun a m z => by
        rcases List.mem_append.mp z with z | z
        · exact n3 a z a (List.mem_append_right _ m) rfl
        · exact n6 a z a m rfl
      have ap2 : ∀ a ∈ f2, a ∉ fp1 ++ fo1 := fun a m z => by
        rcases ex1.new a z with q | q
        · exact d2 a m q
        · exact live2 a m q
      have of2 : ∀ a ∈ f2, F1 a = none := fun a m => ex1.still (live2 a m) (d2 a m) (off a (List.mem_append_right _ m))
      have ndB : (fp1 ++ f2).Nodup := List.nodup_append.mpr ⟨S1.nd, n5, fun a m b m' e => ap2 b m' (by rw [← e]; exact List.mem_append_left _ m)⟩
      obtain ⟨F', ts', fp', fo', cs, S', rs, nd', off', ex', p'⟩ := lend_ok (P := fun cs s => P (c :: cs) s) S1 (k2.stay ex1.sub) ndB of2 (q1.bind.mono (fun _ _ q => q) fun _ _ q => q)
      obtain ⟨m1, m2, m3⟩ := List.nodup_append.mp ndA
      have dA : ∀ a ∈ fo1, a ∉ fp1 ++ f2 := fun a m z => by
        rcases List.mem_append.mp z with z | z
        · exact m3 a z a m rfl
        · exact ap2 a z (List.mem_append_right _ m)
      obtain ⟨ap, offB⟩ := ex'.apart r1 dA offA
      refine ⟨F', ts', fp', fo1 ++ fo', c :: cs, S', ⟨v, vr, fo1, fo', rfl, rfl, ex'.stands r1 dA offA, rs⟩, ?_, fun a m => ?_, ?_, p'⟩
      · obtain ⟨l1, l2, l3⟩ := List.nodup_append.mp nd'
        refine List.nodup_append.mpr ⟨l1, List.nodup_append.mpr ⟨m2, l2, fun a m b m' e => ap a m (by rw [e]; exact List.mem_append_right _ m')⟩, fun a m b m' e => ?_⟩
        rcases List.mem_append.mp m' with z | z
        · exact ap b z (by rw [← e]; exact List.mem_append_left _ m)
        · exact l3 a m b z e
      · rcases List.mem_append.mp m with z | z
        · exact offB a z
        · exact off' a z
      · -- f2 stood by the first step, fo1 by the second
        refine ⟨ex1.sub.trans ex'.sub, fun _ _ _ _ => rfl, fun _ h => h, fun a m => ?_, fun a l => ?_⟩
        · simp only [List.mem_append] at m
          rcases m with z | z | z
          · rcases ex'.new a (List.mem_append_left _ z) with y | y
            · rcases List.mem_append.mp y with y | y
              · exact (ex1.new a (List.mem_append_left _ y)).imp (fun w => by simp only [List.mem_append] at w ⊢; rcases w with w | w <;> simp [w]) id
              · exact .inl (by simp [y])
            · exact .inr y
          · exact (ex1.new a (List.mem_append_right _ z)).imp (fun w => by simp only [List.mem_append] at w ⊢; rcases w with w | w <;> simp [w]) id
          · rcases ex'.new a (List.mem_append_right _ z) with y | y
            · rcases List.mem_append.mp y with y | y
              · exact (ex1.new a (List.mem_append_left _ y)).imp (fun w => by simp only [List.mem_append] at w ⊢; rcases w with w | w <;> simp [w]) id
              · exact .inl (by simp [y])
            · exact .inr y
        · rcases ex'.fro a l with z | z | z
          · exact (ex1.fro a z).imp id (Or.imp (fun w => by simp only [List.mem_append] at w ⊢; rcases w with w | w <;> simp [w]) id)
          · rcases List.mem_append.mp z with y | y
            · exact .inr ((ex1.new a (List.mem_append_left _ y)).imp (fun w => by simp only [List.mem_append] at w ⊢; rcases w with w | w <;> simp [w]) id)
            · exact .inr (.inl (by simp [y]))
          · exact .inr (.inr z)
    have byEsc : OutP (esc o ts) (fun c s => OutP (tb (tlend reb all (j + 1) os) (fun cs => tp (c :: cs)) s) P E) E → ∃ F' ts' fp' fo' cs, Sim G F' H σ ts' fp' ∧ ROs G F' H cs (v :: vr) fo' ∧ (fp' ++ fo').Nodup ∧ (∀ a ∈ fo', F' a = none) ∧ Ex H H F F' (fp ++ (f1 ++ f2)) (fp' ++ fo') ∧ P cs ts' := fun q => by
      cases e : esc o ts with
      | ok c ts1 =>
        rw [e] at q
        obtain ⟨F1, fp1, fo1, S1, r1, ndA, offA, ex1⟩ := esc_step S k1 nd1 off1 e
        exact go S1 r1 ndA offA ex1 q
      | exc x s => exact (esc_exc e).elim
      | bad => rw [e] at q; exact q.elim
    cases o with
    | val y => exact byEsc q
    | fld i f => exact byEsc q
    | «at» i =>
      by_cases z : (reb j || !once i all) = true
      · dsimp only at q
        rw [if_pos z] at q
        exact byEsc q
      · dsimp only at q
        rw [if_neg z] at q
        cases e : slot ts i with
        | none => rw [e] at q; exact q.elim
        | some c =>
          rw [e] at q
          have ae : AE G F H σ (fp ++ f1) true (.at i) ts v H := ⟨F, fp, f1, S, k1, nd1, off1, Ex.refl H F (fp ++ f1), fun _ _ _ => rfl⟩
          obtain ⟨F1, fp1, fo1, S1, r1, ndA, offA, ex1, _⟩ := aft_move ae e
          exact go S1 r1 ndA offA ex1 q
/-- what comes back, put in its rows -/
theorem put_ok : ∀ {os : List Opd} {vs : List V} {cs ts : Slots} {fp fc : List Addr}, (∀ (n : Nat) (i : Nat) (v : V), os[n]? = some (.at i) → vs[n]? = some v → σ[i]? = some (some v)) → SL G F H ts σ fp → SL G F H cs (vs.map some) fc → (fp ++ fc).Nodup →
    ∃ fp', SL G F H (tput os cs ts) σ fp' ∧ fp'.Nodup ∧ ∀ a ∈ fp', a ∈ fp ++ fc
  | [], vs, cs, ts, fp, fc, h, s, k, nd => ⟨fp, by cases cs <;> exact s, (List.nodup_append.mp nd).1, fun a m => List.mem_append_left _ m⟩
  | o :: os, vs, [], ts, fp, fc, h, s, k, nd => ⟨fp, by cases o <;> exact s, (List.nodup_append.mp nd).1, fun a m => List.mem_append_left _ m⟩
  | o :: os, [], c :: cs, ts, fp, fc, h, s, k, nd => by
    cases c with
    | none => obtain ⟨x, σr, e, _⟩ := k; cases e
    | some y => obtain ⟨v, σr, f1, f2, e, _⟩ := k; cases e
  | o :: os, v :: vs, none :: cs, ts, fp, fc, h, s, k, nd => by
    obtain ⟨x, σr, e, k⟩ := k
    rw [List.map_cons] at e
    injection e with e1 e2
    subst e2
    have ih := put_ok (os := os) (fun n i v h1 h2 => h (n + 1) i v (by simpa using h1) (by simpa using h2)) s k nd
    cases o <;> exact ih
  | o :: os, v :: vs, some y :: cs, ts, fp, fc, h, s, k, nd => by
    obtain ⟨v', σr, f1, f2, e, ef, r, k⟩ := k
    rw [List.map_cons] at e
    injection e with e1 e2
    subst e2 ef
    have ev : v = v' := Option.some.inj e1
    subst ev
    have hh : ∀ (n i : Nat) (v : V), os[n]? = some (.at i) → vs[n]? = some v → σ[i]? = some (some v) := fun n i v h1 h2 => h (n + 1) i v (by simpa using h1) (by simpa using h2)
    obtain ⟨n1, n2, n3⟩ := List.nodup_append.mp nd
    obtain ⟨n4, n5, n6⟩ := List.nodup_append.mp n2
    have skip : ∃ fp', SL G F H (tput os cs ts) σ fp' ∧ fp'.Nodup ∧ ∀ a ∈ fp', a ∈ fp ++ (f1 ++ f2) := by
      obtain ⟨fp', a1, a2, a3⟩ := put_ok hh s k (nd.sublist (List.Sublist.append (List.Sublist.refl _) (List.sublist_append_right f1 f2)))
      exact ⟨fp', a1, a2, fun a m => by have := a3 a m; simp only [List.mem_append] at this ⊢; rcases this with z | z <;> simp [z]⟩
    cases o with
    | val w => exact skip
    | fld i f => exact skip
    | «at» i =>
      show ∃ fp', SL G F H (tput os cs (if (slot ts i).isNone && decide (i < ts.length) then ts.set i (some y) else ts)) σ fp' ∧ _
      by_cases z : ((slot ts i).isNone && decide (i < ts.length)) = true
      · rw [if_pos z]
        have hi : i < ts.length := of_decide_eq_true (Bool.and_eq_true_iff.mp z).2
        obtain ⟨l, rr, h1, h2, h3⟩ := SL.put r s hi
        rw [set_self (h 0 i v rfl rfl)] at h3
        have n7 := h2 n1
        have nd2 : ((l ++ (f1 ++ rr)) ++ f2).Nodup := by
          obtain ⟨a1, a2, a3⟩ := List.nodup_append.mp n7
          refine List.nodup_append.mpr ⟨List.nodup_append.mpr ⟨a1, List.nodup_append.mpr ⟨n4, a2, fun a m b m' e => n3 b (h1 b (List.mem_append_right _ m')) a (List.mem_append_left _ m) e.symm⟩, fun a m b m' e => ?_⟩, n5, fun a m b m' e => ?_⟩
          · rcases List.mem_append.mp m' with y | y
            · exact n3 a (h1 a (List.mem_append_left _ m)) b (List.mem_append_left _ y) e
            · exact a3 a m b y e
          · simp only [List.mem_append] at m
            rcases m with y | y | y
            · exact n3 a (h1 a (List.mem_append_left _ y)) b (List.mem_append_right _ m') e
            · exact n6 a y b m' e
            · exact n3 a (h1 a (List.mem_append_right _ y)) b (List.mem_append_right _ m') e
        obtain ⟨fp', a1, a2, a3⟩ := put_ok hh h3 k nd2
        refine ⟨fp', a1, a2, fun a m => ?_⟩
        have := a3 a m
        simp only [List.mem_append] at this ⊢
        rcases this with (y | y | y) | y
        · exact .inl (h1 a (List.mem_append_left _ y))
        · exact .inr (.inl y)
        · exact .inl (h1 a (List.mem_append_right _ y))
        · exact .inr (.inr y)
      · rw [if_neg z]
        exact skip
theorem zip_fst_zip {α β γ : Type} : ∀ (ns : List α) (l : List β) (ws : List γ), ws.length = l.length → ((ns.zip l).map (·.1)).zip ws = ns.zip ws
  | [], _, _, _ => by simp
  | _ :: _, [], ws, h => by
    have : ws = [] := List.eq_nil_of_length_eq_zero (by simpa using h)
    subst this
    simp
  | n :: ns, x :: l, [], h => by simp at h
  | n :: ns, x :: l, w :: ws, h => by
    show (n, w) :: ((ns.zip l).map (·.1)).zip ws = (n, w) :: ns.zip ws
    rw [zip_fst_zip ns l ws (by simpa using h)]
theorem zip_snd {α β : Type} : ∀ (ns : List α) (l : List β), l.length ≤ ns.length → (ns.zip l).map (·.2) = l
  | _, [], _ => by simp
  | [], _ :: _, h => by simp at h
  | n :: ns, x :: l, h => by
    show x :: (ns.zip l).map (·.2) = x :: l
    rw [zip_snd ns l (by simpa using h)]
theorem OKs.len {p : Addr → Prop} : ∀ {os : List Opd} {vs : List V} {fo : List Addr}, OKs G F H σ p os vs fo → vs.length = os.length
  | [], _, _, k => by rw [k.1]; rfl
  | o :: os, _, _, ⟨v, vr, f1, f2, e1, e2, k, r⟩ => by rw [e1, List.length_cons, List.length_cons, r.len]
theorem OKs.at {p : Addr → Prop} : ∀ {os : List Opd} {vs : List V} {fo : List Addr} {n i : Nat} {v : V}, OKs G F H σ p os vs fo → os[n]? = some (.at i) → vs[n]? = some v → σ[i]? = some (some v)
  | [], _, _, n, i, v, k, h, _ => by simp at h
  | o :: os, _, _, 0, i, v, ⟨w, vr, f1, f2, e1, e2, k, r⟩, h, h2 => by
    subst e1
    have h : o = .at i := by simpa using h
    have h2 : w = v := by simpa using h2
    subst h h2
    exact k.2
  | o :: os, _, _, n + 1, i, v, ⟨w, vr, f1, f2, e1, e2, k, r⟩, h, h2 => by
    subst e1
    exact OKs.at (n := n) r (by simpa using h) (by simpa using h2)
end
/-- the call of f; the last ones are the keywords' -/
def actk (f : Value) (names : List Str) : List Value → Sem Value := fun us => call f (us.take (us.length - names.length)) (names.zip (us.drop (us.length - names.length)))
section
variable {G : Gs} {X : Cx} {P : Program} {w : World} {mg : Str → Option Value} {base : Heap} {F H H' : Hp} {σ : St} {ts ts' : Slots} {fp : List Addr}
theorem Paired.cut {α β : Type} {R : α → β → Prop} (n : Nat) : ∀ {xs : List α} {ys : List β}, Paired R xs ys → Paired R (xs.take n) (ys.take n) ∧ Paired R (xs.drop n) (ys.drop n) := by
  intro xs ys p
  induction p generalizing n with
  | nil => simp only [List.take_nil, List.drop_nil]; exact ⟨.nil, .nil⟩
  | cons a r ih =>
    cases n with
    | zero => exact ⟨.nil, .cons a r⟩
    | succ n =>
      obtain ⟨i1, i2⟩ := ih n
      exact ⟨.cons a i1, i2⟩
theorem lend_back {R0 : Hp → List Addr → Prop} {F1 : Hp} {fo fp1 p1 p2 : List Addr} {ts1 cs' : Slots} {os : List Opd} {vsx : List V} (S1 : Sim G F1 H σ ts1 fp1) (nd1 : (fp1 ++ (p1 ++ p2)).Nodup) (offp2 : ∀ a ∈ p2, F1 a = none) (ex1 : Ex H H F F1 (fp ++ fo) (fp1 ++ (p1 ++ p2)))
    (hat : ∀ (n i : Nat) (v : V), os[n]? = some (.at i) → vsx[n]? = some v → σ[i]? = some (some v)) (af : Aft G (frzH F1 H p2) H (vsx.map some) p1 false cs' H' fun F' _ fo => R0 F' fo) : Aft G F H σ (fp ++ fo) false (tput os cs' ts1) H' fun F' _ fo => R0 F' fo := by
  have sF : SubH F1 (frzH F1 H p2) := frzH_sub offp2
  obtain ⟨n1, n2, n3⟩ := List.nodup_append.mp nd1
  have ex12 : Ex H H F (frzH F1 H p2) (fp ++ fo) (p1 ++ fp1) := ⟨ex1.sub.trans sF, fun _ _ _ _ => rfl, fun _ h => h, fun a m => ex1.new a (by simp only [List.mem_append] at m ⊢; rcases m with z | z <;> simp [z]), fun a l => by
    by_cases mf : a ∈ p2
    · rcases ex1.new a (by simp [mf]) with z | z
      · exact .inr (.inl z)
      · exact .inr (.inr z)
    · rw [frzH_out mf] at l; exact ex1.fro a l⟩
  obtain ⟨F3, fpc3, fo3, S3, r3, nd3, off3, ex3, _⟩ := af
  have live1 : ∀ a ∈ fp1, H a ≠ none := fun a m => SL.live S1.sl a m
  have np1 : ∀ a ∈ fp1, a ∉ p1 := fun a m z => n3 a m a (List.mem_append_left _ z) rfl
  have offp1 : ∀ a ∈ fp1, frzH F1 H p2 a = none := fun a m => by
    rw [frzH_out fun z => n3 a m a (List.mem_append_right _ z) rfl]
    exact S1.off a m
  have s1 : SL G F3 H' ts1 σ fp1 := SL.frame (sF.trans ex3.sub) (fun a m => ex3.keep a (live1 a m) (np1 a m) (offp1 a m)) S1.sl
  have apart : ∀ a ∈ fp1, a ∉ fpc3 ++ fo3 := fun a m z => by
    rcases ex3.new a z with y | y
    · exact np1 a m y
    · exact live1 a m y
  obtain ⟨l1, l2, l3⟩ := List.nodup_append.mp nd3
  have ndA : (fp1 ++ fpc3).Nodup := List.nodup_append.mpr ⟨S1.nd, l1, fun a m b m' e => apart a m (by rw [e]; exact List.mem_append_left _ m')⟩
  obtain ⟨fp4, s4, nd4, mem4⟩ := put_ok (os := os) hat s1 S3.sl ndA
  refine ⟨F3, fp4, fo3, ⟨S3.sub, s4, nd4, fun a m => ?_⟩, r3, ?_, off3, (ex12.trans ex3).less fun a m => ?_, fun z => by cases z⟩
  · rcases List.mem_append.mp (mem4 a m) with z | z
    · exact ex3.still (live1 a z) (np1 a z) (offp1 a z)
    · exact S3.off a z
  · refine List.nodup_append.mpr ⟨nd4, l2, fun a m b m' e => ?_⟩
    rcases List.mem_append.mp (mem4 a m) with z | z
    · exact apart a z (by rw [e]; exact List.mem_append_right _ m')
    · exact l3 a z b m' e
  · rcases List.mem_append.mp m with z | z
    · rcases List.mem_append.mp (mem4 a z) with y | y <;> simp [y]
    · simp [z]
theorem take_at {os : List Opd} {vs : List V} {n np : Nat} {p : Addr → Prop} {fo : List Addr} (oks : OKs G F H σ p os vs fo) : ∀ (k i : Nat) (v : V), os[k]? = some (.at i) → ((vs.take n).take np)[k]? = some v → σ[i]? = some (some v) := fun k i v h1 h2 => oks.at h1 (by
  rw [List.take_take, List.getElem?_take] at h2
  split at h2
  · exact h2
  · cases h2)
theorem stp_call {k np : Nat} {f : Addr} {run : List OV → List (Str × FV) → Out OV} {names : List Str} {reb : Nat → Bool} {nsx : List Str} {sn : List (Str × NameKind)} (Gd : GoodC G P w mg base k nsx sn X) (C : CalT G P w mg base k np f run) : Stp G X (actk (.ref f) names) (tcall reb run names) false := by
  intro σ H F ts fp fo os vs S oks nd off W tk Q q pn s us I rv
  unfold tcall at q
  obtain ⟨F1, ts1, fp1, fo1, cs, S1, rs, nd1, off1, ex1, q⟩ := lend_ok S oks nd off q.bind
  have lv : vs.length = os.length := oks.len
  have lu : us.length = os.length := by rw [← rv.length]; exact lv
  have lc : cs.length = os.length := by rw [← rs.len]; exact lv
  obtain ⟨p1, p2, ep, r1, r2⟩ := rs.split (n := os.length - names.length)
  subst ep
  have offp2 : ∀ a ∈ p2, F1 a = none := fun a m => off1 a (List.mem_append_right _ m)
  have sF : SubH F1 (frzH F1 H p2) := frzH_sub offp2
  obtain ⟨n1, n2, n3⟩ := List.nodup_append.mp nd1
  obtain ⟨n4, n5, n6⟩ := List.nodup_append.mp n2
  have rk : RFs G (frzH F1 H p2) ((cs.drop (os.length - names.length)).map OV.fz) (vs.drop (os.length - names.length)) := by
    rw [← fzs_map]
    exact ROs.freeze sF _ _ _ (fun a m => frzH_in m) r2
  have kl : ((cs.drop (os.length - names.length)).map OV.fz).length ≤ names.length := by
    rw [List.length_map, List.length_drop, lc]; omega
  have r1' : ROs G (frzH F1 H p2) H (cs.take (os.length - names.length)) (vs.take (os.length - names.length)) p1 := ROs.frame sF _ _ _ (fun _ _ => rfl) r1
  have off1' : ∀ a ∈ p1, frzH F1 H p2 a = none := fun a m => by
    rw [frzH_out fun z => n6 a m a z rfl]
    exact off1 a (List.mem_append_left _ m)
  obtain ⟨rv1, rv2⟩ := Paired.cut (os.length - names.length) rv
  have back : ∀ {R0 : Hp → List Addr → Prop} {H' : Hp} {cs' : Slots}, (Aft G (frzH F1 H p2) H (((vs.take (os.length - names.length)).take np).map some) p1 false cs' H' fun F' _ fo => R0 F' fo) → Aft G F H σ (fp ++ fo) false (tput os cs' ts1) H' fun F' _ fo => R0 F' fo := fun af => lend_back S1 nd1 offp2 ex1 (take_at oks) af
  have hrun := C X.A X.stack s H (frzH F1 H p2) (cs.take (os.length - names.length)) (vs.take (os.length - names.length)) (us.take (os.length - names.length)) p1 (names.zip ((cs.drop (os.length - names.length)).map OV.fz)) (vs.drop (os.length - names.length)) (us.drop (os.length - names.length))
    Gd.room Gd.gd (by have e := I.env0; rw [Gd.prog, Gd.w, Gd.K, Gd.mg, Gd.base] at e; exact e) (sub_frzH S1.sub) r1' n4 off1' rv1 (by rw [zip_snd _ _ kl]; exact rk) rv2 Q (fun cls d H' => W cls d σ H') ?_
  · show wpAny _ _ (call (.ref f) (us.take (us.length - names.length)) (names.zip (us.drop (us.length - names.length)))) _ _ s
    rw [zip_fst_zip _ _ _ (by rw [List.length_map, List.length_drop, List.length_drop, lu, lc])] at hrun
    rw [lu]
    refine wpAny_call ?_
    have hrun' : codeAny (model X.prog X.w) X.A (.call (.ref f) ⟨us.take (os.length - names.length), names.zip (us.drop (os.length - names.length))⟩) (CR (CX X.prog X.w) X.stack X.prog X.w H s Q fun cls d H' => W cls d σ H') s := by
      rw [Gd.prog, Gd.w]; exact hrun
    refine codeAny_mono hrun' fun r s' hq => ?_
    cases r with
    | error e => exact tk e s' (XE.of_call I (fun cls d H' h => h) hq)
    | ok fl =>
      cases fl with
      | ret u => exact I.after hq
      | next => exact False.elim hq
      | brk => exact False.elim hq
      | cont => exact False.elim hq
  · cases e : run (cs.take (os.length - names.length)) (names.zip ((cs.drop (os.length - names.length)).map OV.fz)) with
    | bad => rw [e] at q; exact q.elim
    | ok r cs' =>
      rw [e] at q
      intro v H' af
      exact q v H' (back (R0 := fun F' fo => RO G F' H' r v fo) af)
    | exc x cs' =>
      rw [e] at q
      intro cls d H' ax
      exact q cls d H' (back (R0 := fun F' fo => fo = [] ∧ RX G F' x cls d) ax)
/-- C(.., k = ..) on operands -/
def tmake (c : Nat) (reb : Nat → Bool) (run : List OV → List (Str × FV) → Out OV) (names : List Str) (os : List Opd) : TM Opd :=
  tb (tlend (fun j => reb (j + 1) || decide (os.length - names.length ≤ j)) os 0 os) fun all s =>
    match run (.obj c [] [] :: all.take (os.length - names.length)) (names.zip ((all.drop (os.length - names.length)).map OV.fz)) with
    | .ok (.frz .non) (some o :: cs) => .ok (.val o) (tput os cs s)
    | .exc x (_ :: cs) => .exc x (tput os cs s)
    | _ => .bad
theorem guards_make {A : Around} {C : Addr} {us : List Value} {kw : List (Str × Value)} : (A.under (.builtin "type.__call__" ⟨.ref C :: us, kw⟩)).guards = A.guards := by
  first | rfl | simp [Around.under, Code.isGuard, guardIds]
theorem ex_made {x dx C : Addr} (sub : SubH F H) (hx : H x = none) (hd : H dx = none) (ne : dx ≠ x) {p1 : List Addr} : SubH F (upd (upd H dx (.own x)) x (.ins C dx [])) ∧ Ex H (upd (upd H dx (.own x)) x (.ins C dx [])) F F p1 (x :: p1) ∧ (∀ a, H a ≠ none → upd (upd H dx (.own x)) x (.ins C dx []) a = H a) := by
  have kp : ∀ a, H a ≠ none → upd (upd H dx (.own x)) x (.ins C dx []) a = H a := fun a l => by
    rw [upd_ne fun z => l (by rw [z]; exact hx), upd_ne fun z => l (by rw [z]; exact hd)]
  refine ⟨fun a u e => ?_, ⟨SubH.refl F, fun a l _ _ => kp a l, fun a l => by rw [kp a l]; exact l, fun a m => ?_, fun a l => .inl l⟩, kp⟩
  · obtain ⟨u', e', l⟩ := sub a u e
    exact ⟨u', by rw [kp a (by rw [e']; simp)]; exact e', l⟩
  · rcases List.mem_cons.mp m with z | z
    · exact .inr (by rw [z]; exact hx)
    · exact .inl z
theorem stp_make {k np : Nat} {c : Nat} {f : Addr} {run : List OV → List (Str × FV) → Out OV} {names : List Str} {reb : Nat → Bool} {nsx : List Str} {sn : List (Str × NameKind)} (Gd : GoodC G P w mg base (k + 1) nsx sn X) (M : Mk X.K (G.cad c) f) (C : CalT G P w mg base k (np + 1) f run) :
    Stp G X (actk (.ref (G.cad c)) names) (tmake c reb run names) false := by
  intro σ H F ts fp fo os vs S oks nd off W tk Q q pn s us I rv
  unfold tmake at q
  obtain ⟨F1, ts1, fp1, fo1, cs, S1, rs, nd1, off1, ex1, q⟩ := lend_ok S oks nd off q.bind
  have lv : vs.length = os.length := oks.len
  have lu : us.length = os.length := by rw [← rv.length]; exact lv
  have lc : cs.length = os.length := by rw [← rs.len]; exact lv
  obtain ⟨p1, p2, ep, r1, r2⟩ := rs.split (n := os.length - names.length)
  subst ep
  have offp2 : ∀ a ∈ p2, F1 a = none := fun a m => off1 a (List.mem_append_right _ m)
  have sF : SubH F1 (frzH F1 H p2) := frzH_sub offp2
  obtain ⟨n1, n2, n3⟩ := List.nodup_append.mp nd1
  obtain ⟨n4, n5, n6⟩ := List.nodup_append.mp n2
  -- the new instance
  have hx : H (s.heap.objs.size + 1) = none := I.hok.fresh (Nat.le_succ _)
  have hd : H s.heap.objs.size = none := I.hok.fresh (Nat.le_refl _)
  have ne : s.heap.objs.size ≠ s.heap.objs.size + 1 := Nat.ne_of_lt (Nat.lt_succ_self _)
  obtain ⟨subm, exm, kpm⟩ := ex_made (C := G.cad c) (sub_frzH S1.sub (f := p2)) hx hd ne (p1 := p1)
  have I2 := Inv.made (C := G.cad c) I
  have rk : RFs G (frzH F1 H p2) ((cs.drop (os.length - names.length)).map OV.fz) (vs.drop (os.length - names.length)) := by
    rw [← fzs_map]
    exact ROs.freeze sF _ _ _ (fun a m => frzH_in m) r2
  have kl : ((cs.drop (os.length - names.length)).map OV.fz).length ≤ names.length := by
    rw [List.length_map, List.length_drop, lc]; omega
  have live1 : ∀ a ∈ p1, H a ≠ none := fun a m => ROs.live _ _ _ r1 a m
  have r1' : ROs G (frzH F1 H p2) (upd (upd H s.heap.objs.size (.own (s.heap.objs.size + 1))) (s.heap.objs.size + 1) (.ins (G.cad c) s.heap.objs.size [])) (.obj c [] [] :: cs.take (os.length - names.length)) (.ref (s.heap.objs.size + 1) :: vs.take (os.length - names.length)) ((s.heap.objs.size + 1) :: p1) :=
    ⟨_, _, [s.heap.objs.size + 1], p1, rfl, rfl, ⟨_, _, [], [], rfl, rfl, upd_same, rfl, rfl, rfl⟩, ROs.frame sF _ _ _ (fun a m => kpm a (live1 a m)) r1⟩
  have offx : frzH F1 H p2 (s.heap.objs.size + 1) = none := (sub_frzH S1.sub).free hx
  have off1' : ∀ a ∈ (s.heap.objs.size + 1) :: p1, frzH F1 H p2 a = none := fun a m => by
    rcases List.mem_cons.mp m with z | z
    · rw [z]; exact offx
    · rw [frzH_out fun y => n6 a z a y rfl]
      exact off1 a (List.mem_append_left _ z)
  have ndx : ((s.heap.objs.size + 1) :: p1).Nodup := List.nodup_cons.mpr ⟨fun m => live1 _ m hx, n4⟩
  obtain ⟨rv1, rv2⟩ := Paired.cut (os.length - names.length) rv
  have hrun := C (X.A.under (.builtin "type.__call__" ⟨.ref (G.cad c) :: us.take (os.length - names.length), names.zip (us.drop (os.length - names.length))⟩)) X.stack { s with heap := (s.heap.push PySem.W.emptyDict).push (PySem.W.instObj (G.cad c) s.heap.objs.size) } (upd (upd H s.heap.objs.size (.own (s.heap.objs.size + 1))) (s.heap.objs.size + 1) (.ins (G.cad c) s.heap.objs.size [])) (frzH F1 H p2) (.obj c [] [] :: cs.take (os.length - names.length)) (.ref (s.heap.objs.size + 1) :: vs.take (os.length - names.length)) (.ref (s.heap.objs.size + 1) :: us.take (os.length - names.length)) ((s.heap.objs.size + 1) :: p1)
    (names.zip ((cs.drop (os.length - names.length)).map OV.fz)) (vs.drop (os.length - names.length)) (us.drop (os.length - names.length)) (Gd.room.make _ _ _) (by rw [guards_make]; exact Gd.gd)
    (by have e := I2.env0.make (G.cad c) (us.take (os.length - names.length)) (names.zip (us.drop (os.length - names.length))); rw [Gd.prog, Gd.w, Gd.K, Gd.mg, Gd.base] at e; exact e) subm r1' ndx off1' (.cons (show RelV (V.ref _) _ from rfl) rv1) (by rw [zip_snd _ _ kl]; exact rk) rv2 (fun v H' => v = .non ∧ Q (.ref (s.heap.objs.size + 1)) H') (fun cls d H' => W cls d σ H') ?_
  · show wpAny _ _ (call (.ref (G.cad c)) (us.take (us.length - names.length)) (names.zip (us.drop (us.length - names.length)))) _ _ s
    rw [zip_fst_zip _ _ _ (by rw [List.length_map, List.length_drop, List.length_drop, lu, lc])] at hrun
    rw [lu]
    have hrun' : codeAny (model X.prog X.w) (X.A.under (.builtin "type.__call__" ⟨.ref (G.cad c) :: us.take (os.length - names.length), names.zip (us.drop (os.length - names.length))⟩)) (.call (.ref f) ⟨.ref (s.heap.objs.size + 1) :: us.take (os.length - names.length), names.zip (us.drop (os.length - names.length))⟩) (CR (CX X.prog X.w) X.stack X.prog X.w (upd (upd H s.heap.objs.size (.own (s.heap.objs.size + 1))) (s.heap.objs.size + 1) (.ins (G.cad c) s.heap.objs.size [])) { s with heap := (s.heap.push PySem.W.emptyDict).push (PySem.W.instObj (G.cad c) s.heap.objs.size) } (fun v H' => v = .non ∧ Q (.ref (s.heap.objs.size + 1)) H') fun cls d H' => W cls d σ H') { s with heap := (s.heap.push PySem.W.emptyDict).push (PySem.W.instObj (G.cad c) s.heap.objs.size) } := by
      rw [Gd.prog, Gd.w]; exact hrun
    refine wpAny_call (make_map (f := f) I.kIn M.makes M.init (beq_iff_eq.mp M.fn) (codeAny_mono hrun' fun r s' hq => ?_))
    cases r with
    | error e => exact tk e s' (XE.of_call I2 (fun cls d H' h => h) hq)
    | ok fl =>
      cases fl with
      | ret u =>
        obtain ⟨v, H', I3, rv, ev, q3⟩ := I2.after hq
        subst ev
        exact ⟨rv, ⟨V.ref (s.heap.objs.size + 1), H', I3, rfl, q3⟩⟩
      | next => exact False.elim hq
      | brk => exact False.elim hq
      | cont => exact False.elim hq
  · -- what comes back
    have conv : ∀ {R0 : Hp → List Addr → Prop} {H' : Hp} {o : Option OV} {cs' : Slots} (R1 : Hp → List Addr → List Addr → Prop), (Aft G (frzH F1 H p2) (upd (upd H s.heap.objs.size (.own (s.heap.objs.size + 1))) (s.heap.objs.size + 1) (.ins (G.cad c) s.heap.objs.size [])) (((V.ref (s.heap.objs.size + 1) :: vs.take (os.length - names.length)).take (np + 1)).map some) ((s.heap.objs.size + 1) :: p1) false (o :: cs') H' fun F' _ fo => R0 F' fo) →
        (∀ F3 f0 fo3, (∀ x, o = some x → RO G F3 H' x (.ref (s.heap.objs.size + 1)) f0) → (o = none → f0 = []) → R0 F3 fo3 → ∃ fo4, (∀ a ∈ fo4, a ∈ f0 ++ fo3) ∧ (f0 ++ fo3).Nodup = (f0 ++ fo3).Nodup ∧ ((f0 ++ fo3).Nodup → fo4.Nodup) ∧ R1 F3 [] fo4) → Aft G (frzH F1 H p2) H (((vs.take (os.length - names.length)).take np).map some) p1 false cs' H' fun F' _ fo => R1 F' [] fo := by
      intro R0 H' o cs' R1 af k1
      obtain ⟨F3, fpc3, fo3, S3, r3, nd3, off3, ex3, _⟩ := af
      have sl3 : SL G F3 H' (o :: cs') (some (V.ref (s.heap.objs.size + 1)) :: ((vs.take (os.length - names.length)).take np).map some) fpc3 := S3.sl
      have split : ∃ f0 f1, fpc3 = f0 ++ f1 ∧ (∀ x, o = some x → RO G F3 H' x (.ref (s.heap.objs.size + 1)) f0) ∧ (o = none → f0 = []) ∧ SL G F3 H' cs' (((vs.take (os.length - names.length)).take np).map some) f1 := by
        cases o with
        | none =>
          obtain ⟨x, σr, e, t⟩ := sl3
          injection e with e1 e2
          subst e2
          exact ⟨[], fpc3, rfl, fun x h => by (cases h), fun _ => rfl, t⟩
        | some y =>
          obtain ⟨v, σr, f1, f2, e, ef, r, t⟩ := sl3
          injection e with e1 e2
          subst e2
          cases Option.some.inj e1
          exact ⟨f1, f2, ef, (fun x h => by cases Option.some.inj h; exact r), fun h => (by cases h), t⟩
      obtain ⟨f0, f1, ef, g1, g2, g3⟩ := split
      subst ef
      obtain ⟨fo4, m1, _, m2, m3⟩ := k1 F3 f0 fo3 g1 g2 r3
      obtain ⟨a1, a2, a3⟩ := List.nodup_append.mp nd3
      obtain ⟨b1, b2, b3⟩ := List.nodup_append.mp a1
      have nd0 : (f0 ++ fo3).Nodup := List.nodup_append.mpr ⟨b1, a2, fun a m b m' e => a3 a (List.mem_append_left _ m) b m' e⟩
      have off0 : ∀ a ∈ f0 ++ fo3, F3 a = none := fun a m => by
        rcases List.mem_append.mp m with z | z
        · exact S3.off a (List.mem_append_left _ z)
        · exact off3 a z
      have exm' : Ex H (upd (upd H s.heap.objs.size (.own (s.heap.objs.size + 1))) (s.heap.objs.size + 1) (.ins (G.cad c) s.heap.objs.size [])) (frzH F1 H p2) (frzH F1 H p2) p1 (((s.heap.objs.size + 1) :: p1) ++ []) := by rw [List.append_nil]; exact exm
      refine ⟨F3, f1, fo4, ⟨S3.sub, g3, b2, fun a m => S3.off a (List.mem_append_right _ m)⟩, m3, List.nodup_append.mpr ⟨b2, m2 nd0, fun a m b m' e => ?_⟩, fun a m => off0 a (m1 a m), (exm'.trans ex3).less fun a m => ?_, fun z => by cases z⟩
      · rcases List.mem_append.mp (m1 b m') with z | z
        · exact b3 b z a m e.symm
        · exact a3 a (List.mem_append_right _ m) b z e
      · rw [List.append_nil]
        rcases List.mem_append.mp m with z | z
        · simp [z]
        · rcases List.mem_append.mp (m1 a z) with y | y <;> simp [y]
    cases e : run (.obj c [] [] :: cs.take (os.length - names.length)) (names.zip ((cs.drop (os.length - names.length)).map OV.fz)) with
    | bad => rw [e] at q; exact q.elim
    | ok r cs' =>
      rw [e] at q
      cases r with
      | frz rv' =>
        cases rv' with
        | non =>
          cases cs' with
          | nil => exact q.elim
          | cons o cs' =>
            cases o with
            | none => exact q.elim
            | some o =>
              intro v H' af
              obtain ⟨F3, fpc3, fo3, S3, r3, _⟩ := id af
              refine ⟨r3.2, q _ H' (lend_back (R0 := fun F' fo => RO G F' H' o (.ref (s.heap.objs.size + 1)) fo) S1 nd1 offp2 ex1 (take_at oks) (conv (R0 := fun F' fo => RO G F' H' (.frz .non) v fo) (fun F' _ fo => RO G F' H' o (.ref (s.heap.objs.size + 1)) fo) af fun F3 f0 fo3 h1 h2 h3 => ⟨f0, fun a m => List.mem_append_left _ m, rfl, fun z => (List.nodup_append.mp z).1, h1 o rfl⟩))⟩
        | _ => exact q.elim
      | _ => exact q.elim
    | exc x cs' =>
      rw [e] at q
      cases cs' with
      | nil => exact q.elim
      | cons o cs' =>
        intro cls d H' ax
        exact q cls d H' (lend_back (R0 := fun F' fo => fo = [] ∧ RX G F' x cls d) S1 nd1 offp2 ex1 (take_at oks) (conv (R0 := fun F' fo => fo = [] ∧ RX G F' x cls d) (fun F' _ fo => fo = [] ∧ RX G F' x cls d) ax fun F3 f0 fo3 h1 h2 h3 => ⟨[], (fun a m => by cases m), rfl, fun _ => List.nodup_nil, rfl, h3.2⟩))
end
end Tv
end

section
/-! Calls of defs, of classes, of methods. -/
namespace Tv
open PySem L2 PySem.Spec PyProof.Rows
open PySem (Str Expr Stmt Scope)

section
variable {M : Model} {A : Around} {E : Value → Shared → Prop} {s : Shared}
/-- the call's node, starred or not -/
theorem cw_gen {P : Heap → Prop} {pos : Pos} {f : Value} {first : List Value} {args : List (Bool × Sem Value)} {keywords : List (Option Str × Sem Value)} {Q : Value → Shared → Prop}
    (hk : ∀ h, P h → ∃ k, (k = Keeper.frame ∨ k = Keeper.machine ∨ k = Keeper.boundFrame) ∧ PySem.W.Looks M h (keeperOf f) k)
    (h : wpAny M A (evalArgs f true args keywords) (fun a s₁ => P s₁.heap ∧ wpAny M A (call f (first ++ a.pos) a.kw) Q E s₁) E s) : wpAny M A (callWith pos f first args keywords) Q E s := by
  cases hst : (args.any (·.1) || keywords.any (·.1.isNone)) with
  | false => exact PySem.W.callWith_of hst hk h
  | true =>
    unfold callWith
    refine wpAny_bind (wpAny_holding (wpAny_mono h (fun a s₁ h₁ => wpAny_bind (wpAny_standAt ?_)) fun _ _ x => x))
    obtain ⟨k, hk', L⟩ := hk _ h₁.1
    simp only [hst]
    refine wpAny_bind (L.here ?_)
    have tail : ∀ {t : Sem Value}, wpAny M A t Q E s₁ → wpAny M A (t >>= fun r => holding [r] point >>= fun _ => pure r) Q E s₁ :=
      fun ht => wpAny_bind (wpAny_mono ht (fun r s₂ hr => wpAny_bind (wpAny_holding (wpAny_point (wpAny_pure hr)))) fun _ _ x => x)
    have marked (mk : Value) : wpAny M A (callMarked mk f (first ++ a.pos) a.kw) Q E s₁ := by unfold callMarked; exact Calls.wpAny_keep h₁.2
    rcases hk' with rfl | rfl | rfl <;> dsimp only <;> first | exact tail (marked _) | exact tail (wpAny_operating h₁.2)
end

/-- written keywords: all by name -/
def kwNames (kws : List Keyword) : List Str := kws.filterMap (·.arg)
def kwOk (kws : List Keyword) : Bool := kws.all fun k => k.arg.isSome && !isStar k.value
/-- no lone star with keywords behind it -/
def argsOk (es : List Expr) (kws : List Keyword) : Bool := match es with
  | [] => true
  | e :: es => !isStar e || (es.isEmpty && kws.isEmpty)
section
variable {X : Cx}
theorem SEs_app : ∀ {es ks : List Expr} {σ : L2.St} {H : Hp} {Q : List V → Hp → Prop}, SEs X (es ++ ks) σ H Q → SEs X es σ H fun vs H1 => SEs X ks σ H1 fun zs H2 => Q (vs ++ zs) H2
  | [], ks, σ, H, Q, h => h
  | e :: es, ks, σ, H, Q, h => by
    by_cases hs : isStar e = false
    · rw [List.cons_append, SEs_cons hs] at h
      rw [SEs_cons hs]
      exact h.mono fun v H1 h => SEs_app h
    · cases e with
      | Starred e p =>
        have h : SE X e σ H fun x H1 => ∃ p xs, x = V.ref p ∧ (SqT X.K H1 p xs ∨ SqL X.K H1 p xs) ∧ SEs X (es ++ ks) σ H1 fun ys H2 => Q (xs ++ ys) H2 := h
        show SE X e σ H fun x H1 => ∃ p xs, x = V.ref p ∧ (SqT X.K H1 p xs ∨ SqL X.K H1 p xs) ∧ SEs X es σ H1 fun ys H2 => SEs X ks σ H2 fun zs H3 => Q ((xs ++ ys) ++ zs) H3
        refine h.mono fun v H1 ⟨p, xs, e1, e2, h⟩ => ⟨p, xs, e1, e2, ?_⟩
        have z := SEs_app h
        exact SEs_mono z fun vs H2 h => SEs_mono h fun zs H3 h => by rw [List.append_assoc]; exact h
      | _ => exact absurd rfl hs
where SEs_mono {X : Cx} : ∀ {es : List Expr} {σ : L2.St} {H : Hp} {Q R : List V → Hp → Prop}, SEs X es σ H Q → (∀ vs H', Q vs H' → R vs H') → SEs X es σ H R
  | [], σ, H, Q, R, h, k => k _ _ h
  | e :: es, σ, H, Q, R, h, k => by
    by_cases hs : isStar e = false
    · rw [SEs_cons hs] at h ⊢
      exact h.mono fun v H1 h => SEs_mono h fun vs H2 h => k _ _ h
    · cases e with
      | Starred e p =>
        have h : SE X e σ H fun x H1 => ∃ p xs, x = V.ref p ∧ (SqT X.K H1 p xs ∨ SqL X.K H1 p xs) ∧ SEs X es σ H1 fun ys H2 => Q (xs ++ ys) H2 := h
        show SE X e σ H fun x H1 => ∃ p xs, x = V.ref p ∧ (SqT X.K H1 p xs ∨ SqL X.K H1 p xs) ∧ SEs X es σ H1 fun ys H2 => R (xs ++ ys) H2
        exact h.mono fun v H1 ⟨p, xs, e1, e2, h⟩ => ⟨p, xs, e1, e2, SEs_mono h fun vs H2 h => k _ _ h⟩
      | _ => exact absurd rfl hs
/-- the keywords' values -/
theorem pk_SEs : ∀ {kws : List Keyword}, kwOk kws = true → PK X kws (SEs X (kws.map (·.value)))
  | [], _ => pk_nil
  | ⟨nm, e, kp⟩ :: kws, h => by
    obtain ⟨h1, h2⟩ := Bool.and_eq_true_iff.mp (show ((nm.isSome && !isStar e) && kwOk kws) = true from h)
    have hs : isStar e = false := by
      have := (Bool.and_eq_true_iff.mp h1).2
      cases z : isStar e with
      | false => rfl
      | true => rw [z] at this; cases this
    rw [List.map_cons, SEs_cons hs]
    exact pk_cons pe_SE (pk_SEs h2)
theorem kw_all {env : Env} {pos : Pos} : ∀ {kws : List Keyword}, kwOk kws = true → (backToKw pos (keywordEach kws env)).all (·.1.isSome) = true ∧ (backToKw pos (keywordEach kws env)).filterMap (·.1) = kwNames kws
  | [], _ => ⟨rfl, rfl⟩
  | ⟨nm, e, kp⟩ :: kws, h => by
    obtain ⟨h1, h2⟩ := Bool.and_eq_true_iff.mp (show ((nm.isSome && !isStar e) && kwOk kws) = true from h)
    obtain ⟨i1, i2⟩ := kw_all (env := env) (pos := pos) h2
    have h3 := (Bool.and_eq_true_iff.mp h1).1
    cases nm with
    | none => cases h3
    | some n =>
      refine ⟨?_, ?_⟩
      · show (true && (backToKw pos (keywordEach kws env)).all (·.1.isSome)) = true
        rw [i1]; rfl
      · show n :: (backToKw pos (keywordEach kws env)).filterMap (·.1) = n :: kwNames kws
        rw [i2]
theorem kwOk_cons {k : Keyword} {kws : List Keyword} (h : kwOk (k :: kws) = true) : (∃ n, k.arg = some n) ∧ isStar k.value = false ∧ kwOk kws = true := by
  obtain ⟨h1, h2⟩ := Bool.and_eq_true_iff.mp (show ((k.arg.isSome && !isStar k.value) && kwOk kws) = true from h)
  refine ⟨Option.isSome_iff_exists.mp (Bool.and_eq_true_iff.mp h1).1, ?_, h2⟩
  have := (Bool.and_eq_true_iff.mp h1).2
  cases z : isStar k.value with
  | false => rfl
  | true => rw [z] at this; cases this
theorem kwNames_len : ∀ {kws : List Keyword}, kwOk kws = true → (kwNames kws).length = (kws.map (·.value)).length
  | [], _ => rfl
  | k :: kws, h => by
    obtain ⟨⟨n, e⟩, _, h2⟩ := kwOk_cons h
    show ((k :: kws).filterMap (·.arg)).length = _
    rw [List.filterMap_cons, e]
    have := kwNames_len h2
    simpa [kwNames] using this
theorem kws_len : ∀ {kws : List Keyword} {σ : L2.St} {H1 : Hp} {R : List V → Hp → Prop}, kwOk kws = true → SEs X (kws.map (·.value)) σ H1 R → SEs X (kws.map (·.value)) σ H1 fun zs H2 => zs.length = (kws.map (·.value)).length ∧ R zs H2
  | [], σ, H1, R, _, h => ⟨rfl, h⟩
  | k :: kws, σ, H1, R, hk, h => by
    obtain ⟨_, hs, h2⟩ := kwOk_cons hk
    rw [List.map_cons, SEs_cons hs] at h ⊢
    exact h.mono fun v H2 h => SEs_app.SEs_mono (kws_len h2 h) fun vs H3 h => ⟨by rw [List.length_cons, List.length_cons, h.1], h.2⟩
/-- all arguments, then the call -/
theorem args_call {f : Value} {first : List Value} {firstV : List V} {es : List Expr} {kws : List Keyword} {pos : Pos} {pn : List (Addr × Obj)} {s : Shared} {σ : L2.St} {H : Hp} {Q : VK} (hf : Vals firstV first) (hk : PySem.W.keepIn X.K f = true) (ha : argsOk es kws = true) (hkw : kwOk kws = true) (J : Inv X pn σ H s)
    (h : SEs X (es ++ kws.map (·.value)) σ H fun all H1 => SA X (actk f (kwNames kws)) σ (firstV ++ all) H1 Q) :
    wpAny (model X.prog X.w) X.A (callWith pos f first (backTo pos (starEach es X.env)) (backToKw pos (keywordEach kws X.env))) (EP X pn σ Q) X.xe s := by
  obtain ⟨k1, k2⟩ := kw_all (env := X.env) (pos := pos) hkw
  have h := SEs_app h
  have knl := kwNames_len hkw
  refine cw_gen (P := fun h => X.K.In h) (PySem.W.keeps_K hk) ?_
  -- behind all
  have fin : ∀ (us ws : List Value) (s2 : Shared) (vs zs : List V) (H2 : Hp), Inv X pn σ H2 s2 → Vals vs us → Vals zs ws → zs.length = (kws.map (·.value)).length → SA X (actk f (kwNames kws)) σ (firstV ++ (vs ++ zs)) H2 Q →
      X.K.In s2.heap ∧ wpAny (model X.prog X.w) X.A (call f (first ++ us) ((kwNames kws).zip ws)) (EP X pn σ Q) X.xe s2 := by
    intro us ws s2 vs zs H2 J2 rv rz hl q
    refine ⟨J2.kIn, ?_⟩
    have z := q pn s2 (first ++ (us ++ ws)) J2 (hf.append (rv.append rz))
    unfold actk at z
    have e1 : (first ++ (us ++ ws)).length - (kwNames kws).length = (first ++ us).length := by
      rw [← List.append_assoc, List.length_append, ← rz.length, hl, knl]; omega
    rw [e1, ← List.append_assoc, List.take_left', List.drop_left'] at z
    · exact z
    · rfl
    · rfl
  have pk := pk_SEs (X := X) hkw
  cases es with
  | nil =>
    refine evalArgs_kw_nil k1 ?_
    rw [k2]
    exact thn (pk.run pos pn s σ H _ J (kws_len hkw h)) fun ws s2 ⟨zs, H2, J2, rz, hl, q⟩ => by
      have := fin [] ws s2 [] zs H2 J2 .nil rz hl q
      exact this
  | cons e es =>
    by_cases hs : isStar e = false
    · rw [starEach_cons hs]
      refine evalArgs_kw k1 ?_
      have pa := (pa_SEs (X := X) (es := e :: es)).run pos pn s σ H _ J h
      rw [starEach_cons hs] at pa
      refine thn pa fun us s1 ⟨vs, H1, J1, rv, h1⟩ => ?_
      rw [k2]
      exact thn (pk.run pos pn s1 σ H1 _ J1 (kws_len hkw h1)) fun ws s2 ⟨zs, H2, J2, rz, hl, q⟩ => fin us ws s2 vs zs H2 J2 rv rz hl q
    · cases e with
      | Starred e p =>
        have ha' : (es.isEmpty && kws.isEmpty) = true := by
          have z : (!true || (es.isEmpty && kws.isEmpty)) = true := ha
          simpa using z
        obtain ⟨z1, z2⟩ := Bool.and_eq_true_iff.mp ha'
        have e1 : es = [] := List.isEmpty_iff.mp z1
        have e2 : kws = [] := List.isEmpty_iff.mp z2
        subst e1 e2
        have h : SE X e σ H fun x H1 => ∃ p xs, x = V.ref p ∧ (SqT X.K H1 p xs ∨ SqL X.K H1 p xs) ∧ SA X (actk f []) σ (firstV ++ ((xs ++ []) ++ [])) H1 Q := h
        refine PySem.W.ks_lone (thn (h pn s J) fun v s1 ⟨y, H1, J1, ry, a, xs, ey, hxs, q⟩ => ?_)
        subst ey
        obtain rfl : v = Value.ref a := ry
        refine StX.star_any J1 hxs fun us s2 J2 rv => ?_
        have := fin us [] s2 xs [] H1 J2 rv .nil rfl (by rw [List.append_nil] at q; exact q)
        exact this
      | _ => exact absurd rfl hs
end
end Tv
end

section
/-! Calls by name, of classes, of methods; fields; displays. -/
namespace Tv
open PySem L2
open PySem (Str Expr Stmt Scope Keyword)

section
variable {G : Gs} {X : Cx} {P : Program} {w : World} {mg : Str → Option Value} {base : Heap} {F H H' : Hp} {σ : St} {ts ts' : Slots} {fp : List Addr} {c c1 c2 : Bool} {k np : Nat} {nsx : List Str} {sn : List (Str × NameKind)}
theorem stp_use {act : List Value → Sem Value} {f : List Opd → TM Opd} {os : List Opd} {vs : List V} {ts1 : Slots} {H1 : Hp} {W : WX} {Q : VK} (hf : Stp G X act f c2) (tk : Takes X W) (ao : AO G F H σ fp c1 os ts1 vs H1)
    (q : OutP (f os ts1) (fun o ts' => ∀ v H', AE G F H σ fp (c1 && c2) o ts' v H' → Q v H') (XW G W F H σ fp)) : SA X act σ vs H1 Q := by
  obtain ⟨F1, fp1, fo1, S1, oks, nd1, off1, ex1, cal1⟩ := ao
  have ex1' : Ex H H1 F F1 fp ((fp1 ++ fo1) ++ []) := ex1.less fun a m => by simpa using m
  refine hf σ H1 F1 ts1 fp1 fo1 os vs S1 oks nd1 off1 W tk Q (q.mono (fun o ts2 q v H2 ae => q v H2 ?_) fun x s q => ?_)
  · exact aft_comp (fp1 := fp1 ++ fo1) ex1' cal1 ae fun _ _ _ _ _ r => r
  · exact ax_then (fp1 := fp1 ++ fo1) ex1' q

theorem snd_fcall {x : Str} {p pos : Pos} {es : List Expr} {kws : List Keyword} {m : TM (List Opd)} {f : Addr} {run : List OV → List (Str × FV) → Out OV} {reb : Nat → Bool} (Gd : GoodC G P w mg base k nsx sn X) (hg : Gl X x) (hm : X.mg x = some (.ref f)) (hdb : (x == ("__debug__" : Str)) = false) (hk : PySem.W.keepIn X.K (.ref f) = true)
    (ha : argsOk es kws = true) (hkw : kwOk kws = true) (C : CalT G P w mg base k np f run) (he : SndO G X (es ++ kws.map (·.value)) m c) : Snd G X (.Call (.Name x p) es kws pos) (tb m (tcall reb run (kwNames kws))) false := by
  intro σ H F ts fp S W tk Q q pn s J
  refine wpAny_Call_Name_kw (ld_glob J hg hm ?_ hdb)
  exact args_call (firstV := []) .nil hk ha hkw J (rd_app he (stp_call Gd C) S tk (by simpa using q))
theorem snd_make {x : Str} {p pos : Pos} {es : List Expr} {kws : List Keyword} {m : TM (List Opd)} {f : Addr} {cc : Nat} {run : List OV → List (Str × FV) → Out OV} {reb : Nat → Bool} (Gd : GoodC G P w mg base (k + 1) nsx sn X) (hg : Gl X x) (hm : X.mg x = some (.ref (G.cad cc))) (hdb : (x == ("__debug__" : Str)) = false)
    (ha : argsOk es kws = true) (hkw : kwOk kws = true) (M : Mk X.K (G.cad cc) f) (C : CalT G P w mg base k (np + 1) f run) (he : SndO G X (es ++ kws.map (·.value)) m c) : Snd G X (.Call (.Name x p) es kws pos) (tb m (tmake cc reb run (kwNames kws))) false := by
  intro σ H F ts fp S W tk Q q pn s J
  refine wpAny_Call_Name_kw (ld_glob J hg hm ?_ hdb)
  exact args_call (firstV := []) .nil M.kp ha hkw J (rd_app he (stp_make Gd M C) S tk (by simpa using q))

/-- an instance's class and names -/
def OV.ob : OV → Option (Nat × List Nat)
  | .frz (.obj c ns _) => some (c, ns)
  | .obj c ns _ => some (c, ns)
  | _ => none
theorem ob_ok (sub : SubH F H) {o : OV} {v : V} {fx : List Addr} {cc : Nat} {ns : List Nat} (e : o.ob = some (cc, ns)) (r : RO G F H o v fx) : ∃ a dx fs, v = .ref a ∧ H a = some (.ins (G.cad cc) dx fs) ∧ fs.map (·.1) = ns.map G.att := by
  cases o with
  | frz x =>
    cases x with
    | obj c' ns' vs =>
      cases Option.some.inj e
      obtain ⟨_, a, dx, fs, e1, e2, e3, _⟩ := r
      exact ⟨a, dx, fs, e1, sub.ins e2, e3⟩
    | _ => cases e
  | obj c' ns' vs =>
    cases Option.some.inj e
    obtain ⟨a, dx, fs, fr, e1, _, e2, e3, _⟩ := r
    exact ⟨a, dx, fs, e1, e2, e3⟩
  | _ => cases e
theorem lookup_no {f : Nat} : ∀ {ns : List Nat} {fs : List (Str × V)}, fs.map (·.1) = ns.map G.att → ns.contains f = false → fs.lookup (G.att f) = none
  | [], [], _, _ => rfl
  | [], _ :: _, h, _ => by cases h
  | n :: ns, [], _, _ => rfl
  | n :: ns, (m, w) :: fs, h, e => by
    rw [List.map_cons, List.map_cons] at h
    injection h with h1 h2
    have h1 : m = G.att n := h1
    rw [List.contains_cons, Bool.or_eq_false_iff] at e
    rw [List.lookup_cons]
    have ne : (G.att f == m) = false := by
      rw [beq_eq_false_iff_ne, h1]
      intro z
      have := G.inj _ _ z
      have e1 := e.1
      rw [this, beq_self_eq_true] at e1
      cases e1
    rw [ne]
    exact lookup_no h2 e.2
/-- o.m(..): meth tells the def by the class -/
def tmeth (meth : Nat → Option ((Nat → Bool) × (List OV → List (Str × FV) → Out OV))) (mid : Nat) (names : List Str) (ca : Bool) (mo : TM Opd) (ma : TM (List Opd)) : TM Opd := tb (tkeep ca mo) fun r s => match r.get s with
  | some x => match x.ob with
    | some (cc, ns) => match meth cc with
      | some (reb, run) => if ns.contains mid then .bad else tb ma (fun os => tcall reb run names (r :: os)) s
      | none => .bad
    | none => .bad
  | none => .bad
/-- the node: nothing but the method is asked -/
def mnode (o : Expr) (apos pos : Pos) (es : List Expr) (kws : List Keyword) : Bool :=
  (match o with
    | .Call (.Name id _) [] [] _ => id != ("super" : Str)
    | _ => true) && (es.all fun e => !isStar e) && decide (es.length + kws.length + (if kws.isEmpty then 0 else 1) < 30) && (apos.endLine == pos.line)
theorem abase_ok {o : Expr} {f : Str} {env : Env} {whole : Sem Value} (h : (match o with
    | .Call (.Name id _) [] [] _ => id != ("super" : Str)
    | _ => true) = true) : attributeBase o f env whole = whole := by
  split at h
  · exact abase_call h
  · rename_i hn
    unfold attributeBase
    split
    · rename_i id p pos
      exact absurd rfl (hn id p pos)
    · rfl
theorem star_any {es : List Expr} {env : Env} {pos : Pos} (h : (es.all fun e => !isStar e) = true) : (backTo pos (starEach es env)).all (!·.1) = true := by
  induction es with
  | nil => rfl
  | cons e es ih =>
    obtain ⟨h1, h2⟩ := Bool.and_eq_true_iff.mp (show ((!isStar e) && es.all fun e => !isStar e) = true from h)
    have hs : isStar e = false := by
      cases z : isStar e with
      | false => rfl
      | true => rw [z] at h1; cases h1
    rw [starEach_cons hs]
    show (true && (backTo pos (starEach es env)).all (!·.1)) = true
    rw [ih h2]; rfl
theorem node_ok {o : Expr} {m : Str} {apos pos : Pos} {es : List Expr} {kws : List Keyword} {env : Env} (h : mnode o apos pos es kws = true) (hkw : kwOk kws = true) : eval (.Call (.Attribute o m apos) es kws pos) env = (do
      let ov ← eval o env
      standAt apos.atName
      let (f, first) ← holding [ov] (getMethod ov m (do return (← importBound o env).getD true))
      callWith pos f first (backTo pos (starEach es env)) (backToKw pos (keywordEach kws env))) := by
  unfold mnode at h
  simp only [Bool.and_eq_true] at h
  obtain ⟨⟨⟨h1, h2⟩, h3⟩, h4⟩ := h
  have kl : (backToKw pos (keywordEach kws env)).isEmpty = kws.isEmpty := by
    cases kws with
    | nil => rfl
    | cons k r => cases k; rfl
  have few : methodCallForm (es.length + kws.length) (backTo pos (starEach es env)) (backToKw pos (keywordEach kws env)) = true := by
    unfold methodCallForm
    rw [star_any h2, (kw_all hkw).1, kl, h3]
    rfl
  refine mcall_of (abase_ok h1) fun ov => ?_
  unfold methodCall methodCallPos calleeOf
  rw [few, h4]
  simp only [Bool.not_true, Bool.false_or, if_true, pure_bind]
theorem snd_meth {o : Expr} {mid : Nat} {apos pos : Pos} {es : List Expr} {kws : List Keyword} {mo : TM Opd} {ma : TM (List Opd)} {ca : Bool} {meth : Nat → Option ((Nat → Bool) × (List OV → List (Str × FV) → Out OV))} (Gd : GoodC G P w mg base k nsx sn X)
    (hn : mnode o apos pos es kws = true) (ha : argsOk es kws = true) (hkw : kwOk kws = true) (hm : ∀ cc p, meth cc = some p → Cls X.K (G.cad cc) ∧ ∃ f np, Meth X.K (G.cad cc) (G.att mid) f ∧ CalT G P w mg base k np f p.2)
    (ho : Snd G X o mo c) (he : SndO G X (es ++ kws.map (·.value)) ma ca) : Snd G X (.Call (.Attribute o (G.att mid) apos) es kws pos) (tmeth meth mid (kwNames kws) ca mo ma) false := by
  intro σ H F ts fp S W tk Q q
  have read : SE X o σ H fun v H1 => ∃ a cc dx fs f, v = .ref a ∧ H1 a = some (.ins (G.cad cc) dx fs) ∧ fs.lookup (G.att mid) = none ∧ Cls X.K (G.cad cc) ∧ Meth X.K (G.cad cc) (G.att mid) f ∧ SEs X (es ++ kws.map (·.value)) σ H1 fun vs H2 => SA X (actk (.ref f) (kwNames kws)) σ (v :: vs) H2 Q := by
    unfold tmeth at q
    refine snd_keep ho σ H F ts fp S W tk _ ((keep_fld q.bind).mono (fun r ts1 q v H1 ae => ?_) fun _ _ q => q)
    obtain ⟨nf, q⟩ := q
    obtain ⟨F1, fp1, fo1, S1, ok1, nd1, off1, ex1, cal1⟩ := ae
    cases e1 : r.get ts1 with
    | none => rw [e1] at q; exact q.elim
    | some x =>
      rw [e1] at q
      dsimp only at q
      cases e2 : x.ob with
      | none => rw [e2] at q; exact q.elim
      | some cn =>
        obtain ⟨cc, ns⟩ := cn
        rw [e2] at q
        dsimp only at q
        cases e3 : meth cc with
        | none => rw [e3] at q; exact q.elim
        | some pr =>
          obtain ⟨reb, run⟩ := pr
          rw [e3] at q
          dsimp only at q
          cases e4 : ns.contains mid with
          | true => rw [e4] at q; exact q.elim
          | false =>
            rw [e4, if_neg Bool.false_ne_true] at q
            obtain ⟨fx, ro, _⟩ := get_ok S1 ok1 e1
            obtain ⟨a, dx, fs, ev, ea, en⟩ := ob_ok S1.sub e2 ro
            obtain ⟨cl, f, np, mt, C⟩ := hm cc _ e3
            refine ⟨a, cc, dx, fs, f, ev, ea, lookup_no en e4, cl, mt, ?_⟩
            refine he σ H1 F1 ts1 fp1 S1 W tk _ (q.bind.mono (fun os ts2 q vs H2 af => ?_) fun x s q => ax_then ex1 q)
            have ao : AO G F H σ fp (c && ca) (r :: os) ts2 (v :: vs) H2 := aft_two ok1 nf nd1 off1 ex1 cal1 af fun F2 fp2 fo2 S2 st r => ⟨v, vs, fo1, fo2, rfl, rfl, st, r⟩
            exact stp_use (stp_call Gd C) tk ao (by simpa using q)
  intro pn s J
  refine PySem.W.methodCall_KW (thn (read pn s J) fun u s1 ⟨x, H1, J1, rx, a, cc, dx, fs, f, ex, ea, l, cl, mt, h⟩ => ?_) (node_ok hn hkw)
  subst ex
  obtain rfl : u = Value.ref a := rx
  refine getmeth_ok J1 ea cl mt l ?_
  exact args_call (firstV := [V.ref a]) (.cons (show RelV (V.ref a) (Value.ref a) from rfl) .nil) mt.kp ha hkw J1 h
end
end Tv
end

section
/-! Fields, displays, subscripts. -/
namespace Tv
open PySem L2
open PySem (Str Expr Stmt Scope)

/-- a field that is read -/
def Opd.nrm : Opd → Opd
  | .val y => .val (.frz y.fz)
  | .at i => .at i
  | .fld i f => .fld i f
def ownF (f : Nat) : Opd → Option Opd
  | .at i => some (.fld i f)
  | _ => none
def attrO (okc : Nat → Bool) (f : Nat) (r : Opd) : Option OV → Option Opd
  | some (.frz (.obj c ns vs)) => if okc c then (look f ns vs).map fun v => .val (.frz v) else none
  | some (.obj c ns vs) => if okc c then match look f ns vs with
      | some (.frz v) => some (.val (.frz v))
      | some _ => ownF f r
      | none => none
    else none
  | _ => none
def tattr (okc : Nat → Bool) (f : Nat) (m : TM Opd) : TM Opd := tb m fun r s => match attrO okc f r.nrm (r.nrm.get s) with
  | some o => .ok o s
  | none => .bad
def vals : List Opd → Option (List OV)
  | [] => some []
  | .val o :: os => (vals os).map (o :: ·)
  | _ :: _ => none
def tlist (m : TM (List Opd)) : TM Opd := tb m fun os s => match vals os with
  | some cs => if cs.length ≤ szl then .ok (.val (.lst cs)) s else .bad
  | none => .bad
def mkTup (cs : List OV) : OV := match frzs cs with
  | some xs => .frz (.tup xs)
  | none => .tup cs
def ttuple (m : TM (List Opd)) : TM Opd := tb m fun os s => match vals os with
  | some cs => if cs.length ≤ szl then .ok (.val (mkTup cs)) s else .bad
  | none => .bad
def dval {α : Type} : List FV → List α → Key → Option α
  | k :: ks, v :: vs, q => if fkey k = some q then some v else dval ks vs q
  | _, _, _ => none
def OV.dk : OV → Option (List FV × List FV)
  | .frz (.dic ks vs) => some (ks, vs)
  | .dic ks vs => (frzs vs).map (ks, ·)
  | _ => none
def ixI (x : OV) (i : Int) : Option FV := match x.els with
  | some xs => atI xs i
  | none => match x.tels with
    | some xs => atI xs i
    | none => match x with
      | .frz (.scr ns) => (atI ns i).map .int
      | .frz (.str z) => if z.length ≤ szl then (atI z.cps.toList i).map fun c => .str ⟨#[c]⟩ else none
      | _ => none
/-- x[y] -/
def ix2 (x y : OV) : Option OV := match y with
  | .frz k => match x.dk with
    | some (ks, vs) => match fkey k with
      | some q => (dval ks vs q).map .frz
      | none => none
    | none => match k with
      | .int i => (ixI x i).map .frz
      | _ => none
  | _ => none

section
variable {G : Gs} {X : Cx} {F H H' : Hp} {σ : St} {ts ts' : Slots} {fp : List Addr} {c c1 c2 : Bool}
theorem snd_tesc' {e : Expr} {m : TM Opd} (h : Snd G X e m c) : Snd G X e (tesc m) c := snd_tesc h
theorem tesc_fld {m : TM Opd} {P : Opd → Slots → Prop} {E : XV → Slots → Prop} (h : OutP (tesc m ts) P E) : OutP (tesc m ts) (fun o s => isFld o = false ∧ P o s) E :=
  (tesc_val h).mono (fun o s q => by obtain ⟨⟨v, e⟩, q⟩ := q; subst e; exact ⟨rfl, q⟩) fun _ _ q => q
/-- items of a display: nobody else's -/
theorem sndo_item {e : Expr} {es : List Expr} {ma : TM Opd} {mr : TM (List Opd)} {ca cr : Bool} (hs : isStar e = false) (ha : Snd G X e ma ca) (hr : SndO G X es mr cr) : SndO G X (e :: es) (tcons (tesc ma) mr) (ca && cr) := by
  intro σ H F ts fp S W tk Q q
  rw [SEs_cons hs]
  refine snd_tesc ha σ H F ts fp S W tk _ ((tesc_fld q.bind).mono (fun o ts1 q v H1 ae => ?_) fun _ _ q => q)
  obtain ⟨nf, q⟩ := q
  obtain ⟨F1, fp1, fo1, S1, ok1, nd1, off1, ex1, cal1⟩ := ae
  refine hr σ H1 F1 ts1 fp1 S1 W tk _ (q.bind.mono (fun os ts2 q vs H2 af => ?_) fun x s q => ax_then ex1 q)
  exact q (v :: vs) H2 (aft_two ok1 (.inl nf) nd1 off1 ex1 cal1 af fun F2 fp2 fo2 S2 st r => ⟨v, vs, fo1, fo2, rfl, rfl, st, r⟩)
theorem vals_ok {p : Addr → Prop} : ∀ {os : List Opd} {vs : List V} {fo : List Addr} {cs : List OV}, vals os = some cs → OKs G F H σ p os vs fo → ROs G F H cs vs fo
  | [], vs, fo, cs, e, k => by cases Option.some.inj e; exact k
  | .val o :: os, vs, fo, cs, e, k => by
    obtain ⟨v, vr, f1, f2, e1, e2, k1, k2⟩ := k
    have e' : (vals os).map (o :: ·) = some cs := e
    cases z : vals os with
    | none => rw [z] at e'; cases e'
    | some ds =>
      rw [z] at e'
      cases Option.some.inj e'
      exact ⟨v, vr, f1, f2, e1, e2, k1, vals_ok z k2⟩
  | .at _ :: _, _, _, _, e, _ => by cases e
  | .fld _ _ :: _, _, _, _, e, _ => by cases e
/-- a new object that holds what is nobody's -/
theorem new_own {R : Hp → List Addr → Prop} {h : HO} {p : Addr} {H1 : Hp} (hp : H1 p = none) (hl : ∀ F' fo, R F' fo → ∀ a ∈ fo, H1 a ≠ none) (af : Aft G F H σ fp c ts' H1 fun F' _ fo => R F' fo) :
    Aft G F H σ fp c ts' (upd H1 p h) fun F' _ fo => ∃ fr, fo = p :: fr ∧ R F' fr ∧ (∀ a ∈ fr, a ≠ p) := by
  obtain ⟨F1, fp1, fo1, S1, r, nd1, off1, ex1, cal1⟩ := af
  have fpn : F1 p = none := S1.sub.free hp
  have pm : p ∉ fo1 := fun m => hl F1 fo1 r p m hp
  have nfp : ∀ a ∈ fp1, a ≠ p := fun a m e => SL.live S1.sl a m (by rw [e]; exact hp)
  refine ⟨F1, fp1, p :: fo1, ⟨sub_new S1.sub hp, SL.frame (SubH.refl F1) (fun a m => upd_ne (nfp a m)) S1.sl, S1.nd, S1.off⟩, ⟨fo1, rfl, r, fun a m e => pm (by rw [← e]; exact m)⟩, ?_, fun a m => ?_, ⟨ex1.sub, fun a l m e => ?_, fun a l => ?_, fun a m => ?_, ex1.fro⟩, fun hc a l => ?_⟩
  · obtain ⟨n1, n2, n3⟩ := List.nodup_append.mp nd1
    exact List.nodup_append.mpr ⟨n1, List.nodup_cons.mpr ⟨pm, n2⟩, fun a m b m' e => by
      rcases List.mem_cons.mp m' with z | z
      · exact nfp a m (by rw [e, z])
      · exact n3 a m b z e⟩
  · rcases List.mem_cons.mp m with z | z
    · rw [z]; exact fpn
    · exact off1 a z
  · have l1 := ex1.live a l
    rw [upd_ne fun z => l1 (by rw [z]; exact hp)]
    exact ex1.keep a l m e
  · have l1 := ex1.live a l
    rw [upd_ne fun z => l1 (by rw [z]; exact hp)]
    exact l1
  · simp only [List.mem_append, List.mem_cons] at m
    rcases m with z | z | z
    · exact ex1.new a (by simp [z])
    · exact .inr (Classical.byContradiction fun y => ex1.live p (by rw [← z]; exact y) hp)
    · exact ex1.new a (by simp [z])
  · have l1 := ex1.live a l
    rw [upd_ne fun z => l1 (by rw [z]; exact hp)]
    exact cal1 hc a l
theorem snd_list {es : List Expr} {pos : Pos} {m : TM (List Opd)} (h : SndO G X es m c) : Snd G X (.List es pos) (tlist m) c := by
  intro σ H F ts fp S W tk Q q
  refine SE.of (pe_lst pa_SEs) (h σ H F ts fp S W tk _ (q.bind.mono (fun os ts1 q vs H1 ao => ?_) fun _ _ q => q))
  cases e1 : vals os with
  | none => rw [e1] at q; exact q.elim
  | some cs =>
    rw [e1] at q
    dsimp only at q
    by_cases z : cs.length ≤ szl
    · rw [if_pos z] at q
      have ao2 : Aft G F H σ fp c ts1 H1 fun F' _ fo => ROs G F' H1 cs vs fo := ao.imp fun F' fp' fo k => vals_ok e1 k
      obtain ⟨F1, fp1, fo1, S1, r1, _⟩ := id ao2
      refine ⟨by rw [r1.len]; exact z, fun p hp => q (.ref p) _ ?_⟩
      refine (new_own (h := .lst vs) hp (fun F' fo r => ROs.live cs vs fo r) ao2).imp fun F' fp' fo ⟨fr, ef, r, np⟩ => ?_
      exact ⟨p, vs, fr, rfl, ef, upd_same, ROs.frame (SubH.refl F') cs vs fr (fun a m => upd_ne (np a m)) r⟩
    · rw [if_neg z] at q; exact q.elim
/-- what was made is frozen at once -/
theorem frz_new {o : OV} {v : V} {x : FV} (h : Aft G F H σ fp c ts' H' fun F' _ fo => RO G F' H' o v fo) (e : o.fz = x) : Aft G F H σ fp c ts' H' fun F' _ fo => RO G F' H' (.frz x) v fo :=
  (frz_fo h).imp fun F' fp' fo ⟨e1, r⟩ => ⟨e1, by rw [← e]; exact r⟩
theorem snd_tuple {es : List Expr} {kk : Nat} {pos : Pos} {m : TM (List Opd)} (h : SndO G X es m c) : Snd G X (.Tuple es kk pos) (ttuple m) c := by
  intro σ H F ts fp S W tk Q q
  refine SE.of (pe_tup pa_SEs) (h σ H F ts fp S W tk _ (q.bind.mono (fun os ts1 q vs H1 ao => ?_) fun _ _ q => q))
  cases e1 : vals os with
  | none => rw [e1] at q; exact q.elim
  | some cs =>
    rw [e1] at q
    dsimp only at q
    by_cases z : cs.length ≤ szl
    · rw [if_pos z] at q
      have ao2 : Aft G F H σ fp c ts1 H1 fun F' _ fo => ROs G F' H1 cs vs fo := ao.imp fun F' fp' fo k => vals_ok e1 k
      obtain ⟨F1, fp1, fo1, S1, r1, _⟩ := id ao2
      refine ⟨by rw [r1.len]; exact z, fun p hp => q (.ref p) _ ?_⟩
      have own : Aft G F H σ fp c ts1 (upd H1 p (.tup vs)) fun F' _ fo => RO G F' (upd H1 p (.tup vs)) (.tup cs) (.ref p) fo :=
        (new_own (h := .tup vs) hp (fun F' fo r => ROs.live cs vs fo r) ao2).imp fun F' fp' fo ⟨fr, ef, r, np⟩ => ⟨p, vs, fr, rfl, ef, upd_same, ROs.frame (SubH.refl F') cs vs fr (fun a m => upd_ne (np a m)) r⟩
      show Aft _ _ _ _ _ _ _ _ _
      unfold mkTup
      cases e2 : frzs cs with
      | none => exact own
      | some xs =>
        refine frz_new own ?_
        show FV.tup (OV.fzs cs) = FV.tup xs
        congr 1
        clear ao2 own r1 e1 z q ao
        induction cs generalizing xs with
        | nil => cases Option.some.inj e2; rfl
        | cons o cs ih =>
          cases o with
          | frz v =>
            have e3 : (frzs cs).map (v :: ·) = some xs := e2
            cases z : frzs cs with
            | none => rw [z] at e3; cases e3
            | some ys =>
              rw [z] at e3
              cases Option.some.inj e3
              show v :: OV.fzs cs = v :: ys
              rw [ih ys z]
          | _ => cases e2
    · rw [if_neg z] at q; exact q.elim

theorem snd_attr {e : Expr} {f : Nat} {pos : Pos} {m : TM Opd} {okc : Nat → Bool} (hb : (match e with
    | .Call (.Name id _) [] [] _ => id != ("super" : Str)
    | _ => true) = true) (hc : ∀ cc, okc cc = true → Cls X.K (G.cad cc) ∧ NoAttr X.K (G.cad cc) (G.att f)) (h : Snd G X e m c) : Snd G X (.Attribute e (G.att f) pos) (tattr okc f m) c := by
  intro σ H F ts fp S W tk Q q
  unfold tattr at q
  refine SE.of (pe_fld pe_SE (abase_ok hb)) (h σ H F ts fp S W tk _ (q.bind.mono (fun r0 ts1 q v H1 ae => ?_) fun _ _ q => q))
  -- frozen, if it is nobody's
  have ae : AE G F H σ fp c r0.nrm ts1 v H1 := by
    cases r0 with
    | val y => exact (frz_fo ae).imp fun F' fp' fo k => k
    | «at» i => exact ae
    | fld i g => exact ae
  generalize r0.nrm = r at q ae
  obtain ⟨F1, fp1, fo1, S1, ok1, nd1, off1, ex1, cal1⟩ := id ae
  have done : ∀ (x : FV) (w : V), RF G F1 x w → AE G F H σ fp c (.val (.frz x)) ts1 w H1 := fun x w rx => by
    have ex1' : Ex H H1 F F1 fp (fp1 ++ []) := ex1.less fun a m => by simp at m; simp [m]
    exact ⟨F1, fp1, [], S1, ⟨rfl, rx⟩, by simpa using S1.nd, (fun _ m => by cases m), ex1', cal1⟩
  cases e1 : r.get ts1 with
  | none => rw [e1] at q; exact q.elim
  | some x =>
    rw [e1] at q
    obtain ⟨fx, ro, hfx⟩ := get_ok S1 ok1 e1
    cases e0 : attrO okc f r (some x) with
    | none => rw [e0] at q; exact q.elim
    | some o =>
      rw [e0] at q
      have q : ∀ v H', AE G F H σ fp c o ts1 v H' → Q v H' := q
      unfold attrO at e0
      split at e0
      · rename_i cc ns vs ex
        cases Option.some.inj ex
        by_cases z : okc cc = true
        · rw [if_pos z] at e0
          cases e2 : look f ns vs with
          | none => rw [e2] at e0; cases e0
          | some u =>
            rw [e2] at e0
            cases Option.some.inj e0
            obtain ⟨_, a, dx, fs, e3, e4, e5, e6⟩ := ro
            obtain ⟨w, hw, rw'⟩ := look_frozen e5 e6 e2
            exact ⟨a, G.cad cc, dx, fs, w, e3, S1.sub.ins e4, (hc cc z).1, (hc cc z).2, hw, q w H1 (done u w rw')⟩
        · rw [if_neg z] at e0; cases e0
      · rename_i cc ns vs ex
        cases Option.some.inj ex
        by_cases z : okc cc = true
        · rw [if_pos z] at e0
          obtain ⟨a, dx, fs, fr, e3, e4, e5, e6, e7⟩ := ro
          cases e2 : look f ns vs with
          | none => rw [e2] at e0; cases e0
          | some u =>
            rw [e2] at e0
            obtain ⟨w, f1, hw, rw', _⟩ := look_owned e6 e7 e2
            refine ⟨a, G.cad cc, dx, fs, w, e3, e5, (hc cc z).1, (hc cc z).2, hw, ?_⟩
            have owned : ∀ i, r = .at i → AE G F H σ fp c (.fld i f) ts1 w H1 := fun i ei => by
              subst ei
              obtain ⟨efo, hσ⟩ := ok1
              subst efo
              exact ⟨F1, fp1, [], S1, ⟨rfl, a, G.cad cc, dx, fs, by rw [hσ, e3], (by
                have := hfx a (by rw [e4]; exact List.mem_cons_self)
                simpa using this), e5, hw⟩, nd1, off1, ex1, cal1⟩
            have rest : ownF f r = some o → Q w H1 := fun e0 => by
              cases r with
              | «at» i =>
                cases Option.some.inj e0
                exact q w H1 (owned i rfl)
              | val y => cases e0
              | fld i g => cases e0
            cases u with
            | frz u' =>
              cases Option.some.inj e0
              exact q w H1 (done u' w rw'.2)
            | lst _ => exact rest e0
            | tup _ => exact rest e0
            | dic _ _ => exact rest e0
            | obj _ _ _ => exact rest e0
        · rw [if_neg z] at e0; cases e0
      · cases e0
end
end Tv
end

section
/-! x[y]; x.f = v; x[y] = v. -/
namespace Tv
open PySem L2 PySem.Spec PyProof.Rows
open PySem (Str Expr Stmt Scope)

/-- the weakest reading of a subscript -/
def SX (X : Cx) : R2 := fun x y H Q => ∀ (value slice : Expr) (pn : List (Addr × Obj)) (s : Shared) (σ : L2.St) (v u : Value), Inv X pn σ H s → RelV x v → RelV y u → subscripted slice false v u = operate [v, u] (getItem v u) → wpAny (model X.prog X.w) X.A (subscriptTail value slice v u) (EP X pn σ Q) X.xe s
theorem ixR_SX {X : Cx} : IxR X (SX X) := fun value slice pn s σ H x y v u Q J rx ry h hs => h value slice pn s σ v u J rx ry hs
theorem SX.of {X : Cx} {r : R2} (o : IxR X r) {x y : V} {H : Hp} {Q : VK} (h : r x y H Q) : SX X x y H Q := fun value slice pn s σ v u J rx ry hs => o value slice pn s σ H x y v u Q J rx ry h hs
theorem ix_dict {X : Cx} (hu : X.A.units + 1 < cLine) : IxR X (fun x y H Q => ∃ a v, x = .ref a ∧ DGet H a y (some v) ∧ Q v H) := by
  intro value slice pins s σ H x y v u Q I rx ry h hs
  obtain ⟨a, z, rfl, g, q⟩ := h
  cases rx
  exact tail_any (dict_typeIs I g) PySem.F.slot_dict_getitem.lookup (d_getItem hu I g ry fun w' s3 I3 rw' => ⟨z, H, I3, rw', q⟩) hs
section
variable {G : Gs} {X : Cx} {F H H' : Hp} {σ : L2.St} {ts ts' : Slots} {fp : List Addr} {c c1 c2 : Bool}
theorem atI_rel {xs : List FV} {ws : List V} {i : Int} {x : FV} (t : RFs G F xs ws) (e : atI xs i = some x) : ∃ w, atI ws i = some w ∧ RF G F x w := by
  unfold atI at e ⊢
  rw [t.len]
  cases z : ixN xs.length i with
  | none => rw [z] at e; cases e
  | some j =>
    rw [z] at e
    exact t.at e
theorem fkey_of : ∀ {x : FV} {k : Key}, RF G F x (kV k) → fkey x = some k
  | .int i, .inl j, r => by
    have r : V.int j = V.int i := r
    injection r with r
    rw [r]; rfl
  | .int i, .inr j, r => by cases (show V.str j = V.int i from r)
  | .str x, .inl j, r => by cases (show V.int j = V.str x from r.1)
  | .str x, .inr j, r => by
    have r : V.str j = V.str x := r.1
    injection r with r
    rw [r]; rfl
  | .non, .inl j, r => by cases (show V.int j = V.non from r)
  | .non, .inr j, r => by cases (show V.str j = V.non from r)
  | .bl b, .inl j, r => by cases (show V.int j = V.bl b from r)
  | .bl b, .inr j, r => by cases (show V.str j = V.bl b from r)
  | .lst _, .inl j, r => by obtain ⟨a, ws, e, _⟩ := r; cases e
  | .lst _, .inr j, r => by obtain ⟨a, ws, e, _⟩ := r; cases e
  | .tup _, .inl j, r => by obtain ⟨a, ws, e, _⟩ := r; cases e
  | .tup _, .inr j, r => by obtain ⟨a, ws, e, _⟩ := r; cases e
  | .dic _ _, .inl j, r => by obtain ⟨a, ws, e, _⟩ := r; cases e
  | .dic _ _, .inr j, r => by obtain ⟨a, ws, e, _⟩ := r; cases e
  | .obj _ _ _, .inl j, r => by obtain ⟨a, dx, fs, e, _⟩ := r; cases e
  | .obj _ _ _, .inr j, r => by obtain ⟨a, dx, fs, e, _⟩ := r; cases e
  | .cls _, .inl j, r => by cases (show V.int j = V.ref _ from r)
  | .cls _, .inr j, r => by cases (show V.str j = V.ref _ from r)
  | .scr _, .inl j, r => by obtain ⟨a, e, _⟩ := r; cases e
  | .scr _, .inr j, r => by obtain ⟨a, e, _⟩ := r; cases e
theorem fkey_ok {x : FV} {k : Key} {v : V} (e : fkey x = some k) (r : RF G F x v) : v = kV k := by
  cases x with
  | int i => cases Option.some.inj e; exact r
  | str x => cases Option.some.inj e; exact r.1
  | _ => cases e
theorem dval_ok {q : Key} : ∀ {ks vs : List FV} {kvs : List (Key × V)}, RFs G F ks (kvs.map fun p => kV p.1) → RFs G F vs (kvs.map (·.2)) → (∀ x, dval ks vs q = some x → ∃ w, valV kvs q = some w ∧ RF G F x w) ∧ (dval ks vs q = none → valV kvs q = none)
  | [], vs, kvs, r1, r2 => by
    have e : kvs = [] := by have : kvs.map (fun p => kV p.1) = [] := r1; simpa using this
    subst e
    exact ⟨fun x h => (by cases vs <;> cases h), fun _ => rfl⟩
  | k :: ks, vs, [], r1, _ => by
    obtain ⟨v, vr, e, _⟩ := r1
    cases e
  | k :: ks, [], p :: kvs, _, r2 => by cases (show (p :: kvs).map (·.2) = [] from r2)
  | k :: ks, x :: vs, p :: kvs, r1, r2 => by
    obtain ⟨v1, vr1, e1, a1, b1⟩ := r1
    obtain ⟨v2, vr2, e2, a2, b2⟩ := r2
    rw [List.map_cons] at e1 e2
    injection e1 with e1 e1'
    injection e2 with e2 e2'
    subst e1 e1' e2 e2'
    have hk := fkey_of a1
    obtain ⟨i1, i2⟩ := dval_ok (q := q) b1 b2
    unfold dval
    rw [hk]
    by_cases z : p.1 = q
    · rw [if_pos (by rw [z]), valV_pos z]
      exact ⟨fun y h => (by cases Option.some.inj h; exact ⟨p.2, rfl, a2⟩), fun h => (by cases h)⟩
    · rw [if_neg (fun y => z (Option.some.inj y)), valV_neg z]
      exact ⟨i1, i2⟩
theorem dk_ok (sub : SubH F H) {o : OV} {v : V} {fx : List Addr} {ks vs : List FV} (e : o.dk = some (ks, vs)) (r : RO G F H o v fx) : ∃ a ws, v = .ref a ∧ RFs G F vs ws ∧ ((∃ kvs : List (Key × V), Rd H a (.dK kvs) ∧ kvs.map (·.2) = ws ∧ RFs G F ks (kvs.map fun q => kV q.1)) ∨ ∃ kvs : List (List Key × V), Rd H a (.dT kvs) ∧ kvs.map (·.2) = ws ∧ ks ≠ [] ∧ RTs ks (kvs.map (·.1))) := by
  cases o with
  | frz x =>
    cases x with
    | dic ks' vs' =>
      cases Option.some.inj e
      obtain ⟨_, a, ws, e1, t, d⟩ := r
      refine ⟨a, ws, e1, t, ?_⟩
      rcases d with ⟨kvs, d1, d2, d3⟩ | ⟨kvs, d1, d2, d3⟩
      · exact .inl ⟨kvs, rd_mono sub d1, d2, d3⟩
      · exact .inr ⟨kvs, rd_mono sub d1, d2, d3⟩
    | _ => cases e
  | dic ks' vs' =>
    have e : (frzs vs').map (ks', ·) = some (ks, vs) := e
    cases z : frzs vs' with
    | none => rw [z] at e; cases e
    | some ys =>
      rw [z] at e
      cases Option.some.inj e
      obtain ⟨a, ws, fr, e1, ef, t, d⟩ := r
      refine ⟨a, ws, e1, (frzs_owned z t).1, ?_⟩
      rcases d with ⟨kvs, d1, d2, d3⟩ | ⟨kvs, d1, d2, d3⟩
      · exact .inl ⟨kvs, .inl d1, d2, d3⟩
      · exact .inr ⟨kvs, .inl d1, d2, d3⟩
  | _ => cases e
/-- a dict with tuples as keys has nothing under an int or a text -/
theorem dval_tup {q : Key} : ∀ {ks vs : List FV} {kss : List (List Key)}, RTs ks kss → dval ks vs q = none
  | [], vs, _, _ => by cases vs <;> rfl
  | k :: ks, [], _, _ => rfl
  | k :: ks, x :: vs, _, r => by
    obtain ⟨k', kr, e, r1, r2⟩ := r
    have hk : fkey k = none := by
      cases k with
      | int i => exact r1.elim
      | str x => exact r1.elim
      | _ => rfl
    unfold dval
    rw [hk, if_neg (fun z => by cases z)]
    exact dval_tup r2
theorem ix_ok {k : Nat} (D : Std G X k) : Op2 G (SX X) ix2 := by
  intro H F x y r v w fx fy Q sub rx ry e q
  unfold ix2 at e
  cases y with
  | frz kx =>
    obtain ⟨_, ry⟩ := ry
    dsimp only at e
    cases z : x.dk with
    | some p =>
      obtain ⟨ks, vs⟩ := p
      rw [z] at e
      dsimp only at e
      cases zk : fkey kx with
      | none => rw [zk] at e; cases e
      | some qk =>
        rw [zk] at e
        obtain ⟨a, ws, ev, tv, d⟩ := dk_ok sub z rx
        have ew := fkey_ok zk ry
        cases zd : dval ks vs qk with
        | none =>
          have e : (dval ks vs qk).map OV.frz = some r := e
          rw [zd] at e
          cases e
        | some u =>
          have e : (dval ks vs qk).map OV.frz = some r := e
          rw [zd] at e
          cases Option.some.inj e
          rcases d with ⟨kvs, d1, d2, d3⟩ | ⟨kvs, d1, d2, d3⟩
          · obtain ⟨u', h1, h2⟩ := (dval_ok (q := qk) d3 (by rw [d2]; exact tv)).1 u zd
            exact SX.of (ix_dict (by have := D.room.units; omega)) ⟨a, u', ev, .inl ⟨kvs, qk, d1, ew, h1.symm⟩, q _ _ (Res.same sub h2)⟩
          · rw [dval_tup d3.2] at zd; cases zd
    | none =>
      rw [z] at e
      cases kx with
      | int i =>
        have e : (ixI x i).map OV.frz = some r := e
        cases ze : ixI x i with
        | none => rw [ze] at e; cases e
        | some u =>
          rw [ze] at e
          cases Option.some.inj e
          unfold ixI at ze
          cases z1 : x.els with
          | some xs =>
            rw [z1] at ze
            obtain ⟨a, ws, ev, ea, t⟩ := els_ok sub z1 rx
            obtain ⟨u', h1, h2⟩ := atI_rel t ze
            exact SX.of ix_list ⟨a, ws, i, u', ev, ry, SqL.of ea, h1, q _ _ (Res.same sub h2)⟩
          | none =>
            rw [z1] at ze
            dsimp only at ze
            cases z2 : x.tels with
            | some xs =>
              rw [z2] at ze
              obtain ⟨a, ws, ev, ea, t⟩ := tels_ok sub z2 rx
              obtain ⟨u', h1, h2⟩ := atI_rel t ze
              exact SX.of ix_tup ⟨a, ws, i, u', ev, ry, by rw [D.hK]; exact ea, h1, q _ _ (Res.same sub h2)⟩
            | none =>
              rw [z2] at ze
              dsimp only at ze
              split at ze
              · rename_i ns
                obtain ⟨_, a, ev, ea⟩ := rx
                cases z3 : atI ns i with
                | none => rw [z3] at ze; cases ze
                | some n =>
                  rw [z3] at ze
                  cases Option.some.inj ze
                  have h1 : atI (ns.map V.int) i = some (V.int n) := by
                    unfold atI at z3 ⊢
                    rw [List.length_map]
                    cases z4 : ixN ns.length i with
                    | none => rw [z4] at z3; cases z3
                    | some j =>
                      rw [z4] at z3
                      have z3 : ns[j]? = some n := z3
                      show (ns.map V.int)[j]? = _
                      rw [List.getElem?_map, z3]; rfl
                  exact SX.of ix_list ⟨a, _, i, V.int n, ev, ry, by rw [D.hK]; exact sql_mono sub ea, h1, q _ _ (Res.same sub rfl)⟩
              · rename_i zs
                obtain ⟨_, ev, hs⟩ := rx
                by_cases hl : zs.length ≤ szl
                · rw [if_pos hl] at ze
                  cases z3 : atI zs.cps.toList i with
                  | none => rw [z3] at ze; cases ze
                  | some ch =>
                    rw [z3] at ze
                    cases Option.some.inj ze
                    refine SX.of ix_str ⟨zs, i, ch, ev, ry, hl, z3, q _ _ (Res.same sub ⟨rfl, ?_⟩)⟩
                    have hm : ch ∈ zs.cps.toList := by
                      unfold atI at z3
                      cases z4 : ixN zs.cps.toList.length i with
                      | none => rw [z4] at z3; cases z3
                      | some j => rw [z4] at z3; exact List.mem_of_getElem? z3
                    have hs' : zs.cps.all (· < 0x110000) = true := hs
                    rw [← Array.all_toList, List.all_eq_true] at hs'
                    have := hs' ch hm
                    show (#[ch] : Array Nat).all (· < 0x110000) = true
                    simpa using this
                · rw [if_neg hl] at ze; cases ze
              · cases ze
      | _ => cases e
  | _ => cases e
/-- not a slice -/
def noSl : Expr → Bool
  | .Slice _ _ _ _ => false
  | _ => true
theorem plain_ix {b : Expr} (h : noSl b = true) : PlainIx b := fun o i => by
  cases b <;> first | rfl | cases h
theorem snd_ix {a b : Expr} {pos : Pos} {m : TM (List Opd)} {k : Nat} (D : Std G X k) (hs : isStar a = false) (hs2 : isStar b = false) (hb : noSl b = true) (h : SndO G X [a, b] m c) : Snd G X (.Subscript a b pos) (tb m (pureN (of2 ix2))) c := by
  intro σ H F ts fp S W tk Q q
  refine SE.of (pe_ix ixR_SX pe_SE pe_SE (plain_ix hb)) ?_
  have z := h σ H F ts fp S W tk (fun vs H1 => ∀ v u, vs = [v, u] → SX X v u H1 Q) (q.bind.mono (fun os ts1 q vs H1 ao => ?_) fun _ _ q => q)
  · rw [SEs_cons hs, SEs_cons hs2] at z
    exact z.mono fun v H1 z => z.mono fun u H2 z => z v u rfl
  · intro v u ev
    unfold pureN at q
    cases e1 : gets ts1 os with
    | none => rw [e1] at q; exact q.elim
    | some xs =>
      rw [e1] at q
      dsimp only at q
      cases e2 : of2 ix2 xs with
      | none => rw [e2] at q; exact q.elim
      | some r =>
        rw [e2] at q
        obtain ⟨F1, fp1, fo1, S1, oks, nd1, off1, ex1, cal1⟩ := ao
        subst ev
        have p := gets_ok S1 oks e1
        cases p with
        | cons p1 p2 =>
          cases p2 with
          | cons p3 p4 =>
            cases p4
            obtain ⟨fx, ro⟩ := p1
            obtain ⟨fy, ry⟩ := p3
            refine ix_ok D H1 F1 _ _ r v u fx fy Q S1.sub ro ry e2 fun z H2 res => q z H2 (res_aft (fo := fo1) S1 ex1 cal1 res)
end
end Tv
end

section
/-! What is owned is changed in place. -/
namespace Tv
open PySem L2
open PySem (Str Expr Stmt Scope)

/-- the content of an operand, put anew -/
def setO (r : Opd) (o : OV) (s : Slots) : Slots := match r with
  | .at i => s.set i (some o)
  | .fld i f => match slot s i with
    | some (.obj c ns vs) => s.set i (some (.obj c ns (putV f o ns vs)))
    | _ => s
  | .val _ => s
section
variable {G : Gs} {X : Cx} {F H H' : Hp} {σ : St} {ts ts' : Slots} {fp : List Addr} {c c1 c2 : Bool}
theorem upd_ok {r : Opd} {p : Addr → Prop} {a : Addr} {fo : List Addr} {o : OV} (S : Sim G F H σ ts fp) (k : OK G F H σ p r (.ref a) fo) (nv : ∀ y, r ≠ .val y) (e : r.get ts = some o) :
    fo = [] ∧ ∃ l fx rr, fp = l ++ (fx ++ rr) ∧ RO G F H o (.ref a) fx ∧ ∀ (F' H' : Hp) (o' : OV) (fx' : List Addr), SubH F F' → (∀ b ∈ l ++ rr, H' b = H b) → RO G F' H' o' (.ref a) fx' → SL G F' H' (setO r o' ts) σ (l ++ (fx' ++ rr)) := by
  cases r with
  | val y => exact absurd rfl (nv y)
  | «at» i =>
    obtain ⟨efo, hσ⟩ := k
    obtain ⟨v, l, f, rr, h1, h2, h3, h4⟩ := SL.at S.sl (show slot ts i = some o from e)
    rw [h1] at hσ
    have ev := Option.some.inj (Option.some.inj hσ)
    subst ev
    refine ⟨efo, l, f, rr, h2, h3, fun F' H' o' fx' hF hk r' => ?_⟩
    have z := h4 F' H' o' (.ref a) fx' hF hk r'
    rw [set_self h1] at z
    exact z
  | fld i g =>
    obtain ⟨efo, b, C, dx, fs, hσ, _, hb, hl⟩ := k
    have e' : (match slot ts i with | some (.obj _ ns vs) => look g ns vs | _ => none) = some o := e
    cases z : slot ts i with
    | none => rw [z] at e'; cases e'
    | some y =>
      rw [z] at e'
      cases y with
      | obj cc ns vs =>
        obtain ⟨v, l, f, rr, h1, h2, h3, h4⟩ := SL.at S.sl z
        obtain ⟨b', dx', fs', fr, e1, e2, e3, e4, e5⟩ := h3
        rw [h1, e1] at hσ
        have eb : b' = b := by injection Option.some.inj (Option.some.inj hσ)
        subst eb
        rw [hb] at e3
        injection e3 with e3
        injection e3 with e31 e32 e33
        subst e31 e32 e33
        obtain ⟨w, l1, m1, r1, k1, k2, k3, k4, _, k5⟩ := look_put e4 e5 e'
        rw [hl] at k1
        have ew := Option.some.inj k1
        subst ew
        refine ⟨efo, l ++ b' :: l1, m1, r1 ++ rr, by rw [h2, e2, k2]; simp, k3, fun F' H' o' fx' hF hk r' => ?_⟩
        have hb' : H' b' = H b' := hk b' (by simp)
        obtain ⟨z1, z2⟩ := k5 F' H' o' (.ref a) fx' hF (fun x hx => hk x (by simp only [List.mem_append] at hx; rcases hx with y | y <;> simp [y])) r'
        rw [k4] at z1 z2
        have ro : RO G F' H' (.obj cc ns (putV g o' ns vs)) v (b' :: (l1 ++ (fx' ++ r1))) := ⟨b', dx, fs, _, e1, rfl, by rw [hb', hb], e4, z1⟩
        have zz := h4 F' H' _ v _ hF (fun x hx => hk x (by simp only [List.mem_append] at hx ⊢; rcases hx with y | y <;> simp [y])) ro
        rw [set_self h1] at zz
        show SL G F' H' (match slot ts i with | some (.obj c ns vs) => ts.set i (some (.obj c ns (putV g o' ns vs))) | _ => ts) σ _
        rw [z]
        have el : l ++ ((b' :: (l1 ++ (fx' ++ r1))) ++ rr) = (l ++ b' :: l1) ++ (fx' ++ (r1 ++ rr)) := by simp
        rw [← el]
        exact zz
      | _ => cases e'
/-- the list that an operand owns -/
def lstO (r : Opd) (s : Slots) : Option (List OV) := match r, r.get s with
  | .at _, some (.lst os) => some os
  | .fld _ _, some (.lst os) => some os
  | _, _ => none
theorem lstO_ok {r : Opd} {s : Slots} {os : List OV} (h : lstO r s = some os) : (∀ y, r ≠ .val y) ∧ r.get s = some (.lst os) := by
  unfold lstO at h
  split at h
  · rename_i e; cases Option.some.inj h; exact ⟨fun y z => (by cases z), e⟩
  · rename_i e; cases Option.some.inj h; exact ⟨fun y z => (by cases z), e⟩
  · cases h
def isVal : Opd → Bool
  | .val _ => true
  | _ => false
/-- x.append(y) -/
def tappend : List Opd → TM Opd
  | [r, y] => if isVal r then tbad else tb (esc y) fun o s => match lstO r s with
    | some os => if os.length < szl then .ok (.val (.frz .non)) (setO r (.lst (os ++ [o])) s) else .bad
    | none => .bad
  | _ => tbad
theorem one_own {a : Addr} {F1 : Hp} {r : Opd} {os os' : List OV} {ws ws' : List V} {fo1 : List Addr} {ts1 : Slots} {fp1 : List Addr} {p : Addr → Prop} {fo : List Addr} (S1 : Sim G F1 H σ ts1 fp1) (k : OK G F1 H σ p r (.ref a) fo) (nv : ∀ y, r ≠ .val y) (e : r.get ts1 = some (.lst os)) (nd : (fp1 ++ fo1).Nodup) (off : ∀ b ∈ fo1, F1 b = none)
    (hw : ∀ a' ws0 fr, V.ref a = .ref a' → H a' = some (.lst ws0) → ROs G F1 H os ws0 fr → a' ∉ fr → (fr ++ fo1).Nodup → ws0 = ws ∧ ∃ fs, ROs G F1 H os' ws' fs ∧ fs.Nodup ∧ (∀ b ∈ fs, b ∈ fr ++ fo1)) (ex1 : Ex H H F F1 fp (fp1 ++ fo1)) :
    ∃ fp2, Sim G F1 (upd H a (.lst ws')) σ (setO r (.lst os') ts1) fp2 ∧ Ex H (upd H a (.lst ws')) F F1 fp (fp2 ++ []) := by
  obtain ⟨_, l, fx, rr, ef, ro, put⟩ := upd_ok S1 k nv e
  obtain ⟨a', ws0, fr, ea, efx, hH, rs⟩ := ro
  have ea' : a = a' := by injection ea
  subst ea' efx ef
  obtain ⟨n1, n2, n3⟩ := List.nodup_append.mp nd
  obtain ⟨m1, m2⟩ := nd_mid n1
  have nfx : (a :: fr).Nodup := (List.nodup_append.mp (List.nodup_append.mp n1).2.1).1
  have anf : a ∉ fr := (List.nodup_cons.mp nfx).1
  have ndff : (fr ++ fo1).Nodup := List.nodup_append.mpr ⟨(List.nodup_cons.mp nfx).2, n2, fun b m d m' e => n3 b (by simp [m]) d m' e⟩
  obtain ⟨ew, fs, r2, ndf, sub⟩ := hw a ws0 fr rfl hH rs anf ndff
  have na : ∀ b ∈ l ++ rr, b ≠ a := fun b m z => m2 b m (by rw [z]; exact List.mem_cons_self)
  have nafo : ∀ b ∈ fo1, b ≠ a := fun b m z => n3 a (by simp) b m z.symm
  have nfs : ∀ b ∈ fs, b ≠ a := fun b m z => by
    rcases List.mem_append.mp (sub b m) with y | y
    · exact anf (by rw [← z]; exact y)
    · exact nafo b y z
  have r3 : ROs G F1 (upd H a (.lst ws')) os' ws' fs := ROs.frame (SubH.refl F1) _ _ _ (fun b m => upd_ne (nfs b m)) r2
  have sl := put F1 (upd H a (.lst ws')) (.lst os') (a :: fs) (SubH.refl F1) (fun b m => upd_ne (na b m)) ⟨a, ws', fs, rfl, rfl, upd_same, r3⟩
  have offa : F1 a = none := S1.off a (by simp)
  have mem : ∀ b ∈ l ++ ((a :: fs) ++ rr), b ∈ (l ++ ((a :: fr) ++ rr)) ++ fo1 := fun b m => by
    simp only [List.mem_append, List.mem_cons] at m ⊢
    rcases m with m | (m | m) | m
    · simp [m]
    · simp [m]
    · rcases List.mem_append.mp (sub b m) with y | y <;> simp [y]
    · simp [m]
  have ndn : (l ++ ((a :: fs) ++ rr)).Nodup := by
    obtain ⟨q1, q2, q3⟩ := List.nodup_append.mp m1
    have apart : ∀ b ∈ l ++ rr, b ∉ a :: fs := fun b m z => by
      rcases List.mem_cons.mp z with z | z
      · exact na b m z
      · rcases List.mem_append.mp (sub b z) with y | y
        · exact m2 b m (List.mem_cons_of_mem _ y)
        · exact n3 b (by simp only [List.mem_append] at m ⊢; rcases m with m | m <;> simp [m]) b y rfl
    have ndx : (a :: fs).Nodup := List.nodup_cons.mpr ⟨fun m => nfs a m rfl, ndf⟩
    refine List.nodup_append.mpr ⟨q1, List.nodup_append.mpr ⟨ndx, q2, fun b m d m' e => apart d (List.mem_append_right _ m') (by rw [← e]; exact m)⟩, fun b m d m' e => ?_⟩
    rcases List.mem_append.mp m' with z | z
    · exact apart b (List.mem_append_left _ m) (by rw [e]; exact z)
    · exact q3 b m d z e
  have offs : ∀ b ∈ l ++ ((a :: fs) ++ rr), F1 b = none := fun b m => by
    rcases List.mem_append.mp (mem b m) with z | z
    · exact S1.off b z
    · exact off b z
  refine ⟨l ++ ((a :: fs) ++ rr), ⟨fun b u e => ?_, sl, ndn, offs⟩, ⟨ex1.sub, fun b lv m e => ?_, fun b lv => ?_, fun b m => ?_, ex1.fro⟩⟩
  · have : b ≠ a := fun z => by rw [z, offa] at e; cases e
    rw [upd_ne this]
    exact S1.sub b u e
  · have : b ≠ a := fun z => by
      rcases ex1.new a (by simp) with y | y
      · exact m (by rw [z]; exact y)
      · exact lv (by rw [z]; exact y)
    exact upd_ne this
  · by_cases z : b = a
    · rw [z, upd_same]; simp
    · rw [upd_ne z]; exact lv
  · rw [List.append_nil] at m
    exact ex1.new b (mem b m)
/-- two operands, the second goes elsewhere -/
theorem two_esc {α : Type} {r y : Opd} {vs : List V} {fo : List Addr} {kx : OV → TM α} {P : α → Slots → Prop} {E : XV → Slots → Prop} (S : Sim G F H σ ts fp) (oks : OKs G F H σ (fun _ => True) [r, y] vs fo) (nd : (fp ++ fo).Nodup) (off : ∀ a ∈ fo, F a = none) (nv : ∀ z, r ≠ .val z) (q : OutP (tb (esc y) kx ts) P E) :
    ∃ v u F1 ts1 fp1 fo1 o, vs = [v, u] ∧ Sim G F1 H σ ts1 fp1 ∧ OK G F1 H σ (fun _ => True) r v [] ∧ RO G F1 H o u fo1 ∧ (fp1 ++ fo1).Nodup ∧ (∀ a ∈ fo1, F1 a = none) ∧ Ex H H F F1 (fp ++ fo) (fp1 ++ fo1) ∧ OutP (kx o ts1) P E := by
  obtain ⟨v, vr, f1, f2, e1, e2, k1, u, vr2, f3, f4, e3, e4, k2, e5, e6⟩ := oks
  subst e1 e2 e3 e4 e5 e6
  have ef : f1 = [] := by
    cases r with
    | val z => exact absurd rfl (nv z)
    | «at» i => exact k1.1
    | fld i f => exact k1.1
  subst ef
  rw [List.nil_append, List.append_nil] at nd off
  have q := q.bind
  cases e : esc y ts with
  | bad => rw [e] at q; exact q.elim
  | exc x s => exact (esc_exc e).elim
  | ok o ts1 =>
    rw [e] at q
    obtain ⟨F1, fp1, fo1, S1, r1, nd1, off1, ex1⟩ := esc_step S k2 nd off e
    refine ⟨v, u, F1, ts1, fp1, fo1, o, rfl, S1, ?_, r1, nd1, off1, by rw [List.nil_append, List.append_nil]; exact ex1, q⟩
    cases r with
    | val z => exact absurd rfl (nv z)
    | «at» i => exact k1
    | fld i f => exact k1
theorem stp_append : Stp G X (fun us => call (.builtin "list.append") us) tappend false := by
  intro σ H F ts fp fo os vs S oks nd off W tk Q q pn s us J rv
  unfold tappend at q
  split at q
  · rename_i r y
    cases hv : isVal r with
    | true => rw [hv, if_pos rfl] at q; exact q.elim
    | false =>
      rw [hv, if_neg Bool.false_ne_true] at q
      have nv : ∀ z, r ≠ .val z := fun z e => by rw [e] at hv; cases hv
      obtain ⟨v, u, F1, ts1, fp1, fo1, o, ev, S1, k1, r1, nd1, off1, ex1, q⟩ := two_esc S oks nd off nv q
      subst ev
      cases el : lstO r ts1 with
      | none => rw [el] at q; exact q.elim
      | some os =>
        rw [el] at q
        dsimp only at q
        obtain ⟨_, eg⟩ := lstO_ok el
        by_cases z : os.length < szl
        · rw [if_pos z] at q
          obtain ⟨fx, ro, hfx⟩ := get_ok S1 k1 eg
          obtain ⟨a, ws, fr, ea, efx, hH, rs⟩ := ro
          subst ea efx
          obtain ⟨fp2, S2, ex2⟩ := one_own (os' := os ++ [o]) (ws' := ws ++ [u]) (fo1 := fo1) S1 k1 nv eg nd1 off1 (fun a' ws0 fr' ea' hH' rs' anf ndff => by
            have e : a = a' := by injection ea'
            subst e
            rw [hH] at hH'
            have ew : ws = ws0 := by injection (Option.some.inj hH')
            refine ⟨ew.symm, fr' ++ fo1, ?_, ndff, fun b m => m⟩
            rw [ew]; exact ROs.snoc r1 rs') ex1
          cases rv with
          | cons rv1 rv2 =>
            refine mt_append pn s σ H (.ref a) [u] _ _ Q J rv1 rv2 ⟨a, ws, u, rfl, rfl, hH, by rw [rs.len]; exact z, ?_⟩
            exact q .non _ ⟨F1, fp2, [], S2, ⟨rfl, rfl⟩, by simpa using S2.nd, (fun _ m => by cases m), ex2, fun z => by cases z⟩
        · rw [if_neg z] at q; exact q.elim
  · exact q.elim
end
end Tv
end

section
/-! Methods of built-in types. -/
namespace Tv
open PySem L2 PySem.Spec PyProof.Rows
open PySem (Str Expr Stmt Scope Keyword)

def tbm (ty : OV → Bool) (f : List Opd → TM Opd) (ca : Bool) (mo : TM Opd) (ma : TM (List Opd)) : TM Opd := tb (tkeep ca mo) fun r s => match r.get s with
  | some x => if ty x then tb ma (fun os => f (r :: os)) s else .bad
  | none => .bad
def bnode (o : Expr) (apos pos : Pos) (es : List Expr) : Bool :=
  (match o with
    | .Call (.Name id _) [] [] _ => id != ("super" : Str)
    | _ => true) && (es.all fun e => !isStar e) && decide (es.length < 30) && (apos.endLine == pos.line)
section
variable {G : Gs} {X : Cx} {F H H' : Hp} {σ : L2.St} {ts ts' : Slots} {fp : List Addr} {c c1 c2 : Bool}
theorem star_none {es : List Expr} {env : Env} {pos : Pos} (h : (es.all fun e => !isStar e) = true) : (backTo pos (starEach es env)).any (·.1) = false := by
  have z := star_any (env := env) (pos := pos) h
  cases q : (backTo pos (starEach es env)).any (·.1) with
  | false => rfl
  | true =>
    obtain ⟨x, hx, e⟩ := List.any_eq_true.mp q
    have := List.all_eq_true.mp z x hx
    rw [e] at this
    cases this
theorem snd_bm {T id : String} {name : Str} {o : Expr} {es : List Expr} {apos cpos : Pos} {mo : TM Opd} {ma : TM (List Opd)} {ca d : Bool} {ty : OV → Bool} {f : List Opd → TM Opd} (pa : PlainAttrs T) (slot : Slot T name id) (hty : typeOf (.builtin id) = pure (.type "method_descriptor"))
    (ht : ∀ (H F : Hp) (x : OV) (v : V) (fx : List Addr), SubH F H → RO G F H x v fx → ty x = true → tyV X.K T v H) (st : Stp G X (fun us => call (.builtin id) us) f d) (hn : bnode o apos cpos es = true) (ho : Snd G X o mo c) (he : SndO G X es ma ca) :
    Snd G X (.Call (.Attribute o name apos) es [] cpos) (tbm ty f ca mo ma) (c && ca && d) := by
  intro σ H F ts fp S W tk Q q
  unfold bnode at hn
  simp only [Bool.and_eq_true] at hn
  obtain ⟨⟨⟨h1, h2⟩, h3⟩, h4⟩ := hn
  have read : SE X o σ H fun v H1 => tyV X.K T v H1 ∧ SEs X es σ H1 fun vs H2 => SA X (fun us => call (.builtin id) us) σ (v :: vs) H2 Q := by
    unfold tbm at q
    refine snd_keep ho σ H F ts fp S W tk _ ((keep_fld q.bind).mono (fun r ts1 q v H1 ae => ?_) fun _ _ q => q)
    obtain ⟨nf, q⟩ := q
    obtain ⟨F1, fp1, fo1, S1, ok1, nd1, off1, ex1, cal1⟩ := ae
    cases e1 : r.get ts1 with
    | none => rw [e1] at q; exact q.elim
    | some x =>
      rw [e1] at q
      dsimp only at q
      cases e2 : ty x with
      | false => rw [e2] at q; exact q.elim
      | true =>
        rw [e2, if_pos rfl] at q
        obtain ⟨fx, ro, _⟩ := get_ok S1 ok1 e1
        refine ⟨ht H1 F1 x v fx S1.sub ro e2, ?_⟩
        refine he σ H1 F1 ts1 fp1 S1 W tk _ (q.bind.mono (fun os ts2 q vs H2 af => ?_) fun x s q => ax_then ex1 q)
        have ao : AO G F H σ fp (c && ca) (r :: os) ts2 (v :: vs) H2 := aft_two ok1 nf nd1 off1 ex1 cal1 af fun F2 fp2 fo2 S2 st r => ⟨v, vs, fo1, fo2, rfl, rfl, st, r⟩
        exact stp_use st tk ao q
  intro pn s J
  cases es with
  | nil =>
    refine wpAny_Call_method0_late (abase_ok h1) h4 (thn (read pn s J) fun v s1 ⟨x, H1, J1, r1, ty1, q1⟩ => ?_)
    obtain ⟨g1, g2⟩ := tyV_is J1 r1 ty1
    exact ⟨T, id, pa, slot, hty, g1, g2, Calls.callWith_builtin rfl (PySem.evalArgs_none (q1 pn s1 [v] J1 (.cons r1 .nil)))⟩
  | cons e es =>
    have hs : isStar e = false := by
      have := (Bool.and_eq_true_iff.mp (show ((!isStar e) && es.all fun e => !isStar e) = true from h2)).1
      cases z : isStar e with
      | false => rfl
      | true => rw [z] at this; cases this
    have hfew : ((backTo cpos (starEach (e :: es) X.env)).all (fun x => !x.1) && (backToKw cpos (keywordEach [] X.env)).all (fun x => x.1.isSome)
      && decide ((e :: es).length + ([] : List Keyword).length + (if ([] : List Keyword).isEmpty then 0 else 1) < 30)) = true := by
      rw [star_any h2]
      have h5 : (backToKw cpos (keywordEach [] X.env)).all (fun x => x.1.isSome) = true := rfl
      rw [h5]
      have h6 : (e :: es).length < 30 := of_decide_eq_true h3
      simpa using h6
    refine wpAny_Call_method_late (abase_ok h1) hfew h4 rfl (thn (read pn s J) fun v s1 ⟨x, H1, J1, r1, ty1, q1⟩ => ?_)
    obtain ⟨g1, g2⟩ := tyV_is J1 r1 ty1
    refine ⟨T, id, pa, slot, hty, g1, g2, ?_⟩
    have hA := (pa_SEs (X := X) (es := e :: es)).run cpos pn s1 σ H1 _ J1 q1
    have hp := star_none (env := X.env) (pos := cpos) h2
    rw [starEach_cons hs] at hA hp ⊢
    exact Calls.callWith_builtin hp (Calls.evalArgs_plain (thn hA fun us s2 ⟨vs, H2, J2, r2, q2⟩ => q2 pn s2 (v :: us) J2 (.cons r1 r2)))
/-- lists -/
def isLst : OV → Bool
  | .lst _ => true
  | .frz (.lst _) => true
  | _ => false
def isStr : OV → Bool
  | .frz (.str _) => true
  | _ => false
theorem ty_lst (H F : Hp) (x : OV) (v : V) (fx : List Addr) (sub : SubH F H) (r : RO G F H x v fx) (e : isLst x = true) : tyV X.K "list" v H := by
  cases x with
  | frz y =>
    cases y with
    | lst xs =>
      obtain ⟨_, a, ws, ev, ea, _⟩ := r
      subst ev
      exact .inl ⟨rfl, ws, SqL.of (sub.lst ea)⟩
    | _ => cases e
  | lst os =>
    obtain ⟨a, ws, fr, ev, _, ea, _⟩ := r
    subst ev
    exact .inl ⟨rfl, ws, SqL.of ea⟩
  | _ => cases e
theorem ty_str (H F : Hp) (x : OV) (v : V) (fx : List Addr) (sub : SubH F H) (r : RO G F H x v fx) (e : isStr x = true) : tyV X.K "str" v H := by
  cases x with
  | frz y =>
    cases y with
    | str z =>
      rw [r.2.1]
      exact rfl
    | _ => cases e
  | _ => cases e
end
end Tv
end

section
/-! x.f = v. -/
namespace Tv
open PySem L2
open PySem (Str Expr Stmt Scope)
section
variable {G : Gs} {X : Cx} {F H H' : Hp} {σ : St} {ts ts' : Slots} {fp : List Addr} {c c1 c2 : Bool} {w : Nat → Bool}
/-- an owned object changed in place -/
theorem upd_own {a : Addr} {F1 : Hp} {r : Opd} {o o' : OV} {ho : HO} {fo1 : List Addr} {ts1 : Slots} {fp1 : List Addr} {p : Addr → Prop} {fo : List Addr} (S1 : Sim G F1 H σ ts1 fp1) (k : OK G F1 H σ p r (.ref a) fo) (nv : ∀ y, r ≠ .val y) (e : r.get ts1 = some o) (nd : (fp1 ++ fo1).Nodup) (off : ∀ b ∈ fo1, F1 b = none)
    (hw : ∀ fx, RO G F1 H o (.ref a) fx → (fx ++ fo1).Nodup → ∃ fr fs, fx = a :: fr ∧ RO G F1 (upd H a ho) o' (.ref a) (a :: fs) ∧ fs.Nodup ∧ a ∉ fs ∧ (∀ b ∈ fs, b ∈ fr ++ fo1)) (ex1 : Ex H H F F1 fp (fp1 ++ fo1)) :
    ∃ fp2, Sim G F1 (upd H a ho) σ (setO r o' ts1) fp2 ∧ Ex H (upd H a ho) F F1 fp (fp2 ++ []) := by
  obtain ⟨_, l, fx, rr, ef, ro, put⟩ := upd_ok S1 k nv e
  subst ef
  obtain ⟨n1, n2, n3⟩ := List.nodup_append.mp nd
  obtain ⟨m1, m2⟩ := nd_mid n1
  have nfx0 : fx.Nodup := (List.nodup_append.mp (List.nodup_append.mp n1).2.1).1
  have ndff : (fx ++ fo1).Nodup := List.nodup_append.mpr ⟨nfx0, n2, fun b m d m' e => n3 b (by simp [m]) d m' e⟩
  obtain ⟨fr, fs, efx, r3, ndf, nfs, sub⟩ := hw fx ro ndff
  subst efx
  have na : ∀ b ∈ l ++ rr, b ≠ a := fun b m z => m2 b m (by rw [z]; exact List.mem_cons_self)
  have sl := put F1 (upd H a ho) o' (a :: fs) (SubH.refl F1) (fun b m => upd_ne (na b m)) r3
  have offa : F1 a = none := S1.off a (by simp)
  have mem : ∀ b ∈ l ++ ((a :: fs) ++ rr), b ∈ (l ++ ((a :: fr) ++ rr)) ++ fo1 := fun b m => by
    simp only [List.mem_append, List.mem_cons] at m ⊢
    rcases m with m | (m | m) | m
    · simp [m]
    · simp [m]
    · rcases List.mem_append.mp (sub b m) with y | y <;> simp [y]
    · simp [m]
  have ndn : (l ++ ((a :: fs) ++ rr)).Nodup := by
    obtain ⟨q1, q2, q3⟩ := List.nodup_append.mp m1
    have apart : ∀ b ∈ l ++ rr, b ∉ a :: fs := fun b m z => by
      rcases List.mem_cons.mp z with z | z
      · exact na b m z
      · rcases List.mem_append.mp (sub b z) with y | y
        · exact m2 b m (List.mem_cons_of_mem _ y)
        · exact n3 b (by simp only [List.mem_append] at m ⊢; rcases m with m | m <;> simp [m]) b y rfl
    have ndx : (a :: fs).Nodup := List.nodup_cons.mpr ⟨nfs, ndf⟩
    refine List.nodup_append.mpr ⟨q1, List.nodup_append.mpr ⟨ndx, q2, fun b m d m' e => apart d (List.mem_append_right _ m') (by rw [← e]; exact m)⟩, fun b m d m' e => ?_⟩
    rcases List.mem_append.mp m' with z | z
    · exact apart b (List.mem_append_left _ m) (by rw [e]; exact z)
    · exact q3 b m d z e
  refine ⟨l ++ ((a :: fs) ++ rr), ⟨fun b u e => ?_, sl, ndn, fun b m => ?_⟩, ⟨ex1.sub, fun b lv m e => ?_, fun b lv => ?_, fun b m => ?_, ex1.fro⟩⟩
  · have : b ≠ a := fun z => by rw [z, offa] at e; cases e
    rw [upd_ne this]
    exact S1.sub b u e
  · rcases List.mem_append.mp (mem b m) with z | z
    · exact S1.off b z
    · exact off b z
  · have : b ≠ a := fun z => by
      rcases ex1.new a (by simp) with y | y
      · exact m (by rw [z]; exact y)
      · exact lv (by rw [z]; exact y)
    exact upd_ne this
  · by_cases z : b = a
    · rw [z, upd_same]; simp
    · rw [upd_ne z]; exact lv
  · rw [List.append_nil] at m
    exact ex1.new b (mem b m)
/-- x.f = v -/
def tsetf (okc : Nat → Bool) (f i : Nat) (m : TM Opd) : TM Fl := tb (tval m) fun o s => match slot s i with
  | some (.obj c ns vs) => if okc c && decide (ns.length < 1000) then .ok .nx (s.set i (some (.obj c (putN f ns) (putV f o ns vs)))) else .bad
  | _ => .bad
theorem snd1_setf {i f : Nat} {x : Str} {e : Expr} {p pos pos' : Pos} {m : TM Opd} {okc : Nat → Bool} (hN : X.N[i]? = some x) (hv : Vis X.env.scope x) (hd : (x == ("__debug__" : Str)) = false) (hcd : (x == ("__classdict__" : Str)) = false) (hc : ∀ cc, okc cc = true → Cls X.K (G.cad cc) ∧ NoAttr X.K (G.cad cc) (G.att f))
    (hs : swapsWith e (some (.Attribute (.Name x p) (G.att f) pos')) pos.line X.env = pure false) (he : Snd G X e m c) : Snd1 G X (.Assign [.Attribute (.Name x p) (G.att f) pos'] e pos) (tsetf okc f i m) w := by
  intro σ H F ts fp S W tk D q
  unfold tsetf tval at q
  refine S1.of (ps_fld (pe_var hN hv hd hcd) pe_SE hs) (he σ H F ts fp S W tk _ (q.bind.bind.mono (fun o ts1 q v H1 ae => ?_) fun x s q => xw_of q))
  have q2 : OutP (tb (esc o) (fun o s => match slot s i with
      | some (.obj c ns vs) => if okc c && decide (ns.length < 1000) then .ok .nx (s.set i (some (.obj c (putN f ns) (putV f o ns vs)))) else .bad
      | _ => .bad) ts1) (FlP G F H σ fp w D) (XS G W F H σ fp w) := by
    unfold tb
    cases e1 : esc o ts1 with
    | ok ov ts2 => rw [e1] at q; exact q
    | exc x s => exact (esc_exc e1).elim
    | bad => rw [e1] at q; exact q.elim
  obtain ⟨ov, ts2, af, q⟩ := esc_then ae q2
  obtain ⟨F1, fp1, fo1, S1, r1, nd1, off1, ex1, _⟩ := af
  cases es : slot ts2 i with
  | none => rw [es] at q; exact q.elim
  | some ob =>
    rw [es] at q
    cases ob with
    | obj cc ns vs =>
      dsimp only at q
      by_cases z : (okc cc && decide (ns.length < 1000)) = true
      · rw [if_pos z] at q
        obtain ⟨z1, z2⟩ := Bool.and_eq_true_iff.mp z
        have z2 : ns.length < 1000 := of_decide_eq_true z2
        obtain ⟨u, l, f0, rr, h1, h2, h3, h4⟩ := SL.at S1.sl es
        obtain ⟨a, dx, fs, fr, ea, ef, hH, hn, hr⟩ := h3
        subst ea
        have lfs : fs.length = ns.length := by have := congrArg List.length hn; simpa using this
        refine ⟨.ref a, h1, a, G.cad cc, dx, fs, rfl, hH, (hc cc z1).1, (hc cc z1).2, by omega, ?_⟩
        have exz : Ex H1 H1 F1 F1 fp1 (fp1 ++ fo1) → True := fun _ => trivial
        -- one_own wants one heap: H1 throughout
        have exr : Ex H1 H1 F1 F1 (fp1 ++ fo1) (fp1 ++ fo1) := Ex.refl H1 F1 (fp1 ++ fo1)
        obtain ⟨fp2, S2, ex2⟩ := upd_own (F := F1) (fp := fp1 ++ fo1) (o' := .obj cc (putN f ns) (putV f ov ns vs)) (ho := .ins (G.cad cc) dx (putF (G.att f) v fs)) (r := .at i) (p := fun _ => True) S1 ⟨rfl, h1⟩ (fun y z => by cases z) es nd1 off1 (fun fx ro ndff => by
          obtain ⟨a', dx', fs', fr', ea', ef', hH', hn', hr'⟩ := ro
          have e0 : a = a' := by injection ea'
          subst e0
          rw [hH] at hH'
          injection hH' with hH'
          injection hH' with _ e2 e3
          subst e2 e3 ef'
          obtain ⟨d1, d2, d3⟩ := List.nodup_append.mp ndff
          obtain ⟨d4, d5⟩ := List.nodup_cons.mp d1
          have nafo : ∀ b ∈ fo1, b ≠ a := fun b m z => d3 a List.mem_cons_self b m z.symm
          have nafr : ∀ b ∈ fr', b ≠ a := fun b m z => d4 (by rw [← z]; exact m)
          have rv : RO G F1 (upd H1 a (.ins (G.cad cc) dx (putF (G.att f) v fs))) ov v fo1 := RO.frame (SubH.refl F1) ov v fo1 (fun b m => upd_ne (nafo b m)) r1
          cases hl : look f ns vs with
          | none =>
            obtain ⟨_, k2⟩ := put_fresh hn' hr' hl
            obtain ⟨k3, k4⟩ := k2 F1 (upd H1 a (.ins (G.cad cc) dx (putF (G.att f) v fs))) ov v fo1 (SubH.refl F1) (fun b m => upd_ne (nafr b m)) rv
            refine ⟨fr', fr' ++ fo1, rfl, ⟨a, dx, _, _, rfl, rfl, upd_same, k4, k3⟩, ?_, ?_, fun b m => m⟩
            · exact List.nodup_append.mpr ⟨d5, d2, fun b m d m' e => d3 b (List.mem_cons_of_mem _ m) d m' e⟩
            · intro m
              rcases List.mem_append.mp m with y | y
              · exact d4 y
              · exact nafo a y rfl
          | some old =>
            obtain ⟨w0, l1, m1, r2, k1, k2, k3, k4, k5, k6⟩ := look_put hn' hr' hl
            subst k2
            obtain ⟨k7, k8⟩ := k6 F1 (upd H1 a (.ins (G.cad cc) dx (putF (G.att f) v fs))) ov v fo1 (SubH.refl F1) (fun b m => upd_ne (nafr b (by simp only [List.mem_append] at m ⊢; rcases m with y | y <;> simp [y]))) rv
            refine ⟨l1 ++ (m1 ++ r2), l1 ++ (fo1 ++ r2), rfl, ⟨a, dx, _, _, rfl, rfl, upd_same, by rw [k5]; exact k8, k7⟩, ?_, ?_, fun b m => ?_⟩
            · obtain ⟨g1, g2⟩ := nd_mid d5
              obtain ⟨g3, g4, g5⟩ := List.nodup_append.mp g1
              have g6 : ∀ b ∈ l1 ++ r2, b ∉ fo1 := fun b m y => d3 b (List.mem_cons_of_mem _ (by simp only [List.mem_append] at m ⊢; rcases m with z | z <;> simp [z])) b y rfl
              refine List.nodup_append.mpr ⟨g3, List.nodup_append.mpr ⟨d2, g4, fun b m d m' e => g6 d (List.mem_append_right _ m') (by rw [← e]; exact m)⟩, fun b m d m' e => ?_⟩
              rcases List.mem_append.mp m' with y | y
              · exact g6 b (List.mem_append_left _ m) (by rw [e]; exact y)
              · exact g5 b m d y e
            · intro m
              simp only [List.mem_append] at m
              rcases m with y | y | y
              · exact d4 (by simp [y])
              · exact nafo a y rfl
              · exact d4 (by simp [y])
            · simp only [List.mem_append] at m ⊢
              rcases m with y | y | y <;> simp [y]) exr
        refine q σ _ ⟨⟨F1, fp2, [], S2, rfl, by simpa using S2.nd, (fun _ m => by cases m), ?_, fun z => by cases z⟩, Fix.refl⟩
        have ex1' : Ex H H1 F F1 fp ((fp1 ++ fo1) ++ []) := ex1.less fun a m => by simpa using m
        exact (ex1'.trans ex2).less fun a m => by simpa using m
      · rw [if_neg z] at q; exact q.elim
    | _ => exact q.elim
end
end Tv
end

section
/-! Built-in functions by name. -/
namespace Tv
open PySem L2 PySem.Spec PyProof.Rows
open PySem (Str Expr Stmt Scope Keyword)
section
variable {G : Gs} {X : Cx} {F H H' : Hp} {σ : L2.St} {ts ts' : Slots} {fp : List Addr} {c d : Bool}
theorem star_first {e : Expr} {es : List Expr} (h : ((e :: es).all fun e => !isStar e) = true) : isStar e = false ∧ (es.all fun e => !isStar e) = true := by
  obtain ⟨h1, h2⟩ := Bool.and_eq_true_iff.mp (show ((!isStar e) && es.all fun e => !isStar e) = true from h)
  refine ⟨?_, h2⟩
  cases z : isStar e with
  | false => rfl
  | true => rw [z] at h1; cases h1
/-- f(e, ..), f a built-in function -/
theorem snd_cb {x : Str} {id : String} {e : Expr} {es : List Expr} {p pos : Pos} {m : TM (List Opd)} {f : List Opd → TM Opd} (hg : Gl X x) (hm : X.mg x = none) (hv : bootBuiltins x = some (.builtin id)) (hn : x ≠ "__name__") (hdb : (x == ("__debug__" : Str)) = false)
    (hs : ((e :: es).all fun e => !isStar e) = true) (st : Stp G X (fun us => call (.builtin id) us) f d) (he : SndO G X (e :: es) m c) : Snd G X (.Call (.Name x p) (e :: es) [] pos) (tb m f) (c && d) := by
  intro σ H F ts fp S W tk Q q pn s J
  obtain ⟨h1, h2⟩ := star_first hs
  have read := rd_app he st S tk q
  refine wpAny_Call_Name_kw (ld_blt J hg hm hv ?_ hn hdb)
  exact PyProof.Rows.callWith_builtin1 (thn ((pa_SEs (X := X) (es := e :: es)).run pos pn s σ H _ J read) fun us s1 ⟨vs, H1, J1, r1, q1⟩ => q1 pn s1 us J1 r1) (starEach_cons h1) (star_none h2)
/-- T(e, ..), T a built-in type -/
theorem snd_ct {x : Str} {T : String} {e : Expr} {es : List Expr} {p pos : Pos} {m : TM (List Opd)} {f : List Opd → TM Opd} (hg : Gl X x) (hm : X.mg x = none) (hv : bootBuiltins x = some (.type T)) (hn : x ≠ "__name__") (hdb : (x == ("__debug__" : Str)) = false)
    (hs : ((e :: es).all fun e => !isStar e) = true) (st : Stp G X (fun us => call (.type T) us) f d) (he : SndO G X (e :: es) m c) : Snd G X (.Call (.Name x p) (e :: es) [] pos) (tb m f) (c && d) := by
  intro σ H F ts fp S W tk Q q pn s J
  obtain ⟨h1, h2⟩ := star_first hs
  have read := rd_app he st S tk q
  refine wpAny_Call_Name_kw (ld_blt J hg hm hv ?_ hn hdb)
  exact PyProof.Rows.callWith_type1 (thn ((pa_SEs (X := X) (es := e :: es)).run pos pn s σ H _ J read) fun us s1 ⟨vs, H1, J1, r1, q1⟩ => q1 pn s1 us J1 r1) (starEach_cons h1) (star_none h2)
/-! ### len -/
def len1 (x : OV) : Option Nat := match x with
  | .frz (.lst xs) => some xs.length
  | .frz (.tup xs) => some xs.length
  | .frz (.scr ns) => some ns.length
  | .frz (.str z) => if z.length ≤ szl then some z.length else none
  | .lst os => some os.length
  | .tup os => some os.length
  | _ => none
theorem len_ok (D : X.K = G.K) (sub : SubH F H) {o : OV} {v : V} {fx : List Addr} {n : Nat} (e : len1 o = some n) (r : RO G F H o v fx) : LenV X.K v H n := by
  cases o with
  | frz x =>
    obtain ⟨_, r⟩ := r
    cases x with
    | lst xs =>
      cases Option.some.inj e
      obtain ⟨a, ws, ev, ea, t⟩ := r
      subst ev
      exact .inl ⟨ws, SqL.of (sub.lst ea), t.len.symm⟩
    | tup xs =>
      cases Option.some.inj e
      obtain ⟨a, ws, ev, ea, t⟩ := r
      subst ev
      exact .inr ⟨ws, by rw [D]; exact sqt_mono sub ea, t.len.symm⟩
    | scr ns =>
      cases Option.some.inj e
      obtain ⟨a, ev, ea⟩ := r
      subst ev
      exact .inl ⟨_, by rw [D]; exact sql_mono sub ea, by simp⟩
    | str z =>
      have e : (if z.length ≤ szl then some z.length else none) = some n := e
      by_cases hz : z.length ≤ szl
      · rw [if_pos hz] at e
        cases Option.some.inj e
        rw [r.1]
        exact ⟨hz, rfl⟩
      · rw [if_neg hz] at e; cases e
    | _ => cases e
  | lst os =>
    cases Option.some.inj e
    obtain ⟨a, ws, fr, ev, _, ea, t⟩ := r
    subst ev
    exact .inl ⟨ws, SqL.of ea, t.len.symm⟩
  | tup os =>
    cases Option.some.inj e
    obtain ⟨a, ws, fr, ev, _, ea, t⟩ := r
    subst ev
    exact .inr ⟨ws, SqT.of ea, t.len.symm⟩
  | _ => cases e
def lenN : List OV → Option OV
  | [x] => (len1 x).map fun n => fint n
  | _ => none
theorem opN_len (D : X.K = G.K) : OpN G (SC X (.builtin "len")) lenN := by
  intro H F xs r vs Q sub p e q
  cases p with
  | nil => cases e
  | cons p1 p2 =>
    cases p2 with
    | cons _ _ => cases e
    | nil =>
      rename_i x v
      obtain ⟨fx, ro⟩ := p1
      have e : (len1 x).map (fun n => fint n) = some r := e
      cases z : len1 x with
      | none => rw [z] at e; cases e
      | some n =>
        rw [z] at e
        cases Option.some.inj e
        exact SC.of call_len ⟨v, n, rfl, len_ok D sub z ro, q _ _ (Res.same sub rfl)⟩
/-! ### ints -/
def i1 (g : Int → Int) : List OV → Option OV
  | [.frz (.int i)] => some (fint (g i))
  | _ => none
def i2 (g : Int → Int → Int) : List OV → Option OV
  | [.frz (.int i), .frz (.int j)] => some (fint (g i j))
  | _ => none
theorem opN_i1 {fn : Value} {g : Int → Int} (h : CallR X fn (fun xs H Q => ∃ i, xs = [.int i] ∧ Q (.int (g i)) H)) : OpN G (SC X fn) (i1 g) := by
  intro H F xs r vs Q sub p e q
  unfold i1 at e
  split at e
  · rename_i i
    cases Option.some.inj e
    exact SC.of h ⟨i, ints_of (is := [i]) p rfl, q _ _ (Res.same sub rfl)⟩
  · cases e
theorem opN_i2 {fn : Value} {g : Int → Int → Int} (h : CallR X fn (fun xs H Q => ∃ i j, xs = [.int i, .int j] ∧ Q (.int (g i j)) H)) : OpN G (SC X fn) (i2 g) := by
  intro H F xs r vs Q sub p e q
  unfold i2 at e
  split at e
  · rename_i i j
    cases Option.some.inj e
    exact SC.of h ⟨i, j, ints_of (is := [i, j]) p rfl, q _ _ (Res.same sub rfl)⟩
  · cases e
def iabs (i : Int) : Int := if i < 0 then -i else i
def imax (i j : Int) : Int := if j > i then j else i
def imin (i j : Int) : Int := if j < i then j else i
theorem opN_abs : OpN G (SC X (.builtin "abs")) (i1 iabs) := opN_i1 call_abs
theorem opN_max (hc : X.calm = true) : OpN G (SC X (.builtin "max")) (i2 imax) := opN_i2 (call_max2 hc)
theorem opN_min (hc : X.calm = true) : OpN G (SC X (.builtin "min")) (i2 imin) := opN_i2 (call_min2 hc)
def intN : List OV → Option OV
  | [.frz (.int i)] => some (fint i)
  | [.frz (.bl b)] => some (fint (if b then 1 else 0))
  | _ => none
theorem one_of {o : OV} {vs : List V} (p : Paired (fun x v => ∃ fx, RO G F H x v fx) [o] vs) : ∃ v fx, vs = [v] ∧ RO G F H o v fx := by
  cases p with
  | cons p1 p2 =>
    cases p2
    obtain ⟨fx, r⟩ := p1
    exact ⟨_, fx, rfl, r⟩
theorem opN_int : OpN G (SC X (.type "int")) intN := by
  intro H F xs r vs Q sub p e q
  unfold intN at e
  split at e
  · rename_i i
    cases Option.some.inj e
    exact SC.of call_int1 (.inl ⟨i, ints_of (is := [i]) p rfl, q _ _ (Res.same sub rfl)⟩)
  · rename_i b
    cases Option.some.inj e
    obtain ⟨v, fx, ev, r⟩ := one_of p
    subst ev
    exact SC.of call_int1 (.inr ⟨b, by rw [r.2], q _ _ (Res.same sub rfl)⟩)
  · cases e
/-! ### list, tuple -/
def seqF (x : OV) : Option (List FV) := match x.els with
  | some xs => some xs
  | none => x.tels
theorem seqF_ok (D : X.K = G.K) (sub : SubH F H) {o : OV} {v : V} {fx : List Addr} {xs : List FV} (e : seqF o = some xs) (r : RO G F H o v fx) : ∃ a ws, v = .ref a ∧ (SqL X.K H a ws ∨ SqT X.K H a ws) ∧ RFs G F xs ws := by
  unfold seqF at e
  cases z : o.els with
  | some ys =>
    rw [z] at e
    cases Option.some.inj e
    obtain ⟨a, ws, ev, ea, t⟩ := els_ok sub z r
    exact ⟨a, ws, ev, .inl (SqL.of ea), t⟩
  | none =>
    rw [z] at e
    obtain ⟨a, ws, ev, ea, t⟩ := tels_ok sub e r
    exact ⟨a, ws, ev, .inr (by rw [D]; exact ea), t⟩
def listN : List OV → Option OV
  | [x] => (seqF x).map OV.ofl
  | _ => none
theorem opN_list (D : X.K = G.K) : OpN G (SC X (.type "list")) listN := by
  intro H F xs r vs Q sub p e q
  unfold listN at e
  split at e
  · rename_i x
    obtain ⟨v, fx, ev, ro⟩ := one_of p
    subst ev
    cases z : seqF x with
    | none => rw [z] at e; cases e
    | some ys =>
      rw [z] at e
      cases Option.some.inj e
      obtain ⟨a, ws, ev, hq, t⟩ := seqF_ok D sub z ro
      subst ev
      exact SC.of call_list_of ⟨a, ws, rfl, hq, fun l hl => q _ _ (Res.newL sub hl t)⟩
  · cases e
def tup1 (x : OV) : Option (List FV) := match x with
  | .frz (.tup xs) => some xs
  | x => x.els
def tupN : List OV → Option OV
  | [x] => (tup1 x).map fun xs => .frz (.tup xs)
  | _ => none
theorem opN_tup (D : X.K = G.K) : OpN G (SC X (.type "tuple")) tupN := by
  intro H F xs r vs Q sub p e q
  unfold tupN at e
  split at e
  · rename_i x
    obtain ⟨v, fx, ev, ro⟩ := one_of p
    subst ev
    cases z : tup1 x with
    | none => rw [z] at e; cases e
    | some ys =>
      rw [z] at e
      cases Option.some.inj e
      unfold tup1 at z
      split at z
      · rename_i us
        cases Option.some.inj z
        obtain ⟨_, a, ws, ev, ea, t⟩ := ro
        subst ev
        exact SC.of call_tuple_of ⟨a, ws, rfl, .inr ⟨by rw [D]; exact sqt_mono sub ea, q _ _ (Res.same sub ⟨a, ws, rfl, ea, t⟩)⟩⟩
      · obtain ⟨a, ws, ev, ea, t⟩ := els_ok sub z ro
        subst ev
        exact SC.of call_tuple_of ⟨a, ws, rfl, .inl ⟨SqL.of ea, fun l hl => q _ _ (Res.newT sub hl t)⟩⟩
  · cases e
end
end Tv
end

section
/-! Operators on operands (also those that are methods). -/
namespace Tv
open PySem L2 PySem.Spec PyProof.Rows
open PySem (Str Expr Stmt Scope Keyword)
section
variable {G : Gs} {X : Cx} {F H H' : Hp} {σ : L2.St} {ts ts' : Slots} {fp : List Addr} {c d : Bool}
theorem SEs_two {a b : Expr} (hs : isStar a = false) (hs2 : isStar b = false) {Q : List V → Hp → Prop} (h : SEs X [a, b] σ H Q) : SE X a σ H fun v H1 => SE X b σ H1 fun u H2 => Q [v, u] H2 := by
  rw [SEs_cons hs, SEs_cons hs2] at h
  exact h
theorem snd_bin2 {a b : Expr} {op : PySem.Operator} {pos : Pos} {m : TM (List Opd)} {f : List Opd → TM Opd} (hs : isStar a = false) (hs2 : isStar b = false) (st : Stp G X (act2 (binaryOp op)) f d) (he : SndO G X [a, b] m c) : Snd G X (.BinOp a op b pos) (tb m f) (c && d) := by
  intro σ H F ts fp S W tk Q q pn s J
  have read := SEs_two hs hs2 (rd_app he st S tk q)
  exact wpAny_BinOp (thn (read pn s J) fun v s1 ⟨x, H1, J1, r1, q1⟩ => thn (q1 pn s1 J1) fun u s2 ⟨y, H2, J2, r2, q2⟩ => q2 pn s2 [v, u] J2 (.cons r1 (.cons r2 .nil)))
theorem snd_cmp2 {a b : Expr} {op : PySem.CmpOp} {pos : Pos} {m : TM (List Opd)} {f : List Opd → TM Opd} (hm : behindInMarks op b = false) (hs : isStar a = false) (hs2 : isStar b = false) (st : Stp G X (act2 (compareOp op)) f d) (he : SndO G X [a, b] m c) : Snd G X (.Compare a [op] [b] pos) (tb m f) (c && d) := by
  intro σ H F ts fp S W tk Q q pn s J
  have read := SEs_two hs hs2 (rd_app he st S tk q)
  exact wpAny_Compare1 (thn (read pn s J) fun v s1 ⟨x, H1, J1, r1, q1⟩ => thn (q1 pn s1 J1) fun u s2 ⟨y, H2, J2, r2, q2⟩ => q2 pn s2 [v, u] J2 (.cons r1 (.cons r2 .nil))) hm
theorem sndT_cmp2 {a b : Expr} {op : PySem.CmpOp} {pos : Pos} {m : TM (List Opd)} {f : List Opd → TM Opd} (hm : behindInMarks op b = false) (hs : isStar a = false) (hs2 : isStar b = false) (st : Stp G X (act2 (compareOp op)) f d) (he : SndO G X [a, b] m c) : SndT G X (.Compare a [op] [b] pos) (tbool (tb m f)) (c && d) := by
  intro σ H F ts fp S W tk Q q pn s J
  have read : SE X a σ H fun v H1 => SE X b σ H1 fun u H2 => SA X (act2 (compareOp op)) σ [v, u] H2 fun z H3 => ∃ k, z = .bl k ∧ Q k H3 := by
    refine SEs_two hs hs2 (rd_app (Q := fun z H3 => ∃ k, z = .bl k ∧ Q k H3) he st S tk (q.bind.mono (fun o ts' q v H1 ae => ?_) fun _ _ q => q))
    cases e1 : o.get ts' with
    | none => rw [e1] at q; exact q.elim
    | some x =>
      rw [e1] at q
      obtain ⟨F1, fp1, fo, S1, ok1, nd, off, ex, cal⟩ := id ae
      obtain ⟨fx, ro, hfx⟩ := get_ok S1 ok1 e1
      cases x with
      | frz y =>
        cases y with
        | bl k => exact ⟨k, ro.2, q H1 (Aft.drop ae fun _ _ => rfl)⟩
        | _ => exact q.elim
      | _ => exact q.elim
  refine wpAny_isTrue_Compare1 (thn (read pn s J) fun v s1 ⟨x, H1, J1, r1, q1⟩ => thn (q1 pn s1 J1) fun u s2 ⟨y, H2, J2, r2, q2⟩ => thn (q2 pn s2 [v, u] J2 (.cons r1 (.cons r2 .nil))) fun z s3 ⟨w, H3, J3, r3, k, ek, q3⟩ => ?_) hm
  subst ek
  cases r3
  exact wpAny_truthy_bool ⟨H3, J3, q3⟩
theorem snd_un2 {a : Expr} {op : PySem.UnaryOp} {f : OV → Option OV} {ma : TM Opd} {pos : Pos} (o : Op1 G (SU X (unaryOp op)) f) (ha : Snd G X a ma c) : Snd G X (.UnaryOp op a pos) (t1 f ma) c := snd_un o ha
/-- the pure steps -/
theorem stp_bin {op : PySem.Operator} {g : OV → OV → Option OV} (h : Op2 G (SO X (binaryOp op)) g) : Stp G X (act2 (binaryOp op)) (pureN (of2 g)) true := Stp.of (opN_2 h)
theorem stp_cmp {op : PySem.CmpOp} {g : OV → OV → Option OV} (h : Op2 G (SO X (compareOp op)) g) : Stp G X (act2 (compareOp op)) (pureN (of2 g)) true := Stp.of (opN_2 h)
theorem stp_fun {fn : Value} {g : List OV → Option OV} (h : OpN G (SC X fn) g) : Stp G X (fun us => call fn us) (pureN g) true := Stp.of (opN_call h)
end
end Tv
end

section
/-! == by an own __eq__. -/
namespace Tv
open PySem L2 PySem.Spec PyProof.Rows
open PySem (Str Expr Stmt Scope Keyword)

/-- the type of a value -/
def OV.tyv (G : Gs) : OV → Option Value
  | .frz .non => some (.type "NoneType")
  | .frz (.bl _) => some (.type "bool")
  | .frz (.int _) => some (.type "int")
  | .frz (.str _) => some (.type "str")
  | .frz (.lst _) => some (.type "list")
  | .frz (.tup _) => some (.type "tuple")
  | .frz (.obj c _ _) => some (.ref (G.cad c))
  | .lst _ => some (.type "list")
  | .tup _ => some (.type "tuple")
  | .obj c _ _ => some (.ref (G.cad c))
  | _ => none
section
variable {G : Gs} {X : Cx} {P : Program} {w : World} {mg : Str → Option Value} {base : Heap} {F H H' : Hp} {σ : L2.St} {ts ts' : Slots} {fp : List Addr} {c d : Bool} {k np : Nat} {nsx : List Str} {sn : List (Str × NameKind)}
theorem looks_cls {M : Model} {h : Heap} {a : Addr} {o : Obj} {t : Value} (ho : h.get? a = some o) (hc : o.cls = t) : PySem.W.Looks M h (typeOf (.ref a)) t := hc ▸ (PySem.W.Looks.ld ho).andThen .now
theorem tyv_ok {pn : List (Addr × Obj)} {s : Shared} {o : OV} {v : V} {u t : Value} {fx : List Addr} (D : X.K = G.K) (J : Inv X pn σ H s) (sub : SubH F H) (r : RO G F H o v fx) (rx : RelV v u) (e : o.tyv G = some t) (M : Model) : PySem.W.Looks M s.heap (typeOf u) t := by
  have lst : ∀ a ws, v = .ref a → SqL X.K H a ws → PySem.W.Looks M s.heap (typeOf u) (.type "list") := fun a ws ev hq => by
    subst ev
    cases (show u = Value.ref a from rx)
    obtain ⟨its, _, pl, _⟩ := J.list hq
    obtain ⟨o, nn, h1, h2, _⟩ := pl
    exact looks_cls h1 h2
  have tup : ∀ a ws, v = .ref a → SqT X.K H a ws → PySem.W.Looks M s.heap (typeOf u) (.type "tuple") := fun a ws ev hq => by
    subst ev
    cases (show u = Value.ref a from rx)
    obtain ⟨its, _, pl, _⟩ := J.tuple hq
    obtain ⟨o, h1, h2, _⟩ := pl
    exact looks_cls h1 h2
  have ins : ∀ a C dx fs, v = .ref a → H a = some (.ins C dx fs) → PySem.W.Looks M s.heap (typeOf u) (.ref C) := fun a C dx fs ev hq => by
    subst ev
    cases (show u = Value.ref a from rx)
    obtain ⟨mA, O, _⟩ := ins_get J.hok hq
    obtain ⟨od, I, _⟩ := O.look
    exact I.type
  cases o with
  | frz x =>
    obtain ⟨_, r⟩ := r
    cases x with
    | non =>
      cases Option.some.inj e
      rw [show v = V.non from r] at rx
      cases (show u = Value.none from rx)
      exact PySem.W.Looks.of_pure rfl
    | bl b =>
      cases Option.some.inj e
      rw [show v = V.bl b from r] at rx
      cases (show u = Value.bool b from rx)
      exact PySem.W.Looks.of_pure rfl
    | int i =>
      cases Option.some.inj e
      rw [show v = V.int i from r] at rx
      obtain ⟨tk, q⟩ := (show ∃ tk, u = Value.int i tk from rx)
      rw [q]
      exact PySem.W.Looks.of_pure rfl
    | str y =>
      cases Option.some.inj e
      rw [show v = V.str y from r.1] at rx
      obtain ⟨tk, q⟩ := (show ∃ tk, u = Value.str y tk from rx)
      rw [q]
      exact PySem.W.Looks.of_pure rfl
    | lst xs =>
      cases Option.some.inj e
      obtain ⟨a, ws, ev, ea, _⟩ := r
      exact lst a ws ev (SqL.of (sub.lst ea))
    | tup xs =>
      cases Option.some.inj e
      obtain ⟨a, ws, ev, ea, _⟩ := r
      exact tup a ws ev (by rw [D]; exact sqt_mono sub ea)
    | obj cc ns vs =>
      cases Option.some.inj e
      obtain ⟨a, dx, fs, ev, ea, _⟩ := r
      exact ins a _ dx fs ev (sub.ins ea)
    | _ => cases e
  | lst os =>
    cases Option.some.inj e
    obtain ⟨a, ws, fr, ev, _, ea, _⟩ := r
    exact lst a ws ev (SqL.of ea)
  | tup os =>
    cases Option.some.inj e
    obtain ⟨a, ws, fr, ev, _, ea, _⟩ := r
    exact tup a ws ev (SqT.of ea)
  | obj cc ns vs =>
    cases Option.some.inj e
    obtain ⟨a, dx, fs, fr, ev, _, ea, _⟩ := r
    exact ins a _ dx fs ev ea
  | _ => cases e
/-- a == b, where a is an instance: eqm tells its __eq__ by the classes; only a bool comes back -/
def teqo (eqm : Nat → Option ((Nat → Bool) × (List OV → List (Str × FV) → Out OV))) (okt : Nat → OV → Bool) : List Opd → TM Opd
  | [a, b] => fun s => match a.get s, b.get s with
    | some x, some y => match x.ob with
      | some (cc, _) => match eqm cc with
        | some (reb, run) => if okt cc y then tb (tcall reb run [] [a, b]) (fun r s => match r with
            | .val (.frz (.bl k)) => .ok (.val (.frz (.bl k))) s
            | _ => .bad) s else .bad
        | none => .bad
      | none => .bad
    | _, _ => .bad
  | _ => tbad
theorem stp_eqo {eqm : Nat → Option ((Nat → Bool) × (List OV → List (Str × FV) → Out OV))} {okt : Nat → OV → Bool} (Gd : GoodC G P w mg base k nsx sn X) (hm : ∀ cc p, eqm cc = some p → ∃ f np, PySem.W.findIn X.K (.ref (G.cad cc)) "__eq__" = some (some (.ref f)) ∧ PySem.W.isFn X.K (.ref f) = true ∧ CalT G P w mg base k np f p.2)
    (ht : ∀ cc y, okt cc y = true → ∃ t, y.tyv G = some t ∧ PySem.W.notFirst X.K (G.cad cc) t = true) : Stp G X (act2 (compareOp .Eq)) (teqo eqm okt) false := by
  intro σ H F ts fp fo os vs S oks nd off W tk Q q pn s us J rv
  unfold teqo at q
  split at q
  · rename_i a b
    obtain ⟨v1, vr, f1, f2, e1, e2, k1, v2, vr2, f3, f4, e3, e4, k2, e5, e6⟩ := id oks
    subst e1 e3 e5
    cases g1 : a.get ts with
    | none => rw [g1] at q; exact q.elim
    | some x =>
      cases g2 : b.get ts with
      | none => rw [g1, g2] at q; exact q.elim
      | some y =>
        rw [g1, g2] at q
        dsimp only at q
        cases g3 : x.ob with
        | none => rw [g3] at q; exact q.elim
        | some cn =>
          obtain ⟨cc, ns⟩ := cn
          rw [g3] at q
          dsimp only at q
          cases g4 : eqm cc with
          | none => rw [g4] at q; exact q.elim
          | some pr =>
            obtain ⟨reb, run⟩ := pr
            rw [g4] at q
            dsimp only at q
            by_cases z : okt cc y = true
            · rw [if_pos z] at q
              obtain ⟨f, np, hs, hf, C⟩ := hm cc _ g4
              obtain ⟨t, ht1, ht2⟩ := ht cc y z
              obtain ⟨fx, ro, _⟩ := get_ok S k1 g1
              obtain ⟨fy, ry, _⟩ := get_ok S k2 g2
              obtain ⟨ad, dx, fs, ev, ea, en⟩ := ob_ok S.sub g3 ro
              subst ev
              cases rv with
              | cons rv1 rv2 =>
                cases rv2 with
                | cons rv2 rv3 =>
                  cases rv3
                  cases (show _ = Value.ref ad from rv1)
                  obtain ⟨mA, O, _⟩ := ins_get J.hok ea
                  obtain ⟨od, I, _⟩ := O.look
                  obtain ⟨m, hF⟩ := J.fr
                  have ty := tyv_ok Gd.K J S.sub ry rv2 ht1 (model X.prog X.w)
                  have run2 := stp_call (names := []) (reb := reb) Gd C σ H F ts fp fo [a, b] [.ref ad, v2] S oks nd off W tk (fun z H' => ∃ kb, z = .bl kb ∧ Q (.bl kb) H') (q.bind.mono (fun r ts1 q v H1 ae => ?_) fun x s q => q) pn s _ J (.cons rv1 (.cons rv2 .nil))
                  · refine PySem.W.cmp_K (op := .Eq) Gd.room.units0 hF J.ok.mod.kin I ty ht2 hs hf ?_
                    refine thn run2 fun u s1 ⟨zz, H1, J1, r1, kb, ek, q1⟩ => ?_
                    subst ek
                    cases (show u = Value.bool kb from r1)
                    exact ⟨.bl kb, H1, J1, rfl, q1⟩
                  · cases r with
                    | val o =>
                      cases o with
                      | frz w0 =>
                        cases w0 with
                        | bl kb =>
                          obtain ⟨F1, fp1, fo1, S1, ok1, _⟩ := id ae
                          have e0 : v = V.bl kb := ok1.2
                          subst e0
                          exact ⟨kb, rfl, q _ H1 ae⟩
                        | _ => exact q.elim
                      | _ => exact q.elim
                    | «at» i => exact q.elim
                    | fld i f => exact q.elim
            · rw [if_neg z] at q; exact q.elim
  · exact q.elim
end
end Tv
end

section
/-! More built-in functions: all, any, str, repr, isinstance. -/
namespace Tv
open PySem L2 PySem.Spec PyProof.Rows
open PySem (Str Expr Stmt Scope Keyword)
section
variable {G : Gs} {X : Cx} {F H H' : Hp}
def fbls : List FV → Option (List Bool)
  | [] => some []
  | .bl b :: xs => (fbls xs).map (b :: ·)
  | _ :: _ => none
theorem fbls_ok : ∀ {xs : List FV} {ws : List V} {bs : List Bool}, fbls xs = some bs → RFs G F xs ws → ws = bs.map V.bl
  | [], ws, bs, e, r => by
    cases Option.some.inj e
    cases r
    rfl
  | x :: xs, ws, bs, e, r => by
    cases x with
    | bl b =>
      have e : (fbls xs).map (b :: ·) = some bs := e
      cases z : fbls xs with
      | none => rw [z] at e; cases e
      | some cs =>
        rw [z] at e
        cases Option.some.inj e
        obtain ⟨v, vr, ev, r1, r2⟩ := r
        subst ev
        rw [fbls_ok z r2, show v = V.bl b from r1]
        rfl
    | _ => cases e
def bs1 (g : List Bool → Bool) : List OV → Option OV
  | [x] => (x.els.bind fbls).map fun bs => .frz (.bl (g bs))
  | _ => none
theorem opN_bs {fn : Value} {g : List Bool → Bool} (h : CallR X fn (fun vs H Q => ∃ (a : Addr) (bs : List Bool), vs = [V.ref a] ∧ SqL X.K H a (bs.map V.bl) ∧ Q (.bl (g bs)) H)) : OpN G (SC X fn) (bs1 g) := by
  intro H F xs r vs Q sub p e q
  unfold bs1 at e
  split at e
  · rename_i x
    obtain ⟨v, fx, ev, ro⟩ := one_of p
    subst ev
    cases z : x.els with
    | none => rw [z] at e; cases e
    | some ys =>
      rw [z] at e
      cases z2 : fbls ys with
      | none => rw [show (some ys).bind fbls = fbls ys from rfl, z2] at e; cases e
      | some bs =>
        rw [show (some ys).bind fbls = fbls ys from rfl, z2] at e
        cases Option.some.inj e
        obtain ⟨a, ws, ev, ea, t⟩ := els_ok sub z ro
        subst ev
        have e1 := fbls_ok z2 t
        subst e1
        exact SC.of h ⟨a, bs, rfl, SqL.of ea, q _ _ (Res.same sub rfl)⟩
  · cases e
theorem opN_all (hc : X.calm = true) : OpN G (SC X (.builtin "all")) (bs1 fun bs => bs.all id) := opN_bs (cr_all hc)
theorem opN_any (hc : X.calm = true) : OpN G (SC X (.builtin "any")) (bs1 fun bs => bs.any id) := opN_bs (cr_any hc)
end
end Tv
end

section
/-! isinstance(x, C), C a built-in type or a class of the program. -/
namespace Tv
open PySem L2 PySem.Spec PyProof.Rows
open PySem (Str Expr Stmt Scope Keyword)
abbrev Tyn := String ⊕ Nat
/-- the type of a value, by name -/
def OV.tyn : OV → Option Tyn
  | .frz .non => some (.inl "NoneType")
  | .frz (.bl _) => some (.inl "bool")
  | .frz (.int _) => some (.inl "int")
  | .frz (.str _) => some (.inl "str")
  | .frz (.lst _) => some (.inl "list")
  | .frz (.tup _) => some (.inl "tuple")
  | .frz (.obj c _ _) => some (.inr c)
  | .lst _ => some (.inl "list")
  | .tup _ => some (.inl "tuple")
  | .obj c _ _ => some (.inr c)
  | _ => none
def tyV (G : Gs) : Tyn → Value
  | .inl n => .type n
  | .inr c => .ref (G.cad c)
/-- what isinstance asks of an own class -/
structure IsiC (K : PySem.W.Frag) (C : Addr) : Prop where
  cl : Cls K C
  ha : PySem.W.findIn K (.ref C) "__class__" = some (some (.builtin "object.__class__"))
  hn : PySem.W.specialIn K (.builtin "object.__class__") "__get__" = some (some (.builtin "getset_descriptor.__get__"))
  htk : PySem.W.takesIn K (.builtin "object.__class__") = some true
  hm : PySem.W.mroIn K C (.type "object") = some true
section
variable {G : Gs} {X : Cx} {F H H' : Hp}
theorem tyx_tup {K : PySem.W.Frag} {a : Addr} {ws : List V} (h : SqT K H a ws) : TyX K H (.ref a) (.type "tuple") := by
  rcases h with (h | ⟨o, h⟩) | ⟨o, its, n, h, c, _⟩
  · exact .base (.tup h)
  · exact .fTuple h
  · exact .kTuple h c
theorem tyn_ok (D : X.K = G.K) (sub : SubH F H) {o : OV} {v : V} {fx : List Addr} {t : Tyn} (e : o.tyn = some t) (r : RO G F H o v fx) (hc : ∀ c, t = .inr c → IsiC X.K (G.cad c)) : TyX X.K H v (tyV G t) := by
  cases o with
  | frz x =>
    obtain ⟨_, r⟩ := r
    cases x with
    | non => cases Option.some.inj e; rw [show v = V.non from r]; exact .base .non
    | bl b => cases Option.some.inj e; rw [show v = V.bl b from r]; exact .base (.bl b)
    | int i => cases Option.some.inj e; rw [show v = V.int i from r]; exact .base (.int i)
    | str y => cases Option.some.inj e; rw [show v = V.str y from r.1]; exact .base (.str y)
    | lst xs =>
      cases Option.some.inj e
      obtain ⟨a, ws, ev, ea, _⟩ := r
      subst ev
      exact .base (.lst (sub.lst ea))
    | tup xs =>
      cases Option.some.inj e
      obtain ⟨a, ws, ev, ea, _⟩ := r
      subst ev
      exact tyx_tup (K := X.K) (by rw [D]; exact sqt_mono sub ea)
    | obj cc ns vs =>
      cases Option.some.inj e
      obtain ⟨a, dx, fs, ev, ea, _⟩ := r
      subst ev
      obtain ⟨h1, h2, h3, h4, h5⟩ := hc cc rfl
      exact .base (.ins (sub.ins ea) h1 h2 h3 h4 h5)
    | _ => cases e
  | lst os =>
    cases Option.some.inj e
    obtain ⟨a, ws, fr, ev, _, ea, _⟩ := r
    subst ev
    exact .base (.lst ea)
  | tup os =>
    cases Option.some.inj e
    obtain ⟨a, ws, fr, ev, _, ea, _⟩ := r
    subst ev
    exact .base (.tup ea)
  | obj cc ns vs =>
    cases Option.some.inj e
    obtain ⟨a, dx, fs, fr, ev, _, ea, _⟩ := r
    subst ev
    obtain ⟨h1, h2, h3, h4, h5⟩ := hc cc rfl
    exact .base (.ins ea h1 h2 h3 h4 h5)
  | _ => cases e
/-- an expression that is a constant -/
def ConE (X : Cx) (e : Expr) (v : V) : Prop := ∀ (σ : L2.St) (H : Hp) (Q : VK), Q v H → SE X e σ H Q
theorem con_bltn {x : Str} {v : V} {u : Value} {pos : Pos} (hg : Gl X x) (hm : X.mg x = none) (hv : bootBuiltins x = some u) (r : RelV v u) (hn : x ≠ "__name__") (hd : (x == ("__debug__" : Str)) = false) : ConE X (.Name x pos) v :=
  fun σ H Q q => SE.of (pe_bltn hg hm hv r hn hd) q
def isiN (tab : Tyn → Option Bool) : List OV → Option OV
  | [x] => (x.tyn.bind tab).map fun b => .frz (.bl b)
  | _ => none
theorem opN_isi {tab : Tyn → Option Bool} {cv : V} {u : Value} (D : X.K = G.K) (k : ClsV cv u) (hc : ∀ c b, tab (.inr c) = some b → IsiC X.K (G.cad c)) (hi : ∀ t b, tab t = some b → PySem.W.kitOne X.K (tyV G t) u = some b) :
    OpN G (fun vs H Q => ∀ σ, SA X (fun us => call (.builtin "isinstance") (us ++ [u])) σ vs H Q) (isiN tab) := by
  intro H F xs r vs Q sub p e q σ pn s us J rv
  unfold isiN at e
  split at e
  · rename_i x
    obtain ⟨v, fx, ev, ro⟩ := one_of p
    subst ev
    cases z : x.tyn with
    | none => rw [z] at e; cases e
    | some t =>
      rw [z] at e
      cases z2 : tab t with
      | none => rw [show (some t).bind tab = tab t from rfl, z2] at e; cases e
      | some b =>
        rw [show (some t).bind tab = tab t from rfl, z2] at e
        cases Option.some.inj e
        cases rv with
        | cons r1 r2 =>
          cases r2
          have rc : RelV cv u := by cases k <;> rfl
          exact call_isi pn s σ H [v, cv] _ Q J (.cons r1 (.cons rc .nil)) ⟨v, cv, _, u, b, rfl, k, tyn_ok D sub z ro (fun c ec => hc c b (ec ▸ z2)), hi t b z2, q _ _ (Res.same sub rfl)⟩
  · cases e
/-- isinstance(e, C) -/
theorem snd_isi {c : Bool} {e e2 : Expr} {p pos : Pos} {m : TM (List Opd)} {tab : Tyn → Option Bool} {cv : V} {u : Value} (D : X.K = G.K) (k : ClsV cv u) (hc : ∀ c b, tab (.inr c) = some b → IsiC X.K (G.cad c)) (hi : ∀ t b, tab t = some b → PySem.W.kitOne X.K (tyV G t) u = some b)
    (hg : Gl X "isinstance") (hm : X.mg "isinstance" = none) (hs : isStar e = false) (hs2 : isStar e2 = false) (h2 : ConE X e2 cv) (he : SndO G X [e] m c) : Snd G X (.Call (.Name "isinstance" p) [e, e2] [] pos) (tb m (pureN (isiN tab))) (c && true) := by
  intro σ H F ts fp S W tk Q q pn s J
  have read := rd_app he (Stp.of (opN_isi D k hc hi)) S tk q
  rw [SEs_cons hs] at read
  have read2 : SEs X [e, e2] σ H fun vs H1 => SA X (fun us => call (.builtin "isinstance") us) σ vs H1 Q := by
    rw [SEs_cons hs]
    refine SE.mono read fun v H1 r => ?_
    rw [SEs_cons hs2]
    refine h2 σ H1 _ ?_
    intro pn s us J rv
    cases rv with
    | cons r1 rv =>
      cases rv with
      | cons r2 rv =>
        cases rv
        have e3 := k.eq r2
        subst e3
        exact r pn s _ J (.cons r1 .nil)
  refine wpAny_Call_Name_kw (ld_blt J hg hm rfl ?_ (by decide) (by decide))
  exact PyProof.Rows.callWith_builtin1 (thn ((pa_SEs (X := X) (es := [e, e2])).run pos pn s σ H _ J read2) fun us s1 ⟨vs, H1, J1, r1, q1⟩ => q1 pn s1 us J1 r1) (starEach_cons hs) (star_none (by rw [List.all_cons, hs2]; rfl))
end
end Tv
end

section
/-! Strings: sorted, str, repr. -/
namespace Tv
open PySem L2 PySem.Spec PyProof.Rows
open PySem (Str Expr Stmt Scope Keyword)
/-! ### the order of strings -/
def leN : List Nat → List Nat → Bool
  | [], _ => true
  | _ :: _, [] => false
  | a :: r, b :: t => a < b || (a == b && leN r t)
theorem leN_lt : ∀ a b : List Nat, (!ltCps b a) = leN a b
  | [], [] => rfl
  | [], _ :: _ => rfl
  | _ :: _, [] => rfl
  | a :: r, b :: t => by
    have ih := leN_lt r t
    show (!(decide (b < a) || (b == a && ltCps t r))) = (decide (a < b) || (a == b && leN r t))
    rw [← ih]
    by_cases h1 : a < b
    · have h2 : ¬ b < a := by omega
      have h3 : ¬ b = a := by omega
      simp [h1, h2, h3]
    · by_cases h2 : a = b
      · subst h2; simp
      · have h3 : b < a := by omega
        simp [h1, h2, h3]
theorem leN_trans : ∀ a b c : List Nat, leN a b = true → leN b c = true → leN a c = true
  | [], _, _, _, _ => rfl
  | _ :: _, [], _, h, _ => by cases h
  | _ :: _, _ :: _, [], _, h => by cases h
  | a :: r, b :: t, c :: u, h1, h2 => by
    have h1 : (decide (a < b) || (a == b && leN r t)) = true := h1
    have h2 : (decide (b < c) || (b == c && leN t u)) = true := h2
    show (decide (a < c) || (a == c && leN r u)) = true
    simp only [Bool.or_eq_true, Bool.and_eq_true, decide_eq_true_eq, beq_iff_eq] at h1 h2 ⊢
    rcases h1 with h1 | ⟨h1, h1'⟩ <;> rcases h2 with h2 | ⟨h2, h2'⟩
    · exact .inl (by omega)
    · exact .inl (by omega)
    · exact .inl (by omega)
    · exact .inr ⟨by omega, leN_trans r t u h1' h2'⟩
theorem leN_total : ∀ a b : List Nat, (leN a b || leN b a) = true
  | [], _ => rfl
  | _ :: _, [] => rfl
  | a :: r, b :: t => by
    have ih := leN_total r t
    show ((decide (a < b) || (a == b && leN r t)) || (decide (b < a) || (b == a && leN t r))) = true
    simp only [Bool.or_eq_true, Bool.and_eq_true, decide_eq_true_eq, beq_iff_eq] at ih ⊢
    by_cases h1 : a < b
    · exact .inl (.inl h1)
    · by_cases h2 : a = b
      · rcases ih with ih | ih
        · exact .inl (.inr ⟨h2, ih⟩)
        · exact .inr (.inr ⟨h2.symm, ih⟩)
      · exact .inr (.inl (by omega))
theorem leN_anti : ∀ a b : List Nat, leN a b = true → leN b a = true → a = b
  | [], [], _, _ => rfl
  | [], _ :: _, _, h => by cases h
  | _ :: _, [], h, _ => by cases h
  | a :: r, b :: t, h1, h2 => by
    have h1 : (decide (a < b) || (a == b && leN r t)) = true := h1
    have h2 : (decide (b < a) || (b == a && leN t r)) = true := h2
    simp only [Bool.or_eq_true, Bool.and_eq_true, decide_eq_true_eq, beq_iff_eq] at h1 h2
    rcases h1 with h1 | ⟨h1, h1'⟩
    · rcases h2 with h2 | ⟨h2, _⟩ <;> omega
    · rcases h2 with h2 | ⟨_, h2'⟩
      · omega
      · rw [h1, leN_anti r t h1' h2']
def leS (a b : Str) : Bool := leN a.cps.toList b.cps.toList
theorem leS_trans (a b c : Str) : leS a b = true → leS b c = true → leS a c = true := leN_trans _ _ _
theorem leS_total (a b : Str) : (leS a b || leS b a) = true := leN_total _ _
theorem leS_anti {a b : Str} (h1 : leS a b = true) (h2 : leS b a = true) : a = b := by
  have h := leN_anti _ _ h1 h2
  cases a; cases b
  exact congrArg _ (Array.ext' h)
theorem rising_pair : ∀ (xs : List Str) (p : Str), risingS p xs = true → (p :: xs).Pairwise fun a b => leS a b = true
  | [], p, _ => List.pairwise_singleton _ _
  | x :: r, p, h => by
    obtain ⟨h1, h2⟩ := Bool.and_eq_true_iff.mp (show ((!ltCps x.cps.toList p.cps.toList) && risingS x r) = true from h)
    rw [leN_lt] at h1
    have ih := rising_pair r x h2
    refine List.pairwise_cons.mpr ⟨fun y m => ?_, ih⟩
    rcases List.mem_cons.mp m with e | m
    · rw [e]; exact h1
    · exact leS_trans _ _ _ h1 ((List.pairwise_cons.mp ih).1 y m)
theorem sortedS_pair {xs : List Str} (h : sortedS xs = true) : xs.Pairwise fun a b => leS a b = true := by
  cases xs with
  | nil => exact .nil
  | cons x r => exact rising_pair r x h
/-- sorted(strings) -/
def sortL (xs : List Str) : List Str := xs.mergeSort leS
theorem sortL_only {xs ys : List Str} (p : ys.Perm xs) (s : sortedS ys = true) : ys = sortL xs :=
  List.Perm.eq_of_pairwise (le := fun a b => leS a b = true) (fun a b _ _ h1 h2 => leS_anti h1 h2) (sortedS_pair s) (List.pairwise_mergeSort leS_trans leS_total xs) (p.trans (List.mergeSort_perm xs leS).symm)
section
variable {G : Gs} {X : Cx} {F H H' : Hp}
def fstrs : List FV → Option (List Str)
  | [] => some []
  | .str b :: xs => (fstrs xs).map (b :: ·)
  | _ :: _ => none
theorem fstrs_ok : ∀ {xs : List FV} {ws : List V} {bs : List Str}, fstrs xs = some bs → RFs G F xs ws → ws = bs.map V.str ∧ ∀ x ∈ bs, sok x = true
  | [], ws, bs, e, r => by
    cases Option.some.inj e
    cases r
    exact ⟨rfl, fun _ m => by cases m⟩
  | x :: xs, ws, bs, e, r => by
    cases x with
    | str b =>
      have e : (fstrs xs).map (b :: ·) = some bs := e
      cases z : fstrs xs with
      | none => rw [z] at e; cases e
      | some cs =>
        rw [z] at e
        cases Option.some.inj e
        obtain ⟨v, vr, ev, r1, r2⟩ := r
        subst ev
        obtain ⟨h1, h2⟩ := fstrs_ok z r2
        obtain ⟨r1, r3⟩ := (show v = V.str b ∧ sok b = true from r1)
        rw [h1, r1]
        refine ⟨rfl, fun x m => ?_⟩
        rcases List.mem_cons.mp m with e | m
        · rw [e]; exact r3
        · exact h2 x m
    | _ => cases e
theorem rfs_strs : ∀ {xs : List Str}, (∀ x ∈ xs, sok x = true) → RFs G F (xs.map FV.str) (xs.map V.str)
  | [], _ => rfl
  | x :: xs, h => ⟨.str x, xs.map V.str, rfl, ⟨rfl, h x (List.mem_cons_self ..)⟩, rfs_strs fun y m => h y (List.mem_cons_of_mem _ m)⟩
def sortedN : List OV → Option OV
  | [x] => (x.els.bind fstrs).bind fun xs => if xs.length < 64 then some (OV.ofl ((sortL xs).map FV.str)) else none
  | _ => none
theorem opN_sorted : OpN G (SC X (.builtin "sorted")) sortedN := by
  intro H F xs r vs Q sub p e q
  unfold sortedN at e
  split at e
  · rename_i x
    obtain ⟨v, fx, ev, ro⟩ := one_of p
    subst ev
    cases z : x.els with
    | none => rw [z] at e; cases e
    | some ys =>
      rw [z] at e
      cases z2 : fstrs ys with
      | none => rw [show (some ys).bind fstrs = fstrs ys from rfl, z2] at e; cases e
      | some bs =>
        rw [show (some ys).bind fstrs = fstrs ys from rfl, z2] at e
        have e : (if bs.length < 64 then some (OV.ofl ((sortL bs).map FV.str)) else none) = some r := e
        by_cases h64 : bs.length < 64
        · rw [if_pos h64] at e
          cases Option.some.inj e
          obtain ⟨a, ws, ev, ea, t⟩ := els_ok sub z ro
          subst ev
          obtain ⟨e1, e2⟩ := fstrs_ok z2 t
          subst e1
          refine SC.of cr_sortedS ⟨a, bs, rfl, SqL.of ea, h64, fun zs l hp hs hl => ?_⟩
          rw [sortL_only hp hs]
          exact q _ _ (Res.newL sub hl (rfs_strs fun x m => e2 x ((List.mergeSort_perm bs leS).mem_iff.mp m)))
        · rw [if_neg h64] at e; cases e
  · cases e
/-! ### str, repr -/
def strI (i : Int) : Option OV := if i.natAbs.log2 < 1920 then if sok (Str.ofString (toString i)) = true then some (.frz (.str (Str.ofString (toString i)))) else none else none
def strN : List OV → Option OV
  | [.frz (.int i)] => strI i
  | [.frz (.str z)] => some (.frz (.str z))
  | _ => none
def reprI : List OV → Option OV
  | [.frz (.int i)] => strI i
  | _ => none
theorem strI_ok {i : Int} {r : OV} (e : strI i = some r) : i.natAbs.log2 < 1920 ∧ sok (Str.ofString (toString i)) = true ∧ r = .frz (.str (Str.ofString (toString i))) := by
  unfold strI at e
  by_cases h1 : i.natAbs.log2 < 1920
  · rw [if_pos h1] at e
    by_cases h2 : sok (Str.ofString (toString i)) = true
    · rw [if_pos h2] at e; exact ⟨h1, h2, (Option.some.inj e).symm⟩
    · rw [if_neg h2] at e; cases e
  · rw [if_neg h1] at e; cases e
theorem opN_str : OpN G (SC X (.type "str")) strN := by
  intro H F xs r vs Q sub p e q
  unfold strN at e
  split at e
  · rename_i i
    obtain ⟨h1, h2, h3⟩ := strI_ok e
    subst h3
    exact SC.of call_str_int ⟨i, ints_of (is := [i]) p rfl, h1, q _ _ (Res.same sub ⟨rfl, h2⟩)⟩
  · rename_i z
    cases Option.some.inj e
    obtain ⟨v, fx, ev, r⟩ := one_of p
    subst ev
    exact SC.of SkE.call_str_str ⟨z, by rw [r.2.1], q _ _ (Res.same sub ⟨rfl, r.2.2⟩)⟩
  · cases e
theorem opN_repr : OpN G (SC X (.builtin "repr")) reprI := by
  intro H F xs r vs Q sub p e q
  unfold reprI at e
  split at e
  · rename_i i
    obtain ⟨h1, h2, h3⟩ := strI_ok e
    subst h3
    exact SC.of SkE.call_repr_int ⟨i, ints_of (is := [i]) p rfl, h1, q _ _ (Res.same sub ⟨rfl, h2⟩)⟩
  · cases e
end
end Tv
end

section
/-! sep.join(strings). -/
namespace Tv
open PySem L2 PySem.Spec PyProof.Rows
open PySem (Str Expr Stmt Scope Keyword)
section
variable {G : Gs} {X : Cx} {F H H' : Hp}
theorem two_of {o o2 : OV} {vs : List V} (p : Paired (fun x v => ∃ fx, RO G F H x v fx) [o, o2] vs) : ∃ v fx u fy, vs = [v, u] ∧ RO G F H o v fx ∧ RO G F H o2 u fy := by
  cases p with
  | cons p1 p2 =>
    cases p2 with
    | cons p3 p4 =>
      cases p4
      obtain ⟨fx, r⟩ := p1
      obtain ⟨fy, r2⟩ := p3
      exact ⟨_, fx, _, fy, rfl, r, r2⟩
def joinN : List OV → Option OV
  | [.frz (.str a), x] => ((seqF x).bind fstrs).bind fun ys => if (ys.map (·.length)).sum + ys.length * a.length ≤ 16777216 then if sok (Txt.join a ys) = true then some (.frz (.str (Txt.join a ys))) else none else none
  | _ => none
theorem opN_join (D : X.K = G.K) : OpN G (fun vs H Q => ∀ σ, SA X (fun us => call (.builtin "str.join") us) σ vs H Q) joinN := by
  intro H F xs r vs Q sub p e q σ pn s us J rv
  unfold joinN at e
  split at e
  · rename_i a x
    obtain ⟨v, fx, u, fy, ev, ra, rx⟩ := two_of p
    subst ev
    cases z : seqF x with
    | none => rw [z] at e; cases e
    | some ys =>
      rw [z] at e
      cases z2 : fstrs ys with
      | none => rw [show (some ys).bind fstrs = fstrs ys from rfl, z2] at e; cases e
      | some bs =>
        rw [show (some ys).bind fstrs = fstrs ys from rfl, z2] at e
        have e : (if (bs.map (·.length)).sum + bs.length * a.length ≤ 16777216 then if sok (Txt.join a bs) = true then some (OV.frz (.str (Txt.join a bs))) else none else none) = some r := e
        by_cases h1 : (bs.map (·.length)).sum + bs.length * a.length ≤ 16777216
        · rw [if_pos h1] at e
          by_cases h2 : sok (Txt.join a bs) = true
          · rw [if_pos h2] at e
            cases Option.some.inj e
            obtain ⟨l, ws, eu, hq, t⟩ := seqF_ok D sub z rx
            subst eu
            obtain ⟨e1, _⟩ := fstrs_ok z2 t
            subst e1
            cases rv with
            | cons r1 rv =>
              exact mt_join pn s σ H v [.ref l] _ _ Q J r1 rv ⟨a, l, bs, ra.2.1, rfl, hq, h1, q _ _ (Res.same sub ⟨rfl, h2⟩)⟩
          · rw [if_neg h2] at e; cases e
        · rw [if_neg h1] at e; cases e
  · cases e
theorem stp_join (D : X.K = G.K) : Stp G X (fun us => call (.builtin "str.join") us) (pureN joinN) true := Stp.of (opN_join D)
end
end Tv
end

section
/-! list.extend. -/
namespace Tv
open PySem L2 PySem.Spec PyProof.Rows
open PySem (Str Expr Stmt Scope Keyword)
def OV.elsO : OV → Option (List OV)
  | .lst os => some os
  | .frz (.lst xs) => some (xs.map .frz)
  | _ => none
/-- x.extend(y), y a list -/
def textend : List Opd → TM Opd
  | [r, y] => if isVal r then tbad else tb (esc y) fun o s => match lstO r s, o.elsO with
    | some os, some os2 => if os.length + os2.length ≤ szl then .ok (.val (.frz .non)) (setO r (.lst (os ++ os2)) s) else .bad
    | _, _ => .bad
  | _ => tbad
section
variable {G : Gs} {X : Cx} {F H H' : Hp} {σ : L2.St} {ts ts' : Slots} {fp : List Addr}
theorem elsO_ok (sub : SubH F H) {o : OV} {os : List OV} {u : V} {fo : List Addr} (e : o.elsO = some os) (r : RO G F H o u fo) : ∃ b ws fs, u = .ref b ∧ H b = some (.lst ws) ∧ ROs G F H os ws fs ∧ (∀ x ∈ fs, x ∈ fo) ∧ (fo.Nodup → fs.Nodup) := by
  unfold OV.elsO at e
  split at e
  · cases Option.some.inj e
    obtain ⟨a, ws, fr, eu, ef, ea, t⟩ := r
    subst ef
    exact ⟨a, ws, fr, eu, ea, t, fun x m => List.mem_cons_of_mem _ m, fun h => (List.nodup_cons.mp h).2⟩
  · cases Option.some.inj e
    obtain ⟨ef, a, ws, eu, ea, t⟩ := r
    subst ef
    exact ⟨a, ws, [], eu, sub.lst ea, ROs_frz t, fun x m => (by cases m), fun _ => List.nodup_nil⟩
  · cases e
theorem stp_extend : Stp G X (fun us => call (.builtin "list.extend") us) textend false := by
  intro σ H F ts fp fo os vs S oks nd off W tk Q q pn s us J rv
  unfold textend at q
  split at q
  · rename_i r y
    cases hv : isVal r with
    | true => rw [hv, if_pos rfl] at q; exact q.elim
    | false =>
      rw [hv, if_neg Bool.false_ne_true] at q
      have nv : ∀ z, r ≠ .val z := fun z e => by rw [e] at hv; cases hv
      obtain ⟨v, u, F1, ts1, fp1, fo1, o, ev, S1, k1, r1, nd1, off1, ex1, q⟩ := two_esc S oks nd off nv q
      subst ev
      cases el : lstO r ts1 with
      | none => rw [el] at q; exact q.elim
      | some os =>
        cases e2 : o.elsO with
        | none => rw [el, e2] at q; exact q.elim
        | some os2 =>
          rw [el, e2] at q
          dsimp only at q
          obtain ⟨_, eg⟩ := lstO_ok el
          by_cases z : os.length + os2.length ≤ szl
          · rw [if_pos z] at q
            obtain ⟨fx, ro, hfx⟩ := get_ok S1 k1 eg
            obtain ⟨a, ws, fr, ea, efx, hH, rs⟩ := ro
            subst ea efx
            obtain ⟨b, ws2, fs2, eu, hB, rs2, sb, nf⟩ := elsO_ok S1.sub e2 r1
            subst eu
            obtain ⟨fp2, S2, ex2⟩ := one_own (os' := os ++ os2) (ws' := ws ++ ws2) (fo1 := fo1) S1 k1 nv eg nd1 off1 (fun a' ws0 fr' ea' hH' rs' anf ndff => by
              have e : a = a' := by injection ea'
              subst e
              rw [hH] at hH'
              have ew : ws = ws0 := by injection (Option.some.inj hH')
              obtain ⟨n1, n2, n3⟩ := List.nodup_append.mp ndff
              refine ⟨ew.symm, fr' ++ fs2, ?_, List.nodup_append.mpr ⟨n1, nf n2, fun c m d m' e => n3 c m d (sb d m') e⟩, fun c m => ?_⟩
              · rw [ew]; exact ROs.app rs' rs2
              · rcases List.mem_append.mp m with m | m
                · exact List.mem_append_left _ m
                · exact List.mem_append_right _ (sb c m)) ex1
            cases rv with
            | cons rv1 rv2 =>
              refine mt_extend pn s σ H (.ref a) [.ref b] _ _ Q J rv1 rv2 ⟨a, b, ws, ws2, rfl, rfl, hH, hB, by rw [rs.len, rs2.len]; exact z, ?_⟩
              exact q .non _ ⟨F1, fp2, [], S2, ⟨rfl, rfl⟩, by simpa using S2.nd, (fun _ m => by cases m), ex2, fun z => by cases z⟩
          · rw [if_neg z] at q; exact q.elim
  · exact q.elim
end
end Tv
end

section
/-! list.pop(), the last item being frozen. -/
namespace Tv
open PySem L2 PySem.Spec PyProof.Rows
open PySem (Str Expr Stmt Scope Keyword)
def lastF (os : List OV) : Option FV := match os.drop (os.length - 1) with
  | [.frz x] => some x
  | _ => none
/-- x.pop() -/
def tpop : List Opd → TM Opd
  | [r] => fun s => if isVal r then .bad else match lstO r s with
    | some os => match lastF os with
      | some x => .ok (.val (.frz x)) (setO r (.lst (os.take (os.length - 1))) s)
      | none => .bad
    | none => .bad
  | _ => tbad
section
variable {G : Gs} {X : Cx} {F H H' : Hp} {σ : L2.St} {ts ts' : Slots} {fp : List Addr}
theorem last_ok {os : List OV} {ws : List V} {fr : List Addr} {x : FV} (e : lastF os = some x) (r : ROs G F H os ws fr) : ∃ v, RF G F x v ∧ ws[ws.length - 1]? = some v ∧ ROs G F H (os.take (os.length - 1)) ws.dropLast fr := by
  have el := r.len
  obtain ⟨f1, f2, ef, r1, r2⟩ := r.split (n := os.length - 1)
  unfold lastF at e
  split at e
  · rename_i x0 ed
    cases Option.some.inj e
    rw [ed] at r2
    obtain ⟨v, vr, g1, g2, e1, e2, ro, e3, e4⟩ := r2
    subst e3 e4
    obtain ⟨e5, rf⟩ := ro
    subst e5 e2
    rw [List.append_nil, List.append_nil] at ef
    subst ef
    refine ⟨v, rf, ?_, ?_⟩
    · rw [el]
      have : (ws.drop (os.length - 1))[0]? = some v := by rw [e1]; rfl
      rwa [List.getElem?_drop, Nat.add_zero] at this
    · rw [List.dropLast_eq_take, el]
      exact r1
  · cases e
theorem stp_pop : Stp G X (fun us => call (.builtin "list.pop") us) tpop false := by
  intro σ H F ts fp fo os vs S oks nd off W tk Q q pn s us J rv
  unfold tpop at q
  split at q
  · rename_i r
    cases hv : isVal r with
    | true => rw [hv, if_pos rfl] at q; exact q.elim
    | false =>
      rw [hv, if_neg Bool.false_ne_true] at q
      have nv : ∀ z, r ≠ .val z := fun z e => by rw [e] at hv; cases hv
      obtain ⟨v, vr, f1, f2, e1, e2, k1, e5, e6⟩ := oks
      subst e1 e2 e5 e6
      have ef : f1 = [] := by
        cases r with
        | val z => exact absurd rfl (nv z)
        | «at» i => exact k1.1
        | fld i f => exact k1.1
      subst ef
      cases el : lstO r ts with
      | none => rw [el] at q; exact q.elim
      | some os =>
        rw [el] at q
        dsimp only at q
        obtain ⟨_, eg⟩ := lstO_ok el
        cases ex : lastF os with
        | none => rw [ex] at q; exact q.elim
        | some x =>
          rw [ex] at q
          dsimp only at q
          obtain ⟨fx, ro, hfx⟩ := get_ok S k1 eg
          obtain ⟨a, ws, fr, ea, efx, hH, rs⟩ := ro
          subst ea efx
          obtain ⟨y, ry, gy, rs1⟩ := last_ok ex rs
          obtain ⟨fp2, S2, ex2⟩ := one_own (os' := os.take (os.length - 1)) (ws' := ws.dropLast) (fo1 := []) S k1 nv eg (by simpa using nd) (fun _ m => by cases m) (fun a' ws0 fr' ea' hH' rs' anf ndff => by
            have e : a = a' := by injection ea'
            subst e
            rw [hH] at hH'
            have ew : ws = ws0 := by injection (Option.some.inj hH')
            subst ew
            exact ⟨rfl, fr', (last_ok ex rs').choose_spec.2.2, (List.nodup_append.mp ndff).1, fun c m => List.mem_append_left _ m⟩) (Ex.refl H F (fp ++ []))
          cases rv with
          | cons rv1 rv2 =>
            cases rv2
            refine mt_pop pn s σ H (.ref a) [] _ _ Q J rv1 .nil ⟨a, ws, y, rfl, rfl, hH, gy, ?_⟩
            exact q y _ ⟨F, fp2, [], S2, ⟨rfl, ry⟩, by simpa using S2.nd, (fun _ m => by cases m), ex2, fun z => by cases z⟩
  · exact q.elim
end
end Tv
end

section
/-! Slices of lists, with bounds that are constants; xs[::-1]. -/
namespace Tv
open PySem L2 PySem.Spec PyProof.Rows
open PySem (Str Expr Stmt Scope Keyword)
section
variable {G : Gs} {X : Cx} {F H H' : Hp} {σ : L2.St} {ts ts' : Slots} {fp : List Addr} {c : Bool}
theorem RFs.rev : ∀ {xs : List FV} {ws : List V}, RFs G F xs ws → RFs G F xs.reverse ws.reverse
  | [], ws, r => by cases r; rfl
  | x :: xs, ws, r => by
    obtain ⟨v, vr, ev, r1, r2⟩ := r
    subst ev
    rw [List.reverse_cons, List.reverse_cons]
    exact RFs.app (RFs.rev r2) ⟨v, [], rfl, r1, rfl⟩
def revF (x : OV) : Option OV := x.els.map fun xs => OV.ofl xs.reverse
theorem rev_ok (D : X.K = G.K) : Op1 G (fun x H Q => ∃ a xs, x = .ref a ∧ SqL X.K H a xs ∧ ∀ p, H p = none → Q (.ref p) (upd H p (.lst xs.reverse))) revF := by
  intro H F x r v fx Q sub ro e q
  unfold revF at e
  cases z : x.els with
  | none => rw [z] at e; cases e
  | some xs =>
    rw [z] at e
    cases Option.some.inj e
    obtain ⟨a, ws, ev, ea, t⟩ := els_ok sub z ro
    exact ⟨a, ws, ev, SqL.of ea, fun p hp => q _ _ (Res.newL sub hp t.rev)⟩
/-- e[::-1], a list -/
theorem snd_revL {e : Expr} {m : TM Opd} {k : Nat} {p1 p2 p3 pos : Pos} (D : X.K = G.K) (he : Snd G X e m c) : Snd G X (.Subscript e (.Slice none none (some (.UnaryOp .USub (.Constant (.int 1) k p1) p2)) p3) pos) (t1 revF m) c :=
  fun _ _ _ _ _ S _ tk _ h => SE.of (pe_revL pe_SE) (rd_t1 (rev_ok D) he tk S h)
def cutF (l u : Option Int) (xs : List FV) : List FV := (xs.drop (HT.sIx xs.length 0 l)).take (HT.sIx xs.length xs.length u - HT.sIx xs.length 0 l)
def slF (l u : Option Int) (x : OV) : Option OV := x.els.map fun xs => OV.ofl (cutF l u xs)
theorem sl_ok (D : X.K = G.K) (l u : Option Int) : Op1 G (fun x H Q => rSlL X.K x l u H Q) (slF l u) := by
  intro H F x r v fx Q sub ro e q
  unfold slF at e
  cases z : x.els with
  | none => rw [z] at e; cases e
  | some xs =>
    rw [z] at e
    cases Option.some.inj e
    obtain ⟨a, ws, ev, ea, t⟩ := els_ok sub z ro
    refine ⟨a, ws, ev, SqL.of ea, fun p hp => q _ _ (Res.newL sub hp ?_)⟩
    unfold cutV cutF
    rw [t.len]
    exact (t.drop _).take _
/-- e[lo:hi], a list, the bounds are constants -/
theorem snd_slL {e : Expr} {m : TM Opd} {lo hi : Option Expr} {l u : Option Int} {tl th : TO} {p2 pos : Pos} (D : X.K = G.K) (hl : PO X lo tl) (hu : PO X hi th) (cl : ∀ σ H Q, Q l H → tl σ H Q) (cu : ∀ σ H Q, Q u H → th σ H Q) (he : Snd G X e m c) :
    Snd G X (.Subscript e (.Slice lo hi none p2) pos) (t1 (slF l u) m) c :=
  fun _ _ _ _ _ S _ tk _ h => SE.of (pe_slice sl_list pe_SE hl hu) ((rd_t1 (sl_ok D l u) he tk S h).mono fun v H1 q => cl _ _ _ (cu _ _ _ q))
end
end Tv
end

section
/-! list.clear(), list.reverse(). -/
namespace Tv
open PySem L2 PySem.Spec PyProof.Rows
open PySem (Str Expr Stmt Scope Keyword)
/-- x.clear(), x.reverse() -/
def tm0 (g : List OV → List OV) : List Opd → TM Opd
  | [r] => fun s => if isVal r then .bad else match lstO r s with
    | some os => .ok (.val (.frz .non)) (setO r (.lst (g os)) s)
    | none => .bad
  | _ => tbad
section
variable {G : Gs} {X : Cx} {F H H' : Hp} {σ : L2.St} {ts ts' : Slots} {fp : List Addr}
theorem stp_m0 {id : String} {g : List OV → List OV} {gv : List V → List V} (hm : MtR X id (fun x vs H Q => ∃ l xs, x = .ref l ∧ vs = [] ∧ H l = some (.lst xs) ∧ Q .non (upd H l (.lst (gv xs)))))
    (hg : ∀ (F H : Hp) (os : List OV) (ws : List V) (fr : List Addr), ROs G F H os ws fr → fr.Nodup → ∃ fs, ROs G F H (g os) (gv ws) fs ∧ fs.Nodup ∧ ∀ b ∈ fs, b ∈ fr) : Stp G X (fun us => call (.builtin id) us) (tm0 g) false := by
  intro σ H F ts fp fo os vs S oks nd off W tk Q q pn s us J rv
  unfold tm0 at q
  split at q
  · rename_i r
    cases hv : isVal r with
    | true => rw [hv, if_pos rfl] at q; exact q.elim
    | false =>
      rw [hv, if_neg Bool.false_ne_true] at q
      have nv : ∀ z, r ≠ .val z := fun z e => by rw [e] at hv; cases hv
      obtain ⟨v, vr, f1, f2, e1, e2, k1, e5, e6⟩ := oks
      subst e1 e2 e5 e6
      have ef : f1 = [] := by
        cases r with
        | val z => exact absurd rfl (nv z)
        | «at» i => exact k1.1
        | fld i f => exact k1.1
      subst ef
      cases el : lstO r ts with
      | none => rw [el] at q; exact q.elim
      | some os =>
        rw [el] at q
        dsimp only at q
        obtain ⟨_, eg⟩ := lstO_ok el
        obtain ⟨fx, ro, hfx⟩ := get_ok S k1 eg
        obtain ⟨a, ws, fr, ea, efx, hH, rs⟩ := ro
        subst ea efx
        obtain ⟨fp2, S2, ex2⟩ := one_own (os' := g os) (ws' := gv ws) (fo1 := []) S k1 nv eg (by simpa using nd) (fun _ m => by cases m) (fun a' ws0 fr' ea' hH' rs' anf ndff => by
          have e : a = a' := by injection ea'
          subst e
          rw [hH] at hH'
          have ew : ws = ws0 := by injection (Option.some.inj hH')
          subst ew
          obtain ⟨fs, h1, h2, h3⟩ := hg F H os ws fr' rs' (List.nodup_append.mp ndff).1
          exact ⟨rfl, fs, h1, h2, fun c m => List.mem_append_left _ (h3 c m)⟩) (Ex.refl H F (fp ++ []))
        cases rv with
        | cons rv1 rv2 =>
          cases rv2
          refine hm pn s σ H (.ref a) [] _ _ Q J rv1 .nil ⟨a, ws, rfl, rfl, hH, ?_⟩
          exact q .non _ ⟨F, fp2, [], S2, ⟨rfl, rfl⟩, by simpa using S2.nd, (fun _ m => by cases m), ex2, fun z => by cases z⟩
  · exact q.elim
theorem stp_clear : Stp G X (fun us => call (.builtin "list.clear") us) (tm0 fun _ => []) false :=
  stp_m0 (gv := fun _ => []) mt_clear fun _ _ _ _ _ _ _ => ⟨[], ⟨rfl, rfl⟩, List.nodup_nil, fun _ m => by cases m⟩
theorem ROs.rev : ∀ {os : List OV} {ws : List V} {fr : List Addr}, ROs G F H os ws fr → ∃ fs, ROs G F H os.reverse ws.reverse fs ∧ fs.Perm fr
  | [], ws, fr, r => by
    obtain ⟨e1, e2⟩ := r
    subst e1 e2
    exact ⟨[], ⟨rfl, rfl⟩, .nil⟩
  | o :: os, ws, fr, r => by
    obtain ⟨v, vr, f1, f2, e1, e2, r1, r2⟩ := r
    subst e1 e2
    obtain ⟨fs, h1, h2⟩ := ROs.rev r2
    refine ⟨fs ++ f1, ?_, (List.perm_append_comm).trans (h2.append_left f1)⟩
    rw [List.reverse_cons, List.reverse_cons]
    exact ROs.snoc r1 h1
theorem stp_reverse : Stp G X (fun us => call (.builtin "list.reverse") us) (tm0 List.reverse) false :=
  stp_m0 (gv := List.reverse) mt_reverse fun _ _ _ _ _ r nd => by
    obtain ⟨fs, h1, h2⟩ := r.rev
    exact ⟨fs, h1, h2.nodup_iff.mpr nd, fun b m => h2.mem_iff.mp m⟩
end
end Tv
end

noncomputable section
set_option maxHeartbeats 2000000
/-! Sets of strings: what they are, add, sorted. -/
namespace Tv
open PySem PySem.Spec PyProof.Rows L2
open PySem (Str)

/-- the string of an entry -/
def txtE (e : Int × Value) : Str := match e.2 with
  | .str k _ => k
  | _ => Str.empty
def OkE (w : World) (e : Int × Value) : Prop := ∃ k u, e.2 = Value.str k u ∧ e.1 = hashStr w k
/-- the set of strings at a: its members in the order of its entries are l -/
def SetS (w : World) (h : Heap) (a : Addr) (l : List Str) : Prop :=
  ∃ o es ep t, (h.get? a = some o ∧ o.ExactSet ∧ o.data = .set es ep t) ∧ (∀ e ∈ es.toList, OkE w e) ∧ es.toList.map txtE = l ∧ l.Nodup ∧ es.size < scanBound ∧ t.fits es.size = true ∧
    Ris t.place.toList ∧ (w.params.followText "set-order" = true ∨ t.led = true)
section
variable {P : Program} {w : World} {h h' : Heap} {a : Addr} {l : List Str}
theorem SetS.keep (R : SetS w h a l) (k : ∀ o, h.get? a = some o → h'.get? a = some o) : SetS w h' a l := by
  obtain ⟨o, es, ep, t, ⟨h1, h2⟩, r⟩ := R
  exact ⟨o, es, ep, t, ⟨k o h1, h2⟩, r⟩
theorem okE_elems {es : List (Int × Value)} (g : ∀ e ∈ es, OkE w e) : ElemsOf (PySem.strKind P w) es := fun e m => by
  obtain ⟨k, u, h1, h2⟩ := g e m
  exact ⟨⟨k, by rw [h1]; show (k == k) = true; exact beq_self_eq_true k, h2⟩, by rw [h1] <;> rfl⟩
theorem okE_is {e : Int × Value} (g : OkE w e) (k : Str) : (PySem.strKind P w).is k e.2 = true ↔ txtE e = k := by
  obtain ⟨k0, u, h1, _⟩ := g
  have e2 : txtE e = k0 := by unfold txtE; rw [h1]
  rw [h1, e2]
  show ((k0 == k) = true) ↔ k0 = k
  exact beq_iff_eq
theorem okE_mem {es : List (Int × Value)} (g : ∀ e ∈ es, OkE w e) (k : Str) : k ∈ es.map txtE ↔ ∃ e ∈ es, (PySem.strKind P w).is k e.2 = true := by
  constructor
  · intro m
    obtain ⟨e, he, q⟩ := List.mem_map.mp m
    exact ⟨e, he, (okE_is (g e he) k).mpr q⟩
  · rintro ⟨e, he, q⟩
    exact List.mem_map.mpr ⟨e, he, (okE_is (g e he) k).mp q⟩
theorem SetS.of (R : SetS w h a l) : h.SetOf (PySem.strKind P w) a (fun k => decide (k ∈ l)) l.length := by
  obtain ⟨o, es, ep, t, ⟨h1, h2, h3⟩, g, e, nd, hb, hf, _⟩ := R
  subst e
  exact ⟨o, es, ep, t, h1, h2, h3, okE_elems g, fun k => by rw [decide_eq_true_eq]; exact okE_mem g k, hb, hf, by simp⟩
end

section
variable {P : Program} {w : World} {A : Around} {E : Value → Shared → Prop} {s : Shared} {a : Addr} {l : List Str}
theorem put_at {h : Heap} {o : Obj} {es es' : Array (Int × Value)} {ep : Nat} {t t' : SetTable} (ho : h.get? a = some o) (hd : o.data = .set es ep t) :
    (h.update a (Obj.putSet es' t')).get? a = some { o with data := .set es' (ep + 1) t' } := L2.store_at ho hd
/-- the last part of an addition: the entries are stored, and perhaps laid anew -/
theorem sAdd_tail {g : Bool → Sem Unit} (hg : ∀ (b : Bool) (s₁ : Shared) (Q' : Unit → Shared → Prop), Q' () s₁ → wpAny (model P w) A (g b) Q' E s₁)
    {o : Obj} {es es1 : Array (Int × Value)} {ep : Nat} {t t2 : SetTable} (ho : s.heap.get? a = some o ∧ o.ExactSet ∧ o.data = .set es ep t) (g1 : ∀ e ∈ es1.toList, OkE w e) (nd1 : (es1.toList.map txtE).Nodup)
    (hb1 : es1.size < scanBound) (hf2 : t2.fits es1.size = true) (hr : Ris t2.place.toList) (hl : w.params.followText "set-order" = true ∨ t2.led = true) {wd : Bool} {R : Option Bool → Shared → Prop}
    (hR : ∀ h' l', Heap.SameBut a s.heap h' → l'.Perm (es1.toList.map txtE) → SetS w h' a l' → R (some true) { s with heap := h' }) :
    wpAny (model P w) A (do
        storeSet a es1 t2
        if (!wd && t2.tooFull) = true then do
            g (relayAll t2 es1 (SetTable.grown es1.size)).2.2
            storeSet a (relayAll t2 es1 (SetTable.grown es1.size)).1 (relayAll t2 es1 (SetTable.grown es1.size)).2.1
            pure (some true)
          else pure (some true)) R E s := by
  obtain ⟨o1, ox, od⟩ := ho
  refine wpAny_bind (wpAny_storeSet_of o1 od ?_ (fits_of_scanBound hb1))
  have at1 := put_at (es' := es1) (t' := t2) o1 od
  have sb1 := Heap.SameBut.update s.heap a (Obj.putSet es1 t2)
  split
  · have pm := relayAll_perm t2 es1 (SetTable.grown es1.size)
    have f3 := relayAll_fits t2 es1 (SetTable.grown es1.size)
    have r3 := relayAll_ris t2 es1 (SetTable.grown es1.size)
    have l3 := relayAll_led t2 es1 (SetTable.grown es1.size)
    revert pm f3 r3 l3
    generalize relayAll t2 es1 (SetTable.grown es1.size) = Z
    obtain ⟨es2, t3, gave⟩ := Z
    intro pm f3 r3 l3
    have sz : es2.size = es1.size := by have := pm.length_eq; simpa using this
    have b2 : es2.size < scanBound := sz ▸ hb1
    refine wpAny_bind (hg _ _ _ (wpAny_bind (wpAny_storeSet_of at1 rfl ?_ (fits_of_scanBound b2))))
    have at2 := put_at (es' := es2) (t' := t3) at1 rfl
    exact wpAny_pure (hR _ _ (sb1.trans (Heap.SameBut.update _ a _)) (pm.map txtE) ⟨_, es2, _, t3, ⟨at2, ox, rfl⟩, fun e m => g1 e (pm.mem_iff.mp m), rfl, (pm.map txtE).nodup_iff.mpr nd1, b2, f3, r3, hl.imp id fun z => l3.trans z⟩)
  · exact wpAny_pure (hR _ _ sb1 (List.Perm.refl _) ⟨_, es1, _, t2, ⟨at1, ox, rfl⟩, g1, rfl, nd1, hb1, hf2, hr, hl⟩)
/-- what is there behind an addition -/
def adn (l : List Str) (k : Str) : List Str := if k ∈ l then l else l ++ [k]
theorem sAdd_hashed {k : Str} {u : Tok} {Q : Bool → Shared → Prop} (R : SetS w s.heap a l) (room : l.length + 1 < scanBound)
    (hQ : ∀ h' l', Heap.SameBut a s.heap h' → l'.Perm (adn l k) → SetS w h' a l' → Q (!decide (k ∈ l)) { s with heap := h' }) :
    wpAny (model P w) A (setAddHashed a (.str k u) ((PySem.strKind P w).hash k)) Q E s := by
  have R0 := R
  obtain ⟨o, es, ep, t, ho, g, el, nd, hb, hf, hr, hl⟩ := R
  have key : (PySem.strKind P w).is k (.str k u) = true := beq_self_eq_true k
  have sc : (Value.str k u).scannable = true := rfl
  have els : ElemsOf (PySem.strKind P w) es.toList := okE_elems g
  unfold setAddHashed setAddHashedIn
  refine wpAny_holding (wpAny_bind (wpAny_setState_of ho.1 ho.2.2 hf ?_))
  dsimp only
  rw [byScan_of sc hb els]
  simp only [↓reduceIte]
  unfold setAddByScan
  refine wpAny_bind (wpAny_bind (wpAny_rule (wpAny_bind (wpAny_setScan_of key ho.1 ho.2.2 hf els ?_))))
  cases hfi : List.findIdx? (fun e => (PySem.strKind P w).is k e.2) es.toList with
  | some j =>
    obtain ⟨hj, pj, _⟩ := List.findIdx?_eq_some_iff_getElem.mp hfi
    have hm : k ∈ l := by rw [← el]; exact (okE_mem (P := P) g k).mpr ⟨_, List.getElem_mem hj, pj⟩
    have q := hQ s.heap l (Heap.SameBut.refl a s.heap) (by rw [adn, if_pos hm]) R0
    rw [decide_eq_true hm] at q
    exact wpAny_pure (wpAny_pure q)
  | none =>
    have nm : k ∉ l := fun z => by
      rw [← el] at z
      obtain ⟨e, he, q⟩ := (okE_mem (P := P) g k).mp z
      exact absurd q (by rw [List.findIdx?_eq_none_iff.mp hfi e he]; decide)
    have gw : ∀ (b : Bool) {s₁ : Shared} {Q' : Unit → Shared → Prop}, Q' () s₁ → wpAny (model P w) A (match b with | true => rule "set.scan.the-table-gave-way" | false => pure ()) Q' E s₁ :=
      fun b s₁ Q' q => by cases b <;> first | exact wpAny_pure q | exact wpAny_rule q
    have pm := layNew_perm t es ((PySem.strKind P w).hash k) (.str k u)
    have f1 := layNew_fits t es ((PySem.strKind P w).hash k) (.str k u)
    have r1 := layNew_ris t es ((PySem.strKind P w).hash k) (.str k u) hr
    have l1 := layNew_led t es ((PySem.strKind P w).hash k) (.str k u)
    dsimp only
    revert pm f1 r1 l1
    generalize layNew t es ((PySem.strKind P w).hash k) (.str k u) = Z
    obtain ⟨es1, t1, wd, gave⟩ := Z
    intro pm f1 r1 l1
    dsimp only at pm f1 r1 l1 ⊢
    rw [Array.toList_push] at pm
    have pk : (es1.toList.map txtE).Perm (l ++ [k]) := by
      have z := pm.map txtE
      rw [List.map_append, el] at z
      exact z
    have g1 : ∀ e ∈ es1.toList, OkE w e := fun e he => by
      rcases List.mem_append.mp (pm.mem_iff.mp he) with z | z
      · exact g e z
      · rw [List.mem_singleton.mp z]; exact ⟨k, u, rfl, rfl⟩
    have nd1 : (es1.toList.map txtE).Nodup := pk.nodup_iff.mpr (List.nodup_append.mpr ⟨nd, by simp, fun x m y m' => by
      rw [List.mem_singleton.mp m']; intro z; rw [z] at m; exact nm m⟩)
    have sz : es1.size = l.length + 1 := by have := pk.length_eq; simpa using this
    have b1 : es1.size < scanBound := by rw [sz]; exact room
    have led : w.params.followText "set-order" = true ∨ t1.led = true := hl.imp id fun z => l1.trans z
    have fin : ∀ h' l', Heap.SameBut a s.heap h' → l'.Perm (es1.toList.map txtE) → SetS w h' a l' → Q true { s with heap := h' } := fun h' l' sb p r => by
      have q := hQ h' l' sb (by rw [adn, if_neg nm]; exact p.trans pk) r
      rw [decide_eq_false nm] at q
      exact q
    refine wpAny_bind (gw _ ?_)
    split
    · refine wpAny_bind ?_
      rw [hashByValue_scannable 8 sc]
      refine wpAny_pure (sAdd_tail (fun b s₁ Q' q => ?_) ho g1 nd1 b1 ?_ ?_ ?_ fun h' l' sb p r => ?_)
      · cases b <;> first | exact wpAny_pure q | exact wpAny_rule q
      · first | (split <;> first | exact f1 | exact SetTable.fits_plain_off f1) | exact f1
      · first | (split <;> exact r1) | exact r1
      · first | (split <;> exact led) | exact led
      · exact wpAny_pure (fin h' l' sb p r)
    · refine wpAny_bind (wpAny_pure ?_)
      simp only [↓reduceIte]
      refine sAdd_tail (fun b s₁ Q' q => ?_) ho g1 nd1 b1 f1 r1 led fun h' l' sb p r => ?_
      · cases b <;> first | exact wpAny_pure q | exact wpAny_rule q
      · exact wpAny_pure (fin h' l' sb p r)
theorem SetS.typeIs (P : Program) (R : SetS w s.heap a l) : s.TypeIs (.ref a) "set" := (R.of (P := P)).typeIs
/-- x.add(k) -/
theorem sAdd {k : Str} {u : Tok} {Q : Value → Shared → Prop} (R : SetS w s.heap a l) (room : l.length + 1 < scanBound)
    (hQ : ∀ h' l', Heap.SameBut a s.heap h' → l'.Perm (adn l k) → SetS w h' a l' → Q .none { s with heap := h', toks := s.toks + 1 }) :
    wpAny (model P w) A (call (.builtin "set.add") [.ref a, .str k u]) Q E s := by
  refine wpAny_call_entry F.slot_set_add (R.typeIs P) F.entry_set_add ?_ (F.args_set_add_2 _ _)
  unfold Builtin.«set.add» Builtin.Frozenset.oneOther
  simp only [List.isEmpty_nil, bind_assoc]
  unfold Builtin.Frozenset.addrOf setAdd
  iterate 2
    refine wpAny_bind (wpAny_pure ?_)
    try dsimp only
  refine wpAny_bind (wpAny_holding (wpAny_bind ((PySem.strKind P w).pyHash (k := k) (beq_self_eq_true k) (sAdd_hashed (s := { s with toks := s.toks + 1 }) R room fun h' l' sb p r => ?_))))
  show wpAny _ _ (ret Value.none) _ _ _
  exact wpAny_pure ⟨_, rfl, hQ h' l' sb p r⟩
end

/-! ### as tracked things -/
/-- the set of the strings l at a -/
def SetSO (w : World) (a : Addr) (l : List Str) : HO := .ext fun h => ∃ l', l'.Perm l ∧ SetS w h a l'
theorem setS_new {w : World} {P : Program} {H : Hp} {h : Heap} {a : Addr} {l : List Str} (R : SetS w h a l) : ObjOk P w H h a (SetSO w a l) := by
  obtain ⟨o, es, ep, t, ⟨ho, _⟩, _⟩ := id R
  exact ⟨⟨l, .refl _, R⟩, ⟨o, ho⟩, fun h1 h2 p k => by obtain ⟨l', q, r⟩ := p; exact ⟨l', q, r.keep k⟩⟩
theorem adn_perm {l l' : List Str} {k : Str} (p : l'.Perm l) : (adn l' k).Perm (adn l k) := by
  unfold adn
  by_cases m : k ∈ l
  · rw [if_pos m, if_pos (p.mem_iff.mpr m)]; exact p
  · rw [if_neg m, if_neg fun z => m (p.mem_iff.mp z)]; exact p.append_right _
theorem SetSO.perm {w : World} {a : Addr} {l l' : List Str} (p : l.Perm l') : SetSO w a l = SetSO w a l' := by
  unfold SetSO
  congr 1
  funext h
  exact propext ⟨fun ⟨x, q, r⟩ => ⟨x, q.trans p, r⟩, fun ⟨x, q, r⟩ => ⟨x, q.trans p.symm, r⟩⟩
theorem fresh_setS {h : Heap} (w : World) : SetS w (h.push { cls := .type "set", dict := none, data := .set #[] 0 (.fresh 0 0 (!w.params.followText "set-order")) }) h.objs.size [] :=
  ⟨_, #[], 0, _, ⟨Heap.get?_push_size _ rfl, ⟨rfl, rfl, rfl⟩, rfl⟩, (fun e he => by simp at he), rfl, List.nodup_nil, (by decide), (by rfl), List.Pairwise.nil, by
    cases e : w.params.followText "set-order"
    · exact .inr rfl
    · exact .inl rfl⟩
section
variable {X : Cx}
theorem setS_get {pins : List (Addr × Obj)} {σ : L2.St} {H : Hp} {s : Shared} {a : Addr} {l : List Str} (I : Inv X pins σ H s) (ha : H a = some (SetSO X.w a l)) : ∃ l', l'.Perm l ∧ SetS X.w s.heap a l' := (I.hok a _ ha).1
theorem addS_ok {pins : List (Addr × Obj)} {σ : L2.St} {H : Hp} {s : Shared} {E : Value → Shared → Prop} {D : Addr} {l : List Str} {y : Str} {u : Tok} {Q : Value → Shared → Prop} (I : Inv X pins σ H s) (hD : H D = some (SetSO X.w D l)) (room : l.length + 1 < scanBound)
    (h : ∀ s', Inv X pins σ (upd H D (SetSO X.w D (adn l y))) s' → Q .none s') : wpAny (model X.prog X.w) X.A (call (.builtin "set.add") [.ref D, .str y u]) Q E s := by
  obtain ⟨l', p, R⟩ := setS_get I hD
  refine sAdd R (by rw [p.length_eq]; exact room) fun h' l2 sb p2 new => ?_
  obtain ⟨o, _, _, _, ⟨ho, _⟩, _⟩ := id new
  refine h _ (I.write (e := D) (t' := s.toks + 1) (by rw [hD]; trivial) (.inl rfl) (fun b u hb hu => (sb.2 b hb).trans hu) ⟨o, ho⟩ ?_)
  rw [← SetSO.perm (p2.trans (adn_perm p))]
  exact setS_new new
/-- {elt for target in iter if ..}, elt a string: D the new set -/
def tSs (w : World) (wi : TI) (g : TG) (tt : TT) (te : TE) (vs : List Nat) : TE := fun σ H Q => wi σ H fun J H1 => ∀ D, H1 D = none → ∃ W : Nat → Nat → Hp → Prop, (∃ m, W 0 m (upd H1 D (SetSO w D []))) ∧ ∀ i m H, W i m H →
  (J.stop i H ∧ Q (.ref D) H) ∨ (J.go i H ∧ ∃ Nx : Hp → Prop, (∀ H', Nx H' → ∃ m', m' < m ∧ W (i + 1) m' H') ∧ ∀ x H', J.yld i H x H' → g x (wipe σ vs) H' fun σ2 H2 => wipe σ2 vs = wipe σ vs ∧ tt σ2 H2 fun b H3 =>
    if b = true then te σ2 H3 fun y H4 => ∃ (c : Str) (l : List Str), y = .str c ∧ H4 D = some (SetSO w D l) ∧ l.length + 1 < scanBound ∧ Nx (upd H4 D (SetSO w D (adn l c))) else Nx H3)
theorem ss_core {pins : List (Addr × Obj)} {s : Shared} {σ : L2.St} {H : Hp} {Q : VK} {elt tg iter : Expr} {ifs : List Expr} {scope : Scope} {own : List (PySem.Str × Nat)} {pos pos' : Pos} {wi : TI} {g : TG} {tt : TT} {te : TE} {use : Option (Value → Sem Unit)} {Qf : Value → Shared → Prop}
    (hc : X.calm = true) (hN : X.N.Nodup) (I : Inv X pins σ H s) (hi : PI X tg iter wi) (ok : BlkOk X.N X.env.scope scope own)
    (hg : Blk X scope fun X' => PG X' tg g) (ht : Blk X scope fun X' => PTs X' ifs tt) (he : Blk X scope fun X' => PE X' elt te) (hs : ∀ x, foldedSetIterable iter X.env x = pure x) (h : tSs X.w wi g tt te (own.map (·.2)) σ H Q)
    (hRR : ∀ D C s' m H', Inv X pins σ H' s' → Q (.ref D) H' → s'.heap.Ns C m → FpOk X pins H' C → compPost (model X.prog X.w) X.A X.xe use Qf (.ref D) C (.ok .next) s') :
    wpAny (model X.prog X.w) X.A (comprehension (.SetComp elt [⟨tg, iter, ifs, 0⟩] scope pos) scope X.env pos' (newSet (.type "set")) false (eval iter X.env) use) Qf X.xe s := by
  have hfree : ∀ y ∈ scope.names, y.2 = .free → ∃ c, X.env.cells.lookup y.1 = some c := fun y hy e => (ok.free y hy e).elim (fun k => I.ok.has _ (.inl k)) fun k => I.ok.has _ (.inr k)
  refine wpAny_comprehension_free (use := use) rfl hs (closure_ok hfree) ok.kind (fun y hy e => by rw [ok.uniq y hy, e]) (thn (hi.run pins s σ H _ I h) fun xv s1 hx => thn hx fun itv s2 h2 => ?_)
  obtain ⟨it, fp, tn, J, H2, e, I2, T, st2, f2, q⟩ := h2
  subst e
  refine PpSet.newSet_ok (newEnv_comp ?_)
  have nD : H2 s2.heap.objs.size = none := I2.hok.fresh (Nat.le_refl _)
  obtain ⟨W, ⟨m0, w0⟩, turn⟩ := q s2.heap.objs.size nD
  have lt2 : ∀ b ∈ fp, b < s2.heap.objs.size := fun b hb => by
    obtain ⟨o, e, _⟩ := T.obj _ _ st2 b hb
    exact Heap.lt_size e
  have I3 : Inv X pins σ (upd H2 s2.heap.objs.size (SetSO X.w s2.heap.objs.size [])) { s2 with heap := s2.heap.push { cls := .type "set", dict := none, data := .set #[] 0 (.fresh 0 0 (!X.w.params.followText "set-order")) } } :=
    I2.laid (t' := s2.toks) (fun b o e => Heap.get?_push_of_some _ e) (Nat.le_refl _) (setS_new (fresh_setS X.w))
  generalize hD : s2.heap.objs.size = D at *
  generalize hs3 : ({ s2 with heap := s2.heap.push { cls := .type "set", dict := none, data := .set #[] 0 (.fresh 0 0 (!X.w.params.followText "set-order")) } } : Shared) = s3 at *
  have h3 : s3.heap = s2.heap.push { cls := .type "set", dict := none, data := .set #[] 0 (.fresh 0 0 (!X.w.params.followText "set-order")) } := by rw [← hs3]
  have f3 : ∀ b ∈ fp, FpOk X pins (upd H2 D (SetSO X.w D [])) b ∧ b < s3.heap.objs.size := fun b hb => by
    have hlt := lt2 b hb
    refine ⟨⟨?_, (f2 b hb).2⟩, Nat.lt_of_lt_of_eq (Nat.lt_succ_of_lt hlt) (by rw [h3, Heap.size_push, hD])⟩
    rw [upd_ne (Nat.ne_of_lt hlt)]
    exact (f2 b hb).1
  have st3 : tn 0 s3.heap := T.keep _ _ _ st2 fun b _ o e => by rw [h3]; exact Heap.get?_push_of_some _ e
  have I4 := block_start I3 ok hN f3
  generalize hC : s3.heap.objs.size = C at *
  generalize hcl : cellsFrom (C + 1) scope.names (cloFrom X.env.cells scope.names []) = cl at *
  have pg := hg s3 (upd H2 D (SetSO X.w D [])) C cl fp
  have pt := ht s3 (upd H2 D (SetSO X.w D [])) C cl fp
  have pe := he s3 (upd H2 D (SetSO X.w D [])) C cl fp
  show codeAny _ _ (.compStart (.SetComp elt [⟨tg, iter, ifs, 0⟩] scope pos) 0 (.ref it) (.ref D) (compEnvC scope cl C X.env)) (compPost (model X.prog X.w) X.A X.xe use Qf (.ref D) C) { s3 with heap := pushCells (s3.heap.push { cls := .type "dict", data := .dict #[] }) scope.names }
  have n3 : ∀ b ∈ fp, (upd H2 D (SetSO X.w D [])) b = none := fun b hb => (f3 b hb).1.1
  generalize hce : compEnvC scope cl C X.env = ce at I4 pg pt pe ⊢
  have cL : ce.locals = C := by rw [← hce]; rfl
  generalize hH3 : upd H2 D (SetSO X.w D []) = H3 at *
  generalize hs4 : ({ s3 with heap := pushCells (s3.heap.push { cls := .type "dict", data := .dict #[] }) scope.names } : Shared) = s4 at I4 ⊢
  have st4 : tn 0 s4.heap := T.keep _ _ _ st3 fun b _ o e => by rw [← hs4]; exact pushCells_keeps _ _ _ _ (Heap.get?_push_of_some _ e)
  have stat : ∀ {σ' : L2.St} {H' : Hp} {s' : Shared}, Inv (X.blk s3 H3 scope ce fp) [] σ' H' s' → (∀ b ∈ fp, H' b = none) → ∀ b ∈ fp, FpOk (X.blk s3 H3 scope ce fp) [] H' b := fun {σ' H' s'} I' hn b hb =>
    ⟨hn b hb, (I'.ok.exf b hb).1, I'.ok.exfs b hb, .inl hb, fun x c e => (I'.ok.exf b hb).2 x c e, fun p hp => by cases hp⟩
  refine PpSet.codeAny_compStart_set ?_ (T.self X.A 0 _ _ _ st4 ?_)
  all_goals
    refine PpSet.compLoopS_any (fun n s' => ∃ i H', Inv (X.blk s3 H3 scope ce fp) [] (wipe σ (own.map (·.2))) H' s' ∧ tn i s'.heap ∧ (∀ b ∈ fp, H' b = none) ∧ W i n H') ?_ m0 ⟨0, H3, I4, st4, n3, w0⟩
    rintro n s5 ⟨i, H5, I5, st5, n5, w5⟩
    rcases turn i n H5 w5 with ⟨stop, qq⟩ | ⟨go, Nx, hNx, step⟩
    · refine thnF (T.done (X.blk s3 H3 scope ce fp) rfl rfl rfl hc i [] s5 _ H5 (fun _ _ => False) I5 (stat I5 n5) st5 stop) fun r s6 ⟨hr, I6⟩ => ?_
      subst hr
      have I7 : Inv X pins σ H5 s6 := I3.call' (ch := fp) I6.os I6.base I6.hok I6.bare fun b hb => ⟨(f3 b hb).1.2.2.2.1, (f3 b hb).1.2.1, (f3 b hb).1.2.2.2.2.1, (f3 b hb).1.2.2.2.2.2⟩
      have nC : H5 C = none := by rw [← cL]; exact I6.free
      obtain ⟨m, hn, _⟩ := I6.loc
      have hn : s6.heap.Ns ce.locals m := hn
      rw [cL] at hn
      exact hRR D C s6 m H5 I7 qq hn (I3.fpOk (Nat.le_of_eq hC) nC)
    · refine thnF (T.item (X.blk s3 H3 scope ce fp) rfl rfl rfl hc i [] s5 _ H5 (fun _ _ => False) I5 (stat I5 n5) st5 go) fun r s6 ⟨u, hr, h6⟩ => ?_
      subst hr
      refine thnF h6 fun _ s7 ⟨x, H7, I7, r7, y7, st7, n7⟩ => ?_
      refine thnF (pg.run _ s7 _ H7 x u _ (I7.pinned (stat I7 n7) (T.obj _ _ st7)) r7 (step x H7 y7)) fun _ s8 ⟨σ8, H8, I8, hw8, q8⟩ => ?_
      refine thnF (pt.run _ s8 σ8 H8 _ I8 q8) fun b s9 ⟨H9, I9, q9⟩ => ?_
      have fin : ∀ {s' : Shared} {H' : Hp}, Inv (X.blk s3 H3 scope ce fp) ([] ++ pinsAt fp s7.heap) σ8 H' s' → Nx H' → ∃ m, m < n ∧ ∃ i H', Inv (X.blk s3 H3 scope ce fp) [] (wipe σ (own.map (·.2))) H' s' ∧ tn i s'.heap ∧ (∀ b ∈ fp, H' b = none) ∧ W i m H' := fun {s' H'} I' nx => by
        obtain ⟨m', hm, w'⟩ := hNx H' nx
        have pin' : ∀ b ∈ fp, ∀ o, s7.heap.get? b = some o → s'.heap.get? b = some o ∧ H' b = none := fun b hb o e =>
          let z := I'.pin (b, o) (List.mem_append_right _ (List.mem_append_right _ (mem_pinsAt hb e)))
          ⟨z.1, z.2.1⟩
        refine ⟨m', hm, i + 1, H', (I'.unpinned (pins := [])).weak (by rw [← hw8, wipe_length]) (fun j v e => ?_), T.keep _ _ _ st7 fun b hb o e => (pin' b hb o e).1, fun b hb => ?_, w'⟩
        · rw [← hw8] at e
          exact (wipe_some e).1
        · obtain ⟨o, e, _⟩ := T.obj _ _ st7 b hb
          exact (pin' b hb o e).2
      cases b with
      | false =>
        rw [if_neg Bool.false_ne_true] at q9 ⊢
        exact fin I9 q9
      | true =>
        rw [if_pos rfl] at q9 ⊢
        refine thnF (pe.run _ s9 σ8 H9 _ I9 q9) fun z s10 ⟨yv, H10, I10, r10, c, l, ey, hD10, hz10, nx⟩ => ?_
        subst ey
        obtain ⟨tk, rfl⟩ : ∃ tk, z = Value.str c tk := r10
        exact addS_ok (X := X.blk s3 H3 scope ce fp) I10 hD10 hz10 fun s11 I11 => fin I11 nx
end
end Tv
end

noncomputable section
set_option maxHeartbeats 3200000
/-! sorted(set), set(list), len(set). -/
namespace Tv
open PySem PySem.Spec PyProof.Rows L2
open PySem (Str)
section
variable {P : Program} {w : World} {A : Around} {E : Value → Shared → Prop} {s : Shared} {a : Addr} {l : List Str}
theorem strs_of (g : ∀ e : Int × Value, OkE w e → True) : ∀ (vs : List Value), (∀ v ∈ vs, ∃ k u, v = Value.str k u) → ∃ zs, StrsAre vs zs
  | [], _ => ⟨[], .nil⟩
  | v :: vs, h => by
    obtain ⟨k, u, rfl⟩ := h v List.mem_cons_self
    obtain ⟨zs, r⟩ := strs_of g vs fun x m => h x (List.mem_cons_of_mem _ m)
    exact ⟨k :: zs, .cons k u r⟩
theorem strs_map : ∀ {vs : List Value} {zs : List Str}, StrsAre vs zs → zs = vs.map fun v => txtE (0, v)
  | _, _, .nil => rfl
  | _, _, .cons k u r => by rw [strs_map r]; rfl
theorem sorted_setS {Q : Value → Shared → Prop} (R : SetS w s.heap a l) (hh : A.handled = none) (h64 : l.length < 64)
    (hQ : ∀ s' p (out : Array Value) (c : Nat) (ys : List Str), (∀ b o, s.heap.get? b = some o → s'.heap.get? b = some o) → s'.gens = s.gens → s'.os = s.os → s.heap.objs.size ≤ p →
      s'.heap.get? p = some (seqObj "list" out c) → StrsAre out.toList ys → ys.Perm l → sortedS ys = true → Q (.ref p) s') :
    wpAny (model P w) A (call (.builtin "sorted") [.ref a]) Q E s := by
  obtain ⟨o, es, ep, t, ⟨ho, hex, hd⟩, g, el, nd, hb, hf, hr, hl⟩ := R
  refine Calls.call_function_entry kind_sorted plain_sorted entry_sorted (args_sorted1 _) ?_
  unfold Builtin.«sorted»
  refine wpAny_bind (m := checkCount "sorted" 1 1 _) (wpAny_pure ?_)
  refine wpAny_bind (collect_set (A := A.in1) hh ⟨o, ho, hex.1, hd⟩ hf hb hr hl fun s1 vs k1 hz g1 o1 pm => ?_)
  have hvl : vs.length = l.length := by rw [pm.length_eq, List.length_map, ← el, List.length_map]
  obtain ⟨zs, hS⟩ := strs_of (w := w) (fun _ _ => trivial) vs fun v hv => by
    obtain ⟨e, he, q⟩ := List.mem_map.mp (pm.mem_iff.mp hv)
    obtain ⟨k, u, h1, _⟩ := g e he
    exact ⟨k, u, by rw [← q]; exact h1⟩
  have pz : zs.Perm l := by
    have z := pm.map fun v => txtE (0, v)
    rw [List.map_map] at z
    rw [strs_map hS, ← el]
    exact z
  refine wpAny_bind (wpAny_newList ?_ (by rw [hvl, sizeLine_eq]; omega))
  have hoL : (s1.heap.push (seqObj "list" vs.toArray 0)).get? s1.heap.objs.size = some (seqObj "list" vs.toArray 0) := Heap.get?_push_size _ rfl
  refine wpAny_bind (wpAny_holding (wpAny_call_entry slot_list_sort ⟨_, hoL, rfl⟩ entry_list_sort (list_sort_treeK strKind_oneLt hoL hS.keysOf (fun v₁ v₂ rest e => keyKind_strs (by rw [← e]; exact hS)) (by rw [hvl]; exact h64) fun st' hp hs => ⟨_, rfl, ?_⟩) (args_list_sort _)))
  obtain ⟨ys, h1, h2, h3⟩ := sorted_out_str hS hp hs
  obtain ⟨c, hc⟩ := sortedHeap_at (vs := vs) (out := (arrOf st').map (·.2)) hoL
  refine wpAny_pure ⟨_, rfl, hQ _ s1.heap.objs.size _ c ys (fun b u e => ?_) g1 o1 hz hc h1 (h2.trans pz) h3⟩
  have q := k1 b u e
  have hlt := Heap.lt_size q
  show (sortedHeap (s1.heap.push (seqObj "list" vs.toArray 0)) s1.heap.objs.size vs _).get? b = some u
  rw [sortedHeap_old (Nat.ne_of_lt hlt) (by rw [size_push']; exact Nat.lt_succ_of_lt hlt)]
  exact Heap.get?_push_of_some _ q
end
section
variable {X : Cx}
/-- sorted(x), x a set of strings -/
theorem cr_sortedSs (hc : X.calm = true) : CallR X (.builtin "sorted") (fun vs H Q => ∃ (a : Addr) (l : List Str), vs = [V.ref a] ∧ H a = some (SetSO X.w a l) ∧ l.length < 64 ∧ ∀ p, H p = none → Q (.ref p) (upd H p (.lst ((sortL l).map V.str)))) := by
  intro pins s σ H vs us Q I r h
  obtain ⟨a, l, rfl, ha, h64, q⟩ := h
  obtain ⟨l', p', R⟩ := setS_get I ha
  rw [Vals.ref1 r]
  refine sorted_setS R (I.ok.hd hc) (by rw [p'.length_eq]; exact h64) fun s' p out c ys k g o hp hg hi hs hm => ?_
  have ey : ys = sortL l := sortL_only (hs.trans p') hm
  subst ey
  have hlen : ((sortL l).map V.str).length ≤ PySem.sizeLine := by rw [List.length_map, (hs.trans p').length_eq, sizeLine_eq]; omega
  have J : Inv X pins σ (upd H p (.lst ((sortL l).map V.str))) { s with heap := s'.heap, gens := s'.gens, drawn := s'.drawn, toks := s'.toks } :=
    I.call (ch := []) (Un.laid k hp (I.hok.fresh hp)) (I.hok.laid k hp ⟨hlen, out.toList, c, vals_of_strs hi, hg⟩) (by rw [g]; exact I.bare) (fun _ z => nomatch z)
  have e : s' = { s with heap := s'.heap, gens := s'.gens, drawn := s'.drawn, toks := s'.toks } := by
    cases s'; cases s; cases o; rfl
  rw [e]
  exact ⟨.ref p, _, J, rfl, q p (I.hok.fresh hp)⟩
/-- len(x), x a set of strings -/
theorem cr_lenSs : CallR X (.builtin "len") (fun vs H Q => ∃ (a : Addr) (l : List Str), vs = [V.ref a] ∧ H a = some (SetSO X.w a l) ∧ Q (.int l.length) H) := by
  intro pins s σ H vs us Q I r h
  obtain ⟨a, l, rfl, ha, q⟩ := h
  obtain ⟨l', p', o, es, ep, t, ⟨ho, hex, hd⟩, g, el, nd, hb, hf, hr, hl⟩ := setS_get I ha
  rw [Vals.ref1 r]
  have sz : es.size = l.length := by rw [← p'.length_eq, ← el]; simp
  refine call_len_set ho hex hd hf (by have : scanBound = 4096 := rfl; omega) ⟨.int l.length, H, I.tok _, ?_, q⟩
  rw [sz]
  exact ⟨_, rfl⟩
end
/-! ### set(list) -/
section
variable {P : Program} {w : World} {A : Around} {E : Value → Shared → Prop} {s : Shared} {R : Result → Shared → Prop} {I : Addr} {fp wr : List Addr} {Gg : Array GenState → Array GenState → Prop} {n : Nat} {Pv : Nat → Value → Prop} {St : Nat → Shared → Prop}
theorem adn_len (l : List Str) (k : Str) : (adn l k).length ≤ l.length + 1 := by
  unfold adn
  split
  · omega
  · simp
theorem sUpd_loop (W : WalksS P w A.in1 I fp wr Gg n Pv St) (S : Addr) (hSf : S ∉ fp) (zs : List Str) (hval : ∀ i v, Pv i v → ∃ x t, zs[i]? = some x ∧ v = .str x t) (hn : zs.length = n) :
    ∀ (k i : Nat) (s : Shared) (l : List Str), n - i = k → i ≤ n → St i s → SetS w s.heap S l → l.length + k + 1 < scanBound →
      (∀ s' l', Moved (S :: wr) Gg s s' → l'.Perm ((zs.drop i).foldl adn l) → SetS w s'.heap S l' → R (.ok (.ret .none)) s') →
      codeAny (model P w) A (.builtin "set.update.loop" ⟨[.ref S, .ref I], []⟩) R s := by
  have hSw : S ∉ wr := fun h => hSf (W.sub _ h)
  have sub : ∀ b ∈ wr, b ∈ S :: wr := fun b hb => List.mem_cons_of_mem _ hb
  intro k
  induction k with
  | zero =>
    intro i s l hk hi st hS hb hR
    obtain rfl : i = n := by omega
    refine codeAny_builtin F.entry_set_update_loop ?_
    rw [Around.under_plainId F.plain_set_update_loop _]
    show wpAny _ A.in1 (pyNext (.ref I) >>= _) _ _ s
    refine wpAny_bind (W.done s _ _ st fun s' hm => ?_)
    show wpAny _ A.in1 (ret Value.none) _ _ s'
    exact wpAny_pure (hR s' l (hm.mono sub) (by rw [← hn, List.drop_length]; exact .refl _) (hS.keep fun o e => hm.heap S _ hSw e))
  | succ k ih =>
    intro i s l hk hi st hS hb hR
    have lt : i < n := by omega
    refine codeAny_builtin F.entry_set_update_loop ?_
    rw [Around.under_plainId F.plain_set_update_loop _]
    show wpAny _ A.in1 (pyNext (.ref I) >>= _) _ _ s
    refine wpAny_bind (W.item i s _ _ lt st fun v s' hP st' hm => ?_)
    obtain ⟨x, t, hx, rfl⟩ := hval i v hP
    have hS' : SetS w s'.heap S l := hS.keep fun o e => hm.heap S _ hSw e
    show wpAny _ A.in1 (holding [Value.str x t] (setAdd S (.str x t)) >>= _) _ _ s'
    refine wpAny_bind (wpAny_holding ?_)
    unfold setAdd
    refine wpAny_holding (wpAny_bind ((PySem.strKind P w).pyHash (k := x) (beq_self_eq_true x) ?_))
    refine sAdd_hashed (s := { s' with toks := s'.toks + 1 }) hS' (by omega) fun h' l2 sb p2 hS2 => ?_
    have ed : (zs.drop i).foldl adn l = (zs.drop (i + 1)).foldl adn (adn l x) := by
      rw [List.drop_eq_getElem_cons (by omega)]
      have : zs[i]'(by omega) = x := by rw [List.getElem?_eq_getElem (by omega)] at hx; exact Option.some.inj hx
      rw [this]
      rfl
    have fp2 : ∀ (ys : List Str) {u u' : List Str}, u.Perm u' → (ys.foldl adn u).Perm (ys.foldl adn u') := by
      intro ys
      induction ys with
      | nil => intro u u' h; exact h
      | cons y ys ih => intro u u' h; exact ih (adn_perm h)
    have l2len : l2.length ≤ l.length + 1 := by rw [p2.length_eq]; exact adn_len l x
    refine wpAny_pure ⟨plainId_quiet F.plain_set_update_loop _, ih (i + 1) _ l2 (by omega) lt (W.frame _ s' _ _ st' (Nat.le_succ _) fun b hb o e => ?_) hS2 (by omega) fun s'' l3 hm'' p3 hS'' => ?_⟩
    · rw [sb.2 b (fun h : b = S => hSf (by rw [← h]; exact hb))]; exact e
    · refine hR s'' l3 (Moved.trans W.gtrans ((hm.mono sub).then_heap (Nat.le_succ _) fun b o hb e => ?_) hm'') (p3.trans ?_) hS''
      · rw [sb.2 b (fun h : b = S => hb (by rw [h]; exact List.mem_cons_self))]; exact e
      · rw [ed]; exact fp2 _ p2
theorem code_set_led1 (a : Value) {Q₁ : Value → Shared → Prop}
    (h : Q₁ (.ref s.heap.objs.size) { s with heap := s.heap.push { cls := .type "set", dict := none, data := .set #[] 0 (.fresh 0 0 (!w.params.followText "set-order")) } }) :
    codeAny (model P w) A (.call (.builtin "set.__new__") ⟨[.type "set", a], []⟩) (wants Q₁ E) s := by
  refine codeAny_of_tree ?_
  show wpAny _ A.in1 (do checkBuiltinCall "set.__new__" ⟨[.type "set", a], []⟩; again (.builtin "set.__new__" ⟨[.type "set", a], []⟩)) _ _ s
  refine wpAny_bind (wpAny_of_eq (F.newCall_set_1 a) (wpAny_pure ⟨plainId_quiet F.plain_set_new _, codeAny_builtin F.entry_set_new ?_⟩))
  rw [Around.under_plainId F.plain_set_new _]
  unfold Builtin.«set.__new__» Builtin.Frozenset.newClass
  have hsub := sub_set_self
  obtain ⟨hp, g, d, tk, os⟩ := s
  dsimp only
  wp_walk
  refine wpAny_askSetting (wpAny_pure ?_)
  dsimp only
  simp only [newObj]
  exact wpAny_bind (wpAny_alloc (wpAny_pure (wpAny_pure h)))
theorem strs_at : ∀ {vs : List Value} {zs : List Str}, StrsAre vs zs → ∀ (i : Nat) (v : Value), vs[i]? = some v → ∃ x t, zs[i]? = some x ∧ v = .str x t
  | _, _, .nil, i, v, h => by simp at h
  | _, _, .cons y t r, 0, v, h => ⟨y, t, rfl, by simpa using h.symm⟩
  | _, _, .cons y t r, i + 1, v, h => by simpa using strs_at r i v (by simpa using h)
theorem call_set_strs {l0 : Addr} {items : Array Value} {zs : List Str} {Q : Value → Shared → Prop} (hh : A.handled = none) (hl : s.heap.IsList l0 items) (hi : StrsAre items.toList zs) (hb : zs.length + 1 < scanBound)
    (h : ∀ (h' : Heap) (tk : Nat) (l' : List Str), l'.Perm (zs.foldl adn []) → SetS w h' s.heap.objs.size l' → (∀ b o, b < s.heap.objs.size → s.heap.get? b = some o → h'.get? b = some o) → Q (.ref s.heap.objs.size) { s with heap := h', toks := tk }) :
    wpAny (model P w) A (call (.type "set") [.ref l0]) Q E s := by
  obtain ⟨c, tl, hmro⟩ := F.called_set.mro
  have hmade := F.called_set.made
  have hsub := F.called_set.sub
  have hlen : items.size = zs.length := by
    have := hi.length
    simpa using this
  refine wpAny_call (codeAny_of_tree ?_)
  show wpAny _ _ (callAny (.type "set") _) _ _ _
  refine wpAny_pure ⟨Code.quiet_builtin _ (by decide +kernel), codeAny_builtin F.entry_type_call ?_⟩
  rw [Around.under_plain (weight_type_call_type "set" [.ref l0] []) rfl]
  have h1 := F.called_set.notType
  have h2 := F.called_set.canCreate
  have hct := F.typeCall_set_1 (.ref l0)
  repeat (any_goals (first | assumption | wp_step))
  have hnw := fresh_setS (h := s.heap) w
  have hcn := code_set_led1 (P := P) (w := w) (A := A.in1) (s := s) (.ref l0) (E := E) (Q₁ := fun obj s₁ => obj = .ref s.heap.objs.size ∧ s₁ = { s with heap := s.heap.push { cls := .type "set", dict := none, data := .set #[] 0 (.fresh 0 0 (!w.params.followText "set-order")) } }) ⟨rfl, rfl⟩
  generalize (!w.params.followText "set-order") = led at hnw hcn
  refine codeAny_mono hcn fun r s₁ hr => ?_
  cases r with
  | error e => exact hr
  | ok fl =>
    cases fl with
    | ret obj =>
      obtain ⟨rfl, rfl⟩ := hr
      have hS : (s.heap.push { cls := .type "set", dict := none, data := .set #[] 0 (.fresh 0 0 led) }).get? s.heap.objs.size = some { cls := .type "set", dict := none, data := .set #[] 0 (.fresh 0 0 led) } := Heap.get?_push_size _ rfl
      have hT : Shared.TypeIs { s with heap := s.heap.push { cls := .type "set", dict := none, data := .set #[] 0 (.fresh 0 0 led) } } (.ref s.heap.objs.size) "set" := ⟨_, hS, rfl⟩
      have hli := F.called_set.init.lookup
      have hbi := F.called_set.init.bind (.ref s.heap.objs.size)
      repeat (any_goals (first | assumption | wp_step))
      refine codeAny_mono (codeAny_call_builtin (R := wants (fun r s₂ => r = .none ∧ ∃ h' tk l', s₂ = { s with heap := h', toks := tk } ∧ l'.Perm (zs.foldl adn []) ∧ SetS w h' s.heap.objs.size l' ∧
          (∀ b o, b < s.heap.objs.size → s.heap.get? b = some o → h'.get? b = some o)) E) F.called_set.init.plain F.entry_set_init (check_set_init_1 hT ?_)) fun r₂ s₂ hr₂ => ?_
      · obtain ⟨ol, hol, hcl, nl, hdl⟩ := hl
        obtain ⟨ocls, odict, odata, oslots⟩ := ol
        simp only at hcl hdl
        subst hcl; subst hdl
        have hol' : (s.heap.push { cls := .type "set", dict := none, data := .set #[] 0 (.fresh 0 0 led) }).get? l0 = some { cls := .type "list", dict := odict, data := .seq items nl, slots := oslots } := Heap.get?_push_of_some _ hol
        have hsls := F.sub_list_set
        have hslf := F.sub_list_frozenset
        have hne : (Value.type "list" == Value.type "dict") = false := by decide
        have hl1 : (s.heap.push { cls := .type "set", dict := none, data := .set #[] 0 (.fresh 0 0 led) }).IsList l0 items := ⟨_, hol', rfl, nl, rfl⟩
        unfold Builtin.«set.__init__» noKeywords Builtin.Frozenset.updateFrom
        generalize hPI : pyIter = PI
        wp_walk
        subst hPI
        refine wpAny_pyIter_list (s := { s with heap := s.heap.push { cls := .type "set", dict := none, data := .set #[] 0 (.fresh 0 0 led) } }) hl1 ?_
        refine wpAny_bind (wpAny_runValue ?_)
        have ltl : l0 < s.heap.objs.size := Heap.lt_size hol
        have hh3 : A.in1.in1.in1.handled = none := by simp [hh]
        have hneI : l0 ≠ (s.heap.push { cls := .type "set", dict := none, data := .set #[] 0 (.fresh 0 0 led) }).objs.size := by rw [Heap.size_push]; exact Nat.ne_of_lt (Nat.lt_succ_of_lt ltl)
        have hSf : s.heap.objs.size ∉ [(s.heap.push { cls := .type "set", dict := none, data := .set #[] 0 (.fresh 0 0 led) }).objs.size, l0] := by
          rw [Heap.size_push]; simp only [List.mem_cons, List.not_mem_nil, or_false, not_or]
          exact ⟨Nat.ne_of_lt (Nat.lt_succ_self _), Nat.ne_of_gt ltl⟩
        refine sUpd_loop (P := P) ((Walks.list hh3 _ l0 hneI items).toS) s.heap.objs.size hSf zs (fun i v hv => strs_at hi i v (by rw [Array.getElem?_toList]; exact hv)) hlen.symm (items.size - 0) 0 _ [] rfl (Nat.zero_le _) ⟨⟨_, Heap.get?_push_size _ rfl, rfl, rfl⟩, (hl1.push _)⟩ ?hS0 (by simp only [List.length_nil]; omega) ?hR
        case hS0 =>
          exact hnw.keep fun o e => Heap.get?_push_of_some _ e
        case hR =>
          intro s' l' hm p hS'
          obtain ⟨h', g', d', tk', os'⟩ := s'
          have eg : g' = s.gens := hm.gens
          have ed : d' = s.drawn := hm.drawn
          have eo : os' = s.os := hm.os
          subst eg; subst ed; subst eo
          show wpAny _ _ _ _ _ _
          refine wpAny_pure ?_
          show wpAny _ _ (ret Value.none) _ _ _
          refine wpAny_pure ⟨rfl, h', tk', l', rfl, by simpa using p, hS', fun b o hb e => hm.heap b o ?_ (Heap.get?_push_of_some _ (Heap.get?_push_of_some _ e))⟩
          rw [Heap.size_push]; simp only [List.mem_cons, List.not_mem_nil, or_false, not_or]
          exact ⟨Nat.ne_of_lt hb, Nat.ne_of_lt (Nat.lt_succ_of_lt hb)⟩
      · cases r₂ with
        | error e => exact hr₂
        | ok fl₂ =>
          cases fl₂ with
          | ret r =>
            obtain ⟨rfl, h', tk, l', rfl, p, hS', hk'⟩ := hr₂
            repeat (any_goals (first | assumption | wp_step))
            exact h _ _ l' p hS' hk'
          | _ => exact hr₂.elim
    | _ => exact hr.elim
end
section
variable {X : Cx}
theorem cr_setStrs (hc : X.calm = true) : CallR X (.type "set") (fun vs H Q => ∃ (a : Addr) (zs : List Str), vs = [V.ref a] ∧ SqL X.K H a (zs.map V.str) ∧ zs.length + 1 < scanBound ∧ ∀ p, H p = none → Q (.ref p) (upd H p (SetSO X.w p (zs.foldl adn [])))) := by
  intro pins s σ H vs us Q I r h
  obtain ⟨a, zs, rfl, ha, hb, q⟩ := h
  obtain ⟨its, rv, hl, _⟩ := I.list ha
  rw [Vals.ref1 r]
  refine call_set_strs (I.ok.hd hc) hl.isList (by simpa using rv.strs) hb fun h' tk l' p R k => ?_
  have kk : ∀ b o, s.heap.get? b = some o → h'.get? b = some o := fun b o e => k b o (Heap.lt_size e) e
  have nw : H s.heap.objs.size = none := I.hok.fresh (Nat.le_refl _)
  refine ⟨.ref s.heap.objs.size, upd H s.heap.objs.size (SetSO X.w s.heap.objs.size (zs.foldl adn [])), I.laid (t' := tk) kk (Nat.le_refl _) ?_, rfl, q _ nw⟩
  rw [← SetSO.perm p]
  exact setS_new R
end
end Tv
end

noncomputable section
set_option maxHeartbeats 2000000
/-! Comprehensions that fill something new: sets of strings, dicts. -/
namespace Tv
open PySem L2
open PySem (Str Expr Stmt Scope)

/-! ### the functions -/
def tacr {β : Type} (g : OV → TM Unit) (t : TM Bool) (el : β → TM β) (own : List Nat) : List FV → β → TM β
  | [], acc => tp acc
  | x :: xs, acc => tb (g (.frz x)) fun _ => tb t fun b => if b = true
    then tb (el acc) fun acc' => tb (twipe own) fun _ => tacr g t el own xs acc'
    else tb (twipe own) fun _ => tacr g t el own xs acc
def tac {β : Type} (m : TM (List FV)) (g : OV → TM Unit) (t : TM Bool) (el : β → TM β) (own : List Nat) (b0 : β) : TM β := tb m fun xs s0 =>
  tb (twipe own) (fun _ => tb (noexc (tacr g t el own xs b0)) fun acc => tb (tback s0 own) fun _ => tp acc) s0

/-! ### the readings -/
abbrev TEL := Addr → L2.St → Hp → (Hp → Prop) → Prop
def tAc (wi : TI) (g : TG) (tt : TT) (tel : TEL) (h0 : Addr → HO) (vs : List Nat) : TE := fun σ H Q => wi σ H fun J H1 => ∀ D, H1 D = none → ∃ W : Nat → Nat → Hp → Prop, (∃ m, W 0 m (upd H1 D (h0 D))) ∧ ∀ i m H, W i m H →
  (J.stop i H ∧ Q (.ref D) H) ∨ (J.go i H ∧ ∃ Nx : Hp → Prop, (∀ H', Nx H' → ∃ m', m' < m ∧ W (i + 1) m' H') ∧ ∀ x H', J.yld i H x H' → g x (wipe σ vs) H' fun σ2 H2 => wipe σ2 vs = wipe σ vs ∧ tt σ2 H2 fun b H3 =>
    if b = true then tel D σ2 H3 Nx else Nx H3)
section
variable {G : Gs} {X : Cx} {F H H' : Hp} {σ : L2.St} {ts ts' : Slots} {fp : List Addr} {c : Bool} {β : Type}
/-- what stands by at D -/
def ByD (D : Addr) (Rep : Hp → β → HO → Prop) (acc : β) (H' F' : Hp) (fp' : List Addr) : Prop := F' D = none ∧ D ∉ fp' ∧ ∃ o, H' D = some o ∧ Rep F' acc o
theorem ByD.stand {D : Addr} {Rep : Hp → β → HO → Prop} {acc : β} {F' : Hp} {fp' fo : List Addr} (mono : ∀ F1 F2 a o, SubH F1 F2 → Rep F1 a o → Rep F2 a o) (b : ByD D Rep acc H F fp) (x : Ex H H' F F' fp (fp' ++ fo)) : ByD D Rep acc H' F' fp' := by
  obtain ⟨b1, b2, o, b3, b4⟩ := b
  have l : H D ≠ none := by rw [b3]; simp
  refine ⟨x.still l b2 b1, fun m => ?_, o, (x.keep D l b2 b1).trans b3, mono _ _ _ _ x.sub b4⟩
  rcases x.new D (List.mem_append_left _ m) with z | z
  · exact b2 z
  · exact l z
/-- el is the denotation of what a turn does to the thing at D -/
def SndA (G : Gs) (X : Cx) (Rep : Addr → Hp → β → HO → Prop) (tel : TEL) (el : β → TM β) : Prop := ∀ (σ : L2.St) (H F : Hp) (ts : Slots) (fp : List Addr) (D : Addr) (acc : β), Sim G F H σ ts fp → ByD D (Rep D) acc H F fp → ∀ (N : Hp → Prop),
  OutP (el acc ts) (fun acc' ts' => ∀ H' o', (Aft G F H σ fp false ts' H' fun F' fp' fo => fo = [] ∧ F' D = none ∧ D ∉ fp' ∧ H' D ≠ none ∧ Rep D F' acc' o') → N (upd H' D o')) (fun _ _ => False) → tel D σ H N
theorem ex_upd {D : Addr} {o : HO} {F1 : Hp} {fp1 : List Addr} (h : H D ≠ none) (f : F D = none) (nd : D ∉ fp) : Ex H (upd H D o) F F (fp ++ [D]) (fp ++ [D]) :=
  ⟨SubH.refl F, fun a l m e => upd_ne fun z => m (by rw [z]; simp), fun a l => by
    by_cases z : a = D
    · rw [z, upd_same]; simp
    · rw [upd_ne z]; exact l, fun a m => .inl m, fun a l => .inl l⟩
theorem Ex.grow {F' : Hp} {fp' : List Addr} {D : Addr} (x : Ex H H' F F' fp fp') : Ex H H' F F' (fp ++ [D]) (fp' ++ [D]) :=
  ⟨x.sub, fun a l m e => x.keep a l (fun z => m (List.mem_append_left _ z)) e, x.live, fun a m => by
    rcases List.mem_append.mp m with z | z
    · exact (x.new a z).imp (List.mem_append_left _) id
    · exact .inl (List.mem_append_right _ z), fun a l => (x.fro a l).imp id fun z => z.imp (List.mem_append_left _) id⟩
theorem acc_ok {tg iter : Expr} {ifs : List Expr} {scope : Scope} {m : TM (List FV)} {g : OV → TM Unit} {t : TM Bool} {own : List Nat} {ct : Bool} {W : WX} {Q : VK} {Rep : Addr → Hp → β → HO → Prop} {tel : TEL} {el : β → TM β} {h0 : Addr → HO} {b0 : β}
    (hi : SndI G X tg iter m) (hg : Blk X scope fun X' => SndG G X' tg g (own1 own)) (ht : (ifs = [] ∧ t = tp true) ∨ ∃ d, ifs = [d] ∧ Blk X scope fun X' => SndT G X' d t ct) (mono : ∀ D F1 F2 a o, SubH F1 F2 → Rep D F1 a o → Rep D F2 a o) (start : ∀ D F, Rep D F b0 (h0 D)) (hel : SndA G X Rep tel el) (tk : Takes X W) (S : Sim G F H σ ts fp)
    (q : OutP (tac m g t el own b0 ts) (fun acc ts' => ∀ D H', (Aft G F H σ fp false ts' H' fun F' fp' fo => fo = [] ∧ ByD D (Rep D) acc H' F' fp') → Q (.ref D) H') (XW G W F H σ fp)) : tAc (SI X tg iter) (SGa X scope tg) (STsa X scope ifs) tel h0 own σ H Q := by
  unfold tac at q
  refine hi σ H F ts fp S W tk _ (q.bind.mono (fun xs s0 q J H1 af => ?_) fun _ _ q => q)
  obtain ⟨F1, fp1, fo, S1, ⟨efo, wk⟩, nd1, off1, ex1, _⟩ := af
  subst efo
  intro D hD
  obtain ⟨ts2, q2, sl2⟩ := twipe_sl (G := G) q.bind
  let Inv2 : Nat → Hp → Prop := fun i H2 => ∃ F2 ts3 fp2 acc, (∀ σ2 : L2.St, (∀ i, i ∉ own → σ2[i]? = σ[i]?) → σ2.length = σ.length → Sim G F2 H2 σ2 ts3 fp2) ∧ SubH F1 F2 ∧ ByD D (Rep D) acc H2 F2 fp2 ∧
    Ex H H2 F F2 fp (fp2 ++ [D]) ∧ OutP (tacr g t el own (xs.drop i) acc ts3) (fun os ts4 => OutP (tb (tback s0 own) (fun _ => tp os) ts4) (fun acc ts' => ∀ D H', (Aft G F H σ fp false ts' H' fun F' fp' fo => fo = [] ∧ ByD D (Rep D) acc H' F' fp') → Q (.ref D) H') (XW G W F H σ fp)) (fun _ _ => False)
  refine ⟨fun i m H2 => m = xs.length - i ∧ i ≤ xs.length ∧ Inv2 i H2, ⟨xs.length, by simp, Nat.zero_le _, ?_⟩, ?_⟩
  · have fD : F1 D = none := S1.sub.free hD
    have nfp : D ∉ fp1 := fun m => SL.live S1.sl D m hD
    have y : Ex H1 (upd H1 D (h0 D)) F1 F1 fp1 (fp1 ++ [D]) := ⟨SubH.refl _, fun a l _ _ => upd_ne fun z => l (by rw [z]; exact hD), (ex_new (F := F1) hD).live, fun a m => by
        rcases List.mem_append.mp m with z | z
        · exact .inl z
        · exact .inr (by rw [List.mem_singleton.mp z]; exact hD), fun a l => .inl l⟩
    refine ⟨F1, ts2, fp1, b0, fun σ2 h hl => ?_, SubH.refl _, ⟨fD, nfp, _, upd_same, start D F1⟩, (ex1.trans y).less fun a m => List.mem_append_left _ m, by rw [List.drop_zero]; exact noexc_ok q2.bind⟩
    exact Sim.frame ⟨S1.sub, sl2 F1 H1 σ σ2 fp1 S1.sl h hl, S1.nd, S1.off⟩ (sub_new S1.sub hD) ((ex_new (F := F1) hD).less fun a m => by cases m)
  rintro i m H2 ⟨rfl, hi, F2, ts3, fp2, acc, S2, sb, by2, ex2, q3⟩
  have S2w : Sim G F2 H2 (wipe σ own) ts3 fp2 := S2 _ (wipe_out σ own) (wipe_length σ own)
  obtain ⟨w1, w2, w3⟩ := wk F2 H2 i sb S2w.sub
  by_cases hlt : i < xs.length
  · refine .inr ⟨w1 hlt, Inv2 (i + 1), fun H3 h => ⟨xs.length - (i + 1), by omega, rfl, hlt, h⟩, fun v H3 y => ?_⟩
    rw [List.drop_eq_getElem_cons hlt] at q3
    obtain ⟨F3, fo3, sub3, y3, kp3, _, _, efo3, rf3⟩ := w2 xs[i] v H3 (List.getElem?_eq_getElem hlt) y
    subst efo3
    have S3 : Sim G F3 H3 (wipe σ own) ts3 fp2 := S2w.frame sub3 (y3.less fun a m => by cases m)
    have ex23 : Ex H2 H3 F2 F3 fp2 (fp2 ++ []) := ⟨y3.sub, fun a l m e => y3.keep a l (by simp) e, y3.live, fun a m => .inl (by simpa using m), fun a l => (y3.fro a l).imp id fun z => z.elim (fun z => by cases z) .inr⟩
    have by3 := by2.stand (mono D) ex23
    have x3 : Ex H H3 F F3 fp (fp2 ++ [D]) := ex2.trans (ex23.less (f2' := fp2) fun a m => by simpa using m)
    intro s_ H_ C cl fpp
    refine hg s_ H_ C cl fpp (wipe σ own) H3 F3 ts3 fp2 [] (.frz xs[i]) v S3 ⟨rfl, rf3⟩ (by simpa using S3.nd) (fun _ m => by cases m) _ (takes_blk s_ H_ C cl fpp) _ (OutP.mono (OutP.bind (m := g (.frz xs[i])) (P := _) q3) (fun _ ts4 q4 σ4 H4 a4 => ?_) fun x s h => xs_false h)
    rw [List.append_nil] at a4
    obtain ⟨⟨F4, fp4, fo4, S4, e4, nd4, off4, ex34, _⟩, fx4⟩ := a4
    subst e4
    have by4 := by3.stand (mono D) ex34
    have x4 : Ex H H4 F F4 fp (fp4 ++ [D]) := x3.trans (ex34.less (f2' := fp4) fun a m => by simpa using m)
    have ag4 : ∀ j, j ∉ own → σ4[j]? = σ[j]? := fun j hj => (fx4.1 j (by simpa [own1] using hj)).trans (wipe_out σ own j hj)
    have len4 : σ4.length = σ.length := fx4.2.trans (wipe_length σ own)
    have sb4 : SubH F1 F4 := (sb.trans y3.sub).trans ex34.sub
    refine ⟨wipe_eq ag4 len4, ?_⟩
    have after : ∀ b H5 F5 fp5 ts5, Sim G F5 H5 σ4 ts5 fp5 → Ex H4 H5 F4 F5 fp4 (fp5 ++ []) → OutP ((if b = true
      then tb (el acc) fun acc' => tb (twipe own) fun _ => tacr g t el own (xs.drop (i + 1)) acc'
      else tb (twipe own) fun _ => tacr g t el own (xs.drop (i + 1)) acc) ts5) (fun os ts4 => OutP (tb (tback s0 own) (fun _ => tp os) ts4) (fun acc ts' => ∀ D H', (Aft G F H σ fp false ts' H' fun F' fp' fo => fo = [] ∧ ByD D (Rep D) acc H' F' fp') → Q (.ref D) H') (XW G W F H σ fp)) (fun _ _ => False) →
      if b = true then tel D σ4 H5 (Inv2 (i + 1)) else Inv2 (i + 1) H5 := by
      intro b H5 F5 fp5 ts5 S5 ex45 q5
      have by5 := by4.stand (mono D) ex45
      have x5 : Ex H H5 F F5 fp (fp5 ++ [D]) := x4.trans (ex45.less (f2' := fp5) fun a m => by simpa using m)
      have sb5 : SubH F1 F5 := sb4.trans ex45.sub
      cases b with
      | false =>
        rw [if_neg Bool.false_ne_true] at q5 ⊢
        obtain ⟨ts6, q6, sl6⟩ := twipe_sl (G := G) q5.bind
        exact ⟨F5, ts6, fp5, acc, fun σ2 h hl => ⟨S5.sub, sl6 F5 H5 σ4 σ2 fp5 S5.sl (fun j hj => (h j hj).trans (ag4 j hj).symm) (hl.trans len4.symm), S5.nd, S5.off⟩, sb5, by5, x5, q6⟩
      | true =>
        rw [if_pos rfl] at q5 ⊢
        refine hel σ4 H5 F5 ts5 fp5 D acc S5 by5 _ (q5.bind.mono (fun acc' ts6 q6 H6 o6 ae => ?_) fun x s h => h)
        obtain ⟨F6, fp6, fo6, S6, ⟨e6, n6, m6, l6, r6⟩, nd6, off6, ex56, _⟩ := ae
        subst e6
        obtain ⟨ts7, q7, sl7⟩ := twipe_sl (G := G) q6.bind
        have oth : ∀ a ∈ fp6, upd H6 D o6 a = H6 a := fun a m => upd_ne fun z => m6 (by rw [← z]; exact m)
        refine ⟨F6, ts7, fp6, acc', fun σ2 h hl => ⟨fun a u e => ?_, ?_, S6.nd, S6.off⟩, sb5.trans ex56.sub, ⟨n6, m6, o6, upd_same, r6⟩, ?_, q7⟩
        · rw [upd_ne fun z => by rw [z, n6] at e; cases e]
          exact S6.sub a u e
        · exact sl7 F6 _ σ4 σ2 fp6 (SL.frame (SubH.refl F6) oth S6.sl) (fun j hj => (h j hj).trans (ag4 j hj).symm) (hl.trans len4.symm)
        · have x6 : Ex H H6 F F6 fp (fp6 ++ [D]) := x5.trans (ex56.less (f2' := fp6) fun a m => by simpa using m)
          exact ((x6.less (f2' := (fp6 ++ [D]) ++ []) fun a m => by simpa using m).trans (ex_upd (fp1 := []) (F1 := F6) l6 n6 m6)).less fun a m => by simpa using m
    rcases ht with ⟨e1, e2⟩ | ⟨d, e1, ht⟩
    · subst e1 e2
      exact after true H4 F4 fp4 ts4 S4 (by simpa using Ex.refl H4 F4 fp4) q4
    · subst e1
      intro s_ H_ C cl fpp
      refine ht s_ H_ C cl fpp σ4 H4 F4 ts4 fp4 S4 _ (takes_blk s_ H_ C cl fpp) _ (q4.bind.mono (fun b ts5 q5 H5 a5 => ?_) fun x s h => xs_false h)
      obtain ⟨F5, fp5, fo5, S5, e5, nd5, off5, ex45, _⟩ := a5
      subst e5
      exact after b H5 F5 fp5 ts5 S5 ex45 q5
  · have e0 : i = xs.length := by omega
    refine .inl ⟨w3 (by omega), ?_⟩
    rw [e0, List.drop_length] at q3
    have q4 : OutP (tb (tback s0 own) (fun _ => tp acc) ts3) (fun acc ts' => ∀ D H', (Aft G F H σ fp false ts' H' fun F' fp' fo => fo = [] ∧ ByD D (Rep D) acc H' F' fp') → Q (.ref D) H') (XW G W F H σ fp) := q3
    unfold tback at q4
    obtain ⟨ts4, q5, sl5⟩ := twipe_sl (G := G) q4.bind.bind
    have S2s := S2 σ (fun _ _ => rfl) rfl
    have s5 := sl5 F2 H2 σ σ fp2 S2s.sl (fun _ _ => rfl) rfl
    have hfill : ∀ i v, slot s0 i = some (.frz v) → ∃ u, σ[i]? = some (some u) ∧ RF G F2 v u := fun i v ev => by
      obtain ⟨u, l, f, r, h1, h2, h3, _⟩ := SL.at S1.sl ev
      exact ⟨u, h1, RF.mono sb _ _ h3.2⟩
    obtain ⟨ts5, q6, s6⟩ := tfill_sl hfill s5 q5
    have q7 : ∀ D H', (Aft G F H σ fp false ts5 H' fun F' fp' fo => fo = [] ∧ ByD D (Rep D) acc H' F' fp') → Q (.ref D) H' := q6
    refine q7 D H2 ⟨F2, fp2, [], ⟨S2s.sub, s6, S2s.nd, S2s.off⟩, ⟨rfl, by2⟩, by simpa using S2s.nd, (fun a m => by cases m), ex2.less fun a m => List.mem_append_left _ (by simpa using m), fun z => by cases z⟩
end
end Tv
end

noncomputable section
set_option maxHeartbeats 400000
/-! sorted({..}), sorted(set(..)), len(set(..)), sorted(dict), {k: v for ..}. -/
namespace Tv
open PySem L2
open PySem (Str Expr Stmt Scope)
/-! ### sets of strings -/
def cap : Nat := 4000
theorem cap_eq : cap = 4000 := rfl
def dd (xs : List Str) : List Str := xs.foldl adn []
theorem dd_snoc (xs : List Str) (c : Str) : dd (xs ++ [c]) = adn (dd xs) c := by unfold dd; rw [List.foldl_append]; rfl
theorem dd_len (xs : List Str) : (dd xs).length ≤ xs.length := by
  have key : ∀ (xs l : List Str), (xs.foldl adn l).length ≤ l.length + xs.length := by
    intro xs
    induction xs with
    | nil => intro l; simp
    | cons x xs ih =>
      intro l
      have h1 := ih (adn l x)
      have h2 := adn_len l x
      simp only [List.foldl_cons, List.length_cons]
      omega
  have := key xs []
  simpa [dd] using this
def elS (e : TM Opd) (acc : List Str) : TM (List Str) := tb (tval e) fun o => match o with
  | .frz (.str c) => if acc.length < cap then tp (acc ++ [c]) else tbad
  | _ => tbad
def strsL (xs : List Str) : OV := OV.ofl (xs.map FV.str)
def srt (raw : List Str) : TM Opd := if (dd raw).length < 64 then tp (.val (strsL (sortL (dd raw)))) else tbad
section
variable {G : Gs} {X : Cx} {F H H' : Hp} {σ : L2.St} {ts ts' : Slots} {fp : List Addr} {c d : Bool} {w : Nat → Bool} {scope : Scope}
theorem esc_tb {α : Type} {o : Opd} {k : OV → TM α} {P : α → Slots → Prop} {E : XV → Slots → Prop} (q : OutP (esc o ts) (fun a s => OutP (k a s) P E) E) : OutP (tb (esc o) k ts) P E := by
  unfold tb
  cases e1 : esc o ts with
  | ok ov ts2 => rw [e1] at q; exact q
  | exc x s => rw [e1] at q; exact q
  | bad => rw [e1] at q; exact q.elim
/-- Rep: a set -/
def RepS (w : World) (D : Addr) (F : Hp) (raw : List Str) (o : HO) : Prop := o = SetSO w D (dd raw) ∧ ∀ x ∈ raw, sok x = true
theorem elS_ok {elt : Expr} {e : TM Opd} {ce : Bool} (he : Blk X scope fun X' => Snd G X' elt e ce) : SndA G X (RepS X.w) (fun D σ H N => SEa X scope elt σ H fun y H4 => ∃ (c : Str) (l : List Str), y = .str c ∧ H4 D = some (SetSO X.w D l) ∧ l.length + 1 < scanBound ∧ N (upd H4 D (SetSO X.w D (adn l c)))) (elS e) := by
  intro σ H F ts fp D acc S by1 N q s_ H_ C cl fpp
  unfold elS tval at q
  refine he s_ H_ C cl fpp σ H F ts fp S _ (takes_blk s_ H_ C cl fpp) _ (q.bind.bind.mono (fun o ts6 q6 y H6 ae => ?_) fun x s h => xs_false h)
  obtain ⟨ov, ts7, af, q7⟩ := esc_then ae (esc_tb q6)
  obtain ⟨F6, fp6, fo6, S6, r6, nd6, off6, ex56, k6⟩ := af
  have by6 := by1.stand (fun _ _ _ _ _ r => r) ex56
  have fin : ∀ cc, ov = .frz (.str cc) → ∃ (c : Str) (l : List Str), y = .str c ∧ H6 D = some (SetSO X.w D l) ∧ l.length + 1 < scanBound ∧ N (upd H6 D (SetSO X.w D (adn l c))) := by
    intro cc ee
    subst ee
    dsimp only at q7
    obtain ⟨e1, e2, e3⟩ := r6
    subst e1
    obtain ⟨b1, b2, o6, b3, b4, b5⟩ := by6
    subst b4
    by_cases hz : acc.length < cap
    · rw [if_pos hz] at q7
      have q8 := q7 H6 (SetSO X.w D (adn (dd acc) cc)) ⟨F6, fp6, [], S6, ⟨rfl, b1, b2, by rw [b3]; simp, by rw [dd_snoc], fun x m => by
        rcases List.mem_append.mp m with z | z
        · exact b5 x z
        · rw [List.mem_singleton.mp z]; exact e3⟩, nd6, off6, ex56, fun z => by cases z⟩
      exact ⟨cc, dd acc, e2, b3, by have := dd_len acc; have : scanBound = 4096 := rfl; have := cap_eq; omega, q8⟩
    · rw [if_neg hz] at q7; exact q7.elim
  cases ov with
  | frz v =>
    cases v with
    | str cc => exact fin cc rfl
    | _ => exact q7.elim
  | _ => exact q7.elim
theorem pe_ss {elt tg iter : Expr} {ifs : List Expr} {own : List (PySem.Str × Nat)} {pos : Pos} {wi : TI} {g : TG} {tt : TT} {te : TE} (hc : X.calm = true) (hN : X.N.Nodup) (hi : PI X tg iter wi) (ok : BlkOk X.N X.env.scope scope own)
    (hg : Blk X scope fun X' => PG X' tg g) (ht : Blk X scope fun X' => PTs X' ifs tt) (he : Blk X scope fun X' => PE X' elt te) (hs : ∀ x, foldedSetIterable iter X.env x = pure x) :
    PE X (.SetComp elt [⟨tg, iter, ifs, 0⟩] scope pos) (tSs X.w wi g tt te (own.map (·.2))) := by
  refine ⟨fun pins s σ H Q I h => ?_⟩
  rw [PpSet.eval_SetComp]
  refine ss_core hc hN I hi ok hg ht he hs h fun D C s' m H' I' q hn f => ⟨m, hn, fun h'' sb => ?_⟩
  obtain ⟨f0, f1, f2, f3, f4, f5⟩ := f
  exact ⟨.ref D, H', I'.turned (t' := s'.toks) (fun b o hb e => (sb.2 b hb).trans e) f0 f1 f3 f4 f5, rfl, q⟩
theorem sok_sortL {xs : List Str} (h : ∀ x ∈ xs, sok x = true) : ∀ x ∈ sortL xs, sok x = true := fun x m => h x ((List.mergeSort_perm xs leS).mem_iff.mp m)
theorem sok_dd {xs : List Str} (h : ∀ x ∈ xs, sok x = true) : ∀ x ∈ dd xs, sok x = true := by
  have key : ∀ (xs l : List Str), (∀ x ∈ xs, sok x = true) → (∀ x ∈ l, sok x = true) → ∀ x ∈ xs.foldl adn l, sok x = true := by
    intro xs
    induction xs with
    | nil => intro l _ h; exact h
    | cons y ys ih =>
      intro l h1 h2
      refine ih _ (fun x m => h1 x (List.mem_cons_of_mem _ m)) fun x m => ?_
      unfold adn at m
      split at m
      · exact h2 x m
      · rcases List.mem_append.mp m with z | z
        · exact h2 x z
        · rw [List.mem_singleton.mp z]; exact h1 y List.mem_cons_self
  exact key xs [] h fun x m => by cases m
/-- a new list beside something that nobody keeps -/
theorem ae_newL {H1 : Hp} {ts1 : Slots} {ys : List Str} {p : Addr} {R : Hp → List Addr → List Addr → Prop} (hp : H1 p = none) (af : Aft G F H σ fp c ts1 H1 R) (hk : ∀ x ∈ ys, sok x = true) : AE G F H σ fp false (.val (strsL ys)) ts1 (.ref p) (upd H1 p (.lst (ys.map V.str))) := by
  refine (Aft.pure (af.calm (c2 := false) fun z => by cases z) fun F1 fp1 fo S1 _ nd => ?_)
  have res : Res G F1 H1 (strsL ys) (.ref p) (upd H1 p (.lst (ys.map V.str))) := Res.newL S1.sub hp (rfs_strs hk)
  obtain ⟨F2, fo2, a1, a2, a3, a4, a5, a6⟩ := res
  exact ⟨F2, fo2, a1, a2, a3, a4, a5, a6⟩
/-- sorted({..}) -/
theorem snd_sortc {tg iter elt : Expr} {ifs : List Expr} {p ps pos : Pos} {m : TM (List FV)} {g : OV → TM Unit} {t : TM Bool} {e : TM Opd} {own : List (Str × Nat)} {ct ce : Bool} (hgl : Gl X "sorted") (hmg : X.mg "sorted" = none) (hc : X.calm = true) (hN : X.N.Nodup) (ok : BlkOk X.N X.env.scope scope own) (hs : ∀ x, foldedSetIterable iter X.env x = pure x)
    (hi : SndI G X tg iter m) (hg : Blk X scope fun X' => SndG G X' tg g (own1 (own.map (·.2)))) (ht : (ifs = [] ∧ t = tp true) ∨ ∃ d, ifs = [d] ∧ Blk X scope fun X' => SndT G X' d t ct) (he : Blk X scope fun X' => Snd G X' elt e ce) :
    Snd G X (.Call (.Name "sorted" p) [.SetComp elt [⟨tg, iter, ifs, 0⟩] scope ps] [] pos) (tb (tac m g t (elS e) (own.map (·.2)) []) srt) false := by
  intro σ H F ts fp S W tk Q q
  refine SE.of (pe_callB (cr_sortedSs hc) hgl hmg (by decide +kernel) (pa_cons (pe_ss (own := own) hc hN pi_SI ok pg_SGa (pts_STsa (ifs_len ht)) pe_SEa hs) pa_nil)) ?_
  refine acc_ok (X := X) (Q := fun v H1 => ∃ (a : Addr) (l : List Str), [v] = [V.ref a] ∧ H1 a = some (SetSO X.w a l) ∧ l.length < 64 ∧ ∀ p, H1 p = none → Q (.ref p) (upd H1 p (.lst ((sortL l).map V.str)))) (Rep := RepS X.w) (tel := fun D σ H N => SEa X scope elt σ H fun y H4 => ∃ (c : Str) (l : List Str), y = .str c ∧ H4 D = some (SetSO X.w D l) ∧ l.length + 1 < scanBound ∧ N (upd H4 D (SetSO X.w D (adn l c)))) (h0 := fun D => SetSO X.w D []) (b0 := []) hi hg ht (fun _ _ _ _ _ _ r => r) (fun D F => ⟨rfl, fun x m => by cases m⟩) (elS_ok he) tk S (q.bind.mono (fun raw ts1 q1 D H1 af => ?_) fun _ _ q => q)
  obtain ⟨F1, fp1, fo1, S1, ⟨e1, b1, b2, o1, b3, b4, b5⟩, nd1, off1, ex1, k1⟩ := id af
  subst b4
  unfold srt at q1
  by_cases hz : (dd raw).length < 64
  · rw [if_pos hz] at q1
    exact ⟨D, dd raw, rfl, b3, hz, fun p hp => q1 _ _ (ae_newL hp af (sok_sortL (sok_dd b5)))⟩
  · rw [if_neg hz] at q1; exact q1.elim
/-! ### set(list) -/
def rawOf (x : OV) : Option (List Str) := (x.els.bind fstrs).bind fun xs => if xs.length < cap then some xs else none
def tset (m : TM Opd) (k : List Str → TM Opd) : TM Opd := tb m fun o s => match o.get s with
  | some x => match rawOf x with
    | some xs => k xs s
    | none => .bad
  | none => .bad
theorem set_ok {e : Expr} {m : TM Opd} {k : List Str → TM Opd} {W : WX} {Q : VK} {T : V → Hp → Prop} (hK : X.K = G.K) (he : Snd G X e m c) (tk : Takes X W) (S : Sim G F H σ ts fp) (q : OutP (tset m k ts) (fun o ts' => ∀ v H', AE G F H σ fp false o ts' v H' → Q v H') (XW G W F H σ fp))
    (h : ∀ xs ts1 D H1, (Aft G F H σ fp false ts1 H1 fun _ _ _ => True) → (∀ x ∈ xs, sok x = true) → xs.length < cap → H1 D = some (SetSO X.w D (dd xs)) → OutP (k xs ts1) (fun o ts' => ∀ v H', AE G F H σ fp false o ts' v H' → Q v H') (XW G W F H σ fp) → T (.ref D) H1) :
    SE X e σ H fun v H1 => ∃ (a : Addr) (zs : List Str), [v] = [V.ref a] ∧ SqL X.K H1 a (zs.map V.str) ∧ zs.length + 1 < scanBound ∧ ∀ p, H1 p = none → T (.ref p) (upd H1 p (SetSO X.w p (zs.foldl adn []))) := by
  unfold tset at q
  refine he σ H F ts fp S W tk _ (q.bind.mono (fun o ts1 q1 v H1 ae => ?_) fun _ _ q => q)
  cases eg : o.get ts1 with
  | none => rw [eg] at q1; exact q1.elim
  | some x =>
    rw [eg] at q1
    obtain ⟨F1, fp1, fo1, S1, k1, nd1, off1, ex1, kk⟩ := id ae
    obtain ⟨fx, rx, _⟩ := get_ok S1 k1 eg
    cases er : rawOf x with
    | none => simp only [er] at q1; exact q1.elim
    | some xs =>
      simp only [er] at q1
      unfold rawOf at er
      cases e1 : x.els with
      | none => rw [e1] at er; cases er
      | some ys =>
        rw [e1] at er
        cases e2 : fstrs ys with
        | none => simp [e2] at er
        | some zs =>
          simp only [Option.bind_some, e2] at er
          by_cases hz : zs.length < cap
          · rw [if_pos hz] at er
            obtain rfl : zs = xs := Option.some.inj er
            obtain ⟨a, ws, ea, ha, ra⟩ := els_ok S1.sub e1 rx
            obtain ⟨ew, hs⟩ := fstrs_ok e2 ra
            subst ea ew
            refine ⟨a, zs, rfl, .of ha, by have : scanBound = 4096 := rfl; have := cap_eq; omega, fun p hp => ?_⟩
            refine h zs ts1 p _ ?_ hs hz upd_same q1
            refine Aft.pure (R' := fun _ _ _ => True) (ae.calm fun z => by cases z) fun F1 fp1 fo S1 _ nd => ⟨F1, [], sub_new S1.sub hp, (ex_new (F := F1) hp).less (fun a m => by cases m), kp_new hp, List.nodup_nil, (fun a m => by cases m), trivial⟩
          · rw [if_neg hz] at er; cases er
/-- sorted(set(e)) -/
theorem snd_sortset {e : Expr} {p1 p2 pos1 pos : Pos} {m : TM Opd} (hK : X.K = G.K) (h1 : Gl X "sorted") (m1 : X.mg "sorted" = none) (h2 : Gl X "set") (m2 : X.mg "set" = none) (hc : X.calm = true) (hs : isStar e = false) (he : Snd G X e m c) :
    Snd G X (.Call (.Name "sorted" p1) [.Call (.Name "set" p2) [e] [] pos1] [] pos) (tset m srt) false := by
  intro σ H F ts fp S W tk Q q
  refine SE.of (pe_callB (cr_sortedSs hc) h1 m1 (by decide +kernel) (pa_cons (pe_callTy (cr_setStrs hc) h2 m2 (by decide +kernel) (pa_cons (e := e) (es := []) pe_SE pa_nil (hs := starEach_cons hs)) (by decide) (by decide) (starEach_cons hs) (star_none (by simp))) pa_nil)) ?_
  refine set_ok (T := fun v H1 => ∃ (a : Addr) (l : List Str), [v] = [V.ref a] ∧ H1 a = some (SetSO X.w a l) ∧ l.length < 64 ∧ ∀ p, H1 p = none → Q (.ref p) (upd H1 p (.lst ((sortL l).map V.str)))) hK he tk S q fun xs ts1 D H1 af hk hl hD q1 => ?_
  unfold srt at q1
  by_cases hz : (dd xs).length < 64
  · rw [if_pos hz] at q1
    exact ⟨D, dd xs, rfl, hD, hz, fun p hp => q1 _ _ (ae_newL hp af (sok_sortL (sok_dd hk)))⟩
  · rw [if_neg hz] at q1; exact q1.elim
/-- len(set(e)) -/
theorem snd_lenset {e : Expr} {p1 p2 pos1 pos : Pos} {m : TM Opd} (hK : X.K = G.K) (h1 : Gl X "len") (m1 : X.mg "len" = none) (h2 : Gl X "set") (m2 : X.mg "set" = none) (hc : X.calm = true) (hs : isStar e = false) (he : Snd G X e m c) :
    Snd G X (.Call (.Name "len" p1) [.Call (.Name "set" p2) [e] [] pos1] [] pos) (tset m fun xs => tp (.val (fint (dd xs).length))) false := by
  intro σ H F ts fp S W tk Q q
  refine SE.of (pe_callB cr_lenSs h1 m1 (by decide +kernel) (pa_cons (pe_callTy (cr_setStrs hc) h2 m2 (by decide +kernel) (pa_cons (e := e) (es := []) pe_SE pa_nil (hs := starEach_cons hs)) (by decide) (by decide) (starEach_cons hs) (star_none (by simp))) pa_nil)) ?_
  refine set_ok (T := fun v H1 => ∃ (a : Addr) (l : List Str), [v] = [V.ref a] ∧ H1 a = some (SetSO X.w a l) ∧ Q (.int l.length) H1) hK he tk S q fun xs ts1 D H1 af hk hl hD q1 => ?_
  refine ⟨D, dd xs, rfl, hD, q1 _ _ ?_⟩
  exact Aft.pure af fun F1 fp1 fo S1 _ nd => ⟨F1, [], S1.sub, (Ex.refl H1 F1 []), (fun _ _ => rfl), List.nodup_nil, (fun a m => by cases m), ⟨rfl, rfl⟩⟩
end
end Tv
end

noncomputable section
set_option maxHeartbeats 400000
/-! Dicts: {}, x[k] = v (lists, too), sorted(d), {k: v for ..}. -/
namespace Tv
open PySem L2
open PySem (Str Expr Stmt Scope)
/-! ### the functions -/
def isK (q : Key) (x : FV) : Bool := decide (fkey x = some q)
def dhas (q : Key) (ks : List FV) : Bool := ks.any (isK q)
def dsetK (q : Key) (kf : FV) (ks : List FV) : List FV := if dhas q ks = true then ks else ks ++ [kf]
def drep (q : Key) (x : FV) : List FV → List FV → List FV
  | k :: ks, v :: vs => (if isK q k = true then x else v) :: drep q x ks vs
  | _, _ => []
def dsetV (q : Key) (x : FV) (ks vs : List FV) : List FV := if dhas q ks = true then drep q x ks vs else vs ++ [x]
/-- x[k] = v, of the value, x, k -/
def tsub3 : List Opd → TM Fl
  | [v, r, k] => fun s => match v, k.get s with
    | .val ov, some (.frz kf) => if isVal r then .bad else match r.get s with
      | some (.lst os) => match kf with
        | .int i => match ixN os.length i with
          | some j => .ok .nx (setO r (.lst (os.set j ov)) s)
          | none => .bad
        | _ => .bad
      | some (.dic ks vs) => match fkey kf, frzs vs with
        | some q, some fs => if ks.length < cap ∧ (fkeys ks).isSome = true then .ok .nx (setO r (.dic (dsetK q kf ks) ((dsetV q ov.fz ks fs).map OV.frz)) s) else .bad
        | _, _ => .bad
      | _ => .bad
    | _, _ => .bad
  | _ => tbad
section
variable {G : Gs} {X : Cx} {F H H' : Hp} {σ : L2.St} {ts ts' : Slots} {fp : List Addr} {c d : Bool} {w : Nat → Bool} {scope : Scope}
theorem ROs.setAt {ov : OV} {v : V} {fo : List Addr} (r : RO G F H ov v fo) : ∀ {os : List OV} {ws : List V} {fr : List Addr} {j : Nat}, ROs G F H os ws fr → j < os.length →
    ∃ fs, ROs G F H (os.set j ov) (ws.set j v) fs ∧ (∀ b ∈ fs, b ∈ fr ++ fo) ∧ ((fr ++ fo).Nodup → fs.Nodup)
  | [], _, _, _, _, h => by simp at h
  | o :: os, ws, fr, 0, k, _ => by
    obtain ⟨u, ur, f1, f2, e1, e2, k1, k2⟩ := k
    subst e1 e2
    refine ⟨fo ++ f2, ⟨v, ur, fo, f2, rfl, rfl, r, k2⟩, fun b m => ?_, fun nd => ?_⟩
    · simp only [List.mem_append] at m ⊢
      rcases m with m | m <;> simp [m]
    · have p : (f1 ++ (fo ++ f2)).Perm ((f1 ++ f2) ++ fo) := by rw [List.append_assoc]; exact List.perm_append_comm.append_left _
      exact (List.nodup_append.mp (p.nodup_iff.mpr nd)).2.1
  | o :: os, ws, fr, j + 1, k, h => by
    obtain ⟨u, ur, f1, f2, e1, e2, k1, k2⟩ := k
    subst e1 e2
    obtain ⟨fs, a1, a2, a3⟩ := ROs.setAt r k2 (j := j) (by simpa using h)
    refine ⟨f1 ++ fs, ⟨u, _, f1, fs, rfl, rfl, k1, a1⟩, fun b m => ?_, fun nd => ?_⟩
    · rcases List.mem_append.mp m with m | m
      · simp [m]
      · have := a2 b m
        simp only [List.mem_append] at this ⊢
        rcases this with z | z <;> simp [z]
    · rw [List.append_assoc] at nd
      obtain ⟨n1, n2, n3⟩ := List.nodup_append.mp nd
      exact List.nodup_append.mpr ⟨n1, a3 n2, fun a m b m' => n3 a m b (a2 b m')⟩
/-- dicts as lists -/
theorem dhas_ok {q : Key} : ∀ {ks : List FV} {kvs : List (Key × V)}, RFs G F ks (kvs.map fun p => kV p.1) → dhas q ks = kvs.any fun kv => decide (kv.1 = q)
  | [], kvs, r => by
    have : kvs = [] := by simpa using (show kvs.map _ = [] from r)
    subst this; rfl
  | k :: ks, [], r => by
    obtain ⟨v, vr, e, _⟩ := r
    cases e
  | k :: ks, p :: kvs, r => by
    obtain ⟨v, vr, e, r1, r2⟩ := r
    injection e with e1 e2
    subst e1 e2
    have h1 := fkey_of r1
    have h2 := dhas_ok (q := q) r2
    unfold dhas at h2 ⊢
    rw [List.any_cons, List.any_cons, h2]
    congr 1
    unfold isK
    rw [h1]
    by_cases z : p.1 = q
    · rw [z]; simp
    · rw [decide_eq_false z, decide_eq_false]; intro y; exact z (Option.some.inj y)
theorem drep_ok {q : Key} {x : FV} {v : V} (rx : RF G F x v) : ∀ {ks vs : List FV} {kvs : List (Key × V)}, RFs G F ks (kvs.map fun p => kV p.1) → RFs G F vs (kvs.map (·.2)) → RFs G F (drep q x ks vs) ((kvs.map fun kv => if kv.1 = q then (kv.1, v) else kv).map (·.2))
  | [], vs, kvs, r1, r2 => by
    have : kvs = [] := by simpa using (show kvs.map _ = [] from r1)
    subst this
    show RFs G F [] []
    exact rfl
  | k :: ks, vs, [], r1, r2 => by
    obtain ⟨v, vr, e, _⟩ := r1
    cases e
  | k :: ks, [], p :: kvs, r1, r2 => by
    have : (p :: kvs).map (·.2) = [] := r2
    cases this
  | k :: ks, y :: vs, p :: kvs, r1, r2 => by
    obtain ⟨u, ur, e, r3, r4⟩ := r1
    injection e with e1 e2
    subst e1 e2
    obtain ⟨z, zr, e, r5, r6⟩ := r2
    injection e with e1 e2
    subst e1 e2
    have ih := drep_ok (q := q) rx r4 r6
    have h1 := fkey_of r3
    refine ⟨_, _, rfl, ?_, ih⟩
    show RF G F (if isK q k = true then x else y) (if p.1 = q then (p.1, v) else p).2
    unfold isK
    rw [h1]
    by_cases z : p.1 = q
    · rw [if_pos (show decide (some p.1 = some q) = true by rw [z]; simp), if_pos z]; exact rx
    · rw [if_neg (by intro y; exact z (Option.some.inj (of_decide_eq_true y))), if_neg z]; exact r5
theorem keys_map {kvs : List (Key × V)} {q : Key} {v : V} : (kvs.map fun kv => if kv.1 = q then (kv.1, v) else kv).map (fun p => kV p.1) = kvs.map fun p => kV p.1 := by
  rw [List.map_map]
  apply List.map_congr_left
  intro p _
  show kV (if p.1 = q then (p.1, v) else p).1 = kV p.1
  split <;> rfl
theorem dset_ok {q : Key} {kf x : FV} {v : V} {ks vs : List FV} {kvs : List (Key × V)} (ek : fkey kf = some q) (rk : RF G F kf (kV q)) (rx : RF G F x v) (r1 : RFs G F ks (kvs.map fun p => kV p.1)) (r2 : RFs G F vs (kvs.map (·.2))) :
    RFs G F (dsetK q kf ks) ((putK kvs q v).map fun p => kV p.1) ∧ RFs G F (dsetV q x ks vs) ((putK kvs q v).map (·.2)) := by
  unfold dsetK dsetV putK
  rw [dhas_ok (q := q) r1]
  by_cases z : (kvs.any fun kv => decide (kv.1 = q)) = true
  · rw [if_pos z, if_pos z, if_pos z]
    exact ⟨by rw [keys_map]; exact r1, drep_ok rx r1 r2⟩
  · rw [if_neg z, if_neg z, if_neg z, List.map_append, List.map_append]
    exact ⟨RFs.app r1 ⟨_, [], rfl, rk, rfl⟩, RFs.app r2 ⟨_, [], rfl, rx, rfl⟩⟩
/-- x[k] = v on operands -/
def SST (X : Cx) (D : Ends) (σ : L2.St) : List V → Hp → Prop := fun vs H => ∃ v x y, vs = [v, x, y] ∧ (rSetL x y v H (fun H4 => D.nx σ H4) ∨ rSetD x y v H (fun H4 => D.nx σ H4))
theorem s1_sub {e o i : Expr} {p' pos : Pos} {D : Ends} (hu : X.A.units + 1 < cLine) (hs : swapsWith e (some (.Subscript o i p')) pos.line X.env = pure false) (h1 : isStar e = false) (h2 : isStar o = false) (h3 : isStar i = false) (h : SEs X [e, o, i] σ H (SST X D σ)) : S1 X (.Assign [.Subscript o i p'] e pos) D σ H := by
  intro pn s J
  rw [SEs_cons h1] at h
  refine wpAny_Assign_Subscript (thn (h pn s J) fun r s1 ⟨v, H1, J1, rv, q1⟩ => ?_) hs
  rw [SEs_cons h2] at q1
  refine thn (q1 pn s1 J1) fun u s2 ⟨x, H2, J2, rx, q2⟩ => ?_
  rw [SEs_cons h3] at q2
  refine thn (q2 pn s2 J2) fun iv s3 ⟨y, H3, J3, ry, q3⟩ => ?_
  obtain ⟨v', x', y', e1, q3⟩ := q3
  injection e1 with e1 e2
  injection e2 with e2 e3
  injection e3 with e3 _
  subst e1 e2 e3
  have fin : wpAny (model X.prog X.w) X.A (setItem u iv r) (fun _ s' => ∃ H', Inv X pn σ H' s' ∧ D.nx σ H') X.xe s3 := by
    rcases q3 with q3 | q3
    · exact set_list pn s3 σ H3 x y v u iv r _ J3 rx ry rv q3
    · exact set_dict hu pn s3 σ H3 x y v u iv r _ J3 rx ry rv q3
  exact thn fin fun _ s4 ⟨H4, J4, q4⟩ => ⟨σ, H4, J4, q4⟩
theorem nd_left {a b c : List Addr} (h : (a ++ (b ++ c)).Nodup) : (a ++ b).Nodup := by
  rw [← List.append_assoc] at h
  exact (List.nodup_append.mp h).1
theorem snd1_sub {e o i : Expr} {p' pos : Pos} {m : TM (List Opd)} (hu : X.A.units + 1 < cLine) (hs : swapsWith e (some (.Subscript o i p')) pos.line X.env = pure false) (h1 : isStar e = false) (h2 : isStar o = false) (h3 : isStar i = false) (hm : SndO G X [e, o, i] m c) : Snd1 G X (.Assign [.Subscript o i p'] e pos) (tb m tsub3) w := by
  intro σ H F ts fp S W tk D q
  refine s1_sub hu hs h1 h2 h3 (hm σ H F ts fp S W tk _ (q.bind.mono (fun os ts1 q vs H1 ao => ?_) fun x s q => xw_of q))
  obtain ⟨F1, fp1, fo, S1, oks, nd1, off1, ex1, _⟩ := ao
  match os, oks, q with
  | [o1, r, k], oks, q =>
    obtain ⟨v1, vr, f1, fr, e1, e2, k1, v2, vr2, f2, fr2, e3, e4, k2, v3, vr3, f3, fr3, e5, e6, k3, e7, e8⟩ := oks
    subst e7 e8 e5 e6 e3 e4 e1 e2
    unfold tsub3 at q
    cases o1 with
    | val ov =>
      dsimp only at q
      cases ek : k.get ts1 with
      | none => rw [ek] at q; exact q.elim
      | some kv =>
        rw [ek] at q
        cases kv with
        | frz kf =>
          dsimp only at q
          obtain ⟨fx, rk, _⟩ := get_ok S1 k3 ek
          have rk : RF G F1 kf v3 := rk.2
          by_cases hv : isVal r = true
          · rw [if_pos hv] at q; exact q.elim
          · rw [if_neg hv] at q
            have nv : ∀ y, r ≠ .val y := fun y z => by rw [z] at hv; exact hv rfl
            cases er : r.get ts1 with
            | none => rw [er] at q; exact q.elim
            | some x =>
              rw [er] at q
              have nd2 : (fp1 ++ f1).Nodup := nd_left nd1
              have off2 : ∀ a ∈ f1, F1 a = none := fun a m => off1 a (List.mem_append_left _ m)
              have rv : RO G F1 H1 ov v1 f1 := k1
              have ex2 : Ex H H1 F F1 fp (fp1 ++ f1) := ex1.less fun a m => by
                simp only [List.mem_append] at m ⊢
                rcases m with z | z <;> simp [z]
              obtain ⟨fx2, rx2, _⟩ := get_ok S1 k2 er
              cases x with
              | lst os =>
                dsimp only at q
                cases kf with
                | int ii =>
                  dsimp only at q
                  cases ej : ixN os.length ii with
                  | none => rw [ej] at q; exact q.elim
                  | some j =>
                    rw [ej] at q
                    obtain ⟨a, ws, frr, ea, _, ha, ra⟩ := rx2
                    subst ea
                    have lw : ws.length = os.length := ra.len
                    have hj : j < os.length := (ixN_seq ej).2.1
                    obtain ⟨fp2, S2, ex3⟩ := one_own (F := F1) (fp := fp1 ++ f1) (os' := os.set j ov) (ws := ws) (ws' := ws.set j v1) S1 k2 nv er nd2 off2 (fun a' ws0 fr0 e0 h0 r0 na nd0 => by
                      have e0 : a = a' := by injection e0
                      subst e0
                      rw [ha] at h0
                      have h0 : ws = ws0 := by injection h0 with h0; injection h0
                      subst h0
                      obtain ⟨fs, b1, b2, b3⟩ := ROs.setAt rv r0 hj
                      exact ⟨rfl, fs, b1, b3 nd0, b2⟩) (Ex.refl H1 F1 (fp1 ++ f1))
                    refine ⟨v1, .ref a, v3, rfl, .inl ⟨a, ws, ii, j, rfl, rk, ha, by rw [lw]; exact ej, q σ _ ⟨⟨F1, fp2, [], S2, rfl, by simpa using S2.nd, (fun _ m => by cases m), ?_, fun z => by cases z⟩, Fix.refl⟩⟩⟩
                    exact ((ex2.less (f2' := (fp1 ++ f1) ++ []) fun a m => by simpa using m).trans ex3).less fun a m => by simpa using m
                | _ => exact q.elim
              | dic ks vs =>
                dsimp only at q
                cases eq : fkey kf with
                | none => rw [eq] at q; exact q.elim
                | some qk =>
                  rw [eq] at q
                  cases ef : frzs vs with
                  | none => rw [ef] at q; exact q.elim
                  | some fs =>
                    rw [ef] at q
                    dsimp only at q
                    by_cases hl : ks.length < cap ∧ (fkeys ks).isSome = true
                    · rw [if_pos hl] at q
                      -- the value is frozen
                      have sF : SubH F1 (frzH F1 H1 f1) := frzH_sub off2
                      have rvf : RF G (frzH F1 H1 f1) ov.fz v1 := RO.freeze sF ov v1 f1 (fun a m => frzH_in m) rv
                      have dj : ∀ a ∈ f1, a ∉ fp1 := fun a m z => (List.nodup_append.mp nd2).2.2 a z a m rfl
                      have S1f : Sim G (frzH F1 H1 f1) H1 σ ts1 fp1 := ⟨sub_frzH S1.sub, SL.frame sF (fun _ _ => rfl) S1.sl, S1.nd, fun a m => (frzH_out fun z => dj a z m).trans (S1.off a m)⟩
                      have exf : Ex H1 H1 F1 (frzH F1 H1 f1) (fp1 ++ f1) (fp1 ++ []) := ⟨sF, fun _ _ _ _ => rfl, fun _ l => l, fun a m => .inl (by simp only [List.append_nil] at m; simp [m]), fun a l => by
                        by_cases z : a ∈ f1
                        · exact .inr (.inl (by simp [z]))
                        · exact .inl (by rw [frzH_out z] at l; exact l)⟩
                      have k2f : OK G (frzH F1 H1 f1) H1 σ (fun _ => True) r v2 f2 := by
                        cases r with
                        | val y => exact (nv y rfl).elim
                        | «at» i => exact k2
                        | fld i f => exact k2
                      obtain ⟨fx3, rx3, _⟩ := get_ok S1f k2f er
                      obtain ⟨a, ws, frr, ea, _, rws, hd⟩ := rx3
                      subst ea
                      have efv : vs = fs.map OV.frz := by
                        clear q hl rx2 rws hd er
                        induction vs generalizing fs with
                        | nil => cases ef; rfl
                        | cons y ys ih =>
                          cases y with
                          | frz z =>
                            unfold frzs at ef
                            cases ey : frzs ys with
                            | none => rw [ey] at ef; cases ef
                            | some zs => rw [ey] at ef; cases ef; rw [ih zs ey]; rfl
                          | _ => cases ef
                      obtain ⟨rfs, efr⟩ := frzs_owned ef rws
                      have ekk := fkey_ok eq (RF.mono sF _ _ rk)
                      subst ekk
                      rcases hd with ⟨kvs, hd, em, rks⟩ | ⟨kvs, hd, em, rks⟩
                      · subst em
                        obtain ⟨g1, g2⟩ := dset_ok eq (RF.mono sF _ _ rk) rvf rks rfs
                        have lk : kvs.length = ks.length := by have := rks.len; simpa using this
                        obtain ⟨fp2, S2, ex3⟩ := upd_own (F := frzH F1 H1 f1) (fp := fp1) (o' := .dic (dsetK qk kf ks) ((dsetV qk ov.fz ks fs).map OV.frz)) (ho := .dK (putK kvs qk v1)) (fo1 := []) S1f k2f nv er (by simpa using S1f.nd) (fun _ m => by cases m) (fun fx ro ndff => by
                          obtain ⟨a', ws', fr', ea', ef', rws', hd'⟩ := ro
                          have e0 : a = a' := by injection ea'
                          subst e0 ef'
                          refine ⟨fr', [], rfl, ⟨a, _, [], rfl, rfl, ROs_frz g2, .inl ⟨_, upd_same, rfl, g1⟩⟩, List.nodup_nil, (fun m => by cases m), fun b m => by cases m⟩) (by rw [List.append_nil]; exact Ex.refl _ _ _)
                        refine ⟨v1, .ref a, kV qk, rfl, .inr ⟨a, _, rfl, DPut.k hd (by rw [lk]; have := cap_eq; have : PySem.sizeLine = 16777216 := rfl; omega), q σ _ ⟨⟨_, fp2, [], S2, rfl, by simpa using S2.nd, (fun _ m => by cases m), ?_, fun z => by cases z⟩, Fix.refl⟩⟩⟩
                        have y1 : Ex H H1 F (frzH F1 H1 f1) fp (fp1 ++ []) := (((ex2.less (f2' := (fp1 ++ f1) ++ []) fun a m => by simpa using m).trans exf).less fun a m => by simpa using m)
                        exact (y1.trans ex3).less fun a m => by simpa using m
                      · exact (rks.1 (keys_tup hl.2 rks.2).1).elim
                    · rw [if_neg hl] at q; exact q.elim
              | _ => exact q.elim
        | _ => exact q.elim
    | _ => exact q.elim
  | [], oks, q => exact q.elim
  | [_], oks, q => exact q.elim
  | [_, _], oks, q => exact q.elim
  | _ :: _ :: _ :: _ :: _, oks, q => exact q.elim
end
end Tv
end

noncomputable section
set_option maxHeartbeats 400000
/-! == of tuples that hold dicts, and of dicts. -/
namespace Tv
open PySem L2
open PySem (Str Expr Stmt Scope)
/-- the answer for one key -/
def eKey (ks vs ks' vs' : List FV) (k : Key) : Option Bool := match dval ks vs k, dval ks' vs' k with
  | some x, some y => match toD x, toD y with
    | some d, some e => if deep d e = true then some (PyData.eqv d e) else none
    | _, _ => none
  | some _, none => some false
  | none, _ => none
def eKeys (ks vs ks' vs' : List FV) : List Key → Option Bool
  | [] => some true
  | k :: r => match eKey ks vs ks' vs' k, eKeys ks vs ks' vs' r with
    | some a, some b => some (a && b)
    | _, _ => none
/-- two dicts with keys that are ints or texts, all different; their values are data -/
def deq (ks vs ks' vs' : List FV) : Option Bool := match fkeys ks, fkeys ks' with
  | some kl, some _ => if decide kl.Nodup = true then (eKeys ks vs ks' vs' kl).map fun b => ks.length == ks'.length && b else none
  | _, _ => none
def isSc : FV → Bool
  | .non => true
  | .bl _ => true
  | .int _ => true
  | .str _ => true
  | _ => false
def scEq : FV → FV → Bool
  | .non, .non => true
  | .bl a, .bl b => a == b
  | .int a, .int b => a == b
  | .str a, .str b => a == b
  | _, _ => false
def scsEq : List FV → List FV → Bool
  | [], [] => true
  | x :: xs, y :: ys => scEq x y && scsEq xs ys
  | _, _ => false
/-- .. that may be one and the same -/
def deqS (ks vs ks' vs' : List FV) : Option Bool := match deq ks vs ks' vs' with
  | some b => if vs.all isSc = true then if (scsEq ks ks' && scsEq vs vs') = true then (if b = true then some true else none) else some b else none
  | none => none
def edt2 : FV → FV → Option Bool
  | .dic ks vs, .dic ks' vs' => deqS ks vs ks' vs'
  | _, _ => none
def edt (x y : FV) : Option Bool := match toD x, toD y with
  | some d, some e => if deep d e = true then some (PyData.eqv d e) else none
  | _, _ => edt2 x y
def epairs : List FV → List FV → Option Bool
  | [], [] => some true
  | x :: xs, y :: ys => match edt x y, epairs xs ys with
    | some a, some b => some (a && b)
    | _, _ => none
  | _, _ => none
/-- a == b -/
def eqx (x y : OV) : Option Bool := match eqd x y with
  | some b => some b
  | none => match x.fz, y.fz with
    | .tup xs, .tup ys => epairs xs ys
    | .dic ks vs, .dic ks' vs' => deq ks vs ks' vs'
    | _, _ => none
def eqx2 (x y : OV) : Option OV := (eqx x y).map fbl
def nex2 (x y : OV) : Option OV := (eqx x y).map fun b => fbl (!b)
section
variable {G : Gs} {X : Cx} {F H H' : Hp} {σ : L2.St} {ts ts' : Slots} {fp : List Addr} {c d : Bool} {w : Nat → Bool} {scope : Scope}
theorem sc_same {x y : FV} {v : V} (r : RF G F x v) (k : RF G F y v) (h : isSc x = true) (h2 : isSc y = true) : scEq x y = true := by
  cases x with
  | non =>
    obtain rfl : v = .non := r
    cases y with
    | non => rfl
    | bl b => have k : V.non = .bl b := k; cases k
    | int b => have k : V.non = .int b := k; cases k
    | str b => have k := k.1; cases k
    | _ => cases h2
  | bl a =>
    obtain rfl : v = .bl a := r
    cases y with
    | bl b => have k : V.bl a = .bl b := k; cases k; exact beq_self_eq_true a
    | non => have k : V.bl a = .non := k; cases k
    | int b => have k : V.bl a = .int b := k; cases k
    | str b => have k := k.1; cases k
    | _ => cases h2
  | int a =>
    obtain rfl : v = .int a := r
    cases y with
    | int b => have k : V.int a = .int b := k; cases k; exact beq_self_eq_true a
    | bl b => have k : V.int a = .bl b := k; cases k
    | non => have k : V.int a = .non := k; cases k
    | str b => have k := k.1; cases k
    | _ => cases h2
  | str a =>
    obtain ⟨rfl, _⟩ := r
    cases y with
    | str b => have k := k.1; cases k; exact beq_self_eq_true a
    | bl b => have k : V.str a = .bl b := k; cases k
    | non => have k : V.str a = .non := k; cases k
    | int b => have k : V.str a = .int b := k; cases k
    | _ => cases h2
  | _ => cases h
theorem sc_of {x y : FV} {v : V} (r : RF G F x v) (k : RF G F y v) (h : isSc x = true) : isSc y = true := by
  cases y with
  | non => rfl
  | bl _ => rfl
  | int _ => rfl
  | str _ => rfl
  | cls c =>
    cases x with
    | non => have r : v = .non := r; subst r; have k : V.non = .ref _ := k; cases k
    | bl b => have r : v = .bl b := r; subst r; have k : V.bl b = .ref _ := k; cases k
    | int b => have r : v = .int b := r; subst r; have k : V.int b = .ref _ := k; cases k
    | str b => obtain ⟨r, _⟩ := r; subst r; have k : V.str b = .ref _ := k; cases k
    | _ => cases h
  | _ =>
    obtain ⟨a, k⟩ := k
    have ek : v = .ref a := by
      first | exact k.1 | (obtain ⟨_, k, _⟩ := k; exact k) | (obtain ⟨_, _, k, _⟩ := k; exact k)
    subst ek
    cases x with
    | non => have r : V.ref a = .non := r; cases r
    | bl b => have r : V.ref a = .bl b := r; cases r
    | int b => have r : V.ref a = .int b := r; cases r
    | str b => have r := r.1; cases r
    | _ => cases h
theorem scs_same : ∀ {xs ys : List FV} {ws : List V}, RFs G F xs ws → RFs G F ys ws → xs.all isSc = true → scsEq xs ys = true
  | [], [], _, _, _, _ => rfl
  | [], y :: ys, ws, r, k, _ => by
    obtain rfl : ws = [] := r
    obtain ⟨v, vr, e, _⟩ := k
    cases e
  | x :: xs, [], ws, r, k, _ => by
    obtain rfl : ws = [] := k
    obtain ⟨v, vr, e, _⟩ := r
    cases e
  | x :: xs, y :: ys, ws, r, k, h => by
    obtain ⟨v, vr, e, r1, r2⟩ := r
    subst e
    obtain ⟨u, ur, e, k1, k2⟩ := k
    injection e with e1 e2
    subst e1 e2
    rw [List.all_cons, Bool.and_eq_true] at h
    unfold scsEq
    rw [sc_same r1 k1 h.1 (sc_of r1 k1 h.1), scs_same r2 k2 h.2]
    rfl
theorem keys_sc : ∀ {ks : List FV} {kvs : List (Key × V)}, RFs G F ks (kvs.map fun q => kV q.1) → ks.all isSc = true
  | [], _, _ => rfl
  | k :: ks, [], r => by obtain ⟨v, vr, e, _⟩ := r; cases e
  | k :: ks, p :: kvs, r => by
    obtain ⟨v, vr, e, r1, r2⟩ := r
    injection e with e1 e2
    subst e1 e2
    rw [List.all_cons, keys_sc r2, Bool.and_true]
    have := fkey_of r1
    cases k with
    | int _ => rfl
    | str _ => rfl
    | _ => cases this
theorem fkeys_is : ∀ {ks : List FV} {kvs : List (Key × V)} {kl : List Key}, RFs G F ks (kvs.map fun q => kV q.1) → fkeys ks = some kl → kl = kvs.map (·.1)
  | [], kvs, kl, r, e => by
    have : kvs = [] := by simpa using (show kvs.map _ = [] from r)
    subst this
    cases e; rfl
  | k :: ks, [], _, r, _ => by obtain ⟨v, vr, e, _⟩ := r; cases e
  | k :: ks, p :: kvs, kl, r, e => by
    obtain ⟨v, vr, e1, r1, r2⟩ := r
    injection e1 with e1 e2
    subst e1 e2
    unfold fkeys at e
    rw [fkey_of r1] at e
    cases z : fkeys ks with
    | none => rw [z] at e; cases e
    | some l =>
      rw [z] at e
      cases e
      rw [fkeys_is r2 z]; rfl
theorem eqtree_leaf {x y : FV} {v u : V} {vu wu : Value} {dx dy : PyData} {pn : List (Addr × Obj)} {s : Shared} (hK : X.K = G.K) (J : Inv X pn σ H s) (rx : RF G H x v) (ry : RF G H y u) (r1 : RelV v vu) (r2 : RelV u wu) (e1 : toD x = some dx) (e2 : toD y = some dy) (hd : deep dx dy = true) :
    PySem.W.EqTree X.prog X.w s 66 vu wu (PyData.eqv dx dy) := by
  obtain ⟨k1, l1⟩ := toD_dp x v dx e1 rx
  obtain ⟨k2, l2⟩ := toD_dp y u dy e2 ry
  rw [← hK] at k1 k2
  obtain ⟨as, p1⟩ := Dp.reads J dx v vu k1 r1
  obtain ⟨bs, p2⟩ := Dp.reads J dy u wu k2 r2
  have := deep_min hd
  exact .leaf fun A hu => SeqAt.eqAt_reads dx dy A s vu wu as bs p1 p2 l1 l2 (by omega)
theorem val_mem {kvs : List (Key × V)} {va : List (Key × Value)} (r : KV kvs va) : ∀ {k : Key} {v : Value}, (k, v) ∈ va → ∃ u, (k, u) ∈ kvs ∧ RelV u v := by
  unfold KV at r
  induction r with
  | nil => intro k v m; cases m
  | @cons p q ps qs h t ih =>
    intro k v m
    obtain ⟨h1, h2⟩ := h
    rcases List.mem_cons.mp m with e | e
    · cases e
      have h1 : p.1 = k := h1
      exact ⟨p.2, by rw [← h1]; exact List.mem_cons_self, h2⟩
    · obtain ⟨u, m', ru⟩ := ih e
      exact ⟨u, List.mem_cons_of_mem _ m', ru⟩
theorem valV_nodup {k : Key} {u : V} : ∀ {kvs : List (Key × V)}, (kvs.map (·.1)).Nodup → (k, u) ∈ kvs → valV kvs k = some u
  | [], _, m => by cases m
  | p :: kvs, nd, m => by
    rw [List.map_cons, List.nodup_cons] at nd
    rcases List.mem_cons.mp m with e | e
    · subst e; exact valV_pos rfl
    · rw [valV_neg fun z => nd.1 (by rw [z]; exact List.mem_map_of_mem e)]
      exact valV_nodup nd.2 e
theorem kv_keys {kvs : List (Key × V)} {va : List (Key × Value)} (r : KV kvs va) : va.map (·.1) = kvs.map (·.1) := by
  unfold KV at r
  induction r with
  | nil => rfl
  | cons h t ih => rw [List.map_cons, List.map_cons, ih, h.1]
/-- the two tables -/
theorem deq_run {ks vs ks' vs' : List FV} {kvs kvs' : List (Key × V)} {va vb : List (Key × Value)} {b : Bool} {pn : List (Addr × Obj)} {s : Shared} (hK : X.K = G.K) (J : Inv X pn σ H s) (r1 : RFs G H ks (kvs.map fun q => kV q.1)) (r2 : RFs G H vs (kvs.map (·.2))) (r3 : RFs G H ks' (kvs'.map fun q => kV q.1)) (r4 : RFs G H vs' (kvs'.map (·.2)))
    (ra : KV kvs va) (rb : KV kvs' vb) (e : deq ks vs ks' vs' = some b) : ∃ f : Key → Bool, (∀ k v y, (k, v) ∈ va → valueAt vb k = some y → PySem.W.EqTree X.prog X.w s 66 v y (f k)) ∧ (va.length == vb.length && va.all fun p => (valueAt vb p.1).isSome && f p.1) = b := by
  unfold deq at e
  cases ek : fkeys ks with
  | none => rw [ek] at e; cases e
  | some kl =>
    cases ek2 : fkeys ks' with
    | none => rw [ek, ek2] at e; cases e
    | some kl2 => ?_
    rw [ek, ek2] at e
    dsimp only at e
    by_cases hn : decide kl.Nodup = true
    · rw [if_pos hn] at e
      have nd : kl.Nodup := of_decide_eq_true hn
      have ekl := fkeys_is r1 ek
      cases em : eKeys ks vs ks' vs' kl with
      | none => rw [em] at e; cases e
      | some b0 =>
        rw [em] at e
        obtain rfl : (ks.length == ks'.length && b0) = b := Option.some.inj e
        refine ⟨fun k => (eKey ks vs ks' vs' k).getD false, fun k v y m hv => ?_, ?_⟩
        · obtain ⟨u, mu, ru⟩ := val_mem ra m
          have hu := valV_nodup (ekl ▸ nd) mu
          have hy : RelO (valV kvs' k) (some y) := by rw [← hv]; exact rb.val k
          have hm : ∀ l : List Key, ∀ bb, eKeys ks vs ks' vs' l = some bb → k ∈ l → ∃ c, eKey ks vs ks' vs' k = some c := by
            intro l
            induction l with
            | nil => intro bb _ m; cases m
            | cons q r ih =>
              intro bb h m
              unfold eKeys at h
              cases z1 : eKey ks vs ks' vs' q with
              | none => rw [z1] at h; cases h
              | some c1 =>
                cases z2 : eKeys ks vs ks' vs' r with
                | none => rw [z1, z2] at h; cases h
                | some c2 =>
                  rcases List.mem_cons.mp m with z | z
                  · rw [z]; exact ⟨c1, z1⟩
                  · exact ih c2 z2 z
          obtain ⟨cc, hc⟩ := hm kl b0 em (by rw [ekl]; exact List.mem_map_of_mem mu)
          show PySem.W.EqTree X.prog X.w s 66 v y ((eKey ks vs ks' vs' k).getD false)
          rw [hc]
          show PySem.W.EqTree X.prog X.w s 66 v y cc
          unfold eKey at hc
          obtain ⟨d1, d2⟩ := dval_ok (q := k) r1 r2
          obtain ⟨d3, d4⟩ := dval_ok (q := k) r3 r4
          cases z1 : dval ks vs k with
          | none => rw [d2 z1] at hu; cases hu
          | some x =>
            obtain ⟨u1, hu1, rx⟩ := d1 x z1
            rw [hu] at hu1
            obtain rfl : u = u1 := Option.some.inj hu1
            cases z2 : dval ks' vs' k with
            | none =>
              rw [d4 z2] at hy
              exact hy.elim
            | some x2 =>
              obtain ⟨u2, hu2, rx2⟩ := d3 x2 z2
              rw [hu2] at hy
              rw [z1, z2] at hc
              dsimp only at hc
              cases t1 : toD x with
              | none => rw [t1] at hc; cases hc
              | some dx =>
                cases t2 : toD x2 with
                | none => rw [t1, t2] at hc; cases hc
                | some dy =>
                  rw [t1, t2] at hc
                  dsimp only at hc
                  by_cases hd : deep dx dy = true
                  · rw [if_pos hd] at hc
                    obtain rfl : PyData.eqv dx dy = cc := Option.some.inj hc
                    exact eqtree_leaf hK J rx rx2 ru hy t1 t2 hd
                  · rw [if_neg hd] at hc; cases hc
        · have l1 : va.length = ks.length := by
            have h1 := congrArg List.length (kv_keys ra)
            have h2 := r1.len
            simp only [List.length_map] at h1 h2
            omega
          have l2 : vb.length = ks'.length := by
            have h1 := congrArg List.length (kv_keys rb)
            have h2 := r3.len
            simp only [List.length_map] at h1 h2
            omega
          rw [l1, l2]
          congr 1
          have al : (va.all fun p => (valueAt vb p.1).isSome && (eKey ks vs ks' vs' p.1).getD false) = kl.all fun k => (valueAt vb k).isSome && (eKey ks vs ks' vs' k).getD false := by
            rw [ekl, ← kv_keys ra, List.all_map]; rfl
          rw [al]
          have key : ∀ l : List Key, ∀ bb, eKeys ks vs ks' vs' l = some bb → (l.all fun k => (valueAt vb k).isSome && (eKey ks vs ks' vs' k).getD false) = bb := by
            intro l
            induction l with
            | nil => intro bb h; cases h; rfl
            | cons q r ih =>
              intro bb h
              unfold eKeys at h
              cases z1 : eKey ks vs ks' vs' q with
              | none => rw [z1] at h; cases h
              | some c1 =>
                cases z2 : eKeys ks vs ks' vs' r with
                | none => rw [z1, z2] at h; cases h
                | some c2 =>
                  rw [z1, z2] at h
                  obtain rfl : (c1 && c2) = bb := Option.some.inj h
                  rw [List.all_cons, ih c2 z2, z1]
                  show ((valueAt vb q).isSome && c1 && c2) = (c1 && c2)
                  cases c1 with
                  | false => simp
                  | true =>
                    have hs : (valueAt vb q).isSome = true := by
                      unfold eKey at z1
                      cases y1 : dval ks vs q with
                      | none => rw [y1] at z1; cases z1
                      | some x =>
                        cases y2 : dval ks' vs' q with
                        | none => rw [y1, y2] at z1; cases z1
                        | some x2 =>
                          obtain ⟨u2, hu2, _⟩ := (dval_ok (q := q) r3 r4).1 x2 y2
                          have := rb.val q
                          rw [hu2] at this
                          cases z : valueAt vb q with
                          | none => rw [z] at this; exact this.elim
                          | some _ => rfl
                    rw [hs]; simp
          exact key kl b0 em
    · rw [if_neg hn] at e; cases e
theorem dic_dk {ks vs : List FV} {v : V} (hk : (fkeys ks).isSome = true) (r : RF G H (.dic ks vs) v) : ∃ a kvs, v = .ref a ∧ Rd H a (.dK kvs) ∧ RFs G H ks (kvs.map fun q => kV q.1) ∧ RFs G H vs (kvs.map (·.2)) := by
  obtain ⟨a, ws, e, t, q⟩ := r
  rcases q with ⟨kvs, q1, q2, q3⟩ | ⟨kvs, q1, q2, q3, q4⟩
  · subst q2; exact ⟨a, kvs, e, q1, q3, t⟩
  · exact (q3 (keys_tup hk q4).1).elim
theorem deq_keys {ks vs ks' vs' : List FV} {b : Bool} (e : deq ks vs ks' vs' = some b) : (fkeys ks).isSome = true ∧ (fkeys ks').isSome = true := by
  unfold deq at e
  cases z : fkeys ks with
  | none => rw [z] at e; cases e
  | some _ =>
    cases z2 : fkeys ks' with
    | none => rw [z, z2] at e; cases e
    | some _ => exact ⟨rfl, rfl⟩
theorem edt_tree {x y : FV} {v u : V} {vu wu : Value} {b : Bool} {pn : List (Addr × Obj)} {s : Shared} (hK : X.K = G.K) (J : Inv X pn σ H s) (rx : RF G H x v) (ry : RF G H y u) (r1 : RelV v vu) (r2 : RelV u wu) (e : edt x y = some b) : PySem.W.EqTree X.prog X.w s 67 vu wu b := by
  have other : edt2 x y = some b → PySem.W.EqTree X.prog X.w s 67 vu wu b := by
    clear e
    intro e
    cases x with
    | dic ks vs =>
      cases y with
      | dic ks' vs' =>
        have e : deqS ks vs ks' vs' = some b := e
        unfold deqS at e
        cases z : deq ks vs ks' vs' with
        | none => rw [z] at e; cases e
        | some b0 =>
          rw [z] at e
          dsimp only at e
          by_cases hv : vs.all isSc = true
          · rw [if_pos hv] at e
            obtain ⟨k1, k2⟩ := deq_keys z
            obtain ⟨a, kvs, ea, da, p1, p2⟩ := dic_dk k1 rx
            obtain ⟨a', kvs', ea', da', p3, p4⟩ := dic_dk k2 ry
            subst ea ea'
            obtain rfl : vu = .ref a := r1
            obtain rfl : wu = .ref a' := r2
            by_cases ne : a = a'
            · subst ne
              have ek : kvs = kvs' := by
                have h1 := da
                have h2 := da'
                rcases h1 with h1 | ⟨o, h1⟩ <;> rcases h2 with h2 | ⟨o', h2⟩ <;> (rw [h1] at h2; injection h2 with h2; first | (injection h2 with h2 h3; injection h3) | (injection h2) | cases h2)
              subst ek
              rw [scs_same p1 p3 (keys_sc p1), scs_same p2 p4 hv] at e
              rw [if_pos (by rfl)] at e
              by_cases hb : b0 = true
              · rw [if_pos hb] at e
                obtain rfl : true = b := Option.some.inj e
                exact .same
              · rw [if_neg hb] at e; cases e
            · have eb : b0 = b := by
                by_cases hq : (scsEq ks ks' && scsEq vs vs') = true
                · rw [if_pos hq] at e
                  by_cases hb : b0 = true
                  · rw [if_pos hb] at e; rw [hb]; exact Option.some.inj e
                  · rw [if_neg hb] at e; cases e
                · rw [if_neg hq] at e; exact Option.some.inj e
              subst eb
              obtain ⟨_, ya, va, ra, dda⟩ := dk_rd J.hok da
              obtain ⟨_, yb, vb, rb, ddb⟩ := dk_rd J.hok da'
              obtain ⟨f, f1, f2⟩ := deq_run hK J p1 p2 p3 p4 ra rb z
              rw [← f2]
              exact .dicts ne ya yb dda ddb f1
          · rw [if_neg hv] at e; cases e
      | _ => cases e
    | _ => cases e
  unfold edt at e
  cases t1 : toD x with
  | none => rw [t1] at e; exact other e
  | some dx =>
    cases t2 : toD y with
    | none => rw [t1, t2] at e; exact other e
    | some dy =>
      rw [t1, t2] at e
      dsimp only at e
      by_cases hd : deep dx dy = true
      · rw [if_pos hd] at e
        obtain rfl : PyData.eqv dx dy = b := Option.some.inj e
        obtain ⟨k1, l1⟩ := toD_dp x v dx t1 rx
        obtain ⟨k2, l2⟩ := toD_dp y u dy t2 ry
        rw [← hK] at k1 k2
        obtain ⟨as, p1⟩ := Dp.reads J dx v vu k1 r1
        obtain ⟨bs, p2⟩ := Dp.reads J dy u wu k2 r2
        have := deep_min hd
        exact .leaf fun A hu => SeqAt.eqAt_reads dx dy A s vu wu as bs p1 p2 l1 l2 (by omega)
      · rw [if_neg hd] at e; cases e
theorem pairs_run {pn : List (Addr × Obj)} {s : Shared} (hK : X.K = G.K) (J : Inv X pn σ H s) : ∀ {xs ys : List FV} {ws us : List V} {vs vs' : List Value} {b : Bool}, RFs G H xs ws → RFs G H ys us → Vals ws vs → Vals us vs' → epairs xs ys = some b →
    ∃ e : Nat → Bool, (∀ j (h1 : j < vs.length) (h2 : j < vs'.length), PySem.W.EqTree X.prog X.w s 67 vs[j] vs'[j] (e j)) ∧ (List.range vs.length).all e = b ∧ vs.length = vs'.length
  | [], [], ws, us, vs, vs', b, r, k, a1, a2, e => by
    obtain rfl : ws = [] := r
    obtain rfl : us = [] := k
    cases a1; cases a2; cases e
    exact ⟨fun _ => true, (fun j h => by cases h), rfl, rfl⟩
  | [], _ :: _, _, _, _, _, _, _, _, _, _, e => by cases e
  | _ :: _, [], _, _, _, _, _, _, _, _, _, e => by cases e
  | x :: xs, y :: ys, ws, us, vs, vs', b, r, k, a1, a2, e => by
    obtain ⟨v, vr, e1, r1, r2⟩ := r
    subst e1
    obtain ⟨u, ur, e1, k1, k2⟩ := k
    subst e1
    cases a1 with
    | cons b1 b2 =>
      cases a2 with
      | cons c1 c2 =>
        unfold epairs at e
        cases z1 : edt x y with
        | none => rw [z1] at e; cases e
        | some bb =>
          cases z2 : epairs xs ys with
          | none => rw [z1, z2] at e; cases e
          | some bs =>
            rw [z1, z2] at e
            obtain rfl : (bb && bs) = b := Option.some.inj e
            obtain ⟨f, f1, f2, f3⟩ := pairs_run hK J r2 k2 b2 c2 z2
            refine ⟨fun j => match j with | 0 => bb | j + 1 => f j, fun j h1 h2 => ?_, ?_, by simp [f3]⟩
            · cases j with
              | zero => exact edt_tree hK J r1 k1 b1 c1 z1
              | succ j => exact f1 j (Nat.lt_of_succ_lt_succ h1) (Nat.lt_of_succ_lt_succ h2)
            · rw [List.length_cons, List.range_succ_eq_map, List.all_cons, List.all_map]
              show (bb && (List.range _).all f) = (bb && bs)
              rw [f2]
theorem sqt_at {pn : List (Addr × Obj)} {s : Shared} {a : Addr} {ws : List V} (J : Inv X pn σ H s) (h : SqT X.K H a ws) : ∃ vs : List Value, Vals ws vs ∧ s.heap.IsTuple a vs.toArray := by
  obtain ⟨us, r, p, _⟩ := J.tuple h
  exact ⟨us, r, p⟩
theorem eqx_run (D : Std G X k) {x y : OV} {v u : V} {fx fy : List Addr} {b : Bool} {pn : List (Addr × Obj)} {s : Shared} {vu wu : Value} {Q : Value → Shared → Prop} {E : Value → Shared → Prop} (J : Inv X pn σ H s) (sub : SubH F H) (rx : RO G F H x v fx) (ry : RO G F H y u fy) (r1 : RelV v vu) (r2 : RelV u wu) (e : eqx x y = some b) (q : Q (.bool b) s) :
    wpAny (model X.prog X.w) X.A (compareOp .Eq vu wu) Q E s := by
  have hu := D.room.un
  unfold eqx at e
  cases z : eqd x y with
  | some bb =>
    rw [z] at e
    obtain rfl : bb = b := Option.some.inj e
    obtain ⟨d, d', k1, k2, l1, l2, dm, ev⟩ := eqd_ok sub rx ry z
    rw [← D.hK] at k1 k2
    obtain ⟨as, p1⟩ := Dp.reads J d v vu k1 r1
    obtain ⟨bs, p2⟩ := Dp.reads J d' u wu k2 r2
    exact SeqAt.compareEq_reads p1 p2 l1 l2 (by omega) (by rw [ev]; exact q)
  | none =>
    rw [z] at e
    have vx := RO.view sub x v fx rx
    have vy := RO.view sub y u fy ry
    revert vx vy e
    generalize x.fz = xf
    generalize y.fz = yf
    intro e vx vy
    cases xf with
    | tup xs =>
      cases yf with
      | tup ys =>
        obtain ⟨a, ws, ea, ha, ra⟩ := vx
        obtain ⟨a', us, ea', ha', ra'⟩ := vy
        subst ea ea'
        obtain rfl : vu = .ref a := r1
        obtain rfl : wu = .ref a' := r2
        rw [← D.hK] at ha ha'
        obtain ⟨vs, b1, b2⟩ := sqt_at J ha
        obtain ⟨vs', c1, c2⟩ := sqt_at J ha'
        obtain ⟨f, f1, f2, f3⟩ := pairs_run D.hK J ra ra' b1 c1 e
        refine PySem.W.eq_tuplesT (n := 67) b2 c2 (e := f) (fun j h1 h2 => ?_) (by omega) ?_
        · have := f1 j (by simpa using h1) (by simpa using h2)
          simpa using this
        · rw [List.size_toArray, List.size_toArray, ← f3, Nat.min_self, f2]
          simpa using q
      | _ => cases e
    | dic ks vs =>
      cases yf with
      | dic ks' vs' =>
        have e : deq ks vs ks' vs' = some b := e
        obtain ⟨k1, k2⟩ := deq_keys e
        obtain ⟨a, kvs, ea, da, p1, p2⟩ := dic_dk k1 vx
        obtain ⟨a', kvs', ea', da', p3, p4⟩ := dic_dk k2 vy
        subst ea ea'
        obtain rfl : vu = .ref a := r1
        obtain rfl : wu = .ref a' := r2
        obtain ⟨_, ya, va, ra, dda⟩ := dk_rd J.hok da
        obtain ⟨_, yb, vb, rb, ddb⟩ := dk_rd J.hok da'
        obtain ⟨f, f1, f2⟩ := deq_run D.hK J p1 p2 p3 p4 ra rb e
        exact PySem.W.eq_dictsT ya yb dda ddb f1 (by omega) (by rw [f2]; exact q)
      | _ => cases e
    | _ => cases e
theorem op_eqx_ok (D : Std G X k) : Op2 G (SO X (compareOp .Eq)) eqx2 := by
  intro H F x y r v w fx fy Q sub rx ry e q pn s σ vu wu J rv rw'
  unfold eqx2 at e
  cases e0 : eqx x y with
  | none => rw [e0] at e; cases e
  | some b =>
    rw [e0] at e
    cases Option.some.inj e
    exact eqx_run D J sub rx ry rv rw' e0 ⟨.bl b, H, J, rfl, q _ _ (Res.same sub rfl)⟩
end
end Tv
end

noncomputable section
set_option maxHeartbeats 800000
/-! str, repr, f-strings, != of instances. -/
namespace Tv
open PySem L2
open PySem (Str Expr Stmt Scope)
/-! ### the functions -/
abbrev MTab := Nat → Option ((Nat → Bool) × (List OV → List (Str × FV) → Out OV))
/-- a method of an instance is called with these; no exception, and what comes back is told by chk -/
def tdunR (chk : FV → Option FV) (reb : Nat → Bool) (run : List OV → List (Str × FV) → Out OV) (os : List Opd) : TM Opd := noexc (tb (tcall reb run [] os) fun o s => match o with
  | .val (.frz v) => match chk v with
    | some u => .ok (.val (.frz u)) s
    | none => .bad
  | _ => .bad)
def tdun (tab : MTab) (chk : FV → Option FV) : List Opd → TM Opd
  | [a] => fun s => match a.get s with
    | some x => match x.ob with
      | some (cc, _) => match tab cc with
        | some (reb, run) => tdunR chk reb run [a] s
        | none => .bad
      | none => .bad
    | none => .bad
  | _ => tbad
/-- .. of two operands; okt tells which second ones are let in -/
def tdun2 (tab : MTab) (okt : Nat → OV → Bool) (chk : FV → Option FV) : List Opd → TM Opd
  | [a, b] => fun s => match a.get s, b.get s with
    | some x, some y => match x.ob with
      | some (cc, _) => match tab cc with
        | some (reb, run) => if okt cc y = true then tdunR chk reb run [a, b] s else .bad
        | none => .bad
      | none => .bad
    | _, _ => .bad
  | _ => tbad
def chS : FV → Option FV
  | .str z => some (.str z)
  | _ => none
def chNe : FV → Option FV
  | .bl b => some (.bl (!b))
  | _ => none
def tor2 (c : Slots → List Opd → Bool) (f g : List Opd → TM Opd) : List Opd → TM Opd := fun os s => if c s os = true then f os s else g os s
section
variable {G : Gs} {X : Cx} {F H H' : Hp} {σ : L2.St} {ts ts' : Slots} {fp : List Addr} {c d d' : Bool} {P : Program} {w : World} {mg : Str → Option Value} {base : Heap} {k : Nat} {nsx : List Str} {sn : List (Str × NameKind)}
theorem Stp.weak {act : List Value → Sem Value} {f : List Opd → TM Opd} (h : Stp G X act f d) (hd : d' = true → d = true) : Stp G X act f d' := fun σ H F ts fp fo os vs S oks nd off W tk Q q =>
  h σ H F ts fp fo os vs S oks nd off W tk Q (q.mono (fun o ts' q v H' ae => q v H' (ae.calm hd)) fun _ _ q => q)
theorem Stp.or2 {act : List Value → Sem Value} {f g : List Opd → TM Opd} {cc : Slots → List Opd → Bool} (h1 : Stp G X act f d) (h2 : Stp G X act g d') : Stp G X act (tor2 cc f g) (d && d') := fun σ H F ts fp fo os vs S oks nd off W tk Q q => by
  unfold tor2 at q
  by_cases z : cc ts os = true
  · rw [if_pos z] at q
    exact h1.weak (fun z => (bth z).1) σ H F ts fp fo os vs S oks nd off W tk Q q
  · rw [if_neg z] at q
    exact h2.weak (fun z => (bth z).2) σ H F ts fp fo os vs S oks nd off W tk Q q
theorem CalT.mono {np : Nat} {f : Addr} {run : List OV → List (Str × FV) → Out OV} {j : Nat} (h : CalT G P w mg base j np f run) (hj : j ≤ k) : CalT G P w mg base k np f run := fun A outer s H F cs vs us fpc kws zs ws hr => h A outer s H F cs vs us fpc kws zs ws (hr.mono hj)
theorem guards_in1 {A : Around} : A.in1.guards = A.guards := rfl
/-- an own def called somewhat deeper; nothing is raised -/
theorem call_deep {np : Nat} {f : Addr} {run : List OV → List (Str × FV) → Out OV} {reb : Nat → Bool} {j : Nat} {A' : Around} (Gd : GoodC G P w mg base k nsx sn X) (C : CalT G P w mg base j np f run) (hA : ∀ (s : Shared) (H : Hp), Env0 X.prog X.w X.K X.mg X.base X.A X.stack s H → Env0 X.prog X.w X.K X.mg X.base A' X.stack s H) (hr : Room j A') (hg : A'.guards = some [])
    {fo : List Addr} {os : List Opd} {vs : List V} (S : Sim G F H σ ts fp) (oks : OKs G F H σ (fun _ => True) os vs fo) (nd : (fp ++ fo).Nodup) (off : ∀ a ∈ fo, F a = none) {Q : VK} (q : OutP (tcall reb run [] os ts) (fun o ts' => ∀ v H', AE G F H σ (fp ++ fo) false o ts' v H' → Q v H') (fun _ _ => False))
    {pn : List (Addr × Obj)} {s : Shared} {us : List Value} (I : Inv X pn σ H s) (rv : Vals vs us) (E' : Value → Shared → Prop) : wpAny (model X.prog X.w) A' (call (.ref f) us) (EP X pn σ Q) E' s := by
  unfold tcall at q
  obtain ⟨F1, ts1, fp1, fo1, cs, S1, rs, nd1, off1, ex1, q⟩ := lend_ok S oks nd off q.bind
  have lc : cs.length = os.length := by rw [← rs.len]; exact oks.len
  simp only [List.length_nil, Nat.sub_zero, List.zip_nil_left] at q
  rw [← lc, List.take_length] at q
  have hrun := C A' X.stack s H F1 cs vs us fo1 [] [] [] hr hg (by have e := hA s H I.env0; rw [Gd.prog, Gd.w, Gd.K, Gd.mg, Gd.base] at e; exact e) S1.sub rs (List.nodup_append.mp nd1).2.1 off1 rv rfl .nil Q (fun _ _ _ => False) ?_
  · refine wpAny_call ?_
    have hrun' : codeAny (model X.prog X.w) A' (.call (.ref f) ⟨us, []⟩) (CR (CX X.prog X.w) X.stack X.prog X.w H s Q fun _ _ _ => False) s := by rw [Gd.prog, Gd.w]; exact hrun
    refine codeAny_mono hrun' fun r s' hq => ?_
    cases r with
    | error e =>
      obtain ⟨_, _, _, _, _, _, _, _, _, _, _, _, h⟩ := hq
      exact h.elim
    | ok fl =>
      cases fl with
      | ret u => exact I.after hq
      | next => exact False.elim hq
      | brk => exact False.elim hq
      | cont => exact False.elim hq
  · cases e : run cs [] with
    | bad => rw [e] at q; exact q.elim
    | ok r cs' =>
      rw [e] at q
      intro v H' af
      have sF : SubH F1 (frzH F1 H []) := fun a u e => ⟨u, by rw [frzH_out (by simp)]; exact e, .inl rfl⟩
      have ef : frzH F1 H [] = F1 := funext fun a => frzH_out (by simp)
      refine q v H' (lend_back (p2 := []) (p1 := fo1) (R0 := fun F' fo => RO G F' H' r v fo) S1 (by simpa using nd1) (fun a m => by cases m) (by simpa using ex1) (take_at (n := vs.length) (np := np) oks) ?_)
      rw [ef, List.take_length]
      exact af
    | exc x cs' => rw [e] at q; exact q.elim

/-! ### the steps -/
/-- what is known of an instance -/
theorem ob_inst {pn : List (Addr × Obj)} {s : Shared} {o : OV} {v : V} {u : Value} {fx : List Addr} {cc : Nat} {ns : List Nat} (J : Inv X pn σ H s) (sub : SubH F H) (e : o.ob = some (cc, ns)) (r : RO G F H o v fx) (ru : RelV v u) : ∃ a ox od, u = .ref a ∧ v = .ref a ∧ PySem.W.InstAt s.heap a ox (G.cad cc) od := by
  obtain ⟨a, dx, fs, ev, ea, en⟩ := ob_ok sub e r
  subst ev
  obtain ⟨mA, O, _⟩ := ins_get J.hok ea
  obtain ⟨od, I, _⟩ := O.look
  exact ⟨a, _, _, ru, rfl, I⟩
def inN : Nat → Around → Around
  | 0, A => A
  | n + 1, A => inN n A.in1
theorem inN_room : ∀ {n j : Nat} {A : Around}, Room (j + n) A → Room j (inN n A)
  | 0, _, _, r => r
  | n + 1, j, A, r => inN_room (n := n) (show Room (j + n + 1) A from r).in1
theorem inN_guards : ∀ {n : Nat} {A : Around}, (inN n A).guards = A.guards
  | 0, _ => rfl
  | n + 1, A => (inN_guards (n := n) (A := A.in1)).trans rfl
theorem inN_env : ∀ {n : Nat} {A : Around} {s : Shared} {H : Hp} {P : Program} {w : World} {K : PySem.W.Frag} {outer : List Env}, Env0 P w K mg base A outer s H → Env0 P w K mg base (inN n A) outer s H
  | 0, _, _, _, _, _, _, _, e => e
  | n + 1, A, _, _, _, _, _, _, e => inN_env (n := n) e.in1
/-- act, on an instance of C, calls the def at f so much deeper, and hands on what comes back -/
def DunR (X : Cx) (C f : Addr) (act : List Value → Sem Value) (kv : V → Option V) (n : Nat) : Prop := ∀ (pn : List (Addr × Obj)) (s : Shared) (σ : L2.St) (H : Hp) (a : Addr) (ox : Obj) (od : Option Obj) (Q : VK), Inv X pn σ H s → PySem.W.InstAt s.heap a ox C od →
  (∀ t, wpAny (model X.prog X.w) (inN n X.A) (call (.ref f) [.ref a]) (EP X pn σ fun z H' => ∃ r, kv z = some r ∧ Q r H') X.xe { s with toks := t }) → wpAny (model X.prog X.w) X.A (act [.ref a]) (EP X pn σ Q) X.xe s
def DunR2 (X : Cx) (C f : Addr) (act : List Value → Sem Value) (kv : V → Option V) (n : Nat) : Prop := ∀ (pn : List (Addr × Obj)) (s : Shared) (σ : L2.St) (H : Hp) (a : Addr) (ox : Obj) (od : Option Obj) (b tb : Value) (Q : VK), Inv X pn σ H s → PySem.W.InstAt s.heap a ox C od →
  PySem.W.Looks (model X.prog X.w) s.heap (typeOf b) tb → PySem.W.notFirst X.K C tb = true →
  (∀ t, wpAny (model X.prog X.w) (inN n X.A) (call (.ref f) [.ref a, b]) (EP X pn σ fun z H' => ∃ r, kv z = some r ∧ Q r H') X.xe { s with toks := t }) → wpAny (model X.prog X.w) X.A (act [.ref a, b]) (EP X pn σ Q) X.xe s
theorem dunR_ok {np : Nat} {f : Addr} {run : List OV → List (Str × FV) → Out OV} {reb : Nat → Bool} {chk : FV → Option FV} {kv : V → Option V} {j n t : Nat} (hn : n ≤ 4) (Gd : GoodC G P w mg base (j + 4) nsx sn X) (hk : ∀ (F : Hp) (x u : FV) (v : V), RF G F x v → chk x = some u → ∃ r, kv v = some r ∧ RF G F u r) (C : CalT G P w mg base j np f run)
    {fo : List Addr} {os : List Opd} {vs : List V} (S : Sim G F H σ ts fp) (oks : OKs G F H σ (fun _ => True) os vs fo) (nd : (fp ++ fo).Nodup) (off : ∀ a ∈ fo, F a = none) {Q : VK} {E : XV → Slots → Prop} (q : OutP (tdunR chk reb run os ts) (fun o ts' => ∀ v H', AE G F H σ (fp ++ fo) false o ts' v H' → Q v H') E)
    {pn : List (Addr × Obj)} {s : Shared} {us : List Value} (J : Inv X pn σ H s) (rv : Vals vs us) : wpAny (model X.prog X.w) (inN n X.A) (call (.ref f) us) (EP X pn σ fun z H' => ∃ r, kv z = some r ∧ Q r H') X.xe { s with toks := t } := by
  refine call_deep Gd C (fun s H e => inN_env e) (inN_room (Gd.room.mono (by omega))) (inN_guards.trans Gd.gd) S oks nd off (OutP.mono (noexc_ok q).bind (fun o ts1 q v H1 ae => ?_) fun _ _ q => q) (J.tok t) rv _
  cases o with
  | val o =>
    cases o with
    | frz x1 =>
      cases e5 : chk x1 with
      | none => simp only [e5] at q; exact q.elim
      | some u =>
        simp only [e5] at q
        obtain ⟨F1, fp1, fo1, S1, ok1, nd1, off1, ex1, c1⟩ := id ae
        obtain ⟨r0, r1, r2⟩ := hk F1 x1 u v ok1.2 e5
        exact ⟨r0, r1, q r0 H1 ⟨F1, fp1, [], S1, ⟨rfl, r2⟩, by simpa using S1.nd, (fun a m => by cases m), ex1.less fun a m => by simp only [List.append_nil] at m; simp [m], fun z => by cases z⟩⟩
    | _ => exact q.elim
  | _ => exact q.elim
theorem stp_dun {tab : MTab} {chk : FV → Option FV} {kv : V → Option V} {act : List Value → Sem Value} {j n : Nat} (hn : n ≤ 4) (Gd : GoodC G P w mg base (j + 4) nsx sn X) (hk : ∀ (F : Hp) (x u : FV) (v : V), RF G F x v → chk x = some u → ∃ r, kv v = some r ∧ RF G F u r)
    (hm : ∀ cc p, tab cc = some p → ∃ f np, CalT G P w mg base j np f p.2 ∧ DunR X (G.cad cc) f act kv n) : Stp G X act (tdun tab chk) false := by
  intro σ H F ts fp fo os vs S oks nd off W tk Q q pn s us J rv
  match os, q, oks with
  | [], q, _ => exact q.elim
  | _ :: _ :: _, q, _ => exact q.elim
  | [a], q, oks =>
    obtain ⟨v1, vr, f1, f2, e1, e2, k1, e3, e4⟩ := id oks
    subst e3 e4 e1 e2
    unfold tdun at q
    cases g1 : a.get ts with
    | none => simp only [g1] at q; exact q.elim
    | some x =>
      cases g3 : x.ob with
      | none => simp only [g1, g3] at q; exact q.elim
      | some cn =>
        obtain ⟨cc, ns⟩ := cn
        cases g4 : tab cc with
        | none => simp only [g1, g3, g4] at q; exact q.elim
        | some pr =>
          obtain ⟨reb, run⟩ := pr
          simp only [g1, g3, g4] at q
          obtain ⟨f, np, C, D⟩ := hm cc _ g4
          obtain ⟨fx, ro, _⟩ := get_ok S k1 g1
          have rv0 := rv
          cases rv with
          | cons rv1 rv2 =>
            cases rv2
            obtain ⟨ad, ox, od, eu, ev, I⟩ := ob_inst J S.sub g3 ro rv1
            subst eu ev
            exact D pn s σ H ad ox od Q J I fun t => dunR_ok hn Gd hk C S oks nd off q J rv0
theorem stp_dun2 {tab : MTab} {okt : Nat → OV → Bool} {chk : FV → Option FV} {kv : V → Option V} {act : List Value → Sem Value} {j n : Nat} (hn : n ≤ 4) (Gd : GoodC G P w mg base (j + 4) nsx sn X) (hk : ∀ (F : Hp) (x u : FV) (v : V), RF G F x v → chk x = some u → ∃ r, kv v = some r ∧ RF G F u r)
    (hm : ∀ cc p, tab cc = some p → ∃ f np, CalT G P w mg base j np f p.2 ∧ DunR2 X (G.cad cc) f act kv n) (ht : ∀ cc y, okt cc y = true → ∃ t, y.tyv G = some t ∧ PySem.W.notFirst X.K (G.cad cc) t = true) : Stp G X act (tdun2 tab okt chk) false := by
  intro σ H F ts fp fo os vs S oks nd off W tk Q q pn s us J rv
  match os, q, oks with
  | [], q, _ => exact q.elim
  | [_], q, _ => exact q.elim
  | _ :: _ :: _ :: _, q, _ => exact q.elim
  | [a, b], q, oks =>
    obtain ⟨v1, vr, f1, f2, e1, e2, k1, v2, vr2, f3, f4, e3, e4, k2, e5, e6⟩ := id oks
    subst e5 e6 e3 e4 e1 e2
    unfold tdun2 at q
    cases g1 : a.get ts with
    | none => simp only [g1] at q; exact q.elim
    | some x =>
      cases g2 : b.get ts with
      | none => simp only [g1, g2] at q; exact q.elim
      | some y =>
        cases g3 : x.ob with
        | none => simp only [g1, g2, g3] at q; exact q.elim
        | some cn =>
          obtain ⟨cc, ns⟩ := cn
          cases g4 : tab cc with
          | none => simp only [g1, g2, g3, g4] at q; exact q.elim
          | some pr =>
            obtain ⟨reb, run⟩ := pr
            simp only [g1, g2, g3, g4] at q
            by_cases z : okt cc y = true
            · rw [if_pos z] at q
              obtain ⟨f, np, C, D⟩ := hm cc _ g4
              obtain ⟨t0, ht1, ht2⟩ := ht cc y z
              obtain ⟨fx, ro, _⟩ := get_ok S k1 g1
              obtain ⟨fy, ry, _⟩ := get_ok S k2 g2
              have rv0 := rv
              cases rv with
              | cons rv1 rv2 =>
                cases rv2 with
                | cons rv2 rv3 =>
                  cases rv3
                  obtain ⟨ad, ox, od, eu, ev, I⟩ := ob_inst J S.sub g3 ro rv1
                  subst eu ev
                  have ty := tyv_ok Gd.K J S.sub ry rv2 ht1 (model X.prog X.w)
                  exact D pn s σ H ad ox od _ t0 Q J I ty ht2 fun t => dunR_ok hn Gd hk C S oks nd off q J rv0
            · rw [if_neg z] at q; exact q.elim
def kvS : V → Option V
  | .str z => some (.str z)
  | _ => none
def kvN : V → Option V
  | .bl b => some (.bl (!b))
  | _ => none
theorem chS_ok (F : Hp) (x u : FV) (v : V) (r : RF G F x v) (e : chS x = some u) : ∃ z, kvS v = some z ∧ RF G F u z := by
  cases x with
  | str z => cases e; obtain ⟨r1, r2⟩ := r; subst r1; exact ⟨.str z, rfl, rfl, r2⟩
  | _ => cases e
theorem chNe_ok (F : Hp) (x u : FV) (v : V) (r : RF G F x v) (e : chNe x = some u) : ∃ z, kvN v = some z ∧ RF G F u z := by
  cases x with
  | bl z => cases e; have r : v = .bl z := r; subst r; exact ⟨.bl (!z), rfl, rfl⟩
  | _ => cases e
/-- what is asked of the class -/
structure DunC (K : PySem.W.Frag) (C : Addr) (m : Str) (f : Addr) : Prop where
  at_ : PySem.W.findIn K (.ref C) m = some (some (.ref f))
  fn : PySem.W.isFn K (.ref f) = true
theorem str_of_ep {pn : List (Addr × Obj)} {Q : VK} {u : Value} {s' : Shared} (h : EP X pn σ (fun z H' => ∃ r, kvS z = some r ∧ Q r H') u s') : PySem.W.StrBack (EP X pn σ Q) u s' := by
  obtain ⟨v, H', J, rv, r, e, q⟩ := h
  cases v with
  | str z =>
    cases e
    obtain ⟨t, rfl⟩ := rv
    exact ⟨.str z, H', J, ⟨t, rfl⟩, q⟩
  | _ => cases e
theorem dun_str {C f : Addr} (hr : X.A.units + 64 < cLine) (d : DunC X.K C "__str__" f) : DunR X C f (fun us => call (.type "str") us) kvS 2 := fun pn s σ H a ox od Q J I h =>
  PySem.W.kso_call (by show X.A.units + 1 + 1 < cLine; omega) J.kIn I d.at_ d.fn (wpAny_mono (h s.toks) (fun _ _ z => str_of_ep z) fun _ _ e => e)
theorem dun_repr {C f : Addr} (hr : X.A.units + 64 < cLine) (d : DunC X.K C "__repr__" f) : DunR X C f (fun us => call (.builtin "repr") us) kvS 1 := fun pn s σ H a ox od Q J I h => by
  refine Calls.call_function_entry PySem.F.kind_repr PySem.F.plain_repr PySem.F.entry_repr (PySem.F.args_repr1 _) ?_
  unfold Builtin.«repr»
  refine wpAny_bind (m := oneArg "repr" _) (wpAny_pure ?_)
  refine wpAny_bind (m := cRoomFor _ _) (wpAny_cRoomFor (by show X.A.units + 1 < cLine; omega) ?_)
  have sp : wpAny (model X.prog X.w) X.A.in1 (specialOf (.ref a) (Str.ofString "__repr__")) (fun r s' => r = some (.ref f) ∧ s' = s) X.xe s :=
    wpAny_bind (I.type.here ((PySem.W.looks_findIn J.kIn d.at_).here ⟨rfl, rfl⟩))
  refine wpAny_bind (wpAny_mono sp (fun r s' hh => ?_) fun _ _ e => e)
  obtain ⟨rfl, rfl⟩ := hh
  refine wpAny_bind (m := callSpecialIfBound? (.ref a) (Str.ofString "__repr__") _) (PySem.W.ifBound_K J.kIn I d.at_ d.fn (wpAny_mono (h s'.toks) (fun u s1 z => ?_) fun _ _ e => e))
  have z := str_of_ep z
  cases u with
  | str y t =>
    refine wpAny_bind (wpAny_isInstance (T := "str") (b := true) rfl isSubtype_str_str ?_)
    first
      | exact wpAny_pure ⟨_, rfl, z⟩
      | (rw [if_pos rfl]; exact wpAny_pure ⟨_, rfl, z⟩)
  | _ => exact z.elim

/-! ### != -/
theorem ifBound_B {M : Model} {A : Around} {E : Value → Shared → Prop} {s : Shared} {K : PySem.W.Frag} {x C : Addr} {ox : Obj} {od : Option Obj} {name : Str} {id : String} {args : List Value} {Q : Option Value → Shared → Prop} (KX : K.In s.heap) (I : PySem.W.InstAt s.heap x ox C od) (hs : PySem.W.findIn K (.ref C) name = some (some (.builtin id)))
    (hb : ∀ self, bindSpecial (.builtin id) self = pure (.builtin id, [self])) (h : wpAny M A (call (.builtin id) (.ref x :: args)) (fun v => Q (some v)) E s) : wpAny M A (callSpecialIfBound? (.ref x) name args) Q E s := by
  simp only [callSpecialIfBound?, bindSpecialIfBound?]
  refine wpAny_holding (wpAny_bind (wpAny_bind (wpAny_bind (I.type.here ((PySem.W.looks_findIn KX hs).here (wpAny_bind (wpAny_askSetting (wpAny_ite ?_))))))))
  have fin : wpAny M A (call (.builtin id) ([.ref x] ++ args) >>= fun v => pure (some v)) Q E s := wpAny_bind (wpAny_mono h (fun v s' h' => wpAny_pure h') fun _ _ h' => h')
  split
  · exact wpAny_bind ((PySem.W.Looks.of_pure (hb _)).here (wpAny_pure (by exact fin)))
  · exact wpAny_tryCatch (wpAny_bind ((PySem.W.Looks.of_pure (hb _)).here (wpAny_pure (by exact fin))))
structure NeC (K : PySem.W.Frag) (C f : Addr) : Prop where
  ne : PySem.W.findIn K (.ref C) "__ne__" = some (some (.builtin "object.__ne__"))
  ob : PySem.W.mroIn K C (.type "object") = some true
  eq : DunC K C "__eq__" f
theorem dun_ne {C f : Addr} (hr : X.A.units + 64 < cLine) (d : NeC X.K C f) : DunR2 X C f (act2 (compareOp .NotEq)) kvN 1 := fun pn s σ H a ox od b tb Q J I hb hn h => by
  have one : wpAny (model X.prog X.w) X.A (tryCompare (.ref a) (cmpInfo .NotEq).2.1 b) (fun r s' => ∃ v, r = some v ∧ EP X pn σ Q v s') X.xe s := by
    unfold tryCompare
    refine wpAny_bind (ifBound_B J.kIn I d.ne PySem.F.slot_object_ne.bind (wpAny_call (codeAny_call_builtin PySem.F.slot_object_ne.plain PySem.F.cmpEntry_ne (PySem.W.check_slot (i := "object.__ne__") (owner := "object") (n := "__ne__") (by decide +kernel) (by decide +kernel) (I.type.andThen (PySem.W.looks_mroIn J.kIn d.ob)) (PySem.F.cmpArgs_ne _ _) ?_))))
    unfold Builtin.«object.__ne__»
    refine wpAny_bind (m := slotArgs "__ne__" 1 _) (wpAny_pure ?_)
    dsimp only
    refine wpAny_bind (m := cRoomFor _ _) (wpAny_cRoomFor (by show X.A.units + 1 < cLine; omega) ?_)
    refine wpAny_bind (m := callSpecialIfBound? (.ref a) (Str.ofString "__eq__") [b]) (PySem.W.ifBound_K J.kIn I d.eq.at_ d.eq.fn (wpAny_mono (h s.toks) (fun u s1 z => ?_) fun _ _ e => e))
    obtain ⟨v, H', J', rv, r, e, q⟩ := z
    cases v with
    | bl k =>
      cases e
      have rv : u = Value.bool k := rv
      subst rv
      exact wpAny_bind (m := truthy (.bool k)) (wpAny_truthy_bool (wpAny_pure (wpAny_pure (show ∃ v, some (Value.bool !k) = some v ∧ EP X pn σ Q v s1 from ⟨_, rfl, .bl (!k), H', J', rfl, q⟩))))
    | _ => cases e
  show wpAny (model X.prog X.w) X.A (richCompare .NotEq (.ref a) b) (EP X pn σ Q) X.xe s
  unfold richCompare
  simp only [oneThing_ref]
  refine wpAny_holding (wpAny_bind (wpAny_cRoomFor (by omega) (wpAny_bind (I.type.here (wpAny_bind (hb.here ?_))))))
  split
  · rename_i q
    have e : PySem.W.subIn X.K tb (.ref C) = some false := by
      rcases Bool.or_eq_true_iff.mp hn with e | e
      · rw [beq_iff_eq.mp e] at q; simp at q
      · exact beq_iff_eq.mp e
    refine wpAny_bind ((PySem.W.looks_subIn J.kIn e).here ?_)
    simp only [Bool.false_eq_true, if_false]
    refine wpAny_bind (wpAny_mono one (fun r s' z => ?_) fun _ _ e => e)
    obtain ⟨v, rfl, hq⟩ := z
    exact wpAny_pure hq
  · refine wpAny_bind (wpAny_pure ?_)
    simp only [Bool.false_eq_true, if_false]
    refine wpAny_bind (wpAny_mono one (fun r s' z => ?_) fun _ _ e => e)
    obtain ⟨v, rfl, hq⟩ := z
    exact wpAny_pure hq
/-! ### f-strings -/
structure FmC (K : PySem.W.Frag) (C f : Addr) : Prop where
  fm : PySem.W.findIn K (.ref C) "__format__" = some (some (.builtin "object.__format__"))
  ob : PySem.W.mroIn K C (.type "object") = some true
  st : DunC K C "__str__" f
theorem dun_fmt {C f : Addr} (hr : X.A.units + 64 < cLine) (d : FmC X.K C f) : DunR X C f (act1 fun u => formatField u Str.empty) kvS 1 := fun pn s σ H a ox od Q J I h =>
  PySem.W.kfo_fieldS (by show X.A.units + 1 < cLine; omega) J.kIn I d.fm d.ob d.st.at_ d.st.fn (wpAny_mono (h (s.toks + 1)) (fun _ _ z => str_of_ep z) fun _ _ e => e)
/-- strings, ints -/
def fmtI : List OV → Option OV
  | [.frz (.str y)] => if y.length ≤ szl then some (.frz (.str y)) else none
  | [.frz (.int i)] => strI i
  | _ => none
theorem opN_fmtI : OpN G (fun vs H Q => ∀ σ, SA X (act1 fun u => formatField u Str.empty) σ vs H Q) fmtI := by
  intro H F xs r vs Q sub p e q σ pn s us J rv
  match xs, e, p with
  | [.frz (.str y)], e, p =>
    obtain ⟨v, fx, ev, rx⟩ := one_of p
    subst ev
    by_cases hz : y.length ≤ szl
    · have e : (if y.length ≤ szl then some (OV.frz (.str y)) else none) = some r := e
      rw [if_pos hz] at e
      cases Option.some.inj e
      obtain ⟨_, e1, e2⟩ := rx
      subst e1
      cases rv with
      | cons r1 r2 =>
        cases r2
        obtain ⟨t, rfl⟩ := r1
        exact wpAny_formatField_str ⟨.str y, H, J, ⟨t, rfl⟩, q _ _ (Res.same sub ⟨rfl, e2⟩)⟩ ⟨.str y, H, J.tok _, ⟨_, rfl⟩, q _ _ (Res.same sub ⟨rfl, e2⟩)⟩ hz
    · have e : (if y.length ≤ szl then some (OV.frz (.str y)) else none) = some r := e
      rw [if_neg hz] at e; cases e
  | [.frz (.int i)], e, p =>
    obtain ⟨v, fx, ev, rx⟩ := one_of p
    subst ev
    obtain ⟨h1, h2, h3⟩ := strI_ok e
    subst h3
    obtain ⟨_, e1⟩ := rx
    have e1 : v = .int i := e1
    subst e1
    cases rv with
    | cons r1 r2 =>
      cases r2
      obtain ⟨t, rfl⟩ := r1
      exact wpAny_formatField_int h1 ⟨.str (toString i), H, J.tok _, ⟨_, rfl⟩, q _ _ (Res.same sub ⟨rfl, h2⟩)⟩
/-- {e} -/
theorem snd_fmt {e : Expr} {pos : Pos} {m : TM (List Opd)} {f : List Opd → TM Opd} (hs : isStar e = false) (st : Stp G X (act1 fun u => formatField u Str.empty) f d) (he : SndO G X [e] m c) : Snd G X (.FormattedValue e (-1) none pos) (tb m f) (c && d) := by
  intro σ H F ts fp S W tk Q q pn s J
  have read := rd_app he st S tk q
  rw [SEs_cons hs] at read
  exact wpAny_FormattedValue_plain (thn (read pn s J) fun v s1 ⟨x, H1, J1, r1, q1⟩ => q1 pn s1 [v] J1 (.cons r1 .nil))
/-- the parts one behind the other -/
def tjs : List (TM Opd) → Str → TM Opd
  | [], acc => tp (.val (.frz (.str acc)))
  | m :: ms, acc => tb m fun o s => match o.get s with
    | some (.frz (.str y)) => if acc.length + y.length ≤ szl then tjs ms (acc ++ y) s else .bad
    | _ => .bad
theorem js_run {W : WX} {Q : VK} (tk : Takes X W) : ∀ {es : List Expr} {ms : List (TM Opd)}, Paired (fun e m => ∃ c, Snd G X e m c) es ms → ∀ {acc : Str} {F H : Hp} {ts : Slots} {fp : List Addr}, Sim G F H σ ts fp → sok acc = true → OutP (tjs ms acc ts) (fun o ts' => ∀ v H', AE G F H σ fp false o ts' v H' → Q v H') (XW G W F H σ fp) →
    tJs (es.map (SE X)) acc σ H fun out H1 => Q (.str out) H1
  | [], _, .nil, acc, F, H, ts, fp, S, ha, q => q (.str acc) H (Aft.here S ⟨rfl, rfl, ha⟩)
  | e :: es, _, .cons (b := m) hm hr, acc, F, H, ts, fp, S, ha, q => by
    obtain ⟨c, hm⟩ := hm
    refine hm σ H F ts fp S W tk _ (OutP.mono (OutP.bind (m := m) q) (fun o ts1 q v H1 ae => ?_) fun _ _ q => q)
    obtain ⟨F1, fp1, fo1, S1, k1, nd1, off1, ex1, c1⟩ := ae
    cases g1 : o.get ts1 with
    | none => simp only [g1] at q; exact q.elim
    | some x =>
      simp only [g1] at q
      obtain ⟨fx, rx, _⟩ := get_ok S1 k1 g1
      cases x with
      | frz x =>
        cases x with
        | str y =>
          dsimp only at q
          by_cases hz : acc.length + y.length ≤ szl
          · rw [if_pos hz] at q
            obtain ⟨_, e1, e2⟩ := rx
            refine ⟨y, e1, by rw [Str.length_append]; exact hz, ?_⟩
            refine js_run tk hr S1 (sok_append ha e2) (q.mono (fun o2 ts2 q v H2 ae2 => q v H2 ?_) fun x s2 q => ax_then ex1 q)
            exact (aft_then (c1 := false) ex1 (fun z => by cases z) ae2 : Aft G F H σ fp (false && false) ts2 H2 _)
          · rw [if_neg hz] at q; exact q.elim
        | _ => exact q.elim
      | _ => exact q.elim
theorem paired_PJ : ∀ es : List Expr, PJ X es (es.map (SE X))
  | [] => .nil
  | e :: es => .cons pe_SE (paired_PJ es)
theorem snd_joined {e1 e2 : Expr} {es : List Expr} {pos : Pos} {ms : List (TM Opd)} (h : Paired (fun e m => ∃ c, Snd G X e m c) (e1 :: e2 :: es) ms) : Snd G X (.JoinedStr (e1 :: e2 :: es) pos) (tjs ms Str.empty) false := fun σ H F ts fp S W tk Q q =>
  SE.of (pe_joined (paired_PJ _)) (js_run tk h S (by simp [sok, Str.empty]) q)
theorem snd_joined1 {e : Expr} {pos : Pos} {m : TM Opd} (h : Snd G X e m c) : Snd G X (.JoinedStr [e] pos) m c := fun σ H F ts fp S W tk Q q =>
  SE.of (pe_joined1 pe_SE) (h σ H F ts fp S W tk Q q)
end
end Tv
end

noncomputable section
set_option maxHeartbeats 400000
/-! repr(bool), chains, sorted(dict), {}, constants of the module. -/
namespace Tv
open PySem L2
open PySem (Str Expr Stmt Scope)
def reprB : List OV → Option OV
  | [.frz (.int i)] => strI i
  | [.frz (.bl b)] => some (.frz (.str (if b then "True" else "False")))
  | _ => none
/-- sorted(x), x a list, a tuple or a dict of strings -/
def sort1 (x : OV) : Option OV := match x.els with
  | some ys => (fstrs ys).bind fun xs => if xs.length < 64 then some (strsL (sortL xs)) else none
  | none => match x.dk with
    | some (ks, _) => (fstrs ks).bind fun xs => if xs.length < 64 then some (strsL (sortL xs)) else none
    | none => none
def sortX : List OV → Option OV
  | [x] => sort1 x
  | _ => none
def tdic0 : TM Opd := tp (.val (.dic [] []))
/-- a op1 b op2 c -/
def tchain (f g : OV → OV → Option OV) (c2 : Bool) (a b c : TM Opd) : TM Opd := tb (nofld c2 a) fun oa => tb b fun ob s => match oa.get s, ob.get s with
  | some x, some (.frz y) => match f x (.frz y) with
    | some (.frz (.bl k)) => if k = true then tb c (fun oc s => match oc.get s with
        | some z => match g (.frz y) z with
          | some r => .ok (.val r) s
          | none => .bad
        | none => .bad) s
      else .ok (.val (.frz (.bl false))) s
    | _ => .bad
  | _, _ => .bad
section
variable {G : Gs} {X : Cx} {F H H' : Hp} {σ : L2.St} {ts ts' : Slots} {fp : List Addr} {c d d' : Bool}
theorem opN_reprB : OpN G (SC X (.builtin "repr")) reprB := by
  intro H F xs r vs Q sub p e q pn s σ us J rv
  match xs, e, p with
  | [.frz (.int i)], e, p => exact opN_repr H F [.frz (.int i)] r vs Q sub p e q pn s σ us J rv
  | [.frz (.bl b)], e, p =>
    obtain ⟨v, fx, ev, rx⟩ := one_of p
    subst ev
    obtain ⟨_, e1⟩ := rx
    have e1 : v = .bl b := e1
    subst e1
    cases Option.some.inj e
    cases rv with
    | cons r1 r2 =>
      cases r2
      have r1 : _ = Value.bool b := r1
      subst r1
      exact PySem.P.repr_of_bool ⟨.str (if b then "True" else "False"), H, J.tok _, ⟨_, rfl⟩, q _ _ (Res.same sub ⟨rfl, by cases b <;> kernel_rfl⟩)⟩
theorem opN_sortX (D : X.K = G.K) (hc : X.calm = true) : OpN G (SC X (.builtin "sorted")) sortX := by
  intro H F xs r vs Q sub p e q
  match xs, e, p with
  | [x], e, p =>
    obtain ⟨v, fx, ev, rx⟩ := one_of p
    subst ev
    have e : sort1 x = some r := e
    unfold sort1 at e
    cases z : x.els with
    | some zs =>
      rw [z] at e
      dsimp only at e
      cases zf : fstrs zs with
      | none => rw [zf] at e; cases e
      | some ys =>
        rw [zf] at e
        simp only [Option.bind_some] at e
        by_cases hz : ys.length < 64
        · rw [if_pos hz] at e
          cases Option.some.inj e
          obtain ⟨a, ws, ea, ha, ra⟩ := els_ok sub z rx
          obtain ⟨ew, hk⟩ := fstrs_ok zf ra
          subst ea ew
          exact SC.of cr_sortedS ⟨a, ys, rfl, .of ha, hz, fun zs p pm ss hp => by
            have := sortL_only pm ss
            subst this
            exact q _ _ (Res.newL sub hp (rfs_strs (sok_sortL hk)))⟩
        · rw [if_neg hz] at e; cases e
    | none =>
      rw [z] at e
      dsimp only at e
      cases zd : x.dk with
      | none => rw [zd] at e; cases e
      | some kv =>
        obtain ⟨ks, ws⟩ := kv
        rw [zd] at e
        dsimp only at e
        cases zf : fstrs ks with
        | none => rw [zf] at e; cases e
        | some ys =>
          rw [zf] at e
          simp only [Option.bind_some] at e
          by_cases hz : ys.length < 64
          · rw [if_pos hz] at e
            cases Option.some.inj e
            obtain ⟨a, us, ea, rws, hd⟩ := dk_ok sub zd rx
            subst ea
            rcases hd with ⟨kvs, h1, h2, h3⟩ | ⟨kvs, h1, h2, h3, h4⟩
            · obtain ⟨ek, hk⟩ := fstrs_ok zf h3
              refine SC.of (call_sortedD hc) ⟨a, kvs, ys, rfl, h1, ?_, hz, fun zs p pm ss hp => ?_⟩
              · have key : ∀ (l : List (Key × V)) (m : List Str), (l.map fun q => kV q.1) = m.map V.str → l.map (·.1) = m.map Sum.inr := by
                  intro l
                  induction l with
                  | nil => intro m h; cases m with
                    | nil => rfl
                    | cons _ _ => cases h
                  | cons p l ih =>
                    intro m h
                    cases m with
                    | nil => cases h
                    | cons y m =>
                      injection h with h1 h2
                      have h1 : kV p.1 = V.str y := h1
                      rw [List.map_cons, List.map_cons, ih m h2]
                      congr 1
                      cases hp : p.1 with
                      | inl i => rw [hp] at h1; cases h1
                      | inr z => rw [hp] at h1; cases h1; rfl
                exact key _ _ ek
              · have := sortL_only pm ss
                subst this
                exact q _ _ (Res.newL sub hp (rfs_strs (sok_sortL hk)))
            · exfalso
              cases ks with
              | nil => exact h3 rfl
              | cons k ks =>
                obtain ⟨kk, kr, _, hk, _⟩ := h4
                cases k with
                | str _ => exact hk
                | tup _ => cases zf
                | _ => cases zf
          · rw [if_neg hz] at e; cases e
theorem snd_dic0 {pos : Pos} : Snd G X (.Dict [] [] pos) tdic0 true := by
  intro σ H F ts fp S W tk Q q
  refine SE.of pe_dnewK (fun p hp => q (.ref p) _ ?_)
  have hf : F p = none := S.sub.free hp
  refine ⟨F, fp, [p], S.frame (sub_new S.sub hp) ((ex_new (F := F) hp).less fun a m => by cases m), ⟨p, [], [], rfl, rfl, ⟨rfl, rfl⟩, .inl ⟨[], upd_same, rfl, rfl⟩⟩, ?_, fun a m => by rw [List.mem_singleton.mp m]; exact hf, ⟨SubH.refl _, fun a l _ _ => kp_new hp a l, (ex_new (F := F) hp).live, fun a m => ?_, fun a l => .inl l⟩, fun _ => kp_new hp⟩
  · exact List.nodup_append.mpr ⟨S.nd, by simp, fun a m b m' e => SL.live S.sl a m (by rw [e, List.mem_singleton.mp m']; exact hp)⟩
  · rcases List.mem_append.mp m with z | z
    · exact .inl z
    · exact .inr (by rw [List.mem_singleton.mp z]; exact hp)
theorem snd_con {x : Str} {v : FV} {vv : V} {u : Value} {pos : Pos} (hg : Gl X x) (hm : X.mg x = some u) (r : RelV vv u) (hr : ∀ F, RF G F v vv) (hd : (x == ("__debug__" : Str)) = false) : Snd G X (.Name x pos) (tlit v) true := snd_lit (pe_glob hg hm r hd) hr
theorem chain_rd {a b e : Expr} {r r' : R2} {f g : OV → OV → Option OV} {ma mb mc : TM Opd} {ca cb cc : Bool} (o1 : Op2 G r f) (o2 : Op2 G r' g) (ha : Snd G X a ma ca) (hb : Snd G X b mb cb) (hc : Snd G X e mc cc) {Q : VK} {W : WX} (S : Sim G F H σ ts fp) (tk : Takes X W)
    (q : OutP (tchain f g cb ma mb mc ts) (fun o ts' => ∀ v H', AE G F H σ fp (ca && (cb && cc)) o ts' v H' → Q v H') (XW G W F H σ fp)) : tChain r r' (SE X a) (SE X b) (SE X e) σ H Q := by
  unfold tchain at q
  refine ha σ H F ts fp S W tk _ ((nofld_ok q.bind).mono (fun o ts1 q v H1 ae => ?_) fun _ _ q => q)
  obtain ⟨nf, q⟩ := q
  obtain ⟨F1, fp1, fo, S1, ok1, nd1, off1, ex1, cal1⟩ := ae
  obtain ⟨_, _, dj1⟩ := List.nodup_append.mp nd1
  refine hb σ H1 F1 ts1 fp1 S1 W tk _ (q.bind.mono (fun p2 ts2 q3 u H2 ae2 => ?_) fun x ts2 q3 => ax_then ex1 q3)
  obtain ⟨F2, fp2, fo2, S2, ok2, nd2, off2, ex2, cal2⟩ := ae2
  have stand := ok1.stand nf ex2 (fun a m z => dj1 a z a m rfl) off1 cal2
  cases e1 : o.get ts2 with
  | none => simp only [e1] at q3; exact q3.elim
  | some x =>
    cases e2 : p2.get ts2 with
    | none => simp only [e1, e2] at q3; exact q3.elim
    | some y =>
      simp only [e1, e2] at q3
      cases y with
      | frz y =>
        dsimp only at q3
        cases e3 : f x (.frz y) with
        | none => simp only [e3] at q3; exact q3.elim
        | some r =>
          simp only [e3] at q3
          cases r with
          | frz r =>
            cases r with
            | bl k =>
              dsimp only at q3
              obtain ⟨fx, rx, _⟩ := get_ok S2 stand e1
              obtain ⟨fy, ry, _⟩ := get_ok S2 ok2 e2
              refine o1 H2 F2 x (.frz y) (.frz (.bl k)) v u fx fy _ S2.sub rx ry e3 fun z H3 res => ?_
              have ry : RF G F2 y u := ry.2
              have ex12 : Ex H H2 F F2 fp (fp2 ++ []) := (ex1.trans ex2).less fun a m => by simp only [List.append_nil] at m; simp [m]
              have cal12 : (ca && (cb && cc)) = true → ∀ a, H a ≠ none → H2 a = H a := fun hc => cal_then (cal1 (bth hc).1) (cal2 (bth (bth hc).2).1)
              have res0 := res
              obtain ⟨F3, fo3, sub3, y3, kp3, nd3, off3, e4, r4⟩ := res
              subst e4
              have r4 : z = .bl k := r4
              subst r4
              refine ⟨k, rfl, ?_⟩
              by_cases hk : k = true
              · rw [if_pos hk] at q3 ⊢
                have S3 : Sim G F3 H3 σ ts2 fp2 := S2.frame sub3 (y3.less fun a m => by cases m)
                have ex23 : Ex H2 H3 F2 F3 fp2 fp2 := ⟨y3.sub, fun a l m e => y3.keep a l (by simp) e, y3.live, fun a m => .inl m, fun a l => (y3.fro a l).imp id fun z => z.elim (fun z => by cases z) .inr⟩
                have ex3 : Ex H H3 F F3 fp (fp2 ++ []) := ex12.trans ex23
                refine hc σ H3 F3 ts2 fp2 S3 W tk _ (q3.bind.mono (fun o3 ts4 q4 w' H4 ae4 => ?_) fun x s2 q => ax_then ex3 q)
                obtain ⟨F4, fp4, fo4, S4, ok4, nd4, off4, ex4, cal4⟩ := ae4
                cases e5 : o3.get ts4 with
                | none => simp only [e5] at q4; exact q4.elim
                | some zz =>
                  simp only [e5] at q4
                  cases e6 : g (.frz y) zz with
                  | none => simp only [e6] at q4; exact q4.elim
                  | some r =>
                    simp only [e6] at q4
                    obtain ⟨fz, rz, _⟩ := get_ok S4 ok4 e5
                    refine o2 H4 F4 (.frz y) zz r u w' [] fz Q S4.sub ⟨rfl, RF.mono (y3.sub.trans ex4.sub) _ _ ry⟩ rz e6 fun z5 H5 res5 => q4 z5 H5 (res_aft S4 ((ex3.trans ex4).less fun a m => by simpa using m) (fun hc => cal_then (cal_then (cal12 hc) kp3) (cal4 (bth (bth hc).2).2)) res5)
              · rw [if_neg hk] at q3 ⊢
                have : k = false := by cases k <;> simp_all
                subst this
                exact q3 (.bl false) H3 (res_aft (fo := []) S2 ex12 cal12 res0)
            | _ => exact q3.elim
          | _ => exact q3.elim
      | _ => exact q3.elim
theorem snd_chain {a b e : Expr} {op op' : PySem.CmpOp} {f g : OV → OV → Option OV} {ma mb mc : TM Opd} {ca cb cc : Bool} {pos : Pos} (o1 : Op2 G (SO X (compareOp op)) f) (o2 : Op2 G (SO X (compareOp op')) g) (hm : lastMarks [op, op'] [b, e] = false) (ha : Snd G X a ma ca) (hb : Snd G X b mb cb) (hc : Snd G X e mc cc) :
    Snd G X (.Compare a [op, op'] [b, e] pos) (tchain f g cb ma mb mc) (ca && (cb && cc)) := fun σ H F ts fp S W tk Q q => SE.of (pe_chain opR_SO opR_SO pe_SE pe_SE pe_SE hm) (chain_rd o1 o2 ha hb hc S tk q)
/-- .. as a test -/
theorem sndT_chain {a b e : Expr} {op op' : PySem.CmpOp} {f g : OV → OV → Option OV} {ma mb mc : TM Opd} {ca cb cc : Bool} {pos : Pos} (o1 : Op2 G (SO X (compareOp op)) f) (o2 : Op2 G (SO X (compareOp op')) g) (hm : lastMarks [op, op'] [b, e] = false) (ha : Snd G X a ma ca) (hb : Snd G X b mb cb) (hc : Snd G X e mc cc) :
    SndT G X (.Compare a [op, op'] [b, e] pos) (tbool (tchain f g cb ma mb mc)) (ca && (cb && cc)) := by
  intro σ H F ts fp S W tk Q q
  refine ST.of (pt_chain opR_SO opR_SO pe_SE pe_SE pe_SE hm) ?_
  refine chain_rd o1 o2 ha hb hc S tk (q.bind.mono (fun o ts1 q v H1 ae => ?_) fun _ _ q => q)
  cases e1 : o.get ts1 with
  | none => simp only [e1] at q; exact q.elim
  | some x =>
    simp only [e1] at q
    cases x with
    | frz x =>
      cases x with
      | bl k =>
        obtain ⟨F1, fp1, fo, S1, ok1, nd1, off1, ex1, cal1⟩ := id ae
        obtain ⟨fx, rx, _⟩ := get_ok S1 ok1 e1
        have rx : v = .bl k := rx.2
        exact ⟨k, rx, q H1 (Aft.drop ae fun _ _ => rfl)⟩
      | _ => exact q.elim
    | _ => exact q.elim
end
end Tv
end

noncomputable section
set_option maxHeartbeats 400000
/-! The denotation of syntax. -/
namespace Tv
open PySem L2
open PySem (Str Expr Stmt Scope Keyword Comprehension)
/-! ### what the top holds -/
inductive GK where
  | fn (i : Nat) | cl (c : Nat) | con (v : FV)
/-- a class -/
structure CD where
  nm : Str
  init : Option Nat
  meths : List (Nat × Nat)
  attrs : List Nat
  eq : Option Nat
  str : Option Nat
  repr : Option Nat
  isa : List Nat
/-- a def -/
structure FD where
  name : Str
  qual : Str
  params : PySem.Arguments
  body : List Stmt
  scope : Scope
  g : Sg
  ns : List Str
  dfs : List FV
  kds : List (Str × FV)
  wr : List Nat
  lend : List Nat
structure Tb where
  glob : List (Str × GK)
  free : List Str
  fns : List FD
  cls : List CD
  atts : List Str
abbrev Runs := Nat → List OV → List (Str × FV) → Out OV
structure Rho where
  c : Runs
  m : Runs
  d : Runs
def Tb.reb (T : Tb) (i : Nat) : Nat → Bool := fun j => match T.fns[i]? with
  | some fd => !fd.lend.contains j
  | none => true
def Tb.opt (T : Tb) (r : Runs) (p : CD → Option Nat) : MTab := fun c => match (T.cls[c]?).bind p with
  | some i => some (T.reb i, r i)
  | none => none
def Tb.okA (T : Tb) (n : Nat) : Nat → Bool := fun c => match T.cls[c]? with
  | some d => d.attrs.contains n
  | none => false
def idx (x : Str) : List Str → Nat → Option Nat
  | [], _ => none
  | y :: ys, n => if x == y then some n else idx x ys (n + 1)
def tnames : List String := ["NoneType", "bool", "int", "str", "list", "tuple"]
def Tb.okT (T : Tb) (y : OV) : Bool := match y.tyn with
  | some (.inl n) => tnames.contains n
  | some (.inr c) => decide (c < T.cls.length)
  | none => false
def Tb.okE (T : Tb) (c : Nat) (y : OV) : Bool := decide (c < T.cls.length) && T.okT y
/-- isinstance: of target, by type -/
def Tb.isi (T : Tb) (target : Tyn) : Tyn → Option Bool := fun t => match target, t with
  | .inl a, .inl b => if tnames.contains a && tnames.contains b then some (a == b || (a == "int" && b == "bool")) else none
  | .inl a, .inr c => if tnames.contains a && decide (c < T.cls.length) then some false else none
  | .inr a, .inl b => if decide (a < T.cls.length) && tnames.contains b then some false else none
  | .inr a, .inr c => if decide (a < T.cls.length) then (T.cls[c]?).map fun d => d.isa.contains a else none
/-! ### denotations -/
structure Dn (α : Type) where
  m : TM α
  c : Bool
def Dn.bad {α : Type} : Dn α := ⟨tbad, true⟩
/-- where one stands -/
structure Cxt where
  ns : List Str
  sn : List (Str × NameKind)
  wr : List Nat
  par : Nat
def Cxt.w (C : Cxt) : Nat → Bool := fun i => C.wr.contains i
structure Rec where
  e : Cxt → Expr → Dn Opd
  t : Cxt → Expr → Dn Bool
  g : Cxt → (Nat → Bool) → Expr → Option (OV → TM Unit)
def isVis (C : Cxt) (x : Str) : Bool := match C.sn.lookup x with
  | some .local => true
  | some .cell => true
  | some .free => true
  | _ => false
def isGl (C : Cxt) (x : Str) : Bool := match C.sn.lookup x with
  | some .globalImplicit => true
  | _ => false
def okN (x : Str) : Bool := !(x == ("__debug__" : Str)) && !(x == ("__classdict__" : Str)) && !(x == ("__name__" : Str))
def evSlot (C : Cxt) (x : Str) : Option Nat := if isVis C x && okN x then idx x C.ns 0 else none
def evName (T : Tb) (C : Cxt) (x : Str) : Dn Opd := if isVis C x then match evSlot C x with
    | some i => ⟨tslot i, true⟩
    | none => .bad
  else if isGl C x && okN x then match T.glob.lookup x with
    | some (.con v) => ⟨tlit v, true⟩
    | some (.cl c) => ⟨tlit (.cls c), true⟩
    | _ => .bad
  else .bad
def evConst : PySem.Const → Dn Opd
  | .int i => ⟨tlit (.int i), true⟩
  | .bool b => ⟨tlit (.bl b), true⟩
  | .none => ⟨tlit .non, true⟩
  | .str x => if sok x then ⟨tlit (.str x), true⟩ else .bad
  | _ => .bad
section
variable (T : Tb) (ρ : Rho) (R : Rec) (C : Cxt)
/-- operands -/
def evO : List Expr → Dn (List Opd)
  | [] => ⟨tp [], true⟩
  | .Starred e _ :: es => let a := R.e C e; let r := evO es; ⟨tstar a.m r.m, a.c && r.c⟩
  | e :: es => let a := R.e C e; let r := evO es; ⟨tcons (tkeep r.c a.m) r.m, a.c && r.c⟩
/-- items of a display -/
def evD : List Expr → Dn (List Opd)
  | [] => ⟨tp [], true⟩
  | .Starred e _ :: es => let a := R.e C e; let r := evD es; ⟨tstar a.m r.m, a.c && r.c⟩
  | e :: es => let a := R.e C e; let r := evD es; ⟨tcons (tesc a.m) r.m, a.c && r.c⟩
def evAnd : List Expr → Dn Opd
  | [] => .bad
  | [a] => R.e C a
  | a :: as => let x := R.e C a; let r := evAnd as; ⟨tandv x.m r.m, x.c && r.c⟩
def evOr : List Expr → Dn Opd
  | [] => .bad
  | [a] => R.e C a
  | a :: as => let x := R.e C a; let r := evOr as; ⟨torv x.m r.m, x.c && r.c⟩
def evAndT : List Expr → Dn Bool
  | [] => .bad
  | [a] => R.t C a
  | a :: as => let x := R.t C a; let r := evAndT as; ⟨tand x.m r.m, x.c && r.c⟩
def evOrT : List Expr → Dn Bool
  | [] => .bad
  | [a] => R.t C a
  | a :: as => let x := R.t C a; let r := evOrT as; ⟨tor x.m r.m, x.c && r.c⟩
def isOb (s : Slots) : List Opd → Bool
  | a :: _ => match a.get s with
    | some x => x.ob.isSome
    | none => false
  | [] => false
abbrev Step := (List Opd → TM Opd) × Bool
def pstep (g : List OV → Option OV) : Step := (pureN g, true)
def chB : FV → Option FV
  | .bl b => some (.bl b)
  | _ => none
/-- a op b -/
def bop : PySem.Operator → Option Step
  | .Add => some (pstep (of2 add2))
  | .Sub => some (pstep (of2 sub2))
  | .Mult => some (pstep (of2 mul2))
  | .FloorDiv => some (pstep (of2 fdv2))
  | .Mod => some (pstep (of2 mod2))
  | .Pow => some (pstep (of2 pow2))
  | _ => none
def cop : PySem.CmpOp → Option Step
  | .Eq => some (tor2 isOb (tdun2 (T.opt ρ.d CD.eq) T.okE chB) (pureN (of2 eqx2)), false)
  | .NotEq => some (tor2 isOb (tdun2 (T.opt ρ.d CD.eq) T.okE chNe) (pureN (of2 ne2)), false)
  | .Lt => some (pstep (of2 lt2))
  | .LtE => some (pstep (of2 le2))
  | .Gt => some (pstep (of2 gt2))
  | .GtE => some (pstep (of2 ge2))
  | .In => some (pstep (of2 in2))
  | .NotIn => some (pstep (of2 nin2))
  | .Is => some (pstep (of2 (isn false)))
  | .IsNot => some (pstep (of2 (isn true)))
/-- the pure ones, for chains -/
def cop2 : PySem.CmpOp → Option (OV → OV → Option OV)
  | .Lt => some lt2
  | .LtE => some le2
  | .Gt => some gt2
  | .GtE => some ge2
  | _ => none
/-- built-in functions -/
def bfn (x : Str) : Option (String × Step) :=
  if x == ("len" : Str) then some ("len", pstep lenN) else
  if x == ("abs" : Str) then some ("abs", pstep (i1 iabs)) else
  if x == ("max" : Str) then some ("max", pstep (i2 imax)) else
  if x == ("min" : Str) then some ("min", pstep (i2 imin)) else
  if x == ("all" : Str) then some ("all", pstep (bs1 fun bs => bs.all id)) else
  if x == ("any" : Str) then some ("any", pstep (bs1 fun bs => bs.any id)) else
  if x == ("repr" : Str) then some ("repr", (tor2 isOb (tdun (T.opt ρ.d CD.repr) chS) (pureN reprB), false)) else
  if x == ("sorted" : Str) then some ("sorted", pstep sortX) else none
/-- built-in types -/
def bty (x : Str) : Option (String × Step) :=
  if x == ("int" : Str) then some ("int", pstep intN) else
  if x == ("str" : Str) then some ("str", (tor2 isOb (tdun (T.opt ρ.d CD.str) chS) (pureN strN), false)) else
  if x == ("list" : Str) then some ("list", pstep listN) else
  if x == ("tuple" : Str) then some ("tuple", pstep tupN) else none
/-- methods of built-in types: of how many arguments -/
def bmt (x : Str) (n : Nat) : Option (String × (OV → Bool) × Step) :=
  if x == ("append" : Str) && n == 1 then some ("append", isLst, (tappend, false)) else
  if x == ("extend" : Str) && n == 1 then some ("extend", isLst, (textend, false)) else
  if x == ("join" : Str) && n == 1 then some ("join", isStr, pstep joinN) else
  if x == ("pop" : Str) && n == 0 then some ("pop", isLst, (tpop, false)) else
  if x == ("clear" : Str) && n == 0 then some ("clear", isLst, (tm0 fun _ => [], false)) else
  if x == ("reverse" : Str) && n == 0 then some ("reverse", isLst, (tm0 List.reverse, false)) else none
/-- the names of a comprehension's own -/
def ownOf (ns : List Str) (sc : Scope) : List (Str × Nat) := sc.names.filterMap fun p => match p.2 with
  | .local => (idx p.1 ns 0).map fun i => (p.1, i)
  | .cell => (idx p.1 ns 0).map fun i => (p.1, i)
  | _ => none
def noSetE : Expr → Bool
  | .Set _ _ _ => false
  | _ => true
/-- what is walked -/
def evI (tg : Expr) (iter : Expr) : Option (TM (List FV)) := match iter with
  | .Call (.Name x _) [a] [] _ => if x == ("range" : Str) && isGl C x && T.free.contains x && !isStar a then some (trange1 (evO R C [a]).m) else
      if x == ("enumerate" : Str) && isGl C x && T.free.contains x && !isStar a then match tg with
        | .Tuple _ _ _ => some (tenum (evO R C [a]).m)
        | _ => none
      else some (twalkD (R.e C iter).m)
  | .Call (.Name x _) [a, b] [] _ => if x == ("range" : Str) && isGl C x && T.free.contains x && !isStar a && !isStar b then some (trange2 (evO R C [a, b]).m) else
      if x == ("zip" : Str) && isGl C x && T.free.contains x && !isStar a && !isStar b then match tg with
        | .Tuple _ _ _ => some (tzip (R.e C a).m (R.e C b).m)
        | _ => none
      else some (twalkD (R.e C iter).m)
  | _ => some (twalkD (R.e C iter).m)
/-- the parts of a comprehension of one for -/
structure Cpt where
  m : TM (List FV)
  g : OV → TM Unit
  t : TM Bool
  own : List Nat
  C : Cxt
def blkB (C : Cxt) (scope : Scope) : Bool :=
  (match scope.kind with | .function => true | _ => false) && (scope.names.all fun y => decide (scope.names.lookup y.1 = some y.2)) && ((ownOf C.ns scope).all fun p => decide (C.ns[p.2]? = some p.1)) &&
    (scope.names.all fun y => match y.2 with
      | .free => (match C.sn.lookup y.1 with | some .cell => true | some .free => true | _ => false)
      | .local => decide (y.1 ∈ (ownOf C.ns scope).map (·.1)) || decide (y.1 ∉ C.ns)
      | .cell => decide (y.1 ∈ (ownOf C.ns scope).map (·.1)) || decide (y.1 ∉ C.ns)
      | _ => true)
def evCpt (gs : List Comprehension) (scope : Scope) : Option Cpt := match gs with
  | [⟨tg, iter, ifs, 0⟩] => if blkB C scope && noSetE iter then
      let C' : Cxt := { C with sn := scope.names }
      match evI T R C tg iter, R.g C' (own1 ((ownOf C.ns scope).map (·.2))) tg with
      | some m, some g => match ifs with
        | [] => some ⟨m, g, tp true, (ownOf C.ns scope).map (·.2), C'⟩
        | [d] => some ⟨m, g, (R.t C' d).m, (ownOf C.ns scope).map (·.2), C'⟩
        | _ => none
      | _, _ => none
    else none
  | _ => none
def onlySet : Expr → Option Expr
  | .Call (.Name x _) [e] [] _ => if x == ("set" : Str) && isGl C x && T.free.contains x && !isStar e then some e else none
  | _ => none
def onlySC : Expr → Option (Expr × List Comprehension × Scope)
  | .SetComp elt gs scope _ => some (elt, gs, scope)
  | _ => none
/-- a class, as isinstance is asked for it -/
def evCls : Expr → Option Tyn
  | .Name x _ => if isGl C x && okN x then match T.glob.lookup x with
      | some (.cl c) => some (.inr c)
      | some _ => none
      | none => if T.free.contains x then (if x == ("int" : Str) then some (.inl "int") else if x == ("str" : Str) then some (.inl "str") else if x == ("bool" : Str) then some (.inl "bool") else
          if x == ("list" : Str) then some (.inl "list") else if x == ("tuple" : Str) then some (.inl "tuple") else none) else none
    else none
  | _ => none
/-- f(..), f a name -/
def evCallN (x : Str) (es : List Expr) (kws : List Keyword) : Dn Opd :=
  if isGl C x && okN x then match T.glob.lookup x with
    | some (.fn i) => if argsOk es kws && kwOk kws then let m := evO R C (es ++ kws.map (·.value)); ⟨tb m.m (tcall (T.reb i) (ρ.c i) (kwNames kws)), false⟩ else .bad
    | some (.cl c) => match (T.cls[c]?).bind CD.init with
      | some i => if argsOk es kws && kwOk kws then let m := evO R C (es ++ kws.map (·.value)); ⟨tb m.m (tmake c (T.reb i) (ρ.m i) (kwNames kws)), false⟩ else .bad
      | none => .bad
    | some (.con _) => .bad
    | none => if T.free.contains x && kws.isEmpty then match es with
      | [e, e2] => if x == ("isinstance" : Str) && !isStar e && !isStar e2 then match evCls T C e2 with
          | some t => let m := evO R C [e]; ⟨tb m.m (pureN (isiN (T.isi t))), m.c && true⟩
          | none => .bad
        else match bfn T ρ x with
          | some (_, st) => if es.all fun e => !isStar e then let m := evO R C es; ⟨tb m.m st.1, m.c && st.2⟩ else .bad
          | none => .bad
      | [e] => match onlySC e with
        | some (elt, gs, scope) => if x == ("sorted" : Str) then match evCpt T R C gs scope with
            | some p => ⟨tb (tac p.m p.g p.t (elS (R.e p.C elt).m) p.own []) srt, false⟩
            | none => .bad
          else .bad
        | none => match onlySet T C e with
          | some e1 => if x == ("sorted" : Str) then ⟨tset (R.e C e1).m srt, false⟩ else if x == ("len" : Str) then ⟨tset (R.e C e1).m fun xs => tp (.val (fint (dd xs).length)), false⟩ else .bad
          | none => if isStar e then .bad else match bfn T ρ x with
            | some (_, st) => let m := evO R C [e]; ⟨tb m.m st.1, m.c && st.2⟩
            | none => match bty T ρ x with
              | some (_, st) => let m := evO R C [e]; ⟨tb m.m st.1, m.c && st.2⟩
              | none => .bad
      | _ => .bad
    else .bad
  else .bad
def evCallA (o : Expr) (a : Str) (apos pos : Pos) (es : List Expr) (kws : List Keyword) : Dn Opd :=
  match bmt a es.length with
  | some (_, ty, st) => if bnode o apos pos es && kws.isEmpty then let mo := R.e C o; let ma := evO R C es; ⟨tbm ty st.1 ma.c mo.m ma.m, mo.c && ma.c && st.2⟩ else .bad
  | none => match idx a T.atts 0 with
    | some n => if mnode o apos pos es kws && argsOk es kws && kwOk kws then let mo := R.e C o; let ma := evO R C (es ++ kws.map (·.value)); ⟨tmeth (T.opt ρ.c fun d => d.meths.lookup n) n (kwNames kws) ma.c mo.m ma.m, false⟩ else .bad
    | none => .bad
def noSuper : Expr → Bool
  | .Call (.Name id _) [] [] _ => id != ("super" : Str)
  | _ => true
def cint : Option Expr → Option (Option Int)
  | none => some none
  | some (.Constant (.int i) _ _) => some (some i)
  | some (.UnaryOp .USub (.Constant (.int i) _ _) _) => some (some (-i))
  | _ => none
def evSub (a : Expr) : Expr → Dn Opd
  | .Slice none none (some (.UnaryOp .USub (.Constant (.int i) _ _) _)) _ => if i == 1 then let m := R.e C a; ⟨t1 revF m.m, m.c⟩ else .bad
  | .Slice lo hi none _ => match cint lo, cint hi with
    | some l, some u => let m := R.e C a; ⟨t1 (slF l u) m.m, m.c⟩
    | _, _ => .bad
  | b => if noSl b && !isStar a && !isStar b then let m := evO R C [a, b]; ⟨tb m.m (pureN (of2 ix2)), m.c⟩ else .bad
def evBin (a : Expr) (op : PySem.Operator) (b : Expr) : Dn Opd := match bop op with
  | some st => if !isStar a && !isStar b then let m := evO R C [a, b]; ⟨tb m.m st.1, m.c && st.2⟩ else .bad
  | none => .bad
def evCmp (a : Expr) (op : PySem.CmpOp) (b : Expr) : Dn Opd := match cop T ρ op with
  | some st => if !behindInMarks op b && !isStar a && !isStar b then let m := evO R C [a, b]; ⟨tb m.m st.1, m.c && st.2⟩ else .bad
  | none => .bad
def evCmpT (a : Expr) (op : PySem.CmpOp) (b : Expr) : Dn Bool := match cop T ρ op with
  | some st => if !behindInMarks op b && !isStar a && !isStar b then let m := evO R C [a, b]; ⟨tbool (tb m.m st.1), m.c && st.2⟩ else .bad
  | none => .bad
def evChn (a : Expr) (op op' : PySem.CmpOp) (b c : Expr) : Dn Opd := match cop2 op, cop2 op' with
  | some f, some g => if !lastMarks [op, op'] [b, c] then let x := R.e C a; let y := R.e C b; let z := R.e C c; ⟨tchain f g y.c x.m y.m z.m, x.c && (y.c && z.c)⟩ else .bad
  | _, _ => .bad
def evChnT (a : Expr) (op op' : PySem.CmpOp) (b c : Expr) : Dn Bool := match cop2 op, cop2 op' with
  | some f, some g => if !lastMarks [op, op'] [b, c] then let x := R.e C a; let y := R.e C b; let z := R.e C c; ⟨tbool (tchain f g y.c x.m y.m z.m), x.c && (y.c && z.c)⟩ else .bad
  | _, _ => .bad
def evAtt (e : Expr) (f : Str) : Dn Opd := match idx f T.atts 0 with
  | some n => if noSuper e then let m := R.e C e; ⟨tattr (T.okA n) n m.m, m.c⟩ else .bad
  | none => .bad
def evLc (elt : Expr) (gs : List Comprehension) (scope : Scope) : Dn Opd := match evCpt T R C gs scope with
  | some p => ⟨tlc p.m p.g p.t (R.e p.C elt).m p.own, false⟩
  | none => .bad
def evFv (e : Expr) (c : Int) : Dn Opd := if c == -1 && !isStar e then let m := evO R C [e]; ⟨tb m.m (tor2 isOb (tdun (T.opt ρ.d CD.str) chS) (pureN fmtI)), m.c && false⟩ else .bad
def evJs : List Expr → Dn Opd
  | [] => .bad
  | [e] => R.e C e
  | a :: b :: r => ⟨tjs ((a :: b :: r).map fun e => (R.e C e).m) Str.empty, false⟩
/-- one step of the denotation of expressions -/
def stE : Expr → Dn Opd
  | .Constant c _ _ => evConst c
  | .Name x _ => evName T C x
  | .BoolOp .And vs _ => evAnd R C vs
  | .BoolOp .Or vs _ => evOr R C vs
  | .UnaryOp .Not a _ => ⟨tnotv (R.e C a).m, (R.e C a).c⟩
  | .UnaryOp .USub a _ => ⟨t1 neg1 (R.e C a).m, (R.e C a).c⟩
  | .BinOp a op b _ => evBin R C a op b
  | .Compare a [op] [b] _ => evCmp T ρ R C a op b
  | .Compare a [op, op'] [b, c] _ => evChn R C a op op' b c
  | .IfExp t a b _ => ⟨tite (R.t C t).m (R.e C a).m (R.e C b).m, (R.t C t).c && ((R.e C a).c && (R.e C b).c)⟩
  | .List es _ => ⟨tlist (evD R C es).m, (evD R C es).c⟩
  | .Tuple es _ _ => ⟨ttuple (evD R C es).m, (evD R C es).c⟩
  | .Dict [] [] _ => ⟨tdic0, true⟩
  | .Attribute e f _ => evAtt T R C e f
  | .Subscript a b _ => evSub R C a b
  | .Call (.Name x _) es kws _ => evCallN T ρ R C x es kws
  | .Call (.Attribute o a apos) es kws pos => evCallA T ρ R C o a apos pos es kws
  | .ListComp elt gs scope _ => evLc T R C elt gs scope
  | .FormattedValue e c none _ => evFv T ρ R C e c
  | .JoinedStr es _ => evJs R C es
  | _ => .bad
/-- .. of tests -/
def stT : Expr → Dn Bool
  | .BoolOp .And vs _ => evAndT R C vs
  | .BoolOp .Or vs _ => evOrT R C vs
  | .UnaryOp .Not a _ => ⟨tnot (R.t C a).m, (R.t C a).c⟩
  | .Compare a [op] [b] _ => evCmpT T ρ R C a op b
  | .Compare a [op, op'] [b, c] _ => evChnT R C a op op' b c
  | .IfExp _ _ _ _ => .bad
  | .Compare _ _ _ _ => .bad
  | e => ⟨ttru (R.e C e).m, (R.e C e).c⟩
/-- .. of targets -/
def gLst (w : Nat → Bool) : List Expr → Option (List (OV → TM Unit))
  | [] => some []
  | e :: es => if isStar e then none else match R.g C w e, gLst w es with
    | some g, some gs => some (g :: gs)
    | _, _ => none
def stG (w : Nat → Bool) : Expr → Option (OV → TM Unit)
  | .Name x _ => match C.sn.lookup x with
    | some .local => (idx x C.ns 0).map (gname w)
    | some .cell => (idx x C.ns 0).map (gname w)
    | _ => none
  | .Tuple es _ _ => (gLst R C w es).map fun gs => gtup (gall gs) es.length
  | _ => none
end
def recBad : Rec := ⟨fun _ _ => .bad, fun _ _ => .bad, fun _ _ _ => none⟩
def stR (T : Tb) (ρ : Rho) (R : Rec) : Rec := ⟨stE T ρ R, stT T ρ R, fun C w e => stG R C w e⟩
def evR (T : Tb) (ρ : Rho) : Nat → Rec
  | 0 => recBad
  | n + 1 => stR T ρ (evR T ρ n)
end Tv
end

noncomputable section
set_option maxHeartbeats 400000
/-! The denotation of expressions is sound. -/
namespace Tv
open PySem L2
open PySem (Str Expr Stmt Scope Keyword Comprehension)
/-- what is asked of the top -/
structure TopOk (T : Tb) (G : Gs) (mg : Str → Option Value) (fad : Nat → Addr) : Prop where
  att : ∀ n x, T.atts[n]? = some x → G.att n = x
  gfn : ∀ x i, T.glob.lookup x = some (.fn i) → (∃ fd, T.fns[i]? = some fd) ∧ mg x = some (.ref (fad i)) ∧ PySem.W.keepIn G.K (.ref (fad i)) = true
  gcl : ∀ x c, T.glob.lookup x = some (.cl c) → c < T.cls.length ∧ mg x = some (.ref (G.cad c))
  con : ∀ x v, T.glob.lookup x = some (.con v) → ∃ vv u, mg x = some u ∧ RelV vv u ∧ ∀ F, RF G F v vv
  free : ∀ x, T.free.contains x = true → mg x = none
  cls : ∀ c, c < T.cls.length → Cls G.K (G.cad c) ∧ IsiC G.K (G.cad c)
  noat : ∀ c n, T.okA n c = true → NoAttr G.K (G.cad c) (G.att n)
  meth : ∀ c d n i, T.cls[c]? = some d → d.meths.lookup n = some i → (∃ fd, T.fns[i]? = some fd) ∧ Meth G.K (G.cad c) (G.att n) (fad i)
  mkr : ∀ c d i, T.cls[c]? = some d → d.init = some i → (∃ fd m, T.fns[i]? = some fd ∧ fd.g.ps.length = m + 1) ∧ Mk G.K (G.cad c) (fad i)
  eq : ∀ c d i, T.cls[c]? = some d → d.eq = some i → (∃ fd, T.fns[i]? = some fd) ∧ NeC G.K (G.cad c) (fad i)
  str : ∀ c d i, T.cls[c]? = some d → d.str = some i → (∃ fd, T.fns[i]? = some fd) ∧ FmC G.K (G.cad c) (fad i)
  repr : ∀ c d i, T.cls[c]? = some d → d.repr = some i → (∃ fd, T.fns[i]? = some fd) ∧ DunC G.K (G.cad c) "__repr__" (fad i)
  nf : ∀ c t, c < T.cls.length → ((∃ n, t = .inl n ∧ tnames.contains n = true) ∨ ∃ a, t = .inr a ∧ a < T.cls.length) → PySem.W.notFirst G.K (G.cad c) (tyV G t) = true
  isi : ∀ t t' b, T.isi t t' = some b → PySem.W.kitOne G.K (tyV G t') (tyV G t) = some b
def Cal (T : Tb) (G : Gs) (P : Program) (w : World) (mg : Str → Option Value) (base : Heap) (fad : Nat → Addr) (k : Nat) (r : Runs) : Prop := ∀ i fd, T.fns[i]? = some fd → CalT G P w mg base k fd.g.ps.length (fad i) (r i)
section
variable {T : Tb} {G : Gs} {P : Program} {w : World} {mg : Str → Option Value} {base : Heap} {fad : Nat → Addr} {n : Nat} {ρ : Rho} {R : Rec} {X : Cx} {C : Cxt} {c : Bool}
/-- R tells the truth -/
structure RecOk (G : Gs) (P : Program) (w : World) (mg : Str → Option Value) (base : Heap) (k : Nat) (R : Rec) : Prop where
  e : ∀ (X : Cx) (C : Cxt), GoodC G P w mg base k C.ns C.sn X → ∀ e, Snd G X e (R.e C e).m (R.e C e).c
  t : ∀ (X : Cx) (C : Cxt), GoodC G P w mg base k C.ns C.sn X → ∀ e, SndT G X e (R.t C e).m (R.t C e).c
  g : ∀ (X : Cx) (C : Cxt) (wr : Nat → Bool), GoodC G P w mg base k C.ns C.sn X → ∀ e g, R.g C wr e = some g → SndG G X e g wr
theorem snd_bad {e : Expr} : Snd G X e (Dn.bad (α := Opd)).m (Dn.bad (α := Opd)).c := fun σ H F ts fp S W tk Q q => q.elim
theorem sndT_bad {e : Expr} : SndT G X e (Dn.bad (α := Bool)).m (Dn.bad (α := Bool)).c := fun σ H F ts fp S W tk Q q => q.elim
theorem bth3 {a b c : Bool} (h : (a && b && c) = true) : a = true ∧ b = true ∧ c = true := by
  obtain ⟨h1, h2⟩ := bth h
  exact ⟨(bth h1).1, (bth h1).2, h2⟩
theorem nt {a : Bool} (h : (!a) = true) : a = false := by cases a <;> first | rfl | cases h
/-! ### names -/
variable (Gd : GoodC G P w mg base (n + 4) C.ns C.sn X)
theorem GoodC.std {k : Nat} (Gd : GoodC G P w mg base k C.ns C.sn X) : Std G X k := ⟨Gd.K, Gd.calm, Gd.room, Gd.gd, by rw [Gd.nm]; exact Gd.nd⟩
theorem isVis_ok {k : Nat} (Gd : GoodC G P w mg base k C.ns C.sn X) {x : Str} (h : isVis C x = true) : Vis X.env.scope x := by
  unfold isVis at h
  cases e : C.sn.lookup x with
  | none => rw [e] at h; cases h
  | some kd =>
    rw [e] at h
    have q := Gd.sc x kd e
    cases kd with
    | «local» => exact q.elim .inl fun z => nomatch z.1
    | cell => exact q.elim (fun q => .inr (.inl q)) fun z => nomatch z.1
    | free => exact q.elim (fun q => .inr (.inr q)) fun z => .inr (.inl z.2)
    | _ => cases h
theorem isGl_ok {k : Nat} (Gd : GoodC G P w mg base k C.ns C.sn X) {x : Str} (h : isGl C x = true) : Gl X x := by
  unfold isGl at h
  cases e : C.sn.lookup x with
  | none => rw [e] at h; cases h
  | some kd =>
    rw [e] at h
    have q := Gd.sc x kd e
    cases kd with
    | globalImplicit => exact q.elim id fun z => nomatch z.1
    | _ => cases h
theorem idx_ok {x : Str} : ∀ {l : List Str} {m i : Nat}, idx x l m = some i → m ≤ i ∧ l[i - m]? = some x
  | [], _, _, h => by cases h
  | y :: ys, m, i, h => by
    unfold idx at h
    by_cases z : (x == y) = true
    · rw [if_pos z] at h
      cases h
      rw [beq_iff_eq.mp z]
      simp
    · rw [if_neg z] at h
      obtain ⟨h1, h2⟩ := idx_ok h
      refine ⟨by omega, ?_⟩
      have : i - m = (i - (m + 1)) + 1 := by omega
      rw [this]
      exact h2
theorem okN_ok {x : Str} (h : okN x = true) : (x == ("__debug__" : Str)) = false ∧ (x == ("__classdict__" : Str)) = false ∧ x ≠ "__name__" := by
  unfold okN at h
  obtain ⟨h1, h2, h3⟩ := bth3 h
  exact ⟨nt h1, nt h2, fun z => by rw [z] at h3; simp at h3⟩
theorem ok_name (TK : TopOk T G mg fad) {k : Nat} (Gd : GoodC G P w mg base k C.ns C.sn X) {x : Str} {pos : Pos} : Snd G X (.Name x pos) (evName T C x).m (evName T C x).c := by
  unfold evName
  by_cases hv : isVis C x = true
  · rw [if_pos hv]
    unfold evSlot
    by_cases ho : okN x = true
    · rw [hv, ho]
      rw [if_pos (by rfl)]
      cases e : idx x C.ns 0 with
      | none => exact snd_bad
      | some i =>
        obtain ⟨h1, h2, _⟩ := okN_ok ho
        exact snd_name (by rw [Gd.nm]; exact (idx_ok e).2) (isVis_ok Gd hv) h1 h2
    · rw [hv]
      rw [if_neg (by simpa using ho)]
      exact snd_bad
  · rw [if_neg hv]
    by_cases hg : (isGl C x && okN x) = true
    · rw [if_pos hg]
      obtain ⟨g1, g2⟩ := bth hg
      obtain ⟨h1, h2, _⟩ := okN_ok g2
      cases e : T.glob.lookup x with
      | none => exact snd_bad
      | some g =>
        cases g with
        | fn i => exact snd_bad
        | cl cc =>
          obtain ⟨_, hm⟩ := TK.gcl x cc e
          exact snd_con (isGl_ok Gd g1) (by rw [Gd.mg]; exact hm) (vv := .ref (G.cad cc)) rfl (fun F => rfl) h1
        | con v =>
          obtain ⟨vv, u, hm, r, hr⟩ := TK.con x v e
          exact snd_con (isGl_ok Gd g1) (by rw [Gd.mg]; exact hm) r hr h1
    · rw [if_neg hg]; exact snd_bad
theorem ok_const {k : PySem.Const} {j : Nat} {pos : Pos} : Snd G X (.Constant k j pos) (evConst k).m (evConst k).c := by
  cases k with
  | int i => exact snd_int
  | bool b => exact snd_bl
  | none => exact snd_non
  | str x =>
    unfold evConst
    dsimp only
    by_cases h : sok x = true
    · rw [if_pos h]; exact snd_str h
    · rw [if_neg h]; exact snd_bad
  | _ => exact snd_bad
/-! ### operands -/
section
variable (RO : RecOk G P w mg base (n + 4) R)
include RO
theorem ok_evO (Gd : GoodC G P w mg base (n + 4) C.ns C.sn X) : ∀ es : List Expr, SndO G X es (evO R C es).m (evO R C es).c
  | [] => sndo_nil
  | .Starred e p :: es => sndo_star Gd.K (RO.e X C Gd e) (ok_evO Gd es)
  | .BoolOp _ _ _ :: es => sndo_cons rfl (RO.e X C Gd _) (ok_evO Gd es)
  | .NamedExpr _ _ _ :: es => sndo_cons rfl (RO.e X C Gd _) (ok_evO Gd es)
  | .BinOp _ _ _ _ :: es => sndo_cons rfl (RO.e X C Gd _) (ok_evO Gd es)
  | .UnaryOp _ _ _ :: es => sndo_cons rfl (RO.e X C Gd _) (ok_evO Gd es)
  | .Lambda _ _ _ _ :: es => sndo_cons rfl (RO.e X C Gd _) (ok_evO Gd es)
  | .IfExp _ _ _ _ :: es => sndo_cons rfl (RO.e X C Gd _) (ok_evO Gd es)
  | .Dict _ _ _ :: es => sndo_cons rfl (RO.e X C Gd _) (ok_evO Gd es)
  | .Set _ _ _ :: es => sndo_cons rfl (RO.e X C Gd _) (ok_evO Gd es)
  | .ListComp _ _ _ _ :: es => sndo_cons rfl (RO.e X C Gd _) (ok_evO Gd es)
  | .SetComp _ _ _ _ :: es => sndo_cons rfl (RO.e X C Gd _) (ok_evO Gd es)
  | .DictComp _ _ _ _ _ :: es => sndo_cons rfl (RO.e X C Gd _) (ok_evO Gd es)
  | .GeneratorExp _ _ _ _ :: es => sndo_cons rfl (RO.e X C Gd _) (ok_evO Gd es)
  | .Await _ _ :: es => sndo_cons rfl (RO.e X C Gd _) (ok_evO Gd es)
  | .Yield _ _ :: es => sndo_cons rfl (RO.e X C Gd _) (ok_evO Gd es)
  | .YieldFrom _ _ :: es => sndo_cons rfl (RO.e X C Gd _) (ok_evO Gd es)
  | .Compare _ _ _ _ :: es => sndo_cons rfl (RO.e X C Gd _) (ok_evO Gd es)
  | .Call _ _ _ _ :: es => sndo_cons rfl (RO.e X C Gd _) (ok_evO Gd es)
  | .FormattedValue _ _ _ _ :: es => sndo_cons rfl (RO.e X C Gd _) (ok_evO Gd es)
  | .JoinedStr _ _ :: es => sndo_cons rfl (RO.e X C Gd _) (ok_evO Gd es)
  | .Constant _ _ _ :: es => sndo_cons rfl (RO.e X C Gd _) (ok_evO Gd es)
  | .Attribute _ _ _ :: es => sndo_cons rfl (RO.e X C Gd _) (ok_evO Gd es)
  | .Subscript _ _ _ :: es => sndo_cons rfl (RO.e X C Gd _) (ok_evO Gd es)
  | .Name _ _ :: es => sndo_cons rfl (RO.e X C Gd _) (ok_evO Gd es)
  | .List _ _ :: es => sndo_cons rfl (RO.e X C Gd _) (ok_evO Gd es)
  | .Tuple _ _ _ :: es => sndo_cons rfl (RO.e X C Gd _) (ok_evO Gd es)
  | .Slice _ _ _ _ :: es => sndo_cons rfl (RO.e X C Gd _) (ok_evO Gd es)
theorem ok_evD (Gd : GoodC G P w mg base (n + 4) C.ns C.sn X) : ∀ es : List Expr, SndO G X es (evD R C es).m (evD R C es).c
  | [] => sndo_nil
  | .Starred e p :: es => sndo_star Gd.K (RO.e X C Gd e) (ok_evD Gd es)
  | .BoolOp _ _ _ :: es => sndo_item rfl (RO.e X C Gd _) (ok_evD Gd es)
  | .NamedExpr _ _ _ :: es => sndo_item rfl (RO.e X C Gd _) (ok_evD Gd es)
  | .BinOp _ _ _ _ :: es => sndo_item rfl (RO.e X C Gd _) (ok_evD Gd es)
  | .UnaryOp _ _ _ :: es => sndo_item rfl (RO.e X C Gd _) (ok_evD Gd es)
  | .Lambda _ _ _ _ :: es => sndo_item rfl (RO.e X C Gd _) (ok_evD Gd es)
  | .IfExp _ _ _ _ :: es => sndo_item rfl (RO.e X C Gd _) (ok_evD Gd es)
  | .Dict _ _ _ :: es => sndo_item rfl (RO.e X C Gd _) (ok_evD Gd es)
  | .Set _ _ _ :: es => sndo_item rfl (RO.e X C Gd _) (ok_evD Gd es)
  | .ListComp _ _ _ _ :: es => sndo_item rfl (RO.e X C Gd _) (ok_evD Gd es)
  | .SetComp _ _ _ _ :: es => sndo_item rfl (RO.e X C Gd _) (ok_evD Gd es)
  | .DictComp _ _ _ _ _ :: es => sndo_item rfl (RO.e X C Gd _) (ok_evD Gd es)
  | .GeneratorExp _ _ _ _ :: es => sndo_item rfl (RO.e X C Gd _) (ok_evD Gd es)
  | .Await _ _ :: es => sndo_item rfl (RO.e X C Gd _) (ok_evD Gd es)
  | .Yield _ _ :: es => sndo_item rfl (RO.e X C Gd _) (ok_evD Gd es)
  | .YieldFrom _ _ :: es => sndo_item rfl (RO.e X C Gd _) (ok_evD Gd es)
  | .Compare _ _ _ _ :: es => sndo_item rfl (RO.e X C Gd _) (ok_evD Gd es)
  | .Call _ _ _ _ :: es => sndo_item rfl (RO.e X C Gd _) (ok_evD Gd es)
  | .FormattedValue _ _ _ _ :: es => sndo_item rfl (RO.e X C Gd _) (ok_evD Gd es)
  | .JoinedStr _ _ :: es => sndo_item rfl (RO.e X C Gd _) (ok_evD Gd es)
  | .Constant _ _ _ :: es => sndo_item rfl (RO.e X C Gd _) (ok_evD Gd es)
  | .Attribute _ _ _ :: es => sndo_item rfl (RO.e X C Gd _) (ok_evD Gd es)
  | .Subscript _ _ _ :: es => sndo_item rfl (RO.e X C Gd _) (ok_evD Gd es)
  | .Name _ _ :: es => sndo_item rfl (RO.e X C Gd _) (ok_evD Gd es)
  | .List _ _ :: es => sndo_item rfl (RO.e X C Gd _) (ok_evD Gd es)
  | .Tuple _ _ _ :: es => sndo_item rfl (RO.e X C Gd _) (ok_evD Gd es)
  | .Slice _ _ _ _ :: es => sndo_item rfl (RO.e X C Gd _) (ok_evD Gd es)
theorem ok_and (Gd : GoodC G P w mg base (n + 4) C.ns C.sn X) {pos : Pos} : ∀ vs : List Expr, Snd G X (.BoolOp .And vs pos) (evAnd R C vs).m (evAnd R C vs).c
  | [] => snd_bad
  | [a] => snd_and1 (RO.e X C Gd a)
  | a :: b :: r => snd_and (RO.e X C Gd a) (ok_and Gd (b :: r))
theorem ok_or (Gd : GoodC G P w mg base (n + 4) C.ns C.sn X) {pos : Pos} : ∀ vs : List Expr, Snd G X (.BoolOp .Or vs pos) (evOr R C vs).m (evOr R C vs).c
  | [] => snd_bad
  | [a] => snd_and1 (RO.e X C Gd a)
  | a :: b :: r => snd_or (RO.e X C Gd a) (ok_or Gd (b :: r))
theorem ok_andT (Gd : GoodC G P w mg base (n + 4) C.ns C.sn X) {pos : Pos} : ∀ vs : List Expr, SndW G X (.BoolOp .And vs pos) (evAndT R C vs).m (evAndT R C vs).c
  | [] => fun σ H F ts fp S W tk Q q => q.elim
  | [a] => sndw_and1 (RO.t X C Gd a)
  | a :: b :: r => sndw_and (RO.t X C Gd a) (ok_andT Gd (b :: r))
theorem ok_orT (Gd : GoodC G P w mg base (n + 4) C.ns C.sn X) {pos : Pos} : ∀ vs : List Expr, SndW G X (.BoolOp .Or vs pos) (evOrT R C vs).m (evOrT R C vs).c
  | [] => fun σ H F ts fp S W tk Q q => q.elim
  | [a] => sndw_or1 (RO.t X C Gd a)
  | a :: b :: r => sndw_or (RO.t X C Gd a) (ok_orT Gd (b :: r))
end
/-! ### steps -/
theorem bop_ok {k : Nat} (D : Std G X k) {op : PySem.Operator} {st : Step} (h : bop op = some st) : Stp G X (act2 (binaryOp op)) st.1 st.2 := by
  cases op with
  | Add => cases h; exact stp_bin (op_add_ok D)
  | Sub => cases h; exact stp_bin op_sub_ok
  | Mult => cases h; exact stp_bin op_mul_ok
  | FloorDiv => cases h; exact stp_bin op_fdv_ok
  | Mod => cases h; exact stp_bin op_mod_ok
  | Pow => cases h; exact stp_bin op_pow_ok
  | _ => cases h
theorem chB_ok (F : Hp) (x u : FV) (v : V) (r : RF G F x v) (e : chB x = some u) : ∃ z, (fun v : V => match v with | .bl b => some (V.bl b) | _ => none) v = some z ∧ RF G F u z := by
  cases x with
  | bl z => cases e; have r : v = .bl z := r; subst r; exact ⟨.bl z, rfl, rfl⟩
  | _ => cases e
theorem tyv_of {y : OV} {t : Tyn} (h : y.tyn = some t) : y.tyv G = some (tyV G t) := by
  cases y with
  | frz v => cases v <;> first | (cases h; rfl) | cases h
  | lst _ => cases h; rfl
  | tup _ => cases h; rfl
  | obj _ _ _ => cases h; rfl
  | dic _ _ => cases h
theorem okE_ok (TK : TopOk T G mg fad) (hK : X.K = G.K) : ∀ cc y, T.okE cc y = true → ∃ t, y.tyv G = some t ∧ PySem.W.notFirst X.K (G.cad cc) t = true := fun cc y h => by
  unfold Tb.okE at h
  obtain ⟨h1, h2⟩ := bth h
  have h1 := of_decide_eq_true h1
  unfold Tb.okT at h2
  cases e : y.tyn with
  | none => rw [e] at h2; cases h2
  | some t =>
    rw [e] at h2
    refine ⟨_, tyv_of e, ?_⟩
    rw [hK]
    refine TK.nf cc t h1 ?_
    cases t with
    | inl nm => exact .inl ⟨nm, rfl, h2⟩
    | inr a => exact .inr ⟨a, rfl, of_decide_eq_true h2⟩
theorem dun_eq {C f : Addr} (hr : X.A.units + 64 < cLine) (d : DunC X.K C "__eq__" f) : DunR2 X C f (act2 (compareOp .Eq)) (fun v : V => match v with | .bl b => some (V.bl b) | _ => none) 0 := fun pn s σ H a ox od b tb Q J I hb hn h => by
  obtain ⟨m, hF⟩ := J.fr
  refine PySem.W.cmp_K (op := .Eq) (by omega) hF J.ok.mod.kin I hb hn d.at_ d.fn (wpAny_mono (h s.toks) (fun u s1 z => ?_) fun _ _ e => e)
  obtain ⟨v, H', J', rv, r, e, q⟩ := z
  cases v with
  | bl k =>
    cases e
    have rv : u = Value.bool k := rv
    subst rv
    exact ⟨.bl k, H', J', rfl, q⟩
  | _ => cases e
theorem opt_ok {p : CD → Option Nat} {r : Runs} {cc : Nat} {pr : (Nat → Bool) × (List OV → List (Str × FV) → Out OV)} (h : T.opt r p cc = some pr) : ∃ d i, T.cls[cc]? = some d ∧ p d = some i ∧ pr = (T.reb i, r i) := by
  unfold Tb.opt at h
  cases e : T.cls[cc]? with
  | none => rw [e] at h; cases h
  | some d =>
    rw [e] at h
    cases e2 : p d with
    | none => simp [e2] at h
    | some i => simp only [Option.bind_some, e2] at h; exact ⟨d, i, rfl, e2, (Option.some.inj h).symm⟩
theorem cop_ok (TK : TopOk T G mg fad) (hd : Cal T G P w mg base fad n ρ.d) (Gd : GoodC G P w mg base (n + 4) C.ns C.sn X) {op : PySem.CmpOp} {st : Step} (h : cop T ρ op = some st) : Stp G X (act2 (compareOp op)) st.1 st.2 := by
  have D := GoodC.std Gd
  cases op with
  | Eq =>
    cases h
    refine (Stp.or2 (d := false) (d' := true) (stp_dun2 (n := 0) (by omega) Gd chB_ok (fun cc p e => ?_) (okE_ok TK Gd.K)) (stp_cmp (op_eqx_ok D)))
    obtain ⟨dd, i, e1, e2, e3⟩ := opt_ok e
    subst e3
    obtain ⟨⟨fd, hf⟩, N⟩ := TK.eq cc dd i e1 e2
    exact ⟨fad i, _, hd i fd hf, dun_eq D.room.units (by rw [Gd.K]; exact N.eq)⟩
  | NotEq =>
    cases h
    refine (Stp.or2 (d := false) (d' := true) (stp_dun2 (n := 1) (by omega) Gd chNe_ok (fun cc p e => ?_) (okE_ok TK Gd.K)) (stp_cmp (op_ne_ok D)))
    obtain ⟨dd, i, e1, e2, e3⟩ := opt_ok e
    subst e3
    obtain ⟨⟨fd, hf⟩, N⟩ := TK.eq cc dd i e1 e2
    exact ⟨fad i, _, hd i fd hf, dun_ne D.room.units (by rw [Gd.K]; exact N)⟩
  | Lt => cases h; exact stp_cmp op_lt_ok
  | LtE => cases h; exact stp_cmp op_le_ok
  | Gt => cases h; exact stp_cmp op_gt_ok
  | GtE => cases h; exact stp_cmp op_ge_ok
  | In => cases h; exact stp_cmp (op_in_ok D)
  | NotIn => cases h; exact stp_cmp (op_nin_ok D)
  | Is => cases h; exact stp_cmp op_is_ok
  | IsNot => cases h; exact stp_cmp op_isnot_ok
theorem cop2_ok {op : PySem.CmpOp} {f : OV → OV → Option OV} (h : cop2 op = some f) : Op2 G (SO X (compareOp op)) f := by
  cases op with
  | Lt => cases h; exact op_lt_ok
  | LtE => cases h; exact op_le_ok
  | Gt => cases h; exact op_gt_ok
  | GtE => cases h; exact op_ge_ok
  | _ => cases h
end
end Tv
end

noncomputable section
set_option maxHeartbeats 400000
/-! The denotation of expressions is sound: calls, subscripts, comprehensions. -/
namespace Tv
open PySem L2
open PySem (Str Expr Stmt Scope Keyword Comprehension)
section
variable {T : Tb} {G : Gs} {P : Program} {w : World} {mg : Str → Option Value} {base : Heap} {fad : Nat → Addr} {n : Nat} {ρ : Rho} {R : Rec} {X : Cx} {C : Cxt} {c : Bool}
/-! ### built-in functions -/
theorem bfn_ok (TK : TopOk T G mg fad) (hd : Cal T G P w mg base fad n ρ.d) (Gd : GoodC G P w mg base (n + 4) C.ns C.sn X) {x : Str} {id : String} {st : Step} (h : bfn T ρ x = some (id, st)) : bootBuiltins x = some (.builtin id) ∧ Stp G X (fun us => call (.builtin id) us) st.1 st.2 := by
  have D := GoodC.std Gd
  unfold bfn at h
  by_cases z : (x == ("len" : Str)) = true
  · rw [if_pos z] at h; cases h; rw [beq_iff_eq.mp z]; exact ⟨by decide +kernel, stp_fun (opN_len D.hK)⟩
  rw [if_neg z] at h
  by_cases z : (x == ("abs" : Str)) = true
  · rw [if_pos z] at h; cases h; rw [beq_iff_eq.mp z]; exact ⟨by decide +kernel, stp_fun opN_abs⟩
  rw [if_neg z] at h
  by_cases z : (x == ("max" : Str)) = true
  · rw [if_pos z] at h; cases h; rw [beq_iff_eq.mp z]; exact ⟨by decide +kernel, stp_fun (opN_max D.calm)⟩
  rw [if_neg z] at h
  by_cases z : (x == ("min" : Str)) = true
  · rw [if_pos z] at h; cases h; rw [beq_iff_eq.mp z]; exact ⟨by decide +kernel, stp_fun (opN_min D.calm)⟩
  rw [if_neg z] at h
  by_cases z : (x == ("all" : Str)) = true
  · rw [if_pos z] at h; cases h; rw [beq_iff_eq.mp z]; exact ⟨by decide +kernel, stp_fun (opN_all D.calm)⟩
  rw [if_neg z] at h
  by_cases z : (x == ("any" : Str)) = true
  · rw [if_pos z] at h; cases h; rw [beq_iff_eq.mp z]; exact ⟨by decide +kernel, stp_fun (opN_any D.calm)⟩
  rw [if_neg z] at h
  by_cases z : (x == ("repr" : Str)) = true
  · rw [if_pos z] at h; cases h; rw [beq_iff_eq.mp z]
    refine ⟨by decide +kernel, Stp.or2 (d := false) (d' := true) (stp_dun (n := 1) (by omega) Gd chS_ok fun cc p e => ?_) (stp_fun opN_reprB)⟩
    obtain ⟨dd, i, e1, e2, e3⟩ := opt_ok e
    subst e3
    obtain ⟨⟨fd, hf⟩, N⟩ := TK.repr cc dd i e1 e2
    exact ⟨fad i, _, hd i fd hf, dun_repr D.room.units (by rw [Gd.K]; exact N)⟩
  rw [if_neg z] at h
  by_cases z : (x == ("sorted" : Str)) = true
  · rw [if_pos z] at h; cases h; rw [beq_iff_eq.mp z]; exact ⟨by decide +kernel, stp_fun (opN_sortX D.hK D.calm)⟩
  rw [if_neg z] at h
  cases h
theorem bty_ok (TK : TopOk T G mg fad) (hd : Cal T G P w mg base fad n ρ.d) (Gd : GoodC G P w mg base (n + 4) C.ns C.sn X) {x : Str} {id : String} {st : Step} (h : bty T ρ x = some (id, st)) : bootBuiltins x = some (.type id) ∧ Stp G X (fun us => call (.type id) us) st.1 st.2 := by
  have D := GoodC.std Gd
  unfold bty at h
  by_cases z : (x == ("int" : Str)) = true
  · rw [if_pos z] at h; cases h; rw [beq_iff_eq.mp z]; exact ⟨by decide +kernel, stp_fun opN_int⟩
  rw [if_neg z] at h
  by_cases z : (x == ("str" : Str)) = true
  · rw [if_pos z] at h; cases h; rw [beq_iff_eq.mp z]
    refine ⟨by decide +kernel, Stp.or2 (d := false) (d' := true) (stp_dun (n := 2) (by omega) Gd chS_ok fun cc p e => ?_) (stp_fun opN_str)⟩
    obtain ⟨dd, i, e1, e2, e3⟩ := opt_ok e
    subst e3
    obtain ⟨⟨fd, hf⟩, N⟩ := TK.str cc dd i e1 e2
    exact ⟨fad i, _, hd i fd hf, dun_str D.room.units (by rw [Gd.K]; exact N.st)⟩
  rw [if_neg z] at h
  by_cases z : (x == ("list" : Str)) = true
  · rw [if_pos z] at h; cases h; rw [beq_iff_eq.mp z]; exact ⟨by decide +kernel, stp_fun (opN_list D.hK)⟩
  rw [if_neg z] at h
  by_cases z : (x == ("tuple" : Str)) = true
  · rw [if_pos z] at h; cases h; rw [beq_iff_eq.mp z]; exact ⟨by decide +kernel, stp_fun (opN_tup D.hK)⟩
  rw [if_neg z] at h
  cases h
theorem fmt_ok (TK : TopOk T G mg fad) (hd : Cal T G P w mg base fad n ρ.d) (Gd : GoodC G P w mg base (n + 4) C.ns C.sn X) : Stp G X (act1 fun u => formatField u Str.empty) (tor2 isOb (tdun (T.opt ρ.d CD.str) chS) (pureN fmtI)) false := by
  have D := GoodC.std Gd
  refine Stp.or2 (d := false) (d' := true) (stp_dun (n := 1) (by omega) Gd chS_ok fun cc p e => ?_) (Stp.of opN_fmtI)
  obtain ⟨dd, i, e1, e2, e3⟩ := opt_ok e
  subst e3
  obtain ⟨⟨fd, hf⟩, N⟩ := TK.str cc dd i e1 e2
  exact ⟨fad i, _, hd i fd hf, dun_fmt D.room.units (by rw [Gd.K]; exact N)⟩
/-! ### comprehensions -/
theorem noSet_ok {e : Expr} (h : noSetE e = true) (env : Env) : ∀ x, foldedSetIterable e env x = pure x := fun x => by
  cases e <;> first | rfl | cases h
theorem own_ix {ns : List Str} {sc : Scope} : ∀ p ∈ ownOf ns sc, ns[p.2]? = some p.1 := fun p m => by
  unfold ownOf at m
  obtain ⟨q, _, e⟩ := List.mem_filterMap.mp m
  have key : ∀ o : Option Nat, (o = idx q.1 ns 0) → (o.map fun i => (q.1, i)) = some p → ns[p.2]? = some p.1 := by
    intro o ho e
    cases o with
    | none => cases e
    | some i =>
      cases e
      exact (idx_ok ho.symm).2
  cases hk : q.2 <;> rw [hk] at e <;> first | exact key _ rfl e | cases e
theorem blk_good {k : Nat} (Gd : GoodC G P w mg base k C.ns C.sn X) {scope : Scope} (hb : blkB C scope = true) : Blk X scope fun X' => GoodC G P w mg base k ({ C with sn := scope.names } : Cxt).ns ({ C with sn := scope.names } : Cxt).sn X' := fun s H0 Cc cl fp => by
  unfold blkB at hb
  obtain ⟨⟨⟨b1, b2⟩, b3⟩, b4⟩ : ((_ ∧ _) ∧ _) ∧ _ := by simpa only [Bool.and_eq_true] using hb
  refine ⟨Gd.prog, Gd.w, Gd.K, Gd.mg, Gd.base, Gd.nm, Gd.room, Gd.gd, Gd.calm, Gd.nd, ?_, fun x kd e => ?_, fun x e => ?_⟩
  · show scope.kind = .function
    cases e : scope.kind <;> rw [e] at b1 <;> first | rfl | cases b1
  · show (relabel scope X.env).names.lookup x = some kd ∨ (kd = .free ∧ (relabel scope X.env).names.lookup x = some .cell)
    have key : ∀ (l : List (Str × NameKind)), l.lookup x = some kd → ((l.map fun (m, q) => if (q == .free && X.env.scope.kind == .function && X.env.kindOf m == some .cell) then (m, NameKind.cell) else (m, q)).lookup x = some kd ∨ (kd = .free ∧ (l.map fun (m, q) => if (q == .free && X.env.scope.kind == .function && X.env.kindOf m == some .cell) then (m, NameKind.cell) else (m, q)).lookup x = some .cell)) := by
      intro l
      induction l with
      | nil => intro h; cases h
      | cons p l ih =>
        obtain ⟨m, q⟩ := p
        intro h
        rw [List.map_cons]
        by_cases hx : (x == m) = true
        · rw [List.lookup_cons, hx] at h
          obtain rfl : q = kd := Option.some.inj h
          dsimp only
          by_cases hc : (q == .free && X.env.scope.kind == .function && X.env.kindOf m == some .cell) = true
          · rw [if_pos hc]
            refine .inr ⟨?_, by rw [List.lookup_cons, hx]⟩
            obtain ⟨h1, _⟩ := bth hc
            exact beq_iff_eq.mp (bth h1).1
          · rw [if_neg hc]
            exact .inl (by rw [List.lookup_cons, hx])
        · have hx : (x == m) = false := by cases z : (x == m) <;> simp_all
          rw [List.lookup_cons, hx] at h
          dsimp only
          have e1 : ∀ (b : Prop) [Decidable b], ((if b then (m, NameKind.cell) else (m, q)) :: (l.map fun (m, q) => if (q == .free && X.env.scope.kind == .function && X.env.kindOf m == some .cell) then (m, NameKind.cell) else (m, q))).lookup x = (l.map fun (m, q) => if (q == .free && X.env.scope.kind == .function && X.env.kindOf m == some .cell) then (m, NameKind.cell) else (m, q)).lookup x := by
            intro b _
            by_cases hb : b
            · rw [if_pos hb, List.lookup_cons, hx]
            · rw [if_neg hb, List.lookup_cons, hx]
          rw [e1]
          exact ih h
    exact key scope.names e
  · show (scope.names.lookup x == some .cell) = true ∨ (relabel scope X.env).names.lookup x = some .local
    rcases e with e | e
    · exact .inr (lookup_relabel_local e)
    · exact .inl (by rw [show scope.names.lookup x = some .cell from e]; rfl)
theorem blk_ok {k : Nat} (Gd : GoodC G P w mg base k C.ns C.sn X) {scope : Scope} (hb : blkB C scope = true) : BlkOk X.N X.env.scope scope (ownOf C.ns scope) := by
  unfold blkB at hb
  obtain ⟨⟨⟨b1, b2⟩, b3⟩, b4⟩ : ((_ ∧ _) ∧ _) ∧ _ := by simpa only [Bool.and_eq_true] using hb
  rw [Gd.nm]
  refine ⟨?_, fun y hy => of_decide_eq_true (List.all_eq_true.mp b2 y hy), own_ix, fun y hy e => ?_, fun y hy e => ?_⟩
  · cases e : scope.kind <;> rw [e] at b1 <;> first | rfl | cases b1
  · have q := List.all_eq_true.mp b4 y hy
    rw [e] at q
    dsimp only at q
    cases z : C.sn.lookup y.1 with
    | none => rw [z] at q; cases q
    | some kd =>
      rw [z] at q
      have s := Gd.sc y.1 kd z
      cases kd with
      | cell => exact s.elim .inl fun z => nomatch z.1
      | free => exact s.elim .inr fun z => .inl z.2
      | _ => cases q
  · have q := List.all_eq_true.mp b4 y hy
    rcases e with e | e <;> (rw [e] at q; simpa only [Bool.or_eq_true, decide_eq_true_eq] using q)
end
end Tv
end

noncomputable section
set_option maxHeartbeats 400000
/-! The denotation of expressions is sound: all. -/
namespace Tv
open PySem L2
open PySem (Str Expr Stmt Scope Keyword Comprehension)
section
variable {T : Tb} {G : Gs} {P : Program} {w : World} {mg : Str → Option Value} {base : Heap} {fad : Nat → Addr} {n : Nat} {ρ : Rho} {R : Rec} {X : Cx} {C : Cxt} {c : Bool}
/-- all that is known -/
structure Hyp (T : Tb) (G : Gs) (P : Program) (w : World) (mg : Str → Option Value) (base : Heap) (fad : Nat → Addr) (n : Nat) (ρ : Rho) (R : Rec) : Prop where
  top : TopOk T G mg fad
  c : Cal T G P w mg base fad (n + 4) ρ.c
  m : Cal T G P w mg base fad (n + 3) ρ.m
  d : Cal T G P w mg base fad n ρ.d
  r : RecOk G P w mg base (n + 4) R
section
variable (Y : Hyp T G P w mg base fad n ρ R) (Gd : GoodC G P w mg base (n + 4) C.ns C.sn X)
include Y Gd
theorem gl_free {x : Str} (h : isGl C x = true) (hf : T.free.contains x = true) : Gl X x ∧ X.mg x = none := ⟨isGl_ok Gd h, by rw [Gd.mg]; exact Y.top.free x hf⟩
theorem evI_walk {tg iter : Expr} : SndI G X tg iter (twalkD (R.e C iter).m) := sndi_walk Gd.K (Y.r.e X C Gd iter)
theorem evI_ok {tg iter : Expr} {m : TM (List FV)} (h : evI T R C tg iter = some m) : SndI G X tg iter m := by
  unfold evI at h
  split at h
  · rename_i x p a pos
    by_cases z : (x == ("range" : Str) && isGl C x && T.free.contains x && !isStar a) = true
    · rw [if_pos z] at h
      cases h
      obtain ⟨z1, z2⟩ := bth z
      obtain ⟨z3, z4, z5⟩ := bth3 z1
      obtain ⟨g1, g2⟩ := gl_free Y Gd z4 z5
      rw [beq_iff_eq.mp z3] at g1 g2 ⊢
      exact sndi_range1 g1 g2 (nt z2) (ok_evO Y.r Gd [a])
    · rw [if_neg z] at h
      by_cases z : (x == ("enumerate" : Str) && isGl C x && T.free.contains x && !isStar a) = true
      · rw [if_pos z] at h
        obtain ⟨z1, z2⟩ := bth z
        obtain ⟨z3, z4, z5⟩ := bth3 z1
        obtain ⟨g1, g2⟩ := gl_free Y Gd z4 z5
        rw [beq_iff_eq.mp z3] at g1 g2 ⊢
        cases tg with
        | Tuple es k q => cases h; exact sndi_enum Gd.K g1 g2 (nt z2) (ok_evO Y.r Gd [a])
        | _ => cases h
      · rw [if_neg z] at h
        cases h
        exact evI_walk Y Gd
  · rename_i x p a b pos
    by_cases z : (x == ("range" : Str) && isGl C x && T.free.contains x && !isStar a && !isStar b) = true
    · rw [if_pos z] at h
      cases h
      obtain ⟨z0, z6⟩ := bth z
      obtain ⟨z1, z2⟩ := bth z0
      obtain ⟨z3, z4, z5⟩ := bth3 z1
      obtain ⟨g1, g2⟩ := gl_free Y Gd z4 z5
      rw [beq_iff_eq.mp z3] at g1 g2 ⊢
      exact sndi_range2 g1 g2 (nt z2) (nt z6) (ok_evO Y.r Gd [a, b])
    · rw [if_neg z] at h
      by_cases z : (x == ("zip" : Str) && isGl C x && T.free.contains x && !isStar a && !isStar b) = true
      · rw [if_pos z] at h
        obtain ⟨z0, z6⟩ := bth z
        obtain ⟨z1, z2⟩ := bth z0
        obtain ⟨z3, z4, z5⟩ := bth3 z1
        obtain ⟨g1, g2⟩ := gl_free Y Gd z4 z5
        rw [beq_iff_eq.mp z3] at g1 g2 ⊢
        cases tg with
        | Tuple es k q => cases h; exact sndi_zip Gd.K g1 g2 (nt z2) (nt z6) (Y.r.e X C Gd a) (Y.r.e X C Gd b)
        | _ => cases h
      · rw [if_neg z] at h
        cases h
        exact evI_walk Y Gd
  · cases h
    exact evI_walk Y Gd
/-- the parts of a comprehension -/
theorem cpt_ok {gs : List Comprehension} {scope : Scope} {p : Cpt} (h : evCpt T R C gs scope = some p) : ∃ tg iter ifs, gs = [⟨tg, iter, ifs, 0⟩] ∧ p.own = (ownOf C.ns scope).map (·.2) ∧ p.C = { C with sn := scope.names } ∧ BlkOk X.N X.env.scope scope (ownOf C.ns scope) ∧ (∀ x, foldedSetIterable iter X.env x = pure x) ∧
    SndI G X tg iter p.m ∧ (Blk X scope fun X' => SndG G X' tg p.g (own1 ((ownOf C.ns scope).map (·.2)))) ∧ (∃ ct, (ifs = [] ∧ p.t = tp true) ∨ ∃ d, ifs = [d] ∧ Blk X scope fun X' => SndT G X' d p.t ct) ∧ Blk X scope fun X' => ∀ e, Snd G X' e (R.e p.C e).m (R.e p.C e).c := by
  unfold evCpt at h
  split at h
  · rename_i tg iter ifs
    by_cases z : (blkB C scope && noSetE iter) = true
    · rw [if_pos z] at h
      obtain ⟨z1, z2⟩ := bth z
      dsimp only at h
      have gd := blk_good Gd z1
      cases e1 : evI T R C tg iter with
      | none => simp only [e1] at h; cases h
      | some m =>
        cases e2 : R.g { C with sn := scope.names } (own1 ((ownOf C.ns scope).map (·.2))) tg with
        | none => simp only [e1, e2] at h; cases h
        | some g =>
          simp only [e1, e2] at h
          have hg : Blk X scope fun X' => SndG G X' tg g (own1 ((ownOf C.ns scope).map (·.2))) := fun s H0 Cc cl fp => Y.r.g _ { C with sn := scope.names } _ (gd s H0 Cc cl fp) tg g e2
          have he : Blk X scope fun X' => ∀ e, Snd G X' e (R.e { C with sn := scope.names } e).m (R.e { C with sn := scope.names } e).c := fun s H0 Cc cl fp => Y.r.e _ { C with sn := scope.names } (gd s H0 Cc cl fp)
          have hb := blk_ok Gd z1
          have hs := noSet_ok z2 X.env
          have hi := evI_ok Y Gd e1
          cases ifs with
          | nil =>
            cases h
            exact ⟨tg, iter, [], rfl, rfl, rfl, hb, hs, hi, hg, ⟨true, .inl ⟨rfl, rfl⟩⟩, he⟩
          | cons d r =>
            cases r with
            | nil =>
              cases h
              exact ⟨tg, iter, [d], rfl, rfl, rfl, hb, hs, hi, hg, ⟨_, .inr ⟨d, rfl, fun s H0 Cc cl fp => Y.r.t _ { C with sn := scope.names } (gd s H0 Cc cl fp) d⟩⟩, he⟩
            | cons _ _ => cases h
    · rw [if_neg z] at h; cases h
  · cases h
theorem ok_lc {elt : Expr} {gs : List Comprehension} {scope : Scope} {pos : Pos} : Snd G X (.ListComp elt gs scope pos) (stE T ρ R C (.ListComp elt gs scope pos)).m (stE T ρ R C (.ListComp elt gs scope pos)).c := by
  show Snd G X _ (evLc T R C elt gs scope).m (evLc T R C elt gs scope).c
  unfold evLc
  cases e : evCpt T R C gs scope with
  | none => exact snd_bad
  | some p =>
    obtain ⟨tg, iter, ifs, e1, e2, e3, hb, hs, hi, hg, ⟨ct, ht⟩, he⟩ := cpt_ok Y Gd e
    subst e1
    dsimp only
    rw [e2]
    exact snd_lc Gd.calm (by rw [Gd.nm]; exact Gd.nd) hb hs hi hg ht fun s H0 Cc cl fp => he s H0 Cc cl fp elt
theorem evCls_ok {e : Expr} {t : Tyn} (h : evCls T C e = some t) : ∃ cv, ConE X e cv ∧ ClsV cv (tyV G t) := by
  unfold evCls at h
  split at h
  · rename_i x pos
    by_cases z : (isGl C x && okN x) = true
    · rw [if_pos z] at h
      obtain ⟨z1, z2⟩ := bth z
      obtain ⟨d1, d2, d3⟩ := okN_ok z2
      cases e1 : T.glob.lookup x with
      | some g =>
        rw [e1] at h
        cases g with
        | cl cc =>
          cases h
          obtain ⟨_, hm⟩ := Y.top.gcl x cc e1
          exact ⟨.ref (G.cad cc), fun σ H Q q => SE.of (pe_glob (v := .ref (G.cad cc)) (u := .ref (G.cad cc)) (isGl_ok Gd z1) (by rw [Gd.mg]; exact hm) rfl d1) q, .own _⟩
        | _ => cases h
      | none =>
        rw [e1] at h
        dsimp only at h
        by_cases hf : T.free.contains x = true
        · rw [if_pos hf] at h
          obtain ⟨g1, g2⟩ := gl_free Y Gd z1 hf
          have fin : ∀ nm : String, bootBuiltins x = some (.type nm) → ∃ cv, ConE X (.Name x pos) cv ∧ ClsV cv (.type nm) := fun nm hv => ⟨.ty nm, con_bltn g1 g2 hv rfl d3 d1, .ty nm⟩
          by_cases q : (x == ("int" : Str)) = true
          · rw [if_pos q] at h; cases h; exact fin _ (by rw [beq_iff_eq.mp q]; decide +kernel)
          rw [if_neg q] at h
          by_cases q : (x == ("str" : Str)) = true
          · rw [if_pos q] at h; cases h; exact fin _ (by rw [beq_iff_eq.mp q]; decide +kernel)
          rw [if_neg q] at h
          by_cases q : (x == ("bool" : Str)) = true
          · rw [if_pos q] at h; cases h; exact fin _ (by rw [beq_iff_eq.mp q]; decide +kernel)
          rw [if_neg q] at h
          by_cases q : (x == ("list" : Str)) = true
          · rw [if_pos q] at h; cases h; exact fin _ (by rw [beq_iff_eq.mp q]; decide +kernel)
          rw [if_neg q] at h
          by_cases q : (x == ("tuple" : Str)) = true
          · rw [if_pos q] at h; cases h; exact fin _ (by rw [beq_iff_eq.mp q]; decide +kernel)
          rw [if_neg q] at h
          cases h
        · rw [if_neg hf] at h; cases h
    · rw [if_neg z] at h; cases h
  · cases h
theorem isi_len {t : Tyn} {cc : Nat} {b : Bool} (h : T.isi t (.inr cc) = some b) : cc < T.cls.length := by
  unfold Tb.isi at h
  cases t with
  | inl a =>
    dsimp only at h
    by_cases z : (tnames.contains a && decide (cc < T.cls.length)) = true
    · exact of_decide_eq_true (bth z).2
    · rw [if_neg z] at h; cases h
  | inr a =>
    dsimp only at h
    by_cases z : decide (a < T.cls.length) = true
    · rw [if_pos z] at h
      cases e : T.cls[cc]? with
      | none => rw [e] at h; cases h
      | some d => exact (List.getElem?_eq_some_iff.mp e).1
    · rw [if_neg z] at h; cases h
theorem ok_callN {x : Str} {p pos : Pos} {es : List Expr} {kws : List Keyword} : Snd G X (.Call (.Name x p) es kws pos) (evCallN T ρ R C x es kws).m (evCallN T ρ R C x es kws).c := by
  unfold evCallN
  by_cases z : (isGl C x && okN x) = true
  case neg => rw [if_neg z]; exact snd_bad
  rw [if_pos z]
  obtain ⟨z1, z2⟩ := bth z
  obtain ⟨d1, d2, d3⟩ := okN_ok z2
  have gl := isGl_ok Gd z1
  cases eg : T.glob.lookup x with
  | some g =>
    cases g with
    | fn i =>
      dsimp only
      by_cases za : (argsOk es kws && kwOk kws) = true
      case neg => rw [if_neg za]; exact snd_bad
      rw [if_pos za]
      obtain ⟨za1, za2⟩ := bth za
      obtain ⟨⟨fd, hf⟩, hm, hk⟩ := Y.top.gfn x i eg
      exact snd_fcall Gd gl (by rw [Gd.mg]; exact hm) d1 (by rw [Gd.K]; exact hk) za1 za2 (Y.c i fd hf) (ok_evO Y.r Gd _)
    | cl cc =>
      dsimp only
      cases ei : (T.cls[cc]?).bind CD.init with
      | none => exact snd_bad
      | some i =>
        dsimp only
        by_cases za : (argsOk es kws && kwOk kws) = true
        case neg => rw [if_neg za]; exact snd_bad
        rw [if_pos za]
        obtain ⟨za1, za2⟩ := bth za
        obtain ⟨_, hm⟩ := Y.top.gcl x cc eg
        cases ec : T.cls[cc]? with
        | none => rw [ec] at ei; cases ei
        | some dd =>
          rw [ec] at ei
          obtain ⟨⟨fd, m, hf, hl⟩, M⟩ := Y.top.mkr cc dd i ec ei
          exact snd_make (np := m) Gd gl (by rw [Gd.mg]; exact hm) d1 za1 za2 (by rw [Gd.K]; exact M) (by rw [← hl]; exact Y.m i fd hf) (ok_evO Y.r Gd _)
    | con v => exact snd_bad
  | none =>
    dsimp only
    by_cases zf : (T.free.contains x && kws.isEmpty) = true
    case neg => rw [if_neg zf]; exact snd_bad
    rw [if_pos zf]
    obtain ⟨zf1, zf2⟩ := bth zf
    obtain ⟨g1, g2⟩ := gl_free Y Gd z1 zf1
    have ek : kws = [] := List.isEmpty_iff.mp zf2
    subst ek
    split
    · rename_i e e2
      by_cases zi : (x == ("isinstance" : Str) && !isStar e && !isStar e2) = true
      · rw [if_pos zi]
        obtain ⟨y1, y2, y3⟩ := bth3 zi
        rw [beq_iff_eq.mp y1] at g1 g2 ⊢
        cases et : evCls T C e2 with
        | none => exact snd_bad
        | some t =>
          dsimp only
          obtain ⟨cv, h1, h2⟩ := evCls_ok Y Gd et
          exact snd_isi Gd.K h2 (fun cc b hc => by rw [Gd.K]; exact (Y.top.cls cc (isi_len Y Gd hc)).2) (fun t' b hc => by rw [Gd.K]; exact Y.top.isi t t' b hc) g1 g2 (nt y2) (nt y3) h1 (ok_evO Y.r Gd [e])
      · rw [if_neg zi]
        cases eb : bfn T ρ x with
        | none => exact snd_bad
        | some q =>
          obtain ⟨id, st⟩ := q
          dsimp only
          by_cases zs : (([e, e2] : List Expr).all fun e => !isStar e) = true
          case neg => rw [if_neg zs]; exact snd_bad
          rw [if_pos zs]
          obtain ⟨b1, b2⟩ := bfn_ok Y.top Y.d Gd eb
          exact snd_cb g1 g2 b1 d3 d1 zs b2 (ok_evO Y.r Gd _)
    · rename_i e
      cases eo : onlySC e with
      | some q =>
        obtain ⟨elt, gs, scope⟩ := q
        dsimp only
        by_cases zi : (x == ("sorted" : Str)) = true
        case neg => rw [if_neg zi]; exact snd_bad
        rw [if_pos zi]
        rw [beq_iff_eq.mp zi] at g1 g2 ⊢
        cases ec : evCpt T R C gs scope with
        | none => exact snd_bad
        | some pp =>
          dsimp only
          obtain ⟨tg, iter, ifs, e1, e2, e3, hb, hs, hi, hg, ⟨ct, ht⟩, he⟩ := cpt_ok Y Gd ec
          subst e1
          rw [e2]
          cases e with
          | SetComp elt' gs' scope' ps' =>
            cases eo
            exact snd_sortc g1 g2 Gd.calm (by rw [Gd.nm]; exact Gd.nd) hb hs hi hg ht fun s H0 Cc cl fp => he s H0 Cc cl fp elt
          | _ => cases eo
      | none =>
        dsimp only
        cases es1 : onlySet T C e with
        | some e1 =>
          dsimp only
          have key : ∃ p2 pos2, e = .Call (.Name "set" p2) [e1] [] pos2 ∧ Gl X "set" ∧ X.mg "set" = none ∧ isStar e1 = false := by
            unfold onlySet at es1
            split at es1
            · rename_i y p2 e1' pos2
              by_cases q : (y == ("set" : Str) && isGl C y && T.free.contains y && !isStar e1') = true
              · rw [if_pos q] at es1
                cases es1
                obtain ⟨q1, q2⟩ := bth q
                obtain ⟨q3, q4, q5⟩ := bth3 q1
                obtain ⟨g3, g4⟩ := gl_free Y Gd q4 q5
                rw [beq_iff_eq.mp q3] at g3 g4 ⊢
                exact ⟨p2, pos2, rfl, g3, g4, nt q2⟩
              · rw [if_neg q] at es1; cases es1
            · cases es1
          obtain ⟨p2, pos2, ee, g3, g4, hst⟩ := key
          subst ee
          by_cases zi : (x == ("sorted" : Str)) = true
          · rw [if_pos zi]
            rw [beq_iff_eq.mp zi] at g1 g2 ⊢
            exact snd_sortset Gd.K g1 g2 g3 g4 Gd.calm hst (Y.r.e X C Gd e1)
          · rw [if_neg zi]
            by_cases zl : (x == ("len" : Str)) = true
            · rw [if_pos zl]
              rw [beq_iff_eq.mp zl] at g1 g2 ⊢
              exact snd_lenset Gd.K g1 g2 g3 g4 Gd.calm hst (Y.r.e X C Gd e1)
            · rw [if_neg zl]; exact snd_bad
        | none =>
          dsimp only
          by_cases zs : isStar e = true
          · rw [if_pos zs]; exact snd_bad
          rw [if_neg zs]
          have zs : (([e] : List Expr).all fun e => !isStar e) = true := by simp [zs]
          cases eb : bfn T ρ x with
          | some q =>
            obtain ⟨id, st⟩ := q
            obtain ⟨b1, b2⟩ := bfn_ok Y.top Y.d Gd eb
            exact snd_cb g1 g2 b1 d3 d1 zs b2 (ok_evO Y.r Gd _)
          | none =>
            dsimp only
            cases et : bty T ρ x with
            | some q =>
              obtain ⟨id, st⟩ := q
              obtain ⟨b1, b2⟩ := bty_ok Y.top Y.d Gd et
              exact snd_ct g1 g2 b1 d3 d1 zs b2 (ok_evO Y.r Gd _)
            | none => exact snd_bad
    · exact snd_bad
theorem bmt_ok {a : Str} {k : Nat} {id : String} {ty : OV → Bool} {st : Step} {o : Expr} {es : List Expr} {apos pos : Pos} (h : bmt a k = some (id, ty, st)) (hn : bnode o apos pos es = true) :
    Snd G X (.Call (.Attribute o a apos) es [] pos) (tbm ty st.1 (evO R C es).c (R.e C o).m (evO R C es).m) ((R.e C o).c && (evO R C es).c && st.2) := by
  have D := GoodC.std Gd
  have ho := Y.r.e X C Gd o
  have he := ok_evO Y.r Gd es
  unfold bmt at h
  by_cases z : (a == ("append" : Str) && k == 1) = true
  · rw [if_pos z] at h; cases h; rw [beq_iff_eq.mp (bth z).1]
    exact snd_bm PySem.F.plainAttrs_list PySem.F.slot_list_append PySem.F.type_list_append ty_lst stp_append hn ho he
  rw [if_neg z] at h
  by_cases z : (a == ("extend" : Str) && k == 1) = true
  · rw [if_pos z] at h; cases h; rw [beq_iff_eq.mp (bth z).1]
    exact snd_bm PySem.F.plainAttrs_list PySem.F.slot_list_extend PySem.F.type_list_extend ty_lst stp_extend hn ho he
  rw [if_neg z] at h
  by_cases z : (a == ("join" : Str) && k == 1) = true
  · rw [if_pos z] at h; cases h; rw [beq_iff_eq.mp (bth z).1]
    exact snd_bm PySem.F.plainAttrs_str PySem.F.slot_str_join PySem.F.type_str_join ty_str (stp_join D.hK) hn ho he
  rw [if_neg z] at h
  by_cases z : (a == ("pop" : Str) && k == 0) = true
  · rw [if_pos z] at h; cases h; rw [beq_iff_eq.mp (bth z).1]
    exact snd_bm PySem.F.plainAttrs_list PySem.F.slot_list_pop PySem.F.type_list_pop ty_lst stp_pop hn ho he
  rw [if_neg z] at h
  by_cases z : (a == ("clear" : Str) && k == 0) = true
  · rw [if_pos z] at h; cases h; rw [beq_iff_eq.mp (bth z).1]
    exact snd_bm PySem.F.plainAttrs_list PySem.F.slot_list_clear PySem.F.type_list_clear ty_lst stp_clear hn ho he
  rw [if_neg z] at h
  by_cases z : (a == ("reverse" : Str) && k == 0) = true
  · rw [if_pos z] at h; cases h; rw [beq_iff_eq.mp (bth z).1]
    exact snd_bm PySem.F.plainAttrs_list PySem.F.slot_list_reverse PySem.F.type_list_reverse ty_lst stp_reverse hn ho he
  rw [if_neg z] at h
  cases h
theorem ok_callA {o : Expr} {a : Str} {apos pos : Pos} {es : List Expr} {kws : List Keyword} : Snd G X (.Call (.Attribute o a apos) es kws pos) (evCallA T ρ R C o a apos pos es kws).m (evCallA T ρ R C o a apos pos es kws).c := by
  unfold evCallA
  cases eb : bmt a es.length with
  | some q =>
    obtain ⟨id, ty, st⟩ := q
    dsimp only
    by_cases z : (bnode o apos pos es && kws.isEmpty) = true
    case neg => rw [if_neg z]; exact snd_bad
    rw [if_pos z]
    obtain ⟨z1, z2⟩ := bth z
    have ek : kws = [] := List.isEmpty_iff.mp z2
    subst ek
    exact bmt_ok Y Gd eb z1
  | none =>
    dsimp only
    cases ei : idx a T.atts 0 with
    | none => exact snd_bad
    | some k =>
      dsimp only
      by_cases z : (mnode o apos pos es kws && argsOk es kws && kwOk kws) = true
      case neg => rw [if_neg z]; exact snd_bad
      rw [if_pos z]
      obtain ⟨z1, z2, z3⟩ := bth3 z
      have ea : G.att k = a := Y.top.att k a (idx_ok ei).2
      rw [← ea]
      refine snd_meth Gd z1 z2 z3 (fun cc p e => ?_) (Y.r.e X C Gd o) (ok_evO Y.r Gd _)
      obtain ⟨dd, i, e1, e2, e3⟩ := opt_ok e
      subst e3
      obtain ⟨⟨fd, hf⟩, M⟩ := Y.top.meth cc dd k i e1 e2
      refine ⟨by rw [Gd.K]; exact (Y.top.cls cc (List.getElem?_eq_some_iff.mp e1).1).1, fad i, _, by rw [Gd.K]; exact M, Y.c i fd hf⟩
theorem cint_ok {e : Option Expr} {l : Option Int} (h : cint e = some l) : ∃ te : TO, PO X e te ∧ ∀ σ H Q, Q l H → te σ H Q := by
  unfold cint at h
  split at h
  · cases h; exact ⟨_, po_none, fun σ H Q q => q⟩
  · cases h; exact ⟨_, po_some pe_int, fun σ H Q q => ⟨_, rfl, q⟩⟩
  · rename_i i j p1 p2
    cases h
    exact ⟨_, po_some (pe_un un_neg pe_int), fun σ H Q q => ⟨i, rfl, _, rfl, q⟩⟩
  · cases h
theorem ok_sub {a b : Expr} {pos : Pos} : Snd G X (.Subscript a b pos) (evSub R C a b).m (evSub R C a b).c := by
  unfold evSub
  split
  · rename_i i j p1 p2 p3
    by_cases z : (i == 1) = true
    · rw [if_pos z, beq_iff_eq.mp z]
      exact snd_revL (k := j) Gd.K (Y.r.e X C Gd a)
    · rw [if_neg z]; exact snd_bad
  · rename_i lo hi p2
    cases el : cint lo with
    | none => exact snd_bad
    | some l =>
      cases eu : cint hi with
      | none => exact snd_bad
      | some u =>
        obtain ⟨tl, h1, h2⟩ := cint_ok Y Gd el
        obtain ⟨th, h3, h4⟩ := cint_ok Y Gd eu
        exact snd_slL Gd.K h1 h3 h2 h4 (Y.r.e X C Gd a)
  · by_cases z : (noSl b && !isStar a && !isStar b) = true
    · rw [if_pos z]
      obtain ⟨z1, z2, z3⟩ := bth3 z
      exact snd_ix (GoodC.std Gd) (nt z2) (nt z3) z1 (ok_evO Y.r Gd [a, b])
    · rw [if_neg z]; exact snd_bad
end
end
end Tv
end

noncomputable section
set_option maxHeartbeats 400000
/-! The denotation of expressions is sound: one step, and all steps. -/
namespace Tv
open PySem L2
open PySem (Str Expr Stmt Scope Keyword Comprehension)
section
variable {T : Tb} {G : Gs} {P : Program} {w : World} {mg : Str → Option Value} {base : Heap} {fad : Nat → Addr} {n : Nat} {ρ : Rho} {R : Rec} {X : Cx} {C : Cxt} {c : Bool}
section
variable (Y : Hyp T G P w mg base fad n ρ R) (Gd : GoodC G P w mg base (n + 4) C.ns C.sn X)
include Y Gd
theorem ok_bin {a b : Expr} {op : PySem.Operator} {pos : Pos} : Snd G X (.BinOp a op b pos) (stE T ρ R C (.BinOp a op b pos)).m (stE T ρ R C (.BinOp a op b pos)).c := by
  show Snd G X _ (evBin R C a op b).m (evBin R C a op b).c
  unfold evBin
  cases e : bop op with
  | none => exact snd_bad
  | some st =>
    dsimp only
    by_cases z : (!isStar a && !isStar b) = true
    · rw [if_pos z]
      exact snd_bin2 (nt (bth z).1) (nt (bth z).2) (bop_ok (GoodC.std Gd) e) (ok_evO Y.r Gd [a, b])
    · rw [if_neg z]; exact snd_bad
theorem ok_cmp1 {a b : Expr} {op : PySem.CmpOp} {pos : Pos} : Snd G X (.Compare a [op] [b] pos) (stE T ρ R C (.Compare a [op] [b] pos)).m (stE T ρ R C (.Compare a [op] [b] pos)).c := by
  show Snd G X _ (evCmp T ρ R C a op b).m (evCmp T ρ R C a op b).c
  unfold evCmp
  cases e : cop T ρ op with
  | none => exact snd_bad
  | some st =>
    dsimp only
    by_cases z : (!behindInMarks op b && !isStar a && !isStar b) = true
    · rw [if_pos z]
      obtain ⟨z1, z2, z3⟩ := bth3 z
      exact snd_cmp2 (nt z1) (nt z2) (nt z3) (cop_ok Y.top Y.d Gd e) (ok_evO Y.r Gd [a, b])
    · rw [if_neg z]; exact snd_bad
theorem ok_cmp1T {a b : Expr} {op : PySem.CmpOp} {pos : Pos} : SndT G X (.Compare a [op] [b] pos) (stT T ρ R C (.Compare a [op] [b] pos)).m (stT T ρ R C (.Compare a [op] [b] pos)).c := by
  show SndT G X _ (evCmpT T ρ R C a op b).m (evCmpT T ρ R C a op b).c
  unfold evCmpT
  cases e : cop T ρ op with
  | none => exact sndT_bad
  | some st =>
    dsimp only
    by_cases z : (!behindInMarks op b && !isStar a && !isStar b) = true
    · rw [if_pos z]
      obtain ⟨z1, z2, z3⟩ := bth3 z
      exact sndT_cmp2 (nt z1) (nt z2) (nt z3) (cop_ok Y.top Y.d Gd e) (ok_evO Y.r Gd [a, b])
    · rw [if_neg z]; exact sndT_bad
theorem ok_cmp2 {a b e : Expr} {op op' : PySem.CmpOp} {pos : Pos} : Snd G X (.Compare a [op, op'] [b, e] pos) (stE T ρ R C (.Compare a [op, op'] [b, e] pos)).m (stE T ρ R C (.Compare a [op, op'] [b, e] pos)).c := by
  show Snd G X _ (evChn R C a op op' b e).m (evChn R C a op op' b e).c
  unfold evChn
  cases e1 : cop2 op with
  | none => exact snd_bad
  | some f =>
    cases e2 : cop2 op' with
    | none => exact snd_bad
    | some g =>
      dsimp only
      by_cases z : (!lastMarks [op, op'] [b, e]) = true
      · rw [if_pos z]
        exact snd_chain (cop2_ok e1) (cop2_ok e2) (nt z) (Y.r.e X C Gd a) (Y.r.e X C Gd b) (Y.r.e X C Gd e)
      · rw [if_neg z]; exact snd_bad
theorem ok_cmp2T {a b e : Expr} {op op' : PySem.CmpOp} {pos : Pos} : SndT G X (.Compare a [op, op'] [b, e] pos) (stT T ρ R C (.Compare a [op, op'] [b, e] pos)).m (stT T ρ R C (.Compare a [op, op'] [b, e] pos)).c := by
  show SndT G X _ (evChnT R C a op op' b e).m (evChnT R C a op op' b e).c
  unfold evChnT
  cases e1 : cop2 op with
  | none => exact sndT_bad
  | some f =>
    cases e2 : cop2 op' with
    | none => exact sndT_bad
    | some g =>
      dsimp only
      by_cases z : (!lastMarks [op, op'] [b, e]) = true
      · rw [if_pos z]
        exact sndT_chain (cop2_ok e1) (cop2_ok e2) (nt z) (Y.r.e X C Gd a) (Y.r.e X C Gd b) (Y.r.e X C Gd e)
      · rw [if_neg z]; exact sndT_bad
theorem ok_att {e : Expr} {f : Str} {pos : Pos} : Snd G X (.Attribute e f pos) (stE T ρ R C (.Attribute e f pos)).m (stE T ρ R C (.Attribute e f pos)).c := by
  show Snd G X _ (evAtt T R C e f).m (evAtt T R C e f).c
  unfold evAtt
  cases ei : idx f T.atts 0 with
  | none => exact snd_bad
  | some k =>
    dsimp only
    by_cases z : noSuper e = true
    · rw [if_pos z]
      have ea : G.att k = f := Y.top.att k f (idx_ok ei).2
      rw [← ea]
      refine snd_attr z (fun cc h => ?_) (Y.r.e X C Gd e)
      have hl : cc < T.cls.length := by
        unfold Tb.okA at h
        cases e1 : T.cls[cc]? with
        | none => rw [e1] at h; cases h
        | some d => exact (List.getElem?_eq_some_iff.mp e1).1
      rw [Gd.K]
      exact ⟨(Y.top.cls cc hl).1, Y.top.noat cc k h⟩
    · rw [if_neg z]; exact snd_bad
theorem ok_js {es : List Expr} {pos : Pos} : Snd G X (.JoinedStr es pos) (stE T ρ R C (.JoinedStr es pos)).m (stE T ρ R C (.JoinedStr es pos)).c := by
  match es with
  | [] => exact snd_bad
  | [e] => exact snd_joined1 (Y.r.e X C Gd e)
  | a :: b :: r =>
    refine snd_joined ?_
    have key : ∀ l : List Expr, Paired (fun e m => ∃ c, Snd G X e m c) l (l.map fun e => (R.e C e).m) := by
      intro l
      induction l with
      | nil => exact .nil
      | cons x l ih => exact .cons ⟨_, Y.r.e X C Gd x⟩ ih
    exact key _
theorem ok_fv {e : Expr} {k : Int} {s : Option Expr} {pos : Pos} : Snd G X (.FormattedValue e k s pos) (stE T ρ R C (.FormattedValue e k s pos)).m (stE T ρ R C (.FormattedValue e k s pos)).c := by
  cases s with
  | some _ => exact snd_bad
  | none =>
    show Snd G X _ (evFv T ρ R C e k).m (evFv T ρ R C e k).c
    unfold evFv
    by_cases z : (k == -1 && !isStar e) = true
    · rw [if_pos z]
      rw [beq_iff_eq.mp (bth z).1]
      exact snd_fmt (nt (bth z).2) (fmt_ok Y.top Y.d Gd) (ok_evO Y.r Gd [e])
    · rw [if_neg z]; exact snd_bad
theorem stE_ok : ∀ e : Expr, Snd G X e (stE T ρ R C e).m (stE T ρ R C e).c
  | .Constant c j pos => ok_const
  | .Name x pos => ok_name Y.top Gd
  | .BoolOp .And vs pos => ok_and Y.r Gd vs
  | .BoolOp .Or vs pos => ok_or Y.r Gd vs
  | .UnaryOp .Not a pos => snd_not (Y.r.e X C Gd a)
  | .UnaryOp .USub a pos => snd_un un_neg_ok (Y.r.e X C Gd a)
  | .UnaryOp .UAdd a pos => snd_bad
  | .UnaryOp .Invert a pos => snd_bad
  | .BinOp a op b pos => ok_bin Y Gd
  | .Compare a [] [] pos => snd_bad
  | .Compare a [] (_ :: _) pos => snd_bad
  | .Compare a [op] [] pos => snd_bad
  | .Compare a [op] [b] pos => ok_cmp1 Y Gd
  | .Compare a [op] (_ :: _ :: _) pos => snd_bad
  | .Compare a [op, op'] [] pos => snd_bad
  | .Compare a [op, op'] [_] pos => snd_bad
  | .Compare a [op, op'] [b, e] pos => ok_cmp2 Y Gd
  | .Compare a [op, op'] (_ :: _ :: _ :: _) pos => snd_bad
  | .Compare a (_ :: _ :: _ :: _) bs pos => by
    cases bs with
    | nil => exact snd_bad
    | cons b bs =>
      cases bs with
      | nil => exact snd_bad
      | cons _ _ => exact snd_bad
  | .IfExp t a b pos => snd_ite (Y.r.t X C Gd t) (Y.r.e X C Gd a) (Y.r.e X C Gd b)
  | .List es pos => snd_list (ok_evD Y.r Gd es)
  | .Tuple es k pos => snd_tuple (ok_evD Y.r Gd es)
  | .Dict [] [] pos => snd_dic0
  | .Dict [] (_ :: _) pos => snd_bad
  | .Dict (_ :: _) _ pos => snd_bad
  | .Attribute e f pos => ok_att Y Gd
  | .Subscript a b pos => ok_sub Y Gd
  | .Call (.Name x p) es kws pos => ok_callN Y Gd
  | .Call (.Attribute o a apos) es kws pos => ok_callA Y Gd
  | .Call (.Constant _ _ _) es kws pos => snd_bad
  | .Call (.BoolOp _ _ _) es kws pos => snd_bad
  | .Call (.NamedExpr _ _ _) es kws pos => snd_bad
  | .Call (.BinOp _ _ _ _) es kws pos => snd_bad
  | .Call (.UnaryOp _ _ _) es kws pos => snd_bad
  | .Call (.Lambda _ _ _ _) es kws pos => snd_bad
  | .Call (.IfExp _ _ _ _) es kws pos => snd_bad
  | .Call (.Dict _ _ _) es kws pos => snd_bad
  | .Call (.Set _ _ _) es kws pos => snd_bad
  | .Call (.ListComp _ _ _ _) es kws pos => snd_bad
  | .Call (.SetComp _ _ _ _) es kws pos => snd_bad
  | .Call (.DictComp _ _ _ _ _) es kws pos => snd_bad
  | .Call (.GeneratorExp _ _ _ _) es kws pos => snd_bad
  | .Call (.Await _ _) es kws pos => snd_bad
  | .Call (.Yield _ _) es kws pos => snd_bad
  | .Call (.YieldFrom _ _) es kws pos => snd_bad
  | .Call (.Compare _ _ _ _) es kws pos => snd_bad
  | .Call (.Call _ _ _ _) es kws pos => snd_bad
  | .Call (.FormattedValue _ _ _ _) es kws pos => snd_bad
  | .Call (.JoinedStr _ _) es kws pos => snd_bad
  | .Call (.Subscript _ _ _) es kws pos => snd_bad
  | .Call (.Starred _ _) es kws pos => snd_bad
  | .Call (.List _ _) es kws pos => snd_bad
  | .Call (.Tuple _ _ _) es kws pos => snd_bad
  | .Call (.Slice _ _ _ _) es kws pos => snd_bad
  | .ListComp elt gs scope pos => ok_lc Y Gd
  | .FormattedValue e k s pos => ok_fv Y Gd
  | .JoinedStr es pos => ok_js Y Gd
  | .NamedExpr _ _ _ => snd_bad
  | .Lambda _ _ _ _ => snd_bad
  | .Set _ _ _ => snd_bad
  | .SetComp _ _ _ _ => snd_bad
  | .DictComp _ _ _ _ _ => snd_bad
  | .GeneratorExp _ _ _ _ => snd_bad
  | .Await _ _ => snd_bad
  | .Yield _ _ => snd_bad
  | .YieldFrom _ _ => snd_bad
  | .Starred _ _ => snd_bad
  | .Slice _ _ _ _ => snd_bad
theorem stT_ok : ∀ e : Expr, SndT G X e (stT T ρ R C e).m (stT T ρ R C e).c
  | .BoolOp .And vs pos => (ok_andT Y.r Gd vs).t
  | .BoolOp .Or vs pos => (ok_orT Y.r Gd vs).t
  | .UnaryOp .Not a pos => sndT_not (Y.r.t X C Gd a)
  | .UnaryOp .USub a pos => sndT_plain Gd.K (Y.r.e X C Gd _) fun _ => rfl
  | .UnaryOp .UAdd a pos => sndT_plain Gd.K (Y.r.e X C Gd _) fun _ => rfl
  | .UnaryOp .Invert a pos => sndT_plain Gd.K (Y.r.e X C Gd _) fun _ => rfl
  | .Compare a [] [] pos => sndT_bad
  | .Compare a [] (_ :: _) pos => sndT_bad
  | .Compare a [op] [] pos => sndT_bad
  | .Compare a [op] [b] pos => ok_cmp1T Y Gd
  | .Compare a [op] (_ :: _ :: _) pos => sndT_bad
  | .Compare a [op, op'] [] pos => sndT_bad
  | .Compare a [op, op'] [_] pos => sndT_bad
  | .Compare a [op, op'] [b, e] pos => ok_cmp2T Y Gd
  | .Compare a [op, op'] (_ :: _ :: _ :: _) pos => sndT_bad
  | .Compare a (_ :: _ :: _ :: _) bs pos => by
    cases bs with
    | nil => exact sndT_bad
    | cons b bs =>
      cases bs with
      | nil => exact sndT_bad
      | cons _ _ => exact sndT_bad
  | .IfExp t a b pos => sndT_bad
  | .Constant _ _ _ => sndT_plain Gd.K (Y.r.e X C Gd _) fun _ => rfl
  | .Name _ _ => sndT_plain Gd.K (Y.r.e X C Gd _) fun _ => rfl
  | .BinOp _ _ _ _ => sndT_plain Gd.K (Y.r.e X C Gd _) fun _ => rfl
  | .List _ _ => sndT_plain Gd.K (Y.r.e X C Gd _) fun _ => rfl
  | .Tuple _ _ _ => sndT_plain Gd.K (Y.r.e X C Gd _) fun _ => rfl
  | .Dict _ _ _ => sndT_plain Gd.K (Y.r.e X C Gd _) fun _ => rfl
  | .Attribute _ _ _ => sndT_plain Gd.K (Y.r.e X C Gd _) fun _ => rfl
  | .Subscript _ _ _ => sndT_plain Gd.K (Y.r.e X C Gd _) fun _ => rfl
  | .Call _ _ _ _ => sndT_plain Gd.K (Y.r.e X C Gd _) fun _ => rfl
  | .ListComp _ _ _ _ => sndT_plain Gd.K (Y.r.e X C Gd _) fun _ => rfl
  | .FormattedValue _ _ _ _ => sndT_plain Gd.K (Y.r.e X C Gd _) fun _ => rfl
  | .JoinedStr _ _ => sndT_plain Gd.K (Y.r.e X C Gd _) fun _ => rfl
  | .NamedExpr _ _ _ => sndT_plain Gd.K (Y.r.e X C Gd _) fun _ => rfl
  | .Lambda _ _ _ _ => sndT_plain Gd.K (Y.r.e X C Gd _) fun _ => rfl
  | .Set _ _ _ => sndT_plain Gd.K (Y.r.e X C Gd _) fun _ => rfl
  | .SetComp _ _ _ _ => sndT_plain Gd.K (Y.r.e X C Gd _) fun _ => rfl
  | .DictComp _ _ _ _ _ => sndT_plain Gd.K (Y.r.e X C Gd _) fun _ => rfl
  | .GeneratorExp _ _ _ _ => sndT_plain Gd.K (Y.r.e X C Gd _) fun _ => rfl
  | .Await _ _ => sndT_plain Gd.K (Y.r.e X C Gd _) fun _ => rfl
  | .Yield _ _ => sndT_plain Gd.K (Y.r.e X C Gd _) fun _ => rfl
  | .YieldFrom _ _ => sndT_plain Gd.K (Y.r.e X C Gd _) fun _ => rfl
  | .Starred _ _ => sndT_plain Gd.K (Y.r.e X C Gd _) fun _ => rfl
  | .Slice _ _ _ _ => sndT_plain Gd.K (Y.r.e X C Gd _) fun _ => rfl
end
section
variable (Y : Hyp T G P w mg base fad n ρ R) (Gd : GoodC G P w mg base (n + 4) C.ns C.sn X)
include Y Gd
theorem gLst_ok {wr : Nat → Bool} : ∀ {es : List Expr} {gs : List (OV → TM Unit)}, gLst R C wr es = some gs → SndGs G X es (gall gs) wr ∧ (es.all fun e => !isStar e) = true
  | [], gs, h => by cases h; exact ⟨sndgs_nil, rfl⟩
  | e :: es, gs, h => by
    unfold gLst at h
    by_cases z : isStar e = true
    · rw [if_pos z] at h; cases h
    rw [if_neg z] at h
    have z : isStar e = false := by cases q : isStar e <;> simp_all
    cases e1 : R.g C wr e with
    | none => rw [e1] at h; cases h
    | some g =>
      cases e2 : gLst R C wr es with
      | none => rw [e1, e2] at h; cases h
      | some gs' =>
        rw [e1, e2] at h
        cases h
        obtain ⟨h1, h2⟩ := gLst_ok e2
        exact ⟨sndgs_cons z (Y.r.g X C wr Gd e g e1) h1, by rw [List.all_cons, z, h2]; rfl⟩
theorem loc_ok {x : Str} (h : C.sn.lookup x = some .local ∨ C.sn.lookup x = some .cell) : Loc X.env.scope x := by
  rcases h with h | h
  · exact (Gd.sc x _ h).elim .inl fun z => nomatch z.1
  · exact (Gd.sc x _ h).elim .inr fun z => nomatch z.1
theorem stG_ok {wr : Nat → Bool} {e : Expr} {g : OV → TM Unit} (h : stG R C wr e = some g) : SndG G X e g wr := by
  unfold stG at h
  split at h
  · rename_i x pos
    have key : (C.sn.lookup x = some .local ∨ C.sn.lookup x = some .cell) → (idx x C.ns 0).map (gname wr) = some g → SndG G X (.Name x pos) g wr := by
      intro hl e
      cases ei : idx x C.ns 0 with
      | none => rw [ei] at e; cases e
      | some i =>
        rw [ei] at e
        cases e
        exact sndg_name (by rw [Gd.nm]; exact Gd.nd) (by rw [Gd.nm]; exact (idx_ok ei).2) (loc_ok Y Gd hl) (Gd.st x hl)
    cases el : C.sn.lookup x with
    | none => rw [el] at h; cases h
    | some kd =>
      rw [el] at h
      cases kd with
      | «local» => exact key (.inl el) h
      | cell => exact key (.inr el) h
      | _ => cases h
  · rename_i es k p
    cases e1 : gLst R C wr es with
    | none => rw [e1] at h; cases h
    | some gs =>
      rw [e1] at h
      cases h
      obtain ⟨h1, h2⟩ := gLst_ok Y Gd e1
      exact sndg_tup Gd.K Gd.calm h2 h1
  · cases h
end
/-- what is known but of R -/
structure Hyp0 (T : Tb) (G : Gs) (P : Program) (w : World) (mg : Str → Option Value) (base : Heap) (fad : Nat → Addr) (n : Nat) (ρ : Rho) : Prop where
  top : TopOk T G mg fad
  c : Cal T G P w mg base fad (n + 4) ρ.c
  m : Cal T G P w mg base fad (n + 3) ρ.m
  d : Cal T G P w mg base fad n ρ.d
theorem evR_ok (Z : Hyp0 T G P w mg base fad n ρ) : ∀ k : Nat, RecOk G P w mg base (n + 4) (evR T ρ k)
  | 0 => ⟨fun X C Gd e => snd_bad, fun X C Gd e => sndT_bad, fun X C wr Gd e g h => nomatch h⟩
  | k + 1 => by
    have Y : Hyp T G P w mg base fad n ρ (evR T ρ k) := ⟨Z.top, Z.c, Z.m, Z.d, evR_ok Z k⟩
    exact ⟨fun X C Gd e => stE_ok Y Gd e, fun X C Gd e => stT_ok Y Gd e, fun X C wr Gd e g h => stG_ok Y Gd h⟩
end
end Tv
end

noncomputable section
set_option maxHeartbeats 400000
/-! The denotation of statements, and that it is sound. -/
namespace Tv
open PySem L2
open PySem (Str Expr Stmt Scope Keyword Comprehension)
def wfuel : Nat := 100000
section
variable (T : Tb) (ρ : Rho) (R : Rec) (C : Cxt)
/-- names stored from the right: their names -/
def swL (ts : List Expr) : List Str := ts.filterMap fun
    | .Name id pos => if C.sn.lookup id == some .local && pos.line == (ts.head?.map (·.pos.line)).getD 0 then some id else none
    | _ => none
def swN (ts : List Expr) : Option (List Str) := if (swL C ts).length != ts.length || (swL C ts).eraseDups.length != (swL C ts).length then none else some (swL C ts)
def anyStar (vs : List Expr) : Bool := vs.any fun | .Starred .. => true | _ => false
/-- how a tuple is stored: none: outside; some none: in order; some ns: from the right -/
def swp (ts : List Expr) (value : Expr) : Option (Option (List Str)) := match value with
  | .Tuple vs _ _ => if !(ts.length == 2 || ts.length == 3) || vs.length != ts.length then some none else
      if anyStar vs then some none else
      match swN C ts with
      | none => some none
      | some names => if vs.all (PySem.foldedForSure 8) then some none else if vs.all (PySem.constantsAlone 8) then none else some (some names)
  | _ => some none
def idxs : List Str → Option (List Nat)
  | [] => some []
  | x :: xs => match idx x C.ns 0, idxs xs with
    | some i, some is => some (i :: is)
    | _, _ => none
def isComp : Expr → Bool
  | .ListComp _ _ _ _ => true
  | .SetComp _ _ _ _ => true
  | .DictComp _ _ _ _ _ => true
  | _ => false
/-- whether a comprehension is stored on one line -/
def lcSw (x : Str) (px vpos : Pos) (scope : Scope) : Bool := C.sn.lookup x == some .local && px.line == vpos.line && !(scope.names.any fun (n, k) => n == x && (k == .local || k == .cell))
def evAsg (tg value : Expr) (pos : Pos) : TM Fl := match tg with
  | .Name x px => match C.sn.lookup x with
    | some .local => match idx x C.ns 0 with
      | some i => match value with
        | .SetComp _ _ _ _ => tbad
        | .DictComp _ _ _ _ _ => tbad
        | _ => tasg (R.e C value).m (gname C.w i)
      | none => tbad
    | some .cell => match idx x C.ns 0 with
      | some i => if isComp value then tbad else tasg (R.e C value).m (gname C.w i)
      | none => tbad
    | _ => tbad
  | .Tuple ts k pt => match swp C ts value with
    | none => tbad
    | some none => match R.g C C.w tg with
      | some g => tasg (R.e C value).m g
      | none => tbad
    | some (some names) => match idxs C names.reverse with
      | some is => tasg (R.e C value).m (gswap C.w is)
      | none => tbad
  | .Attribute (.Name x p) f pos' => match evSlot C x, idx f T.atts 0 with
    | some i, some n => tsetf (T.okA n) n i (R.e C value).m
    | _, _ => tbad
  | .Subscript o i p' => if isStar value || isStar o || isStar i then tbad else
      tb (tcons (tesc (R.e C value).m) (evO R C [o, i]).m) tsub3
  | _ => tbad
/-- one step of the denotation of statements -/
def evBl (f : Stmt → TM Fl) : List Stmt → TM Fl
  | [] => tp .nx
  | s :: r => tseq (f s) (evBl f r)
def stS (B : List Stmt → TM Fl) : Stmt → TM Fl
  | .Expr (.Constant (.str _) _ _) _ => tp .nx
  | .Expr e _ => if isComp e then tbad else tdrop (R.e C e).m
  | .Return none _ => tretn
  | .Return (some e) _ => tret C.par (R.e C e).m
  | .Pass _ => tp .nx
  | .If e a b _ => tifs (R.t C e).m (B a) (B b)
  | .While e b [] _ => twh (R.t C e).m (B b) wfuel
  | .For tg iter b [] _ => if noSetE iter then match evI T R C tg iter, R.g C C.w tg with
      | some m, some g => tfor m g (B b)
      | _, _ => tbad
    else tbad
  | .Assign [tg] value pos => evAsg T R C tg value pos
  | _ => tbad
def evS : Nat → Stmt → TM Fl
  | 0 => fun _ => tbad
  | n + 1 => fun st => stS T R C (evBl (evS n)) st
end
section
variable {T : Tb} {G : Gs} {P : Program} {w : World} {mg : Str → Option Value} {base : Heap} {fad : Nat → Addr} {n : Nat} {ρ : Rho} {R : Rec} {X : Cx} {C : Cxt} {c : Bool}
theorem snd1_bad {st : Stmt} {wr : Nat → Bool} : Snd1 G X st tbad wr := fun σ H F ts fp S W tk D q => q.elim
theorem block_fn {env : Env} (h : env.scope.kind = .function) : env.blockKind = .function := by
  unfold Env.blockKind
  rw [h]
  rfl
theorem swaps_plain {value : Expr} {tg : Option Expr} {line : Nat} {env : Env} (h : isComp value = false) : swapsWith value tg line env = pure false := by
  cases value <;> first | rfl | cases h
theorem swaps_att {value e : Expr} {f : Str} {p : Pos} {line : Nat} {env : Env} : swapsWith value (some (.Attribute e f p)) line env = pure false := by
  cases value <;> rfl
theorem swaps_sub {value e i : Expr} {p : Pos} {line : Nat} {env : Env} : swapsWith value (some (.Subscript e i p)) line env = pure false := by
  cases value <;> rfl
theorem swaps_tup {value : Expr} {es : List Expr} {k : Nat} {p : Pos} {line : Nat} {env : Env} : swapsWith value (some (.Tuple es k p)) line env = pure false := by
  cases value <;> rfl
theorem beq_some {a : Option NameKind} {b : NameKind} : (a == some b) = true ↔ a = some b := beq_iff_eq
section
variable (Y : Hyp T G P w mg base fad n ρ R) (Gd : GoodF G P w mg base (n + 4) C.ns C.sn X)
include Y Gd
theorem idxs_ok : ∀ {xs : List Str} {is : List Nat}, idxs C xs = some is → (∀ x ∈ xs, C.sn.lookup x = some .local) → Paired (fun i x => X.N[i]? = some x ∧ X.env.scope.names.lookup x = some .local) is xs
  | [], is, h, _ => by cases h; exact .nil
  | x :: xs, is, h, hl => by
    unfold idxs at h
    cases e1 : idx x C.ns 0 with
    | none => rw [e1] at h; cases h
    | some i =>
      cases e2 : idxs C xs with
      | none => rw [e1, e2] at h; cases h
      | some js =>
        rw [e1, e2] at h
        cases h
        exact .cons ⟨by rw [Gd.nm]; exact (idx_ok e1).2, by rw [Gd.scope]; exact hl x List.mem_cons_self⟩ (idxs_ok e2 fun y m => hl y (List.mem_cons_of_mem _ m))
theorem swN_ok {ts : List Expr} {names : List Str} (h : swN C ts = some names) : ∀ x ∈ names, C.sn.lookup x = some .local := by
  unfold swN at h
  split at h
  · cases h
  · cases h
    intro x m
    obtain ⟨e, _, he⟩ := List.mem_filterMap.mp m
    split at he
    · split at he
      · rename_i hq
        cases he
        exact beq_iff_eq.mp (bth hq).1
      · cases he
    · cases he
theorem swp_ok {ts : List Expr} {value : Expr} {k : Nat} {pt : Pos} {o : Option (List Str)} (h : swp C ts value = some o) : swappedStores [.Tuple ts k pt] value X.env = pure o := by
  unfold swp at h
  split at h
  · rename_i vs kk pp
    have hb : (X.env.blockKind != ScopeKind.function) = false := by rw [block_fn Gd.kind]; rfl
    have hk : ∀ id, X.env.kindOf id = C.sn.lookup id := fun id => by unfold Env.kindOf; rw [Gd.scope]
    have e0 : swappedStores [.Tuple ts k pt] (.Tuple vs kk pp) X.env = (if (!(ts.length == 2 || ts.length == 3) || vs.length != ts.length || X.env.blockKind != .function) = true then pure none else
      if anyStar vs = true then pure none else
      if ((ts.filterMap fun | .Name id pos => if (X.env.kindOf id == some .local && pos.line == (ts.head?.map (·.pos.line)).getD 0) = true then some id else none | _ => none).length != ts.length || (ts.filterMap fun | .Name id pos => if (X.env.kindOf id == some .local && pos.line == (ts.head?.map (·.pos.line)).getD 0) = true then some id else none | _ => none).eraseDups.length != (ts.filterMap fun | .Name id pos => if (X.env.kindOf id == some .local && pos.line == (ts.head?.map (·.pos.line)).getD 0) = true then some id else none | _ => none).length) = true then pure none else
      if vs.all (foldedForSure 8) = true then pure none else
      if vs.all (constantsAlone 8) = true then (do unsupported "assign.tuple-of-constant-expressions:order-of-the-stores"; pure (some (ts.filterMap fun | .Name id pos => if (X.env.kindOf id == some .local && pos.line == (ts.head?.map (·.pos.line)).getD 0) = true then some id else none | _ => none))) else
      pure (some (ts.filterMap fun | .Name id pos => if (X.env.kindOf id == some .local && pos.line == (ts.head?.map (·.pos.line)).getD 0) = true then some id else none | _ => none))) := rfl
    rw [e0]
    simp only [hb, Bool.or_false, hk]
    have e1 : (ts.filterMap fun | .Name id pos => if (C.sn.lookup id == some .local && pos.line == (ts.head?.map (·.pos.line)).getD 0) = true then some id else none | _ => none) = swL C ts := rfl
    rw [e1]
    by_cases z1 : (!(ts.length == 2 || ts.length == 3) || vs.length != ts.length) = true
    · rw [if_pos z1] at h ⊢
      cases h; rfl
    rw [if_neg z1] at h ⊢
    by_cases z2 : anyStar vs = true
    · rw [if_pos z2] at h ⊢
      cases h; rfl
    rw [if_neg z2] at h ⊢
    unfold swN at h
    by_cases z3 : ((swL C ts).length != ts.length || (swL C ts).eraseDups.length != (swL C ts).length) = true
    · rw [if_pos z3] at h ⊢
      cases h; rfl
    rw [if_neg z3] at h ⊢
    dsimp only at h
    by_cases z4 : vs.all (foldedForSure 8) = true
    · rw [if_pos z4] at h ⊢
      cases h; rfl
    rw [if_neg z4] at h ⊢
    by_cases z5 : vs.all (constantsAlone 8) = true
    · rw [if_pos z5] at h; cases h
    rw [if_neg z5] at h ⊢
    cases h; rfl
  · rename_i hne
    cases h
    unfold swappedStores
    cases value <;> first | rfl | exact (hne _ _ _ rfl).elim
theorem asg_name {x : Str} {px pos : Pos} {i : Nat} {value : Expr} (hl : C.sn.lookup x = some .local ∨ C.sn.lookup x = some .cell) (hi : idx x C.ns 0 = some i) (hc : isComp value = false) : Snd1 G X (.Assign [.Name x px] value pos) (tasg (R.e C value).m (gname C.w i)) C.w :=
  snd1_set (by rw [Gd.nm]; exact Gd.nd) (by rw [Gd.nm]; exact (idx_ok hi).2) (loc_ok Y Gd.toGoodC hl) (Gd.st x hl) (Y.r.e X C Gd.toGoodC value) (swaps_plain hc)
theorem evAsg_ok {tg value : Expr} {pos : Pos} (hr : ∀ elt gs scope p, value = .ListComp elt gs scope p → (∃ R', Hyp T G P w mg base fad n ρ R' ∧ R.e C value = evLc T R' C elt gs scope) ∨ R.e C value = .bad) : Snd1 G X (.Assign [tg] value pos) (evAsg T R C tg value pos) C.w := by
  unfold evAsg
  split
  · rename_i x px
    split
    · rename_i hl
      cases hi : idx x C.ns 0 with
      | none => exact snd1_bad
      | some i =>
        dsimp only
        by_cases hc : isComp value = true
        · cases value with
          | ListComp elt gs scope p =>
            dsimp only
            by_cases hw : lcSw C x px (Expr.ListComp elt gs scope p).pos scope = true
            · -- on one line
              rcases hr elt gs scope p rfl with ⟨R', Y', hr⟩ | hr
              · rw [hr]
                unfold evLc
                cases ec : evCpt T R' C gs scope with
                | none => exact fun σ H F ts fp S W tk D q => q.elim
                | some pp =>
                  obtain ⟨tg, iter, ifs, e1, e2, e3, hb, hs, hi2, hg, ⟨ct, ht⟩, he⟩ := cpt_ok Y' Gd.toGoodC ec
                  subst e1
                  dsimp only
                  rw [e2]
                  refine snd1_setLc Gd.calm (by rw [Gd.nm]; exact Gd.nd) (by rw [Gd.nm]; exact (idx_ok hi).2) (by rw [Gd.scope]; exact hl) ?_ hb hs hi2 hg ht (fun s H0 Cc cl fp => he s H0 Cc cl fp elt)
                  unfold lcSw at hw
                  show (pure (X.env.blockKind == .function && X.env.kindOf x == some .local && px.line == _ && _) : Sem Bool) = pure true
                  rw [block_fn Gd.kind]
                  unfold Env.kindOf
                  rw [Gd.scope]
                  exact congrArg pure (by rw [hl] at hw ⊢; simpa using hw)
              · rw [hr]; exact fun σ H F ts fp S W tk D q => q.elim
            · refine snd1_set (by rw [Gd.nm]; exact Gd.nd) (by rw [Gd.nm]; exact (idx_ok hi).2) (loc_ok Y Gd.toGoodC (.inl hl)) (Gd.st x (.inl hl)) (Y.r.e X C Gd.toGoodC _) ?_
              unfold lcSw at hw
              show (pure (X.env.blockKind == .function && X.env.kindOf x == some .local && px.line == _ && _) : Sem Bool) = pure false
              rw [block_fn Gd.kind]
              unfold Env.kindOf
              rw [Gd.scope]
              exact congrArg pure (by
                have hw := Bool.not_eq_true _ ▸ hw
                rw [hl] at hw ⊢
                simpa using hw)
          | SetComp _ _ _ _ => exact snd1_bad
          | DictComp _ _ _ _ _ => exact snd1_bad
          | _ => cases hc
        · have hc : isComp value = false := by cases z : isComp value <;> simp_all
          have key := asg_name Y Gd (px := px) (pos := pos) (.inl hl) hi hc
          split
          · cases hc
          · cases hc
          · exact key
    · rename_i hl
      cases hi : idx x C.ns 0 with
      | none => exact snd1_bad
      | some i =>
        dsimp only
        by_cases hc : isComp value = true
        · rw [if_pos hc]; exact snd1_bad
        · rw [if_neg hc]
          exact asg_name Y Gd (.inr hl) hi (by cases z : isComp value <;> simp_all)
    · exact snd1_bad
  · rename_i ts k pt
    cases es : swp C ts value with
    | none => exact snd1_bad
    | some o =>
      have hsw := swp_ok Y Gd (k := k) (pt := pt) es
      cases o with
      | none =>
        dsimp only
        cases eg : R.g C C.w (.Tuple ts k pt) with
        | none => exact snd1_bad
        | some g => exact snd1_asg (Y.r.e X C Gd.toGoodC value) (Y.r.g X C C.w Gd.toGoodC _ g eg) (show swapsWithSole [Expr.Tuple ts k pt] value pos.line X.env = pure false from swaps_tup (es := ts) (k := k) (p := pt) (line := pos.line) (env := X.env)) hsw rfl
      | some names =>
        dsimp only
        cases ei : idxs C names.reverse with
        | none => exact snd1_bad
        | some is =>
          have hl : ∀ x ∈ names.reverse, C.sn.lookup x = some .local := fun x m => by
            have m := List.mem_reverse.mp m
            unfold swp at es
            split at es
            · split at es
              · cases es
              · split at es
                · cases es
                · cases en : swN C ts with
                  | none => rw [en] at es; cases es
                  | some nm =>
                    rw [en] at es
                    dsimp only at es
                    split at es
                    · cases es
                    · split at es
                      · cases es
                      · cases es
                        exact swN_ok Y Gd en x m
            · cases es
          exact snd1_swap Gd.K Gd.calm (by rw [Gd.nm]; exact Gd.nd) (idxs_ok Y Gd ei hl) (Y.r.e X C Gd.toGoodC value) (show swapsWithSole [Expr.Tuple ts k pt] value pos.line X.env = pure false from swaps_tup (es := ts) (k := k) (p := pt) (line := pos.line) (env := X.env)) hsw
  · rename_i x p f pos'
    cases es : evSlot C x with
    | none => exact snd1_bad
    | some i =>
      cases ei : idx f T.atts 0 with
      | none => exact snd1_bad
      | some k =>
        dsimp only
        have ea : G.att k = f := Y.top.att k f (idx_ok ei).2
        rw [← ea]
        unfold evSlot at es
        by_cases z : (isVis C x && okN x) = true
        · rw [if_pos z] at es
          obtain ⟨z1, z2⟩ := bth z
          obtain ⟨d1, d2, _⟩ := okN_ok z2
          refine snd1_setf (by rw [Gd.nm]; exact (idx_ok es).2) (isVis_ok Gd.toGoodC z1) d1 d2 (fun cc h => ?_) swaps_att (Y.r.e X C Gd.toGoodC value)
          have hl : cc < T.cls.length := by
            unfold Tb.okA at h
            cases e1 : T.cls[cc]? with
            | none => rw [e1] at h; cases h
            | some d => exact (List.getElem?_eq_some_iff.mp e1).1
          rw [Gd.K]
          exact ⟨(Y.top.cls cc hl).1, Y.top.noat cc k h⟩
        · rw [if_neg z] at es; cases es
  · rename_i o i p'
    by_cases z : (isStar value || isStar o || isStar i) = true
    · rw [if_pos z]; exact snd1_bad
    · rw [if_neg z]
      have z : isStar value = false ∧ isStar o = false ∧ isStar i = false := by
        cases a : isStar value <;> cases b : isStar o <;> cases c : isStar i <;> simp_all
      exact snd1_sub (by have := Gd.room.units; omega) swaps_sub z.1 z.2.1 z.2.2 (sndo_item z.1 (Y.r.e X C Gd.toGoodC value) (ok_evO Y.r Gd.toGoodC [o, i]))
  · exact snd1_bad
theorem evBl_ok {f : Stmt → TM Fl} (h : ∀ st, Snd1 G X st (f st) C.w) : ∀ sts : List Stmt, SndS G X sts (evBl f sts) C.w
  | [] => snds_nil
  | st :: r => snds_cons (h st) (evBl_ok h r)
theorem stS_ok {B : List Stmt → TM Fl} (hB : ∀ sts, SndS G X sts (B sts) C.w) (hr : ∀ value elt gs scope p, value = Expr.ListComp elt gs scope p → (∃ R', Hyp T G P w mg base fad n ρ R' ∧ R.e C value = evLc T R' C elt gs scope) ∨ R.e C value = .bad) (st : Stmt) : Snd1 G X st (stS T R C B st) C.w := by
  unfold stS
  split
  · exact snd1_doc
  · rename_i e pos hne
    by_cases hc : isComp e = true
    · rw [if_pos hc]; exact snd1_bad
    · rw [if_neg hc]
      exact snd1_expr (Y.r.e X C Gd.toGoodC e) (swaps_plain (by cases z : isComp e <;> simp_all))
  · exact snd1_retn
  · exact snd1_ret (Y.r.e X C Gd.toGoodC _)
  · exact snd1_pass
  · exact snd1_if (Y.r.t X C Gd.toGoodC _) (hB _) (hB _)
  · exact snd1_while Gd.own (Y.r.t X C Gd.toGoodC _) (hB _)
  · rename_i tg iter b pos
    by_cases z : noSetE iter = true
    · rw [if_pos z]
      cases e1 : evI T R C tg iter with
      | none => exact snd1_bad
      | some m =>
        cases e2 : R.g C C.w tg with
        | none => exact snd1_bad
        | some g => exact snd1_for Gd.own Gd.calm (evI_ok Y Gd.toGoodC e1) (Y.r.g X C C.w Gd.toGoodC tg g e2) (hB b) (noSet_ok z X.env)
    · rw [if_neg z]; exact snd1_bad
  · exact evAsg_ok Y Gd fun elt gs scope p e => hr _ elt gs scope p e
  · exact snd1_bad
theorem evS_ok (hr : ∀ value elt gs scope p, value = Expr.ListComp elt gs scope p → (∃ R', Hyp T G P w mg base fad n ρ R' ∧ R.e C value = evLc T R' C elt gs scope) ∨ R.e C value = .bad) : ∀ (k : Nat) (st : Stmt), Snd1 G X st (evS T R C k st) C.w
  | 0, st => snd1_bad
  | k + 1, st => stS_ok Y Gd (evBl_ok Y Gd (evS_ok hr k)) hr st
end
end
end Tv
end

noncomputable section
set_option maxHeartbeats 400000
/-! The denotation of a whole text, by levels. -/
namespace Tv
open PySem L2
open PySem (Str Expr Stmt Scope Keyword Comprehension)
def FD.I (d : FD) (f : Addr) : FnI := ⟨f, d.name, d.qual, d.params, d.body, d.scope, d.g, d.ns, d.dfs, d.kds⟩
def FD.C (d : FD) : Cxt := ⟨d.ns, d.scope.names, d.wr, d.g.ps.length⟩
def rbad : Runs := fun _ _ _ => .bad
def efuel : Nat := 40
/-- what the body of a def does -/
def bodyM (T : Tb) (ρ : Rho) (fd : FD) : TM Fl := evBl (evS T (evR T ρ efuel) fd.C efuel) fd.body
def denR (T : Tb) (ρ : Rho) : Runs := fun i cs kws => match T.fns[i]? with
  | some fd => fnrun (fd.I 0) fd.C.w (bodyM T ρ fd) cs kws
  | none => .bad
/-- hist N j: the runs at level N - j -/
def hist (T : Tb) : Nat → Nat → Runs
  | 0 => fun _ => rbad
  | n + 1 => fun j => match j with
    | 0 => denR T ⟨hist T n 0, hist T n 1, hist T n 4⟩
    | j + 1 => hist T n j
section
variable {T : Tb} {G : Gs} {P : Program} {w : World} {mg : Str → Option Value} {base : Heap} {fad : Nat → Addr}
theorem cal_bad {k : Nat} : Cal T G P w mg base fad k rbad := fun i fd h A outer s H F cs vs us fpc kws zs ws hr hg e0 sub rc nd off rv rk rz Q E q => q.elim
theorem cal_den (TK : TopOk T G mg fad) (FF : ∀ (i : Nat) (fd : FD), T.fns[i]? = some fd → FnF G (fd.I (fad i))) {n : Nat} {ρ : Rho} (Z : Hyp0 T G P w mg base fad n ρ) : Cal T G P w mg base fad (n + 5) (denR T ρ) := fun i fd h => by
  have e : denR T ρ i = fnrun (fd.I (fad i)) fd.C.w (bodyM T ρ fd) := by
    funext cs kws
    unfold denR
    rw [h]
    rfl
  rw [e]
  refine cal_of (k := n + 4) (FF i fd h) fun X Gd => ?_
  have Gd' : GoodF G P w mg base (n + 4) fd.C.ns fd.C.sn X := Gd
  have Y : Hyp T G P w mg base fad n ρ (evR T ρ efuel) := ⟨Z.top, Z.c, Z.m, Z.d, evR_ok Z efuel⟩
  refine evBl_ok Y Gd' (evS_ok Y Gd' (fun value elt gs scope p e => .inl ⟨evR T ρ (efuel - 1), ⟨Z.top, Z.c, Z.m, Z.d, evR_ok Z _⟩, by subst e; rfl⟩) efuel) _
theorem cal_hist (TK : TopOk T G mg fad) (FF : ∀ (i : Nat) (fd : FD), T.fns[i]? = some fd → FnF G (fd.I (fad i))) : ∀ n j : Nat, Cal T G P w mg base fad (n + 4 - j) (hist T n j)
  | 0, j => cal_bad
  | n + 1, 0 => cal_den TK FF ⟨TK, cal_hist TK FF n 0, cal_hist TK FF n 1, by have := cal_hist TK FF n 4; exact this⟩
  | n + 1, j + 1 => by
    have := cal_hist TK FF n j
    have e : n + 1 + 4 - (j + 1) = n + 4 - j := by omega
    rw [e]
    exact this
end
end Tv
end

noncomputable section
set_option maxHeartbeats 1000000
/-! What the top of a text holds, by one Bool. -/
namespace Tv
open PySem L2
open PySem (Str Expr Stmt Scope Keyword Comprehension)
/-! ### names of attributes -/
def attOf (l : List Str) (n : Nat) : Str := match l[n]? with
  | some x => x
  | none => ⟨(List.replicate (n + 64) 65).toArray⟩
def attsB (l : List Str) : Bool := nodupB l && l.all fun x => decide (x.cps.size < 64)
theorem nd_inj {α : Type} {x : α} : ∀ {l : List α} {n m : Nat}, l.Nodup → l[n]? = some x → l[m]? = some x → n = m
  | [], n, m, _, a, _ => by simp at a
  | y :: l, 0, 0, _, _, _ => rfl
  | y :: l, 0, m + 1, h, a, b => by
    have a : y = x := by simpa using a
    have b : l[m]? = some x := by simpa using b
    subst a
    exact ((List.nodup_cons.mp h).1 (List.mem_of_getElem? b)).elim
  | y :: l, n + 1, 0, h, a, b => by
    have b : y = x := by simpa using b
    have a : l[n]? = some x := by simpa using a
    subst b
    exact ((List.nodup_cons.mp h).1 (List.mem_of_getElem? a)).elim
  | y :: l, n + 1, m + 1, h, a, b => by
    rw [nd_inj (List.nodup_cons.mp h).2 (show l[n]? = some x by simpa using a) (show l[m]? = some x by simpa using b)]
theorem attOf_none {l : List Str} {n : Nat} (h : l[n]? = none) : attOf l n = ⟨(List.replicate (n + 64) 65).toArray⟩ := by
  unfold attOf; rw [h]
theorem attOf_some {l : List Str} {n : Nat} {x : Str} (h : l[n]? = some x) : attOf l n = x := by
  unfold attOf; rw [h]
theorem attOf_inj {l : List Str} (h : attsB l = true) : ∀ n m, attOf l n = attOf l m → n = m := fun n m e => by
  obtain ⟨h1, h2⟩ := bth h
  have nd := nodupB_ok h1
  have sm : ∀ (i : Nat) (x : Str), l[i]? = some x → x.cps.size < 64 := fun i x q => of_decide_eq_true (List.all_eq_true.mp h2 x (List.mem_of_getElem? q))
  cases a : l[n]? with
  | none =>
    rw [attOf_none a] at e
    cases b : l[m]? with
    | none =>
      rw [attOf_none b] at e
      have : n + 64 = m + 64 := by simpa using congrArg (fun z : Str => z.cps.size) e
      omega
    | some y =>
      rw [attOf_some b] at e
      have : n + 64 = y.cps.size := by simpa using congrArg (fun z : Str => z.cps.size) e
      have := sm m y b
      omega
  | some x =>
    rw [attOf_some a] at e
    cases b : l[m]? with
    | none =>
      rw [attOf_none b] at e
      have : x.cps.size = m + 64 := by simpa using congrArg (fun z : Str => z.cps.size) e
      have := sm n x a
      omega
    | some y =>
      rw [attOf_some b] at e
      subst e
      obtain ⟨i1, j1⟩ := List.getElem?_eq_some_iff.mp a
      obtain ⟨i2, j2⟩ := List.getElem?_eq_some_iff.mp b
      exact nd_inj nd a b
/-! ### the places -/
def gsOf (T : Tb) (h : attsB T.atts = true) (K : PySem.W.Frag) : Gs := ⟨K, fun c => match T.cls[c]? with
  | some d => He.ga K d.nm
  | none => 0, attOf T.atts, attOf_inj h⟩
def fadOf (p : List He.Defn) (K : PySem.W.Frag) : Nat → Addr := fun i => He.fAd K (p.getD i ("", none))
/-! ### atoms -/
def atom : FV → Option He.Dv
  | .non => some .non
  | .bl b => some (.bl b)
  | .int i => some (.int i)
  | .str x => if sok x then some (.str x) else none
  | _ => none
theorem atom_ok {G : Gs} {F : Hp} {x : FV} {d : He.Dv} (h : atom x = some d) (K : PySem.W.Frag) : RF G F x (d.v K) := by
  cases x with
  | non => cases h; rfl
  | bl b => cases h; rfl
  | int i => cases h; rfl
  | str z =>
    unfold atom at h
    dsimp only at h
    by_cases e : sok z = true
    · rw [if_pos e] at h; cases h; exact ⟨rfl, e⟩
    · rw [if_neg e] at h; cases h
  | _ => cases h
def atoms : List FV → Option (List He.Dv)
  | [] => some []
  | x :: xs => match atom x, atoms xs with
    | some d, some ds => some (d :: ds)
    | _, _ => none
theorem atoms_ok {G : Gs} {F : Hp} {K : PySem.W.Frag} : ∀ {xs : List FV} {ds : List He.Dv}, atoms xs = some ds → RFs G F xs (ds.map (He.Dv.v K))
  | [], ds, h => by cases h; rfl
  | x :: xs, ds, h => by
    unfold atoms at h
    cases e1 : atom x with
    | none => rw [e1] at h; cases h
    | some d =>
      cases e2 : atoms xs with
      | none => rw [e1, e2] at h; cases h
      | some es =>
        rw [e1, e2] at h
        cases h
        exact ⟨_, _, rfl, atom_ok e1 K, atoms_ok e2⟩
/-! ### one Bool -/
section
variable (T : Tb) (p : List He.Defn) (K : PySem.W.Frag)
def cadT (c : Nat) : Addr := match T.cls[c]? with
  | some d => He.ga K d.nm
  | none => 0
def tyT : Tyn → Value
  | .inl n => .type n
  | .inr c => .ref (cadT T K c)
def conT (x : Str) : FV → Bool
  | .tup vs => match atoms vs with
    | some ds => (He.Fa.glo x).ok K && He.tupB K x ds
    | none => false
  | v => match atom v with
    | some d => match PySem.W.nsIn K mainGlobals x with
      | some (some u) => He.relB (d.v K) u
      | _ => false
    | none => false
def globT (q : Str × GK) : Bool := match q.2 with
  | .fn i => decide (i < T.fns.length) && He.eqO (PySem.W.nsIn K mainGlobals q.1) (some (some (.ref (fadOf p K i)))) && PySem.W.keepIn K (.ref (fadOf p K i))
  | .cl c => decide (c < T.cls.length) && He.eqO (PySem.W.nsIn K mainGlobals q.1) (some (some (.ref (cadT T K c))))
  | .con v => conT K q.1 v
def dunT (C : Addr) (m : Str) (i : Nat) : Bool := decide (i < T.fns.length) && He.eqO (PySem.W.findIn K (.ref C) m) (some (some (.ref (fadOf p K i)))) && PySem.W.isFn K (.ref (fadOf p K i))
def optT (o : Option Nat) (f : Nat → Bool) : Bool := match o with
  | some i => f i
  | none => true
def objT (C : Addr) : Bool := decide (PySem.W.mroIn K C (.type "object") = some true)
def clsT (d : CD) : Bool :=
  let C := He.ga K d.nm
  (He.Fa.cls d.nm).ok K && (He.eqO (PySem.W.findIn K (.ref C) "__class__") (some (some (.builtin "object.__class__"))) &&
  (decide (PySem.W.specialIn K (.builtin "object.__class__") "__get__" = some (some (.builtin "getset_descriptor.__get__"))) &&
  (decide (PySem.W.takesIn K (.builtin "object.__class__") = some true) && (objT K C &&
  ((d.attrs.all fun n => He.eqO (PySem.W.findIn K (.ref C) (attOf T.atts n)) (some none)) &&
  ((d.meths.all fun q => dunT T p K C (attOf T.atts q.1) q.2 && PySem.W.keepIn K (.ref (fadOf p K q.2))) &&
  (optT d.init (fun i => (match T.fns[i]? with | some fd => decide (0 < fd.g.ps.length) | none => false) && (PySem.W.makesIn K C && (dunT T p K C "__init__" i && PySem.W.keepIn K (.ref C)))) &&
  (optT d.eq (fun i => He.eqO (PySem.W.findIn K (.ref C) "__ne__") (some (some (.builtin "object.__ne__"))) && dunT T p K C "__eq__" i) &&
  (optT d.str (fun i => He.eqO (PySem.W.findIn K (.ref C) "__format__") (some (some (.builtin "object.__format__"))) && dunT T p K C "__str__" i) &&
  optT d.repr (fun i => dunT T p K C "__repr__" i))))))))))
def tyns : List Tyn := tnames.map .inl ++ (List.range T.cls.length).map .inr
def isiT : Bool := (tyns T).all fun t => (tyns T).all fun t' => match T.isi t t' with
  | some b => decide (PySem.W.kitOne K (tyT T K t') (tyT T K t) = some b)
  | none => true
def nfT : Bool := (List.range T.cls.length).all fun c => (tyns T).all fun t => PySem.W.notFirst K (cadT T K c) (tyT T K t)
def topT : Bool := (T.glob.all fun q => globT T p K q) && ((T.free.all fun x => He.eqO (PySem.W.nsIn K mainGlobals x) (some none)) && ((T.cls.all fun d => clsT T p K d) && (isiT T K && nfT T K)))
end
section
variable {T : Tb} {p : List He.Defn} {K : PySem.W.Frag} {ha : attsB T.atts = true} {h : Heap} {mg : Str → Option Value}
theorem tyT_eq (t : Tyn) : tyV (gsOf T ha K) t = tyT T K t := by cases t <;> rfl
theorem cad_eq {c : Nat} {d : CD} (e : T.cls[c]? = some d) : (gsOf T ha K).cad c = He.ga K d.nm := by
  show (match T.cls[c]? with
    | some d => He.ga K d.nm
    | none => 0) = _
  rw [e]
theorem lt_of {α : Type} {l : List α} {i : Nat} (h : i < l.length) : ∃ x, l[i]? = some x := ⟨l[i], List.getElem?_eq_getElem h⟩
theorem dunT_ok {C : Addr} {m : Str} {i : Nat} (e : dunT T p K C m i = true) : (∃ fd, T.fns[i]? = some fd) ∧ DunC K C m (fadOf p K i) := by
  obtain ⟨e1, e2, e3⟩ := bth3 e
  exact ⟨lt_of (of_decide_eq_true e1), He.eqO_ok e2, e3⟩
theorem con_ok (X : K.In h) (G : h.Ns mainGlobals mg) {x : Str} {v : FV} (e : conT K x v = true) : ∃ vv u, mg x = some u ∧ RelV vv u ∧ ∀ F, RF (gsOf T ha K) F v vv := by
  have key : ∀ v, (match atom v with
    | some d => (match PySem.W.nsIn K mainGlobals x with
      | some (some u) => He.relB (d.v K) u
      | _ => false)
    | none => false) = true → ∃ vv u, mg x = some u ∧ RelV vv u ∧ ∀ F, RF (gsOf T ha K) F v vv := fun v e => by
    cases e1 : atom v with
    | none => rw [e1] at e; cases e
    | some d =>
      rw [e1] at e
      dsimp only at e
      cases e2 : PySem.W.nsIn K mainGlobals x with
      | none => rw [e2] at e; cases e
      | some o =>
        cases o with
        | none => rw [e2] at e; cases e
        | some u =>
          rw [e2] at e
          exact ⟨d.v K, u, PySem.W.mg_of X G e2, He.relB_ok e, fun F => atom_ok e1 K⟩
  cases v with
  | tup vs =>
    unfold conT at e
    dsimp only at e
    cases e1 : atoms vs with
    | none => rw [e1] at e; cases e
    | some ds =>
      rw [e1] at e
      obtain ⟨e2, e3⟩ := bth e
      exact ⟨.ref (He.ga K x), _, He.glo_ok X G e2, rfl, fun F => ⟨_, _, rfl, He.tupB_ok e3 F, atoms_ok e1⟩⟩
  | non => exact key _ e
  | bl b => exact key _ e
  | int i => exact key _ e
  | str z => exact key _ e
  | lst _ => exact key _ e
  | dic _ _ => exact key _ e
  | obj _ _ _ => exact key _ e
  | cls _ => exact key _ e
  | scr _ => exact key _ e
theorem tyns_in : ∀ {n : String}, tnames.contains n = true → Sum.inl n ∈ tyns T := fun e => List.mem_append_left _ (List.mem_map_of_mem (List.contains_iff_mem.mp e))
theorem tyns_cl {c : Nat} (e : c < T.cls.length) : Sum.inr c ∈ tyns T := List.mem_append_right _ (List.mem_map_of_mem (List.mem_range.mpr e))
theorem isi_dom {t t' : Tyn} {b : Bool} (e : T.isi t t' = some b) : t ∈ tyns T ∧ t' ∈ tyns T := by
  unfold Tb.isi at e
  cases t with
  | inl a =>
    cases t' with
    | inl c =>
      dsimp only at e
      by_cases z : (tnames.contains a && tnames.contains c) = true
      · exact ⟨tyns_in (bth z).1, tyns_in (bth z).2⟩
      · rw [if_neg z] at e; cases e
    | inr c =>
      dsimp only at e
      by_cases z : (tnames.contains a && decide (c < T.cls.length)) = true
      · exact ⟨tyns_in (bth z).1, tyns_cl (of_decide_eq_true (bth z).2)⟩
      · rw [if_neg z] at e; cases e
  | inr a =>
    cases t' with
    | inl c =>
      dsimp only at e
      by_cases z : (decide (a < T.cls.length) && tnames.contains c) = true
      · exact ⟨tyns_cl (of_decide_eq_true (bth z).1), tyns_in (bth z).2⟩
      · rw [if_neg z] at e; cases e
    | inr c =>
      dsimp only at e
      by_cases z : decide (a < T.cls.length) = true
      · rw [if_pos z] at e
        cases q : T.cls[c]? with
        | none => rw [q] at e; cases e
        | some d => exact ⟨tyns_cl (of_decide_eq_true z), tyns_cl (List.getElem?_eq_some_iff.mp q).1⟩
      · rw [if_neg z] at e; cases e
theorem clsT_in (e : topT T p K = true) {c : Nat} {d : CD} (q : T.cls[c]? = some d) : clsT T p K d = true := List.all_eq_true.mp (bth (bth (bth e).2).2).1 d (List.mem_of_getElem? q)
theorem topT_ok (X : K.In h) (G : h.Ns mainGlobals mg) (e : topT T p K = true) : TopOk T (gsOf T ha K) mg (fadOf p K) := by
  obtain ⟨e1, e⟩ := bth (show ((T.glob.all fun q => globT T p K q) && ((T.free.all fun x => He.eqO (PySem.W.nsIn K mainGlobals x) (some none)) && ((T.cls.all fun d => clsT T p K d) && (isiT T K && nfT T K)))) = true from e)
  obtain ⟨e2, e⟩ := bth e
  obtain ⟨e3, e⟩ := bth e
  obtain ⟨e4, e5⟩ := bth e
  have cl : ∀ (c : Nat) (d : CD), T.cls[c]? = some d → clsT T p K d = true := fun c d q => List.all_eq_true.mp e3 d (List.mem_of_getElem? q)
  have gl : ∀ (x : Str) (k : GK), T.glob.lookup x = some k → globT T p K (x, k) = true := fun x k q => List.all_eq_true.mp e1 _ (mem_of_lookup' q)
  refine ⟨fun n x q => attOf_some q, ?_, ?_, ?_, ?_, ?_, ?_, ?_, ?_, ?_, ?_, ?_, ?_, ?_⟩
  · intro x i q
    obtain ⟨a, b, c⟩ := bth3 (gl x _ q)
    exact ⟨lt_of (of_decide_eq_true a), PySem.W.mg_of X G (He.eqO_ok b), c⟩
  · intro x c q
    obtain ⟨a, b⟩ := bth (gl x _ q)
    exact ⟨of_decide_eq_true a, PySem.W.mg_of X G (He.eqO_ok b)⟩
  · intro x v q
    exact con_ok X G (gl x _ q)
  · intro x q
    exact PySem.W.mg_none_of X G (He.eqO_ok (List.all_eq_true.mp e2 x (List.contains_iff_mem.mp q)))
  · intro c q
    obtain ⟨d, hd⟩ := lt_of q
    obtain ⟨a1, a⟩ := bth (cl c d hd)
    obtain ⟨a2, a⟩ := bth a
    obtain ⟨a3, a⟩ := bth a
    obtain ⟨a4, a⟩ := bth a
    obtain ⟨a5, a⟩ := bth a
    rw [cad_eq hd]
    have z := He.cls_ok a1
    exact ⟨z, z, He.eqO_ok a2, of_decide_eq_true a3, of_decide_eq_true a4, of_decide_eq_true a5⟩
  · intro c n q
    unfold Tb.okA at q
    cases hd : T.cls[c]? with
    | none => rw [hd] at q; cases q
    | some d =>
      rw [hd] at q
      obtain ⟨a1, a⟩ := bth (cl c d hd)
      obtain ⟨a2, a⟩ := bth a
      obtain ⟨a3, a⟩ := bth a
      obtain ⟨a4, a⟩ := bth a
      obtain ⟨a5, a⟩ := bth a
      obtain ⟨a6, a⟩ := bth a
      rw [cad_eq hd]
      exact He.eqO_ok (List.all_eq_true.mp a6 n (List.contains_iff_mem.mp q))
  · intro c d n i hd q
    obtain ⟨a1, a⟩ := bth (cl c d hd)
    obtain ⟨a2, a⟩ := bth a
    obtain ⟨a3, a⟩ := bth a
    obtain ⟨a4, a⟩ := bth a
    obtain ⟨a5, a⟩ := bth a
    obtain ⟨a6, a⟩ := bth a
    obtain ⟨a7, a⟩ := bth a
    have hm : (n, i) ∈ d.meths := by
      clear a7
      generalize d.meths = l at q
      induction l with
      | nil => cases q
      | cons r l ih =>
        obtain ⟨m, j⟩ := r
        have q2 : (match n == m with | true => some j | false => l.lookup n) = some i := q
        cases z : n == m with
        | true =>
          rw [z] at q2
          cases q2
          rw [beq_iff_eq.mp z]
          exact List.mem_cons_self
        | false =>
          rw [z] at q2
          exact List.mem_cons_of_mem _ (ih q2)
    obtain ⟨b1, b2⟩ := bth (List.all_eq_true.mp a7 _ hm)
    obtain ⟨c1, c2⟩ := dunT_ok b1
    rw [cad_eq hd]
    exact ⟨c1, c2.at_, c2.fn, b2⟩
  · intro c d i hd q
    obtain ⟨a1, a⟩ := bth (cl c d hd)
    obtain ⟨a2, a⟩ := bth a
    obtain ⟨a3, a⟩ := bth a
    obtain ⟨a4, a⟩ := bth a
    obtain ⟨a5, a⟩ := bth a
    obtain ⟨a6, a⟩ := bth a
    obtain ⟨a7, a⟩ := bth a
    obtain ⟨a8, a⟩ := bth a
    rw [q] at a8
    obtain ⟨b1, b⟩ := bth (show ((match T.fns[i]? with | some fd => decide (0 < fd.g.ps.length) | none => false) && (PySem.W.makesIn K (He.ga K d.nm) && (dunT T p K (He.ga K d.nm) "__init__" i && PySem.W.keepIn K (.ref (He.ga K d.nm))))) = true from a8)
    obtain ⟨b2, b⟩ := bth b
    obtain ⟨b3, b4⟩ := bth b
    obtain ⟨⟨fd, c1⟩, c2⟩ := dunT_ok b3
    rw [cad_eq hd]
    rw [c1] at b1
    exact ⟨⟨fd, fd.g.ps.length - 1, c1, by have := of_decide_eq_true b1; omega⟩, b2, c2.at_, c2.fn, b4⟩
  · intro c d i hd q
    obtain ⟨a1, a⟩ := bth (cl c d hd)
    obtain ⟨a2, a⟩ := bth a
    obtain ⟨a3, a⟩ := bth a
    obtain ⟨a4, a⟩ := bth a
    obtain ⟨a5, a⟩ := bth a
    obtain ⟨a6, a⟩ := bth a
    obtain ⟨a7, a⟩ := bth a
    obtain ⟨a8, a⟩ := bth a
    obtain ⟨a9, a⟩ := bth a
    rw [q] at a9
    obtain ⟨b1, b2⟩ := bth (show (He.eqO (PySem.W.findIn K (.ref (He.ga K d.nm)) "__ne__") (some (some (.builtin "object.__ne__"))) && dunT T p K (He.ga K d.nm) "__eq__" i) = true from a9)
    obtain ⟨c1, c2⟩ := dunT_ok b2
    rw [cad_eq hd]
    exact ⟨c1, He.eqO_ok b1, of_decide_eq_true a5, c2⟩
  · intro c d i hd q
    obtain ⟨a1, a⟩ := bth (cl c d hd)
    obtain ⟨a2, a⟩ := bth a
    obtain ⟨a3, a⟩ := bth a
    obtain ⟨a4, a⟩ := bth a
    obtain ⟨a5, a⟩ := bth a
    obtain ⟨a6, a⟩ := bth a
    obtain ⟨a7, a⟩ := bth a
    obtain ⟨a8, a⟩ := bth a
    obtain ⟨a9, a⟩ := bth a
    obtain ⟨aa, a⟩ := bth a
    rw [q] at aa
    obtain ⟨b1, b2⟩ := bth (show (He.eqO (PySem.W.findIn K (.ref (He.ga K d.nm)) "__format__") (some (some (.builtin "object.__format__"))) && dunT T p K (He.ga K d.nm) "__str__" i) = true from aa)
    obtain ⟨c1, c2⟩ := dunT_ok b2
    rw [cad_eq hd]
    exact ⟨c1, He.eqO_ok b1, of_decide_eq_true a5, c2⟩
  · intro c d i hd q
    obtain ⟨a1, a⟩ := bth (cl c d hd)
    obtain ⟨a2, a⟩ := bth a
    obtain ⟨a3, a⟩ := bth a
    obtain ⟨a4, a⟩ := bth a
    obtain ⟨a5, a⟩ := bth a
    obtain ⟨a6, a⟩ := bth a
    obtain ⟨a7, a⟩ := bth a
    obtain ⟨a8, a⟩ := bth a
    obtain ⟨a9, a⟩ := bth a
    obtain ⟨aa, ab⟩ := bth a
    rw [q] at ab
    obtain ⟨c1, c2⟩ := dunT_ok (show dunT T p K (He.ga K d.nm) "__repr__" i = true from ab)
    rw [cad_eq hd]
    exact ⟨c1, c2⟩
  · intro c t q k
    rw [tyT_eq]
    refine List.all_eq_true.mp (List.all_eq_true.mp e5 c (List.mem_range.mpr q)) t ?_
    rcases k with ⟨n, z1, z2⟩ | ⟨a, z1, z2⟩
    · rw [z1]; exact tyns_in z2
    · rw [z1]; exact tyns_cl z2
  · intro t t' b q
    rw [tyT_eq, tyT_eq]
    obtain ⟨d1, d2⟩ := isi_dom q
    have z : (match T.isi t t' with
      | some b => decide (PySem.W.kitOne K (tyT T K t') (tyT T K t) = some b)
      | none => true) = true := List.all_eq_true.mp (List.all_eq_true.mp e4 t d1) t' d2
    rw [q] at z
    exact of_decide_eq_true z
/-! ### the defs -/
def FD.D (fd : FD) (at_ : He.Defn) : He.DefD := ⟨at_, fd.name, fd.qual, fd.params, fd.body, fd.scope, (atoms fd.dfs).getD [], fd.kds.map fun q => (q.1, (atom q.2).getD .non)⟩
def isFun : ScopeKind → Bool
  | .function => true
  | _ => false
theorem isFun_ok {k : ScopeKind} (h : isFun k = true) : k = .function := by cases k <;> first | rfl | cases h
def eqS (a b : List Str) : Bool := decide (a = b)
def eqO' (a b : Option Str) : Bool := decide (a = b)
def isLoc (o : Option NameKind) : Bool := match o with
  | some .local => true
  | some .cell => true
  | _ => false
def nfree (o : NameKind) : Bool := match o with
  | .free => false
  | _ => true
/-- what is asked of a def's syntax -/
def FD.B (fd : FD) : Bool :=
  isFun fd.scope.kind && (!fd.scope.isCoroutine && (!fd.scope.isGenerator && (nodupB fd.ns && (eqS (fd.ns.take fd.g.names.length) fd.g.names &&
  ((fd.g.names.all fun x => isLoc (fd.scope.names.lookup x)) && ((fd.scope.names.all fun y => nfree y.2) && (fd.params.posonlyargs.isEmpty &&
  (eqS (fd.params.args.map (·.arg)) fd.g.ps && (eqS (fd.params.kwonlyargs.map (·.arg)) fd.g.ko && (eqO' (fd.params.vararg.map (·.arg)) fd.g.va &&
  (eqO' (fd.params.kwarg.map (·.arg)) fd.g.kw && (nodupB (fd.g.ps ++ fd.g.ko) && ((atoms fd.dfs).isSome && (fd.kds.all fun q => (atom q.2).isSome))))))))))))))
theorem fd_ok {fd : FD} {at_ : He.Defn} {f : Addr} (hf : f = He.fAd K at_) (b : fd.B = true) {dd : FuncData} (c : FunD K (fd.D at_).name (fd.D at_).qual (fd.D at_).params (fd.D at_).body (fd.D at_).scope ((fd.D at_).dvs K) ((fd.D at_).kws K) (He.fAd K (fd.D at_).at_) dd) : FnF (gsOf T ha K) (fd.I f) := by
  subst hf
  obtain ⟨b1, b⟩ := bth b
  obtain ⟨b2, b⟩ := bth b
  obtain ⟨b3, b⟩ := bth b
  obtain ⟨b4, b⟩ := bth b
  obtain ⟨b5, b⟩ := bth b
  obtain ⟨b6, b⟩ := bth b
  obtain ⟨b7, b⟩ := bth b
  obtain ⟨b8, b⟩ := bth b
  obtain ⟨b9, b⟩ := bth b
  obtain ⟨ba, b⟩ := bth b
  obtain ⟨bb, b⟩ := bth b
  obtain ⟨bc, b⟩ := bth b
  obtain ⟨bd, b⟩ := bth b
  obtain ⟨be, bf⟩ := bth b
  obtain ⟨oc, od, dV, kV, doc, pm, an, cdv, ct, osl, e1, lk, hcd, hD, hK⟩ := c.ex
  refine ⟨⟨oc, od, dV, kV, doc, pm, an, cdv, ct, osl, by rw [e1] at lk; exact lk, hcd, ⟨_, hD, fun F => ?_⟩, fun q hq => ?_⟩, c.kp, ⟨isFun_ok b1, nt b2, nt b3, nodupB_ok b4, of_decide_eq_true b5, fun x hx => ?_, fun y hy => ?_⟩, List.isEmpty_iff.mp b8, of_decide_eq_true b9, of_decide_eq_true ba, of_decide_eq_true bb, of_decide_eq_true bc, nodupB_ok bd⟩
  · show RFs _ F fd.dfs (((atoms fd.dfs).getD []).map (He.Dv.v K))
    cases z : atoms fd.dfs with
    | none => rw [z] at be; cases be
    | some ds => exact atoms_ok z
  · have hq' : q ∈ fd.kds := hq
    have z := List.all_eq_true.mp bf q hq'
    cases z1 : atom q.2 with
    | none => rw [z1] at z; cases z
    | some d =>
      have hm : (q.1, d.v K) ∈ (fd.D at_).kws K := by
        unfold He.DefD.kws FD.D
        rw [List.map_map]
        refine List.mem_map.mpr ⟨q, hq', ?_⟩
        show (q.1, ((atom q.2).getD .non).v K) = _
        rw [z1]
        rfl
      rcases hK with hK | ⟨D, k1, k2⟩
      · rw [hK] at hm; cases hm
      · obtain ⟨u, k3, k4⟩ := k2 _ hm
        exact ⟨D, u, d.v K, k1, k3, k4, fun F => atom_ok z1 K⟩
  · have z := List.all_eq_true.mp b6 x hx
    show fd.scope.names.lookup x = some .local ∨ fd.scope.names.lookup x = some .cell
    cases e : fd.scope.names.lookup x with
    | none => rw [e] at z; cases z
    | some k =>
      rw [e] at z
      cases k with
      | «local» => exact .inl rfl
      | cell => exact .inr rfl
      | _ => cases z
  · have z := List.all_eq_true.mp b7 y hy
    intro e
    rw [e] at z
    cases z
/-- the defs' list for the head -/
def defDs (T : Tb) (p : List He.Defn) : List He.DefD := (T.fns.zip p).map fun q => q.1.D q.2
def fnsB (T : Tb) (p : List He.Defn) : Bool := decide (T.fns.length = p.length) && T.fns.all FD.B
theorem fns_ok (hb : fnsB T p = true) {fa : List He.Fa} (c : He.SaysD fa (defDs T p) K) : ∀ (i : Nat) (fd : FD), T.fns[i]? = some fd → FnF (gsOf T ha K) (fd.I (fadOf p K i)) := fun i fd e => by
  obtain ⟨b1, b2⟩ := bth hb
  have hl : T.fns.length = p.length := of_decide_eq_true b1
  obtain ⟨i1, i2⟩ := List.getElem?_eq_some_iff.mp e
  obtain ⟨q, hq⟩ := lt_of (l := p) (i := i) (by omega)
  have hm : fd.D q ∈ defDs T p := by
    refine List.mem_map.mpr ⟨(fd, q), ?_, rfl⟩
    refine List.mem_of_getElem? (i := i) ?_
    rw [List.getElem?_zip_eq_some]
    exact ⟨e, hq⟩
  obtain ⟨dd, hd⟩ := c.defs hm
  refine fd_ok ?_ (List.all_eq_true.mp b2 fd (List.mem_of_getElem? e)) hd
  show He.fAd K (p.getD i ("", none)) = _
  rw [List.getD_eq_getElem?_getD, hq]
  rfl
end
end Tv
end

noncomputable section
set_option maxHeartbeats 1000000
/-! A law's end over T. -/
namespace Tv
open PySem L2 PySem.Spec PyProof.Rows
open PySem (Str Expr Stmt Scope Keyword Comprehension)
/-- what is known of the heap at a law's entry -/
structure Ent (K : PySem.W.Frag) (mg mb : Str → Option Value) (s : Shared) (a : Addr) (vs : List Value) (ns : List Int) : Prop where
  k : K.In s.heap
  g : s.heap.Ns mainGlobals mg
  b : s.heap.Ns builtinsNs mb
  bb : ∀ x : Str, x ≠ "__name__" → mb x = bootBuiltins x
  lim : s.heap.NoLimit
  gens : s.gens = #[]
  at_ : s.heap.get? a = some { cls := .type "list", data := .seq vs.toArray }
  isI : IntsAre vs ns
  len : ns.length ≤ sizeLine
section
variable {P : Program} {w : World} {K : PySem.W.Frag} {mg mb : Str → Option Value} {s : Shared} {a : Addr} {vs : List Value} {ns : List Int}
/-- the abstract heap of the entry: the script, or nothing -/
def entH (K : PySem.W.Frag) (a : Addr) (vs : List Value) (ns : List Int) : Hp := fun b => if (K.lookup a).isNone && b == a then some (.frz { cls := .type "list", data := .seq vs.toArray } (.lst (ns.map V.int))) else none
theorem entH_cases (b : Addr) : entH K a vs ns b = none ∨ (b = a ∧ K.lookup a = none ∧ entH K a vs ns b = some (.frz { cls := .type "list", data := .seq vs.toArray } (.lst (ns.map V.int)))) := by
  unfold entH
  by_cases z : ((K.lookup a).isNone && b == a) = true
  · obtain ⟨z1, z2⟩ := bth z
    rw [if_pos z]
    exact .inr ⟨beq_iff_eq.mp z2, (by
      cases q : K.lookup a with
      | none => rfl
      | some o => rw [q] at z1; cases z1), rfl⟩
  · exact .inl (if_neg z)
theorem Ent.sq (e : Ent K mg mb s a vs ns) : SqL K (entH K a vs ns) a (ns.map V.int) := by
  cases q : K.lookup a with
  | none => exact .inl (.inr ⟨_, by unfold entH; rw [q]; exact if_pos (by simp)⟩)
  | some o =>
    have z := e.at_.symm.trans (e.k a o q)
    cases z
    exact .inr ⟨_, vs.toArray, _, q, rfl, rfl, rfl, by rw [List.size_toArray, e.isI.length]; exact e.len, by simpa using vals_ints e.isI⟩
theorem Ent.ok (e : Ent K mg mb s a vs ns) : HOk P w (entH K a vs ns) s.heap := fun b u z => by
  rcases entH_cases (K := K) (a := a) (vs := vs) (ns := ns) b with q | ⟨q1, _, q2⟩
  · rw [q] at z; cases z
  · rw [q2] at z
    cases z
    rw [q1]
    exact ⟨e.at_, by rw [List.length_map]; exact e.len, vs, _, vals_ints e.isI, e.at_⟩
theorem Ent.off (e : Ent K mg mb s a vs ns) {b : Addr} {o : Obj} (h : s.heap.get? b = some o) (d : ∀ its n, o.data ≠ .seq its n) : entH K a vs ns b = none := by
  rcases entH_cases (K := K) (a := a) (vs := vs) (ns := ns) b with q | ⟨q1, _, q2⟩
  · exact q
  · rw [q1, e.at_] at h
    cases h
    exact (d _ _ rfl).elim
theorem Ent.names (e : Ent K mg mb s a vs ns) {b : Addr} {m : Str → Option Value} (h : s.heap.Ns b m) : (hidT s.heap (entH K a vs ns)).Ns b m := by
  obtain ⟨o, es, ep, h1, h2, h3⟩ := h
  exact ⟨o, es, ep, hidT_get h1 (e.off h1 fun its n z => by rw [h2] at z; cases z), h2, h3⟩
theorem Ent.kin (e : Ent K mg mb s a vs ns) : K.In (hidT s.heap (entH K a vs ns)) := fun b o h => hidT_get (e.k b o h) (by
  rcases entH_cases (K := K) (a := a) (vs := vs) (ns := ns) b with q | ⟨q1, q2, _⟩
  · exact q
  · rw [q1, q2] at h; cases h)
theorem Ent.env (e : Ent K mg mb s a vs ns) : Env0 P w K mg (hidT s.heap (entH K a vs ns)) callerA [] s (entH K a vs ns) := by
  obtain ⟨mc, c1, c2⟩ := e.lim
  exact ⟨rfl, ⟨e.kin, e.names e.g, ⟨mb, e.names e.b, e.bb⟩, ⟨mc, e.names c1, c2⟩⟩, fun b o h => of_hidT h, Nat.le_of_eq (hidT_size _ _), trivial, fun b m => (nomatch m), e.ok, AllBare.of_eq e.gens⟩
theorem Ent.call {G : Gs} (hK : G.K = K) {k np : Nat} {fa : Addr} {run : List OV → List (Str × FV) → Out OV} (e : Ent K mg mb s a vs ns) (hr : Room k callerA)
    (F : ∀ base : Heap, K.In base → base.Ns mainGlobals mg → CalT G P w mg base k np fa run) (h : ∃ t, run [.frz (.scr ns)] [] = .ok (.frz (.bl true)) t) :
    codeAny (model P w) callerA (.call (.ref fa) ⟨[.ref a], []⟩) (fun r s' => r = .ok (.ret (.bool true)) ∧ OldK s.heap s'.heap ∧ s'.os = s.os ∧ AllBare s'.gens) s := by
  obtain ⟨t, h⟩ := h
  have e0 : Env0 P w G.K mg (hidT s.heap (entH K a vs ns)) callerA [] s (entH K a vs ns) := by rw [hK]; exact e.env
  have run := F _ e.kin (e.names e.g) callerA [] s (entH K a vs ns) (entH K a vs ns) [.frz (.scr ns)] [.ref a] [.ref a] [] [] [] [] hr rfl e0 (SubH.refl _) ⟨_, _, [], [], rfl, rfl, ⟨rfl, a, rfl, by rw [hK]; exact e.sq⟩, rfl, rfl⟩ List.nodup_nil (fun _ m => nomatch m) (.cons rfl .nil) rfl .nil
    (fun v _ => v = .bl true) (fun _ _ _ => False) (by
      rw [h]
      rintro v H' ⟨F', fp', fo, _, r, _⟩
      exact r.2)
  refine codeAny_mono run fun r s' q => ?_
  cases r with
  | error u =>
    obtain ⟨_, _, _, _, _, _, _, _, _, _, _, _, z⟩ := q
    exact z.elim
  | ok fl =>
    cases fl with
    | ret u =>
      obtain ⟨v, H', os, bare, un, hok', r', q⟩ := q
      cases (show v = .bl true from q)
      cases (show u = Value.bool true from r')
      refine ⟨rfl, OldK.of_keep fun b o ho => ?_, os, bare⟩
      rcases entH_cases (K := K) (a := a) (vs := vs) (ns := ns) b with z | ⟨_, _, z⟩
      · exact un.keep b o ho z (fun m => nomatch m) (fun m => nomatch m)
      · obtain ⟨z1, _⟩ := e.ok (P := P) (w := w) b _ z
        obtain ⟨z2, _⟩ := hok' b _ (un.frzs b _ _ z)
        rw [ho] at z1
        cases z1
        exact z2
    | _ => exact False.elim q
end
/-- a law by T: the facts of its top, its own number, and what its denotation answers -/
theorem walk_T {l : PySem.W.OpenLaw} {n N : Nat} {q : Program} {loose : List Str} {XP : (Str → Option Value) → Heap → Prop} {d : DefRec} (T : Tb) (p : List He.Defn) (i : Nat) {fa : List He.Fa} {ts : List He.Tab} {tf : List He.Defn} {m : Nat} {fd : FD}
    (hn : l.most = some n) (hn2 : n ≤ sizeLine) (hdf : d.params.defaults = []) (hr : Room (N + 4) callerA) (ha : attsB T.atts = true) (hb : fnsB T p = true) (hi : T.glob.lookup d.name = some (.fn i)) (hf : T.fns[i]? = some fd)
    (main : ∀ ns : List Int, ns.length ≤ n → ∃ t, hist T N 0 i [.frz (.scr ns)] [] = .ok (.frz (.bl true)) t) :
    PySem.W.WalkO q loose XP (fun w h => (He.hookX m fa (defDs T p) ts tf (topT T p)).says w h) l.row.toRowW d [] (fun f vs => PySem.call f vs) := by
  refine Att.attach_call hn hdf fun w s₀ s₁ mg mb f o pm cd doc a vs ns G Y ho hd hcd hmg hobj hints hlen hg => ?_
  obtain ⟨K, KX, c⟩ := Y
  have TK : TopOk T (gsOf T ha K) mg (fadOf p K) := topT_ok KX G.T.g c.more
  have hf2 : f = fadOf p K i := by
    have := (TK.gfn d.name i hi).2.1
    rw [hmg] at this
    cases this
    rfl
  have ent : Ent K mg mb s₁ a vs ns := ⟨KX, G.T.g, G.T.b, G.T.builtins, G.T.nolimit, hg, hobj, hints, Nat.le_trans hlen hn2⟩
  refine ent.call (G := gsOf T ha K) (np := fd.g.ps.length) rfl hr (fun base hK hN => ?_) (main ns hlen)
  rw [hf2]
  exact cal_hist TK (fns_ok hb c.t.d) N 0 i fd hf
end Tv
end

noncomputable section
set_option maxHeartbeats 0
namespace Lw
open PySem L2 Tv
open PySem (Str Expr Stmt Scope)
def top (i : Nat) : Stmt := PySem.Challenge.pw_keptcopy_k02_options_compared_and_writte.main.body.getD i (.Pass ⟨0, 0, 0, 0⟩)
def mth (i j : Nat) : Stmt := (C8.clsBody (top i)).getD j (.Pass ⟨0, 0, 0, 0⟩)
/-- is_integer 0:value -/
def f_is_integer : FD := ⟨"is_integer", "is_integer", defArgs (top 13), defBody (top 13), defScope (top 13), ⟨["value"], [], none, none⟩, ["value"], [], [], [], []⟩
/-- is_name 0:value 1:sign -/
def f_is_name : FD := ⟨"is_name", "is_name", defArgs (top 14), defBody (top 14), defScope (top 14), ⟨["value"], [], none, none⟩, ["value", "sign"], [], [], [], []⟩
/-- is_kind 0:value -/
def f_is_kind : FD := ⟨"is_kind", "is_kind", defArgs (top 15), defBody (top 15), defScope (top 15), ⟨["value"], [], none, none⟩, ["value"], [], [], [], []⟩
/-- ascending 0:values 1:value -/
def f_ascending : FD := ⟨"ascending", "ascending", defArgs (top 16), defBody (top 16), defScope (top 16), ⟨["values"], [], none, none⟩, ["values", "value"], [], [], [], []⟩
/-- names_in 0:values 1:value -/
def f_names_in : FD := ⟨"names_in", "names_in", defArgs (top 17), defBody (top 17), defScope (top 17), ⟨["values"], [], none, none⟩, ["values", "value"], [], [], [1], []⟩
/-- need_flag 0:value -/
def f_need_flag : FD := ⟨"need_flag", "need_flag", defArgs (top 18), defBody (top 18), defScope (top 18), ⟨["value"], [], none, none⟩, ["value"], [], [], [], []⟩
/-- need_few 0:values 1:most -/
def f_need_few : FD := ⟨"need_few", "need_few", defArgs (top 19), defBody (top 19), defScope (top 19), ⟨["values", "most"], [], none, none⟩, ["values", "most"], [], [], [], []⟩
/-- Options.__init__ 0:self 1:stops 2:wants 3:sizes 4:kind -/
def f_Options___init__ : FD := ⟨"__init__", "Options.__init__", defArgs (mth 20 0), defBody (mth 20 0), defScope (mth 20 0), ⟨["self"], ["stops"], some "wants", some "sizes"⟩, ["self", "stops", "wants", "sizes", "kind"], [], [("stops", .bl false)], [4], [0]⟩
/-- Options.__eq__ 0:self 1:other -/
def f_Options___eq__ : FD := ⟨"__eq__", "Options.__eq__", defArgs (mth 20 1), defBody (mth 20 1), defScope (mth 20 1), ⟨["self", "other"], [], none, none⟩, ["self", "other"], [], [], [], []⟩
/-- Options.__str__ 0:self 1:words 2:feature 3:kind -/
def f_Options___str__ : FD := ⟨"__str__", "Options.__str__", defArgs (mth 20 2), defBody (mth 20 2), defScope (mth 20 2), ⟨["self"], [], none, none⟩, ["self", "words", "feature", "kind"], [], [], [1], []⟩
/-- Options.__repr__ 0:self -/
def f_Options___repr__ : FD := ⟨"__repr__", "Options.__repr__", defArgs (mth 20 3), defBody (mth 20 3), defScope (mth 20 3), ⟨["self"], [], none, none⟩, ["self"], [], [], [], []⟩
/-- Options.lay 0:self 1:kind 2:size -/
def f_Options_lay : FD := ⟨"lay", "Options.lay", defArgs (mth 20 4), defBody (mth 20 4), defScope (mth 20 4), ⟨["self", "kind", "size"], [], none, none⟩, ["self", "kind", "size"], [], [], [], [0]⟩
/-- Machine.__init__ 0:self 1:features -/
def f_Machine___init__ : FD := ⟨"__init__", "Machine.__init__", defArgs (mth 21 0), defBody (mth 21 0), defScope (mth 21 0), ⟨["self"], [], some "features", none⟩, ["self", "features"], [], [], [], [0]⟩
/-- Machine.__eq__ 0:self 1:other -/
def f_Machine___eq__ : FD := ⟨"__eq__", "Machine.__eq__", defArgs (mth 21 1), defBody (mth 21 1), defScope (mth 21 1), ⟨["self", "other"], [], none, none⟩, ["self", "other"], [], [], [], []⟩
/-- Machine.__repr__ 0:self -/
def f_Machine___repr__ : FD := ⟨"__repr__", "Machine.__repr__", defArgs (mth 21 6), defBody (mth 21 6), defScope (mth 21 6), ⟨["self"], [], none, none⟩, ["self"], [], [], [], []⟩
/-- _law_source 0:_law_script 1:_law_at 2:_law_number 3:_law_far 4:_law_base -/
def f__law_source : FD := ⟨"_law_source", "_law_source", defArgs (top 23), defBody (top 23), defScope (top 23), ⟨["_law_script", "_law_at"], [], none, none⟩, ["_law_script", "_law_at", "_law_number", "_law_far", "_law_base"], [], [], [2, 3, 4], []⟩
/-- _law_draw 0:_law_source_here 1:_law_many 2:_law_digit 3:_law_mixed -/
def f__law_draw : FD := ⟨"_law_draw", "_law_draw", defArgs (top 24), defBody (top 24), defScope (top 24), ⟨["_law_source_here", "_law_many"], [], none, none⟩, ["_law_source_here", "_law_many", "_law_digit", "_law_mixed"], [], [], [2, 3], [0]⟩
/-- _law_word 0:_law_source_here 1:_law_letters 2:_law_turn -/
def f__law_word : FD := ⟨"_law_word", "_law_word", defArgs (top 25), defBody (top 25), defScope (top 25), ⟨["_law_source_here"], [], none, none⟩, ["_law_source_here", "_law_letters", "_law_turn"], [], [], [1], [0]⟩
/-- _law_drawn 0:_law_source_here 1:_law_features 2:_law_first 3:_law_second 4:_law_third 5:_law_turn -/
def f__law_drawn : FD := ⟨"_law_drawn", "_law_drawn", defArgs (top 26), defBody (top 26), defScope (top 26), ⟨["_law_source_here"], [], none, none⟩, ["_law_source_here", "_law_features", "_law_first", "_law_second", "_law_third", "_law_turn"], [], [], [1, 2, 3, 4], [0]⟩
/-- _law_other 0:_law_source_here 1:_law_told 2:_law_features 3:_law_first 4:_law_second 5:_law_third 6:_law_flag 7:_law_way -/
def f__law_other : FD := ⟨"_law_other", "_law_other", defArgs (top 27), defBody (top 27), defScope (top 27), ⟨["_law_source_here", "_law_told"], [], none, none⟩, ["_law_source_here", "_law_told", "_law_features", "_law_first", "_law_second", "_law_third", "_law_flag", "_law_way"], [], [], [2, 3, 4, 5, 6, 7], [0]⟩
/-- _law_made 0:_law_told 1:_law_features 2:_law_first 3:_law_second 4:_law_third 5:_law_flag 6:_law_w -/
def f__law_made : FD := ⟨"_law_made", "_law_made", defArgs (top 28), defBody (top 28), defScope (top 28), ⟨["_law_told"], [], none, none⟩, ["_law_told", "_law_features", "_law_first", "_law_second", "_law_third", "_law_flag", "_law_w"], [], [], [1, 2, 3, 4, 5, 6], []⟩
/-- _law_words 0:_law_told 1:_law_features 2:_law_first 3:_law_second 4:_law_third 5:_law_flag 6:_law_found 7:_law_kind 8:_law_size 9:_law_feature -/
def f__law_words : FD := ⟨"_law_words", "_law_words", defArgs (top 29), defBody (top 29), defScope (top 29), ⟨["_law_told"], [], none, none⟩, ["_law_told", "_law_features", "_law_first", "_law_second", "_law_third", "_law_flag", "_law_found", "_law_kind", "_law_size", "_law_feature"], [], [], [1, 2, 3, 4, 5, 6, 7, 8], []⟩
/-- law 0:_law_script 1:_law_at 2:_law_source_here 3:_law_turn 4:_law_told 5:_law_other_here 6:_law_one 7:_law_another 8:_law_is_due 9:_law_value -/
def f_law : FD := ⟨"law", "law", defArgs (top 30), defBody (top 30), defScope (top 30), ⟨["_law_script"], [], none, none⟩, ["_law_script", "_law_at", "_law_source_here", "_law_turn", "_law_told", "_law_other_here", "_law_one", "_law_another", "_law_is_due", "_law_value"], [], [], [1, 2, 3, 4, 5, 6, 7, 8], []⟩
/-! classes: 0:Options 1:Machine; attributes: 0:wants 1:stops 2:laid 3:lay 4:features; outside:  -/
def T : Tb := ⟨[("SMALL", .con (.str "abcdefghijklmnopqrstuvwxyz")), ("MOST_LETTERS", .con (.int 8)), ("MOST_WANTS", .con (.int 5)), ("MOST_FEATURES", .con (.int 8)), ("MOST_SIZE", .con (.int 1000000)), ("NO_KINDS", .con (.tup [.str "self", .str "stops"])), ("is_integer", .fn 0), ("is_name", .fn 1), ("is_kind", .fn 2), ("ascending", .fn 3), ("names_in", .fn 4), ("need_flag", .fn 5), ("need_few", .fn 6), ("Options", .cl 0), ("Machine", .cl 1), ("_law_source", .fn 15), ("_law_draw", .fn 16), ("_law_word", .fn 17), ("_law_drawn", .fn 18), ("_law_other", .fn 19), ("_law_made", .fn 20), ("_law_words", .fn 21), ("law", .fn 22)], ["abs", "all", "bool", "int", "isinstance", "len", "max", "min", "range", "repr", "set", "sorted", "str", "tuple"], [f_is_integer, f_is_name, f_is_kind, f_ascending, f_names_in, f_need_flag, f_need_few, f_Options___init__, f_Options___eq__, f_Options___str__, f_Options___repr__, f_Options_lay, f_Machine___init__, f_Machine___eq__, f_Machine___repr__, f__law_source, f__law_draw, f__law_word, f__law_drawn, f__law_other, f__law_made, f__law_words, f_law], [⟨"Options", some 7, [(3, 11)], [0, 1, 2], some 8, some 9, some 10, [0]⟩, ⟨"Machine", some 12, [], [4], some 13, none, some 14, [1]⟩], ["wants", "stops", "laid", "lay", "features"]⟩
def pth : List He.Defn := [("is_integer", none), ("is_name", none), ("is_kind", none), ("ascending", none), ("names_in", none), ("need_flag", none), ("need_few", none), ("Options", some "__init__"), ("Options", some "__eq__"), ("Options", some "__str__"), ("Options", some "__repr__"), ("Options", some "lay"), ("Machine", some "__init__"), ("Machine", some "__eq__"), ("Machine", some "__repr__"), ("_law_source", none), ("_law_draw", none), ("_law_word", none), ("_law_drawn", none), ("_law_other", none), ("_law_made", none), ("_law_words", none), ("law", none)]
def lawI : Nat := 22
def names0 : List PySem.Str := ["_wall", "BadName", "BadSize", "BadFlag", "TooMany", "SMALL", "MOST_LETTERS", "MOST_WANTS", "MOST_FEATURES", "MOST_SIZE", "NO_KINDS", "is_integer", "is_name", "is_kind", "ascending", "names_in", "need_flag", "need_few", "Options", "Machine", "_law_source", "_law_draw", "_law_word", "_law_drawn", "_law_other", "_law_made", "_law_words"]
def names : List PySem.Str := names0
def lawAt : Nat := 30
end Lw
end

noncomputable section
set_option maxHeartbeats 0
namespace Lw
open PySem L2 Tv
abbrev R : PySem.W.OpenRow := PySem.W.OpenLaw.row PySem.Challenge.rw_keptcopy_k02_options_compared_and_writte
abbrev hk : PySem.W.Hook := He.hookX 6 [] (defDs T pth) [] [] (topT T pth)
def ob (s : PySem.W.SharedT) : He.AlX := He.obsX 6 [] (defDs T pth) [] [] (topT T pth) (HandSHeadRun.getT s)
theorem ob_eq (s : PySem.W.SharedT) : ob s = hk.obs s.abs := He.obsX_eq (HandSHeadRun.getT_eq s)
theorem fnsT : fnsB T pth = true := by kernel_rfl
theorem run (w : World) : HandSHeadRun.RunEq R (PySem.W.view R.prog [30]) hk ob 30000 names w := by
  intro os
  kernel_rfl
end Lw
end

noncomputable section
set_option maxHeartbeats 0
namespace Lw
open PySem L2 Tv
open PySem (Str)
def b_is_integer (ρ : Rho) : TM Fl :=
  tseq (tret 1 (tandv (tb (tcons (tkeep true (tslot 0)) (tp [])) (pureN (isiN (Tb.isi T (Sum.inl "int"))))) (tnotv (tb (tcons (tkeep true (tslot 0)) (tp
  [])) (pureN (isiN (Tb.isi T (Sum.inl "bool")))))))) (tp Fl.nx)
theorem b_is_integer_eq (ρ : Rho) : bodyM T ρ f_is_integer = b_is_integer ρ := by kernel_rfl
def b_is_name (ρ : Rho) : TM Fl :=
  tseq (tifs (tor (tnot (ttru (tb (tcons (tkeep true (tslot 0)) (tp [])) (pureN (isiN (Tb.isi T (Sum.inl "str"))))))) (tnot (tbool (tchain le2 le2 true
  (tlit (FV.int 1)) (tb (tcons (tkeep true (tslot 0)) (tp [])) (pureN lenN)) (tlit (FV.int 8)))))) (tseq (tret 1 (tlit (FV.bl false))) (tp Fl.nx)) (tp
  Fl.nx)) (tseq (tret 1 (tb (tcons (tkeep true (tlc (twalkD (tslot 0)) (gname (own1 [1]) 1) (tp true) (tb (tcons (tkeep true (tslot 1)) (tcons (tkeep
  true (tlit (FV.str (Str.ofString "abcdefghijklmnopqrstuvwxyz")))) (tp []))) (pureN (of2 in2))) [1])) (tp [])) (pureN (bs1 fun bs => List.all bs id))))
  (tp Fl.nx))
theorem b_is_name_eq (ρ : Rho) : bodyM T ρ f_is_name = b_is_name ρ := by kernel_rfl
def b_is_kind (ρ : Rho) : TM Fl :=
  tseq (tret 1 (tandv (tb (tcons (tkeep true (tslot 0)) (tp [])) (tcall (Tb.reb T 1) (Rho.c ρ 1) [])) (tb (tcons (tkeep true (tslot 0)) (tcons (tkeep
  true (tlit (FV.tup [FV.str (Str.ofString "self"), FV.str (Str.ofString "stops")]))) (tp []))) (pureN (of2 nin2))))) (tp Fl.nx)
theorem b_is_kind_eq (ρ : Rho) : bodyM T ρ f_is_kind = b_is_kind ρ := by kernel_rfl
def b_ascending (ρ : Rho) : TM Fl :=
  tseq (tret 1 (tb (tcons (tkeep true (tb (tac (twalkD (tslot 0)) (gname (own1 [1]) 1) (tp true) (elS (tslot 1)) [1] []) srt)) (tp [])) (pureN tupN)))
  (tp Fl.nx)
theorem b_ascending_eq (ρ : Rho) : bodyM T ρ f_ascending = b_ascending ρ := by kernel_rfl
def b_names_in (ρ : Rho) : TM Fl :=
  tseq (tfor (twalkD (tslot 0)) (gname (own1 [1]) 1) (tseq (tifs (tnot (ttru (tb (tcons (tkeep true (tslot 1)) (tp [])) (tcall (Tb.reb T 1) (Rho.c ρ 1)
  [])))) (tseq tbad (tp Fl.nx)) (tp Fl.nx)) (tp Fl.nx))) (tseq (tret 1 (tb (tcons (tkeep true (tslot 0)) (tp [])) (tcall (Tb.reb T 3) (Rho.c ρ 3) [])))
  (tp Fl.nx))
theorem b_names_in_eq (ρ : Rho) : bodyM T ρ f_names_in = b_names_in ρ := by kernel_rfl
def b_need_flag (ρ : Rho) : TM Fl :=
  tseq (tifs (tnot (ttru (tb (tcons (tkeep true (tslot 0)) (tp [])) (pureN (isiN (Tb.isi T (Sum.inl "bool"))))))) (tseq tbad (tp Fl.nx)) (tp Fl.nx)) (tp
  Fl.nx)
theorem b_need_flag_eq (ρ : Rho) : bodyM T ρ f_need_flag = b_need_flag ρ := by kernel_rfl
def b_need_few (ρ : Rho) : TM Fl :=
  tseq (tifs (tbool (tb (tcons (tkeep true (tb (tcons (tkeep true (tslot 0)) (tp [])) (pureN lenN))) (tcons (tkeep true (tslot 1)) (tp []))) (pureN (of2
  gt2)))) (tseq tbad (tp Fl.nx)) (tp Fl.nx)) (tp Fl.nx)
theorem b_need_few_eq (ρ : Rho) : bodyM T ρ f_need_few = b_need_few ρ := by kernel_rfl
def b_Options___init__ (ρ : Rho) : TM Fl :=
  tseq (tsetf (Tb.okA T 0) 0 0 (tb (tcons (tkeep true (tslot 2)) (tp [])) (tcall (Tb.reb T 4) (Rho.c ρ 4) []))) (tseq (tdrop (tb (tcons (tkeep true
  (tattr (Tb.okA T 0) 0 (tslot 0))) (tcons (tkeep true (tlit (FV.int 5))) (tp []))) (tcall (Tb.reb T 6) (Rho.c ρ 6) []))) (tseq (tdrop (tb (tcons (tkeep
  true (tslot 1)) (tp [])) (tcall (Tb.reb T 5) (Rho.c ρ 5) []))) (tseq (tsetf (Tb.okA T 1) 1 0 (tslot 1)) (tseq (tsetf (Tb.okA T 2) 2 0 tdic0) (tseq
  (tfor (twalkD (tb (tcons (tkeep true (tslot 3)) (tp [])) (pureN sortX))) (gname (own1 [4]) 4) (tseq (tdrop (tmeth (Tb.opt T (Rho.c ρ) fun d =>
  List.lookup (0 + 1 + 1 + 1) (CD.meths d)) 3 [] true (tslot 0) (tcons (tkeep true (tslot 4)) (tcons (tkeep true (tb (tcons (tkeep true (tslot 3)) (tcons
  (tkeep true (tslot 4)) (tp []))) (pureN (of2 ix2)))) (tp []))))) (tp Fl.nx))) (tp Fl.nx))))))
theorem b_Options___init___eq (ρ : Rho) : bodyM T ρ f_Options___init__ = b_Options___init__ ρ := by kernel_rfl
def b_Options___eq__ (ρ : Rho) : TM Fl :=
  tseq (tifs (tnot (ttru (tb (tcons (tkeep true (tslot 1)) (tp [])) (pureN (isiN (Tb.isi T (Sum.inr 0))))))) (tseq (tret 2 (tlit (FV.bl false))) (tp
  Fl.nx)) (tp Fl.nx)) (tseq (tret 2 (tb (tcons (tkeep true (ttuple (tcons (tesc (tattr (Tb.okA T 0) 0 (tslot 0))) (tcons (tesc (tattr (Tb.okA T 1) 1
  (tslot 0))) (tcons (tesc (tattr (Tb.okA T 2) 2 (tslot 0))) (tp [])))))) (tcons (tkeep true (ttuple (tcons (tesc (tattr (Tb.okA T 0) 0 (tslot 1)))
  (tcons (tesc (tattr (Tb.okA T 1) 1 (tslot 1))) (tcons (tesc (tattr (Tb.okA T 2) 2 (tslot 1))) (tp [])))))) (tp []))) (tor2 isOb (tdun2 (Tb.opt T (Rho.d
  ρ) CD.eq) (Tb.okE T) chB) (pureN (of2 eqx2))))) (tp Fl.nx))
theorem b_Options___eq___eq (ρ : Rho) : bodyM T ρ f_Options___eq__ = b_Options___eq__ ρ := by kernel_rfl
def b_Options___str__ (ρ : Rho) : TM Fl :=
  tseq (tasg (tlc (twalkD (tattr (Tb.okA T 0) 0 (tslot 0))) (gname (own1 [2]) 2) (tp true) (tb (tcons (tkeep true (tlit (FV.str (Str.ofString "+"))))
  (tcons (tkeep true (tslot 2)) (tp []))) (pureN (of2 add2))) [2]) (gname (own1 [1]) 1)) (tseq (tdrop (tbm isLst textend false (tslot 1) (tcons (tkeep
  true (tlc (twalkD (tattr (Tb.okA T 2) 2 (tslot 0))) (gname (own1 [3]) 3) (tp true) (tjs [tb (tcons (tkeep true (tslot 3)) (tp [])) (tor2 isOb (tdun
  (Tb.opt T (Rho.d ρ) CD.str) chS) (pureN fmtI)), tlit (FV.str (Str.ofString "=")), tb (tcons (tkeep true (tb (tcons (tkeep true (tattr (Tb.okA T 2) 2
  (tslot 0))) (tcons (tkeep true (tslot 3)) (tp []))) (pureN (of2 ix2)))) (tp [])) (tor2 isOb (tdun (Tb.opt T (Rho.d ρ) CD.str) chS) (pureN fmtI))]
  PySem.Str.empty) [3])) (tp [])))) (tseq (tdrop (tbm isLst textend true (tslot 1) (tcons (tkeep true (tb (tcons (tkeep true (tlist (tcons (tesc (tlit
  (FV.str (Str.ofString "stops")))) (tp [])))) (tcons (tkeep true (tb (tcons (tkeep true (tattr (Tb.okA T 1) 1 (tslot 0))) (tp [])) (pureN intN))) (tp
  []))) (pureN (of2 mul2)))) (tp [])))) (tseq (tret 1 (tbm isStr (pureN joinN) true (tlit (FV.str (Str.ofString " "))) (tcons (tkeep true (tslot 1)) (tp
  [])))) (tp Fl.nx))))
theorem b_Options___str___eq (ρ : Rho) : bodyM T ρ f_Options___str__ = b_Options___str__ ρ := by kernel_rfl
def b_Options___repr__ (ρ : Rho) : TM Fl :=
  tseq (tret 1 (tjs [tlit (FV.str (Str.ofString "Options(")), tb (tcons (tkeep true (tslot 0)) (tp [])) (tor2 isOb (tdun (Tb.opt T (Rho.d ρ) CD.str) chS)
  (pureN fmtI)), tlit (FV.str (Str.ofString ")"))] PySem.Str.empty)) (tp Fl.nx)
theorem b_Options___repr___eq (ρ : Rho) : bodyM T ρ f_Options___repr__ = b_Options___repr__ ρ := by kernel_rfl
def b_Options_lay (ρ : Rho) : TM Fl :=
  tseq (tifs (tnot (ttru (tb (tcons (tkeep true (tslot 1)) (tp [])) (tcall (Tb.reb T 2) (Rho.c ρ 2) [])))) (tseq tbad (tp Fl.nx)) (tp Fl.nx)) (tseq (tifs
  (tor (tnot (ttru (tb (tcons (tkeep true (tslot 2)) (tp [])) (tcall (Tb.reb T 0) (Rho.c ρ 0) [])))) (tnot (tbool (tchain le2 le2 true (tlit (FV.int 0))
  (tslot 2) (tlit (FV.int 1000000)))))) (tseq tbad (tp Fl.nx)) (tp Fl.nx)) (tseq (tifs (tbool (tb (tcons (tkeep true (tslot 2)) (tcons (tkeep true (tlit
  (FV.int 0))) (tp []))) (pureN (of2 gt2)))) (tseq (tb (tcons (tesc (tslot 2)) (tcons (tkeep true (tattr (Tb.okA T 2) 2 (tslot 0))) (tcons (tkeep true
  (tslot 1)) (tp [])))) tsub3) (tp Fl.nx)) (tp Fl.nx)) (tp Fl.nx)))
theorem b_Options_lay_eq (ρ : Rho) : bodyM T ρ f_Options_lay = b_Options_lay ρ := by kernel_rfl
def b_Machine___init__ (ρ : Rho) : TM Fl :=
  tseq (tsetf (Tb.okA T 4) 4 0 (tb (tcons (tkeep true (tslot 1)) (tp [])) (tcall (Tb.reb T 4) (Rho.c ρ 4) []))) (tseq (tdrop (tb (tcons (tkeep true
  (tattr (Tb.okA T 4) 4 (tslot 0))) (tcons (tkeep true (tlit (FV.int 8))) (tp []))) (tcall (Tb.reb T 6) (Rho.c ρ 6) []))) (tp Fl.nx))
theorem b_Machine___init___eq (ρ : Rho) : bodyM T ρ f_Machine___init__ = b_Machine___init__ ρ := by kernel_rfl
def b_Machine___eq__ (ρ : Rho) : TM Fl :=
  tseq (tret 2 (tandv (tb (tcons (tkeep true (tslot 1)) (tp [])) (pureN (isiN (Tb.isi T (Sum.inr 1))))) (tb (tcons (tkeep true (tattr (Tb.okA T 4) 4
  (tslot 0))) (tcons (tkeep true (tattr (Tb.okA T 4) 4 (tslot 1))) (tp []))) (tor2 isOb (tdun2 (Tb.opt T (Rho.d ρ) CD.eq) (Tb.okE T) chB) (pureN (of2
  eqx2)))))) (tp Fl.nx)
theorem b_Machine___eq___eq (ρ : Rho) : bodyM T ρ f_Machine___eq__ = b_Machine___eq__ ρ := by kernel_rfl
def b_Machine___repr__ (ρ : Rho) : TM Fl :=
  tseq (tret 1 (tjs [tlit (FV.str (Str.ofString "Machine(")), tb (tcons (tkeep true (tbm isStr (pureN joinN) true (tlit (FV.str (Str.ofString ", ")))
  (tcons (tkeep true (tattr (Tb.okA T 4) 4 (tslot 0))) (tp [])))) (tp [])) (tor2 isOb (tdun (Tb.opt T (Rho.d ρ) CD.str) chS) (pureN fmtI)), tlit (FV.str
  (Str.ofString ")"))] PySem.Str.empty)) (tp Fl.nx)
theorem b_Machine___repr___eq (ρ : Rho) : bodyM T ρ f_Machine___repr__ = b_Machine___repr__ ρ := by kernel_rfl
def b__law_source (ρ : Rho) : TM Fl :=
  tseq (tasg (tite (tbool (tb (tcons (tkeep true (tslot 1)) (tcons (tkeep true (tb (tcons (tkeep true (tslot 0)) (tp [])) (pureN lenN))) (tp []))) (pureN
  (of2 lt2)))) (tb (tcons (tkeep true (tslot 0)) (tcons (tkeep true (tslot 1)) (tp []))) (pureN (of2 ix2))) (tlit (FV.int 0))) (gname (own1 [2, 3, 4])
  2)) (tseq (tasg (tite (tbool (tb (tcons (tkeep true (tb (tcons (tkeep true (tslot 2)) (tp [])) (pureN (i1 iabs)))) (tcons (tkeep true (tb (tcons (tkeep
  true (tlit (FV.int 10))) (tcons (tkeep true (tlit (FV.int 18))) (tp []))) (pureN (of2 pow2)))) (tp []))) (pureN (of2 ge2)))) (tb (tcons (tkeep true
  (tslot 2)) (tp [])) (pureN (i1 iabs))) (tlit (FV.int 0))) (gname (own1 [2, 3, 4]) 3)) (tseq (tasg (tb (tcons (tkeep true (tb (tcons (tkeep true (tb
  (tcons (tkeep true (tb (tcons (tkeep true (tb (tcons (tkeep true (tslot 2)) (tp [])) (pureN intN))) (tcons (tkeep true (tlit (FV.int
  2305843009213693951))) (tp []))) (pureN (of2 mod2)))) (tcons (tkeep true (tb (tcons (tkeep true (tb (tcons (tkeep true (tlit (FV.int 7919))) (tcons
  (tkeep true (tslot 1)) (tp []))) (pureN (of2 mul2)))) (tcons (tkeep true (tslot 1)) (tp []))) (pureN (of2 mul2)))) (tp []))) (pureN (of2 add2))))
  (tcons (tkeep true (tb (tcons (tkeep true (tlit (FV.int 31))) (tcons (tkeep true (tslot 1)) (tp []))) (pureN (of2 mul2)))) (tp []))) (pureN (of2
  add2)))) (tcons (tkeep true (tlit (FV.int 11))) (tp []))) (pureN (of2 add2))) (gname (own1 [2, 3, 4]) 4)) (tseq (tret 2 (tlist (tcons (tesc (tslot 3))
  (tcons (tesc (tb (tcons (tkeep true (tb (tcons (tkeep true (tslot 4)) (tp [])) (pureN intN))) (tcons (tkeep true (tlit (FV.int 2305843009213693951)))
  (tp []))) (pureN (of2 mod2)))) (tcons (tesc (tlit (FV.int 0))) (tp [])))))) (tp Fl.nx))))
theorem b__law_source_eq (ρ : Rho) : bodyM T ρ f__law_source = b__law_source ρ := by kernel_rfl
def b__law_draw (ρ : Rho) : TM Fl :=
  tseq (tifs (tbool (tb (tcons (tkeep true (tb (tcons (tkeep true (tslot 0)) (tcons (tkeep true (tlit (FV.int 0))) (tp []))) (pureN (of2 ix2)))) (tcons
  (tkeep true (tlit (FV.int 0))) (tp []))) (pureN (of2 gt2)))) (tseq (tasg (tb (tcons (tkeep true (tb (tcons (tkeep true (tb (tcons (tkeep true (tslot
  0)) (tcons (tkeep true (tlit (FV.int 0))) (tp []))) (pureN (of2 ix2)))) (tp [])) (pureN intN))) (tcons (tkeep true (tslot 1)) (tp []))) (pureN (of2
  mod2))) (gname (own1 [2, 3]) 2)) (tseq (tb (tcons (tesc (tb (tcons (tkeep true (tb (tcons (tkeep true (tslot 0)) (tcons (tkeep true (tlit (FV.int 0)))
  (tp []))) (pureN (of2 ix2)))) (tcons (tkeep true (tslot 1)) (tp []))) (pureN (of2 fdv2)))) (tcons (tkeep true (tslot 0)) (tcons (tkeep true (tlit
  (FV.int 0))) (tp [])))) tsub3) (tseq (tret 2 (tslot 2)) (tp Fl.nx)))) (tp Fl.nx)) (tseq (tb (tcons (tesc (tb (tcons (tkeep true (tb (tcons (tkeep true
  (tslot 0)) (tcons (tkeep true (tlit (FV.int 2))) (tp []))) (pureN (of2 ix2)))) (tcons (tkeep true (tlit (FV.int 1))) (tp []))) (pureN (of2 add2))))
  (tcons (tkeep true (tslot 0)) (tcons (tkeep true (tlit (FV.int 2))) (tp [])))) tsub3) (tseq (tasg (tb (tcons (tkeep true (tb (tcons (tkeep true (tb
  (tcons (tkeep true (tb (tcons (tkeep true (tb (tcons (tkeep true (tslot 0)) (tcons (tkeep true (tlit (FV.int 1))) (tp []))) (pureN (of2 ix2)))) (tcons
  (tkeep true (tb (tcons (tkeep true (tlit (FV.int 1000033))) (tcons (tkeep true (tb (tcons (tkeep true (tslot 0)) (tcons (tkeep true (tlit (FV.int 2)))
  (tp []))) (pureN (of2 ix2)))) (tp []))) (pureN (of2 mul2)))) (tp []))) (pureN (of2 add2)))) (tcons (tkeep true (tlit (FV.int 3))) (tp []))) (pureN (of2
  pow2)))) (tp [])) (pureN intN))) (tcons (tkeep true (tlit (FV.int 2305843009213693921))) (tp []))) (pureN (of2 mod2))) (gname (own1 [2, 3]) 3)) (tseq
  (tasg (tb (tcons (tkeep true (tb (tcons (tkeep true (tb (tcons (tkeep true (tb (tcons (tkeep true (tslot 3)) (tcons (tkeep true (tb (tcons (tkeep true
  (tlit (FV.int 15485917))) (tcons (tkeep true (tb (tcons (tkeep true (tslot 0)) (tcons (tkeep true (tlit (FV.int 2))) (tp []))) (pureN (of2 ix2)))) (tp
  []))) (pureN (of2 mul2)))) (tp []))) (pureN (of2 add2)))) (tcons (tkeep true (tlit (FV.int 2))) (tp []))) (pureN (of2 pow2)))) (tp [])) (pureN intN)))
  (tcons (tkeep true (tlit (FV.int 2305843009213693951))) (tp []))) (pureN (of2 mod2))) (gname (own1 [2, 3]) 3)) (tseq (tret 2 (tb (tcons (tkeep true (tb
  (tcons (tkeep true (tb (tcons (tkeep true (tslot 3)) (tcons (tkeep true (tlit (FV.int 2048))) (tp []))) (pureN (of2 fdv2)))) (tp [])) (pureN intN)))
  (tcons (tkeep true (tslot 1)) (tp []))) (pureN (of2 mod2)))) (tp Fl.nx)))))
theorem b__law_draw_eq (ρ : Rho) : bodyM T ρ f__law_draw = b__law_draw ρ := by kernel_rfl
def b__law_word (ρ : Rho) : TM Fl :=
  tseq (tasg (tlit (FV.str (Str.ofString "abcdefghijklmnopqrstuvwxyz"))) (gname (own1 [1]) 1)) (tseq (tret 1 (tbm isStr (pureN joinN) false (tlit (FV.str
  (Str.ofString ""))) (tcons (tkeep true (tlc (trange1 (tcons (tkeep true (tb (tcons (tkeep false (tlit (FV.int 1))) (tcons (tkeep true (tb (tcons (tkeep
  true (tslot 0)) (tcons (tkeep true (tlit (FV.int 8))) (tp []))) (tcall (Tb.reb T 16) (Rho.c ρ 16) []))) (tp []))) (pureN (of2 add2)))) (tp []))) (gname
  (own1 [2]) 2) (tp true) (tb (tcons (tkeep false (tslot 1)) (tcons (tkeep true (tb (tcons (tkeep true (tslot 0)) (tcons (tkeep true (tlit (FV.int 26)))
  (tp []))) (tcall (Tb.reb T 16) (Rho.c ρ 16) []))) (tp []))) (pureN (of2 ix2))) [2])) (tp [])))) (tp Fl.nx))
theorem b__law_word_eq (ρ : Rho) : bodyM T ρ f__law_word = b__law_word ρ := by kernel_rfl
def b__law_drawn (ρ : Rho) : TM Fl :=
  tseq (tasg (tlc (trange1 (tcons (tkeep true (tb (tcons (tkeep true (tslot 0)) (tcons (tkeep true (tlit (FV.int 4))) (tp []))) (tcall (Tb.reb T 16)
  (Rho.c ρ 16) []))) (tp []))) (gname (own1 [5]) 5) (tp true) (tb (tcons (tkeep true (tslot 0)) (tp [])) (tcall (Tb.reb T 17) (Rho.c ρ 17) [])) [5])
  (gname (own1 [1, 2, 3, 4]) 1)) (tseq (tasg (ttuple (tcons (tesc (tb (tcons (tkeep true (tslot 0)) (tcons (tkeep true (tlit (FV.int 3))) (tp [])))
  (tcall (Tb.reb T 16) (Rho.c ρ 16) []))) (tcons (tesc (tb (tcons (tkeep true (tslot 0)) (tcons (tkeep true (tlit (FV.int 1000001))) (tp []))) (tcall
  (Tb.reb T 16) (Rho.c ρ 16) []))) (tcons (tesc (tb (tcons (tkeep false (tlit (FV.int 4))) (tcons (tkeep true (tb (tcons (tkeep true (tslot 0)) (tcons
  (tkeep true (tlit (FV.int 2))) (tp []))) (tcall (Tb.reb T 16) (Rho.c ρ 16) []))) (tp []))) (pureN (of2 mul2)))) (tp []))))) (gswap (own1 [1, 2, 3, 4])
  [4, 3, 2])) (tseq (tret 1 (tlist (tcons (tesc (tslot 1)) (tcons (tesc (tslot 2)) (tcons (tesc (tslot 3)) (tcons (tesc (tslot 4)) (tcons (tesc (tb
  (tcons (tkeep true (tb (tcons (tkeep true (tslot 0)) (tcons (tkeep true (tlit (FV.int 2))) (tp []))) (tcall (Tb.reb T 16) (Rho.c ρ 16) []))) (tcons
  (tkeep true (tlit (FV.int 0))) (tp []))) (tor2 isOb (tdun2 (Tb.opt T (Rho.d ρ) CD.eq) (Tb.okE T) chB) (pureN (of2 eqx2))))) (tp [])))))))) (tp Fl.nx)))
theorem b__law_drawn_eq (ρ : Rho) : bodyM T ρ f__law_drawn = b__law_drawn ρ := by kernel_rfl
def b__law_other (ρ : Rho) : TM Fl :=
  tseq (tasg (tslot 1) (gtup (gall [gname (own1 [2, 3, 4, 5, 6, 7]) 2, gname (own1 [2, 3, 4, 5, 6, 7]) 3, gname (own1 [2, 3, 4, 5, 6, 7]) 4, gname (own1
  [2, 3, 4, 5, 6, 7]) 5, gname (own1 [2, 3, 4, 5, 6, 7]) 6]) 5)) (tseq (tasg (tb (tcons (tkeep true (tslot 0)) (tcons (tkeep true (tlit (FV.int 7))) (tp
  []))) (tcall (Tb.reb T 16) (Rho.c ρ 16) [])) (gname (own1 [2, 3, 4, 5, 6, 7]) 7)) (tseq (tifs (tbool (tb (tcons (tkeep true (tslot 7)) (tcons (tkeep
  true (tlit (FV.int 0))) (tp []))) (tor2 isOb (tdun2 (Tb.opt T (Rho.d ρ) CD.eq) (Tb.okE T) chB) (pureN (of2 eqx2))))) (tseq (tret 2 (tlist (tcons (tesc
  (tb (tcons (tkeep false (tslot 2)) (tcons (tkeep true (tlist (tcons (tesc (tb (tcons (tkeep true (tslot 0)) (tp [])) (tcall (Tb.reb T 17) (Rho.c ρ 17)
  []))) (tp [])))) (tp []))) (pureN (of2 add2)))) (tcons (tesc (tslot 3)) (tcons (tesc (tslot 4)) (tcons (tesc (tslot 5)) (tcons (tesc (tslot 6)) (tp
  [])))))))) (tp Fl.nx)) (tp Fl.nx)) (tseq (tifs (tbool (tb (tcons (tkeep true (tslot 7)) (tcons (tkeep true (tlit (FV.int 1))) (tp []))) (tor2 isOb
  (tdun2 (Tb.opt T (Rho.d ρ) CD.eq) (Tb.okE T) chB) (pureN (of2 eqx2))))) (tseq (tret 2 (tlist (tcons (tesc (t1 (slF (Option.some 1) Option.none) (tslot
  2))) (tcons (tesc (tslot 3)) (tcons (tesc (tslot 4)) (tcons (tesc (tslot 5)) (tcons (tesc (tslot 6)) (tp [])))))))) (tp Fl.nx)) (tp Fl.nx)) (tseq (tifs
  (tbool (tb (tcons (tkeep true (tslot 7)) (tcons (tkeep true (tlit (FV.int 2))) (tp []))) (tor2 isOb (tdun2 (Tb.opt T (Rho.d ρ) CD.eq) (Tb.okE T) chB)
  (pureN (of2 eqx2))))) (tseq (tret 2 (tlist (tcons (tesc (tslot 2)) (tcons (tesc (tb (tcons (tkeep true (tb (tcons (tkeep true (tslot 3)) (tcons (tkeep
  true (tlit (FV.int 1))) (tp []))) (pureN (of2 add2)))) (tcons (tkeep true (tlit (FV.int 3))) (tp []))) (pureN (of2 mod2)))) (tcons (tesc (tslot 4))
  (tcons (tesc (tslot 5)) (tcons (tesc (tslot 6)) (tp [])))))))) (tp Fl.nx)) (tp Fl.nx)) (tseq (tifs (tbool (tb (tcons (tkeep true (tslot 7)) (tcons
  (tkeep true (tlit (FV.int 3))) (tp []))) (tor2 isOb (tdun2 (Tb.opt T (Rho.d ρ) CD.eq) (Tb.okE T) chB) (pureN (of2 eqx2))))) (tseq (tret 2 (tlist (tcons
  (tesc (tslot 2)) (tcons (tesc (tslot 3)) (tcons (tesc (tslot 4)) (tcons (tesc (tb (tcons (tkeep true (tlit (FV.int 4))) (tcons (tkeep true (tslot 5))
  (tp []))) (pureN (of2 sub2)))) (tcons (tesc (tslot 6)) (tp [])))))))) (tp Fl.nx)) (tp Fl.nx)) (tseq (tifs (tbool (tb (tcons (tkeep true (tslot 7))
  (tcons (tkeep true (tlit (FV.int 4))) (tp []))) (tor2 isOb (tdun2 (Tb.opt T (Rho.d ρ) CD.eq) (Tb.okE T) chB) (pureN (of2 eqx2))))) (tseq (tret 2 (tlist
  (tcons (tesc (tslot 2)) (tcons (tesc (tslot 3)) (tcons (tesc (tslot 4)) (tcons (tesc (tslot 5)) (tcons (tesc (tnotv (tslot 6))) (tp [])))))))) (tp
  Fl.nx)) (tp Fl.nx)) (tseq (tret 2 (tlist (tcons (tesc (tb (tcons (tkeep true (t1 revF (tslot 2))) (tcons (tkeep true (tslot 2)) (tp []))) (pureN (of2
  add2)))) (tcons (tesc (tslot 3)) (tcons (tesc (tslot 4)) (tcons (tesc (tslot 5)) (tcons (tesc (tslot 6)) (tp [])))))))) (tp Fl.nx))))))))
theorem b__law_other_eq (ρ : Rho) : bodyM T ρ f__law_other = b__law_other ρ := by kernel_rfl
def b__law_made (ρ : Rho) : TM Fl :=
  tseq (tasg (tslot 0) (gtup (gall [gname (own1 [1, 2, 3, 4, 5, 6]) 1, gname (own1 [1, 2, 3, 4, 5, 6]) 2, gname (own1 [1, 2, 3, 4, 5, 6]) 3, gname (own1
  [1, 2, 3, 4, 5, 6]) 4, gname (own1 [1, 2, 3, 4, 5, 6]) 5]) 5)) (tseq (tifs (tbool (tb (tcons (tkeep true (tslot 1)) (tcons (tkeep true (tlist (tp [])))
  (tp []))) (tor2 isOb (tdun2 (Tb.opt T (Rho.d ρ) CD.eq) (Tb.okE T) chB) (pureN (of2 eqx2))))) (tseq (tret 1 (tb (tcons (tkeep true (tslot 5)) (tcons
  (tkeep true (tslot 2)) (tcons (tkeep true (tslot 3)) (tcons (tkeep true (tslot 4)) (tp []))))) (tmake 0 (Tb.reb T 7) (Rho.m ρ 7) [Str.ofString "stops",
  Str.ofString "zcell", Str.ofString "cell", Str.ofString "apoint"]))) (tp Fl.nx)) (tp Fl.nx)) (tseq (tasg (tb (tcons (tkeep true (tslot 1)) (tcons
  (tkeep true (tb (tcons (tkeep true (tlist (tcons (tesc (tb (tcons (tkeep true (tslot 1)) (tcons (tkeep true (tlit (FV.int 0))) (tp []))) (pureN (of2
  ix2)))) (tp [])))) (tcons (tkeep true (tlit (FV.int 6))) (tp []))) (pureN (of2 mul2)))) (tp []))) (pureN (of2 add2))) (gname (own1 [1, 2, 3, 4, 5, 6])
  6)) (tseq (tret 1 (tb (tcons (tkeep true (tb (tcons (tkeep true (tslot 6)) (tcons (tkeep true (tlit (FV.int 0))) (tp []))) (pureN (of2 ix2)))) (tcons
  (tkeep true (tb (tcons (tkeep true (tslot 6)) (tcons (tkeep true (tlit (FV.int 1))) (tp []))) (pureN (of2 ix2)))) (tcons (tkeep true (tb (tcons (tkeep
  true (tslot 6)) (tcons (tkeep true (tlit (FV.int 2))) (tp []))) (pureN (of2 ix2)))) (tcons (tkeep true (tb (tcons (tkeep true (tslot 6)) (tcons (tkeep
  true (tlit (FV.int 3))) (tp []))) (pureN (of2 ix2)))) (tcons (tkeep true (tb (tcons (tkeep true (tslot 6)) (tcons (tkeep true (tlit (FV.int 4))) (tp
  []))) (pureN (of2 ix2)))) (tcons (tkeep true (tb (tcons (tkeep true (tslot 6)) (tcons (tkeep true (tlit (FV.int 5))) (tp []))) (pureN (of2 ix2))))
  (tcons (tkeep true (tslot 4)) (tcons (tkeep true (tslot 2)) (tcons (tkeep true (tslot 3)) (tcons (tkeep true (tslot 5)) (tp []))))))))))) (tmake 0
  (Tb.reb T 7) (Rho.m ρ 7) [Str.ofString "apoint", Str.ofString "zcell", Str.ofString "cell", Str.ofString "stops"]))) (tp Fl.nx))))
theorem b__law_made_eq (ρ : Rho) : bodyM T ρ f__law_made = b__law_made ρ := by kernel_rfl
def b__law_words (ρ : Rho) : TM Fl :=
  tseq (tasg (tslot 0) (gtup (gall [gname (own1 [1, 2, 3, 4, 5, 6, 7, 8]) 1, gname (own1 [1, 2, 3, 4, 5, 6, 7, 8]) 2, gname (own1 [1, 2, 3, 4, 5, 6, 7,
  8]) 3, gname (own1 [1, 2, 3, 4, 5, 6, 7, 8]) 4, gname (own1 [1, 2, 3, 4, 5, 6, 7, 8]) 5]) 5)) (tseq (tasg (tlc (twalkD (tset (tslot 1) srt)) (gname
  (own1 [9]) 9) (tp true) (tb (tcons (tkeep true (tlit (FV.str (Str.ofString "+")))) (tcons (tkeep true (tslot 9)) (tp []))) (pureN (of2 add2))) [9])
  (gname (own1 [1, 2, 3, 4, 5, 6, 7, 8]) 6)) (tseq (tfor (twalkD (tlist (tcons (tesc (ttuple (tcons (tesc (tlit (FV.str (Str.ofString "apoint")))) (tcons
  (tesc (tslot 4)) (tp []))))) (tcons (tesc (ttuple (tcons (tesc (tlit (FV.str (Str.ofString "cell")))) (tcons (tesc (tslot 3)) (tp []))))) (tcons (tesc
  (ttuple (tcons (tesc (tlit (FV.str (Str.ofString "zcell")))) (tcons (tesc (tslot 2)) (tp []))))) (tp [])))))) (gtup (gall [gname (own1 [1, 2, 3, 4, 5,
  6, 7, 8]) 7, gname (own1 [1, 2, 3, 4, 5, 6, 7, 8]) 8]) 2) (tseq (tifs (tbool (tb (tcons (tkeep true (tslot 8)) (tcons (tkeep true (tlit (FV.int 0)))
  (tp []))) (pureN (of2 gt2)))) (tseq (tdrop (tbm isLst tappend false (tslot 6) (tcons (tkeep true (tb (tcons (tkeep false (tb (tcons (tkeep true (tslot
  7)) (tcons (tkeep true (tlit (FV.str (Str.ofString "=")))) (tp []))) (pureN (of2 add2)))) (tcons (tkeep true (tb (tcons (tkeep true (tslot 8)) (tp []))
  (tor2 isOb (tdun (Tb.opt T (Rho.d ρ) CD.str) chS) (pureN strN)))) (tp []))) (pureN (of2 add2)))) (tp [])))) (tp Fl.nx)) (tp Fl.nx)) (tp Fl.nx))) (tseq
  (tifs (ttru (tslot 5)) (tseq (tdrop (tbm isLst tappend true (tslot 6) (tcons (tkeep true (tlit (FV.str (Str.ofString "stops")))) (tp [])))) (tp Fl.nx))
  (tp Fl.nx)) (tseq (tret 1 (tbm isStr (pureN joinN) true (tlit (FV.str (Str.ofString " "))) (tcons (tkeep true (tslot 6)) (tp [])))) (tp Fl.nx)))))
theorem b__law_words_eq (ρ : Rho) : bodyM T ρ f__law_words = b__law_words ρ := by kernel_rfl
def b_law (ρ : Rho) : TM Fl :=
  tseq (tfor (trange1 (tcons (tkeep true (tb (tcons (tkeep true (tlit (FV.int 1))) (tcons (tkeep true (tb (tcons (tkeep true (tlit (FV.int 3))) (tcons
  (tkeep true (tb (tcons (tkeep true (tslot 0)) (tp [])) (pureN lenN))) (tp []))) (pureN (i2 imin)))) (tp []))) (pureN (i2 imax)))) (tp []))) (gname
  (own1 [1, 2, 3, 4, 5, 6, 7, 8]) 1) (tseq (tasg (tb (tcons (tkeep true (tslot 0)) (tcons (tkeep true (tslot 1)) (tp []))) (tcall (Tb.reb T 15) (Rho.c ρ
  15) [])) (gname (own1 [1, 2, 3, 4, 5, 6, 7, 8]) 2)) (tseq (tfor (trange1 (tcons (tkeep true (tlit (FV.int 5))) (tp []))) (gname (own1 [1, 2, 3, 4, 5,
  6, 7, 8]) 3) (tseq (tasg (tb (tcons (tkeep true (tslot 2)) (tp [])) (tcall (Tb.reb T 18) (Rho.c ρ 18) [])) (gname (own1 [1, 2, 3, 4, 5, 6, 7, 8]) 4))
  (tseq (tasg (tb (tcons (tkeep true (tslot 2)) (tcons (tkeep true (tslot 4)) (tp []))) (tcall (Tb.reb T 19) (Rho.c ρ 19) [])) (gname (own1 [1, 2, 3, 4,
  5, 6, 7, 8]) 5)) (tseq (tasg (ttuple (tcons (tesc (tb (tcons (tkeep true (tslot 4)) (tp [])) (tcall (Tb.reb T 20) (Rho.c ρ 20) []))) (tcons (tesc (tb
  (tcons (tkeep true (tslot 5)) (tp [])) (tcall (Tb.reb T 20) (Rho.c ρ 20) []))) (tp [])))) (gtup (gall [gname (own1 [1, 2, 3, 4, 5, 6, 7, 8]) 6, gname
  (own1 [1, 2, 3, 4, 5, 6, 7, 8]) 7]) 2)) (tseq (tasg (tandv (tb (tcons (tkeep false (tset (tb (tcons (tkeep true (tslot 4)) (tcons (tkeep true (tlit
  (FV.int 0))) (tp []))) (pureN (of2 ix2))) srt)) (tcons (tkeep true (tset (tb (tcons (tkeep true (tslot 5)) (tcons (tkeep true (tlit (FV.int 0))) (tp
  []))) (pureN (of2 ix2))) srt)) (tp []))) (tor2 isOb (tdun2 (Tb.opt T (Rho.d ρ) CD.eq) (Tb.okE T) chB) (pureN (of2 eqx2)))) (tb (tcons (tkeep true (t1
  (slF (Option.some 1) Option.none) (tslot 4))) (tcons (tkeep true (t1 (slF (Option.some 1) Option.none) (tslot 5))) (tp []))) (tor2 isOb (tdun2 (Tb.opt
  T (Rho.d ρ) CD.eq) (Tb.okE T) chB) (pureN (of2 eqx2))))) (gname (own1 [1, 2, 3, 4, 5, 6, 7, 8]) 8)) (tseq (tifs (tor (tbool (tb (tcons (tkeep false (tb
  (tcons (tkeep true (tb (tcons (tkeep true (tslot 6)) (tcons (tkeep true (tslot 7)) (tp []))) (tor2 isOb (tdun2 (Tb.opt T (Rho.d ρ) CD.eq) (Tb.okE T)
  chB) (pureN (of2 eqx2))))) (tp [])) (tor2 isOb (tdun (Tb.opt T (Rho.d ρ) CD.repr) chS) (pureN reprB)))) (tcons (tkeep true (tb (tcons (tkeep true
  (tslot 8)) (tp [])) (tor2 isOb (tdun (Tb.opt T (Rho.d ρ) CD.repr) chS) (pureN reprB)))) (tp []))) (tor2 isOb (tdun2 (Tb.opt T (Rho.d ρ) CD.eq) (Tb.okE
  T) chNe) (pureN (of2 ne2))))) (tor (tbool (tb (tcons (tkeep false (tb (tcons (tkeep true (tb (tcons (tkeep true (tslot 7)) (tcons (tkeep true (tslot
  6)) (tp []))) (tor2 isOb (tdun2 (Tb.opt T (Rho.d ρ) CD.eq) (Tb.okE T) chB) (pureN (of2 eqx2))))) (tp [])) (tor2 isOb (tdun (Tb.opt T (Rho.d ρ) CD.repr)
  chS) (pureN reprB)))) (tcons (tkeep true (tb (tcons (tkeep true (tslot 8)) (tp [])) (tor2 isOb (tdun (Tb.opt T (Rho.d ρ) CD.repr) chS) (pureN reprB))))
  (tp []))) (tor2 isOb (tdun2 (Tb.opt T (Rho.d ρ) CD.eq) (Tb.okE T) chNe) (pureN (of2 ne2))))) (tbool (tb (tcons (tkeep true (tslot 6)) (tcons (tkeep
  true (tslot 6)) (tp []))) (tor2 isOb (tdun2 (Tb.opt T (Rho.d ρ) CD.eq) (Tb.okE T) chNe) (pureN (of2 ne2))))))) (tseq (tret 1 (tlit (FV.bl false))) (tp
  Fl.nx)) (tp Fl.nx)) (tseq (tifs (tor (tbool (tb (tcons (tkeep false (tb (tcons (tkeep true (tslot 6)) (tp [])) (tor2 isOb (tdun (Tb.opt T (Rho.d ρ)
  CD.str) chS) (pureN strN)))) (tcons (tkeep true (tb (tcons (tkeep true (tslot 4)) (tp [])) (tcall (Tb.reb T 21) (Rho.c ρ 21) []))) (tp []))) (tor2 isOb
  (tdun2 (Tb.opt T (Rho.d ρ) CD.eq) (Tb.okE T) chNe) (pureN (of2 ne2))))) (tbool (tb (tcons (tkeep false (tb (tcons (tkeep true (tslot 7)) (tp [])) (tor2
  isOb (tdun (Tb.opt T (Rho.d ρ) CD.repr) chS) (pureN reprB)))) (tcons (tkeep true (tb (tcons (tkeep true (tb (tcons (tkeep false (tlit (FV.str
  (Str.ofString "Options(")))) (tcons (tkeep true (tb (tcons (tkeep true (tslot 5)) (tp [])) (tcall (Tb.reb T 21) (Rho.c ρ 21) []))) (tp []))) (pureN
  (of2 add2)))) (tcons (tkeep true (tlit (FV.str (Str.ofString ")")))) (tp []))) (pureN (of2 add2)))) (tp []))) (tor2 isOb (tdun2 (Tb.opt T (Rho.d ρ)
  CD.eq) (Tb.okE T) chNe) (pureN (of2 ne2)))))) (tseq (tret 1 (tlit (FV.bl false))) (tp Fl.nx)) (tp Fl.nx)) (tseq (tifs (tbool (tb (tcons (tkeep true
  (tlc (twalkD (tlist (tcons (tesc (tlit FV.non)) (tcons (tesc (tb (tcons (tkeep true (tslot 6)) (tp [])) (tor2 isOb (tdun (Tb.opt T (Rho.d ρ) CD.str)
  chS) (pureN strN)))) (tcons (tesc (tb (tp []) (tmake 1 (Tb.reb T 12) (Rho.m ρ 12) []))) (tcons (tesc (ttuple (tp []))) (tcons (tesc (tlit (FV.int 0)))
  (tp [])))))))) (gname (own1 [9]) 9) (tp true) (tb (tcons (tkeep true (tslot 6)) (tcons (tkeep true (tslot 9)) (tp []))) (tor2 isOb (tdun2 (Tb.opt T
  (Rho.d ρ) CD.eq) (Tb.okE T) chB) (pureN (of2 eqx2)))) [9])) (tcons (tkeep true (tb (tcons (tkeep true (tlist (tcons (tesc (tlit (FV.bl false))) (tp
  [])))) (tcons (tkeep true (tlit (FV.int 5))) (tp []))) (pureN (of2 mul2)))) (tp []))) (tor2 isOb (tdun2 (Tb.opt T (Rho.d ρ) CD.eq) (Tb.okE T) chNe)
  (pureN (of2 ne2))))) (tseq (tret 1 (tlit (FV.bl false))) (tp Fl.nx)) (tp Fl.nx)) (tp Fl.nx))))))))) (tp Fl.nx)))) (tseq (tret 1 (tandv (tb (tcons
  (tkeep false (tb (tcons (tkeep true (tlit (FV.int 0))) (tp [])) (tmake 0 (Tb.reb T 7) (Rho.m ρ 7) [Str.ofString "cell"]))) (tcons (tkeep true (tb (tp
  []) (tmake 0 (Tb.reb T 7) (Rho.m ρ 7) []))) (tp []))) (tor2 isOb (tdun2 (Tb.opt T (Rho.d ρ) CD.eq) (Tb.okE T) chB) (pureN (of2 eqx2)))) (tandv (tb
  (tcons (tkeep true (tb (tcons (tkeep true (tb (tp []) (tmake 0 (Tb.reb T 7) (Rho.m ρ 7) []))) (tp [])) (tor2 isOb (tdun (Tb.opt T (Rho.d ρ) CD.str)
  chS) (pureN strN)))) (tcons (tkeep true (tlit (FV.str (Str.ofString "")))) (tp []))) (tor2 isOb (tdun2 (Tb.opt T (Rho.d ρ) CD.eq) (Tb.okE T) chB)
  (pureN (of2 eqx2)))) (tb (tcons (tkeep true (tb (tcons (tkeep true (tb (tp []) (tmake 0 (Tb.reb T 7) (Rho.m ρ 7) []))) (tp [])) (tor2 isOb (tdun
  (Tb.opt T (Rho.d ρ) CD.repr) chS) (pureN reprB)))) (tcons (tkeep true (tlit (FV.str (Str.ofString "Options()")))) (tp []))) (tor2 isOb (tdun2 (Tb.opt T
  (Rho.d ρ) CD.eq) (Tb.okE T) chB) (pureN (of2 eqx2))))))) (tp Fl.nx))
theorem b_law_eq (ρ : Rho) : bodyM T ρ f_law = b_law ρ := by kernel_rfl
end Lw
end

noncomputable section
set_option maxHeartbeats 400000
/-! Running denotations: from the end backwards. -/
namespace Tv
open PySem L2
open PySem (Str Expr Stmt Scope)
@[reducible] def SlF {α : Type} (_ : TM α) : Type := Slots
@[reducible] def UnF {α : Sort _} (_ : α) : Type := Unit
def W {α : Type} (m : TM α) (s : SlF m) (Q : α → Slots → Prop) (_ : UnF Q := ()) : Prop := match m s with
  | .ok a s' => Q a s'
  | _ => False
def WO {α : Type} (o : Option α) (Q : α → Prop) (_ : UnF Q := ()) : Prop := match o with
  | some a => Q a
  | none => False
def WR (o : Out OV) (Q : OV → Slots → Prop) (_ : UnF Q := ()) : Prop := match o with
  | .ok a s' => Q a s'
  | _ => False
theorem W.ext {α : Type} {m : TM α} {s : Slots} {Q R : α → Slots → Prop} (h : ∀ a s', Q a s' = R a s') : W m s Q = W m s R := by
  have e : Q = R := funext fun a => funext fun s' => h a s'
  subst e
  rfl
theorem WO.ext {α : Type} {o : Option α} {Q R : α → Prop} (h : ∀ a, Q a = R a) : WO o Q = WO o R := by
  have e : Q = R := funext h
  subst e
  rfl
theorem WR.mono {o : Out OV} {P Q : OV → Slots → Prop} (h : WR o P) (k : ∀ r s, P r s → Q r s) : WR o Q := by
  unfold WR at h ⊢
  cases o with
  | ok a s => exact k _ _ h
  | exc x s => exact h
  | bad => exact h
theorem W.mono {α : Type} {m : TM α} {s : Slots} {P Q : α → Slots → Prop} (h : W m s P) (k : ∀ r s, P r s → Q r s) : W m s Q := by
  unfold W at h ⊢
  cases e : m s with
  | ok a s => rw [e] at h; exact k _ _ h
  | exc x s => rw [e] at h; exact h
  | bad => rw [e] at h; exact h
section
variable {α β : Type} {s : Slots} {Q : α → Slots → Prop}
theorem wo_some {a : α} {Q : α → Prop} : WO (some a) Q = Q a := rfl
theorem wo_none {Q : α → Prop} : WO none Q = False := rfl
theorem wo_map {f : α → β} {o : Option α} {Q : β → Prop} : WO (o.map f) Q = WO o (fun a => Q (f a)) := by cases o <;> rfl
theorem wo_bind {f : α → Option β} {o : Option α} {Q : β → Prop} : WO (o.bind f) Q = WO o (fun a => WO (f a) Q) := by cases o <;> rfl
theorem wo_ite {c : Prop} [Decidable c] {a b : Option α} {Q : α → Prop} : WO (if c then a else b) Q = if c then WO a Q else WO b Q := by split <;> rfl
theorem w_tb {m : TM β} {k : β → TM α} : W (tb m k) s Q = W m s (fun a s' => W (k a) s' Q) := by
  unfold W tb
  cases m s <;> rfl
theorem w_tp {a : α} : W (tp a) s Q = Q a s := rfl
theorem w_bad : W (tbad (α := α)) s Q = False := rfl
theorem w_ite {c : Prop} [Decidable c] {a b : TM α} : W (if c then a else b) s Q = if c then W a s Q else W b s Q := by
  by_cases z : c
  · rw [if_pos z, if_pos z]
  · rw [if_neg z, if_neg z]
end
section
variable {s : Slots} {Q : Opd → Slots → Prop} {QB : Bool → Slots → Prop} {QF : Fl → Slots → Prop} {QL : List Opd → Slots → Prop} {QV : OV → Slots → Prop} {QU : Unit → Slots → Prop} {QX : List FV → Slots → Prop}
/-- a slot as an operand -/
def opdS (i : Nat) : OV → Opd
  | .frz v => .val (.frz v)
  | _ => .at i
theorem opdS_frz {i : Nat} {v : FV} : opdS i (.frz v) = .val (.frz v) := rfl
theorem opdS_lst {i : Nat} {v : List OV} : opdS i (.lst v) = .at i := rfl
theorem opdS_tup {i : Nat} {v : List OV} : opdS i (.tup v) = .at i := rfl
theorem opdS_dic {i : Nat} {k : List FV} {v : List OV} : opdS i (.dic k v) = .at i := rfl
theorem opdS_obj {i c : Nat} {k : List Nat} {v : List OV} : opdS i (.obj c k v) = .at i := rfl
theorem slot_zero {x : Option OV} : slot (x :: s) 0 = x := by unfold slot; simp
theorem slot_succ {x : Option OV} {n : Nat} : slot (x :: s) (n + 1) = slot s n := by unfold slot; simp
def slotK (i : Nat) (Q : Opd → Slots → Prop) (s : Slots) : OV → Prop
  | .frz v => Q (.val (.frz v)) s
  | _ => Q (.at i) s
theorem slotK_frz {i : Nat} {v : FV} : slotK i Q s (.frz v) = Q (.val (.frz v)) s := rfl
theorem slotK_lst {i : Nat} {v : List OV} : slotK i Q s (.lst v) = Q (.at i) s := rfl
theorem slotK_tup {i : Nat} {v : List OV} : slotK i Q s (.tup v) = Q (.at i) s := rfl
theorem slotK_dic {i : Nat} {k : List FV} {v : List OV} : slotK i Q s (.dic k v) = Q (.at i) s := rfl
theorem slotK_obj {i c : Nat} {k : List Nat} {v : List OV} : slotK i Q s (.obj c k v) = Q (.at i) s := rfl
theorem w_tslot {i : Nat} : W (tslot i) s Q = WO (slot s i) (slotK i Q s) := by
  unfold W tslot
  cases e : slot s i with
  | none => rfl
  | some o => cases o <;> rfl
def escfK (i f : Nat) (Q : OV → Slots → Prop) (s : Slots) : OV → Prop
  | .obj c ns vs => WO (look f ns vs) fun o => Q (.frz o.fz) (s.set i (some (.obj c ns (putV f (.frz o.fz) ns vs))))
  | _ => False
theorem escfK_obj {i f c : Nat} {ns : List Nat} {vs : List OV} : escfK i f QV s (.obj c ns vs) = WO (look f ns vs) fun o => QV (.frz o.fz) (s.set i (some (.obj c ns (putV f (.frz o.fz) ns vs)))) := rfl
theorem w_esc_fld {i f : Nat} : W (esc (.fld i f)) s QV = WO (slot s i) (escfK i f QV s) := by
  unfold W esc
  dsimp only
  cases slot s i with
  | none => rfl
  | some o =>
    cases o with
    | obj c ns vs =>
      dsimp only [WO, escfK]
      cases look f ns vs <;> rfl
    | _ => rfl
theorem w_tlit {v : FV} : W (tlit v) s Q = Q (.val (.frz v)) s := rfl
theorem w_tkeepT {m : TM Opd} : W (tkeep true m) s Q = W m s Q := by
  unfold tkeep
  rw [w_tb]
  rfl
theorem w_tkeepF {m : TM Opd} : W (tkeep false m) s Q = W m s fun o s' => if isFld o = true then W (esc o) s' fun v s2 => Q (.val v) s2 else Q o s' := by
  unfold tkeep
  rw [w_tb]
  congr
  funext o s'
  simp only [Bool.not_false, Bool.true_and, w_ite, w_tb, w_tp]
theorem isFld_val {o : OV} : isFld (.val o) = false := rfl
theorem isFld_at {i : Nat} : isFld (.at i) = false := rfl
theorem isFld_fld {i f : Nat} : isFld (.fld i f) = true := rfl
theorem w_nofldT {m : TM Opd} : W (nofld true m) s Q = W m s Q := by
  unfold nofld
  rw [w_tb]
  rfl
theorem w_nofldF {m : TM Opd} : W (nofld false m) s Q = W m s fun o s' => isFld o = false ∧ Q o s' := by
  unfold nofld
  rw [w_tb]
  congr
  funext o s'
  cases o <;> simp [W, isFld]
theorem w_tcons {a : TM Opd} {r : TM (List Opd)} : W (tcons a r) s QL = W a s fun o s' => W r s' fun os s2 => QL (o :: os) s2 := by
  unfold tcons
  repeat (first | rfl | rw [w_tb] | rw [w_ite] | rw [w_tp] | refine W.ext fun _ _ => ?_)
theorem w_tesc {m : TM Opd} : W (tesc m) s Q = W m s fun o s' => W (esc o) s' fun v s2 => Q (.val v) s2 := by
  unfold tesc
  repeat (first | rfl | rw [w_tb] | rw [w_ite] | rw [w_tp] | refine W.ext fun _ _ => ?_)
theorem w_tval {m : TM Opd} : W (tval m) s QV = W m s fun o s' => W (esc o) s' QV := by
  unfold tval
  repeat (first | rfl | rw [w_tb] | rw [w_ite] | rw [w_tp] | refine W.ext fun _ _ => ?_)
def WE (o : Opd) (s : Slots) (Q : OV → Slots → Prop) (_ : UnF Q := ()) : Prop := W (esc o) s Q
theorem w_esc {o : Opd} : W (esc o) s QV = WE o s QV := rfl
theorem we_val {o : OV} : WE (.val o) s QV = QV o s := rfl
theorem w_esc_val {o : OV} : W (esc (.val o)) s QV = QV o s := rfl
theorem w_esc_at {i : Nat} : W (esc (.at i)) s QV = WO (slot s i) fun o => QV (.frz o.fz) (s.set i (some (.frz o.fz))) := by
  unfold W esc
  dsimp only
  cases slot s i <;> rfl
theorem we_at {i : Nat} : WE (.at i) s QV = WO (slot s i) fun o => QV (.frz o.fz) (s.set i (some (.frz o.fz))) := w_esc_at
theorem we_fld {i f : Nat} : WE (.fld i f) s QV = WO (slot s i) (escfK i f QV s) := w_esc_fld
theorem get_val {o : OV} : (Opd.val o).get s = some o := rfl
theorem get_at {i : Nat} : (Opd.at i).get s = slot s i := rfl
def fldO (f : Nat) : OV → Option OV
  | .obj _ ns vs => look f ns vs
  | _ => none
theorem get_fld {i f : Nat} : (Opd.fld i f).get s = (slot s i).bind (fldO f) := by
  show (match slot s i with
    | some (.obj _ ns vs) => look f ns vs
    | _ => none) = _
  cases slot s i with
  | none => rfl
  | some o => cases o <;> rfl
theorem gets_nil : gets s [] = some [] := rfl
theorem gets_cons {o : Opd} {os : List Opd} : gets s (o :: os) = (o.get s).bind fun x => (gets s os).map fun xs => x :: xs := by
  conv => lhs; unfold gets
  cases o.get s with
  | none => rfl
  | some x => cases gets s os <;> rfl
theorem w_pureN {g : List OV → Option OV} {os : List Opd} : W (pureN g os) s Q = WO (gets s os) fun xs => WO (g xs) fun r => Q (.val r) s := by
  unfold W pureN
  cases gets s os with
  | none => rfl
  | some xs =>
    dsimp only [WO]
    cases g xs <;> rfl
theorem w_t1 {f : OV → Option OV} {m : TM Opd} : W (t1 f m) s Q = W m s fun o s' => WO (o.get s') fun x => WO (f x) fun r => Q (.val r) s' := by
  unfold t1
  rw [w_tb]
  congr
  funext o s'
  unfold W
  dsimp only
  cases o.get s' with
  | none => rfl
  | some x =>
    dsimp only [WO]
    cases f x <;> rfl
/-- behind a first statement -/
def seqK (b : TM Fl) (Q : Fl → Slots → Prop) (f : Fl) (s : Slots) : Prop := match f with
  | .nx => W b s Q
  | .rt o => Q (.rt o) s
theorem seqK_nx {b : TM Fl} : seqK b QF .nx s = W b s QF := rfl
theorem seqK_rt {b : TM Fl} {o : OV} : seqK b QF (.rt o) s = QF (.rt o) s := rfl
theorem w_tseq {a b : TM Fl} : W (tseq a b) s QF = W a s (seqK b QF) := by
  unfold tseq
  rw [w_tb]
  congr
  funext f s'
  cases f <;> rfl
theorem w_tasg {m : TM Opd} {g : OV → TM Unit} : W (tasg m g) s QF = W m s fun o s1 => W (esc o) s1 fun v s2 => W (g v) s2 fun _ s3 => QF .nx s3 := by
  unfold tasg
  repeat (first | rfl | rw [w_tb] | rw [w_tval] | rw [w_ite] | rw [w_tp] | refine W.ext fun _ _ => ?_)
theorem w_gname {w : Nat → Bool} {i : Nat} {o : OV} : W (gname w i o) s QU = ((w i = true ∧ i < s.length) ∧ QU () (s.set i (some o))) := by
  unfold W gname
  by_cases z : w i = true ∧ i < s.length
  · rw [if_pos z]; simp [z]
  · rw [if_neg z]; simp [z]
theorem w_tdrop {m : TM Opd} : W (tdrop m) s QF = W m s fun _ s' => QF .nx s' := by
  unfold tdrop
  repeat (first | rfl | rw [w_tb] | rw [w_ite] | rw [w_tp] | refine W.ext fun _ _ => ?_)
theorem w_tretn : W tretn s QF = QF (.rt (.frz .non)) s := rfl
def retK (par : Nat) (Q : Fl → Slots → Prop) (o : Opd) (s : Slots) : Prop := match o with
  | .at i => if i < par then W (esc (.at i)) s fun v s' => Q (.rt v) s' else WO (slot s i) fun v => Q (.rt v) (s.set i none)
  | .val o => Q (.rt o) s
  | .fld i f => W (esc (.fld i f)) s fun v s' => Q (.rt v) s'
theorem retK_val {par : Nat} {o : OV} : retK par QF (.val o) s = QF (.rt o) s := rfl
theorem retK_at {par i : Nat} : retK par QF (.at i) s = if i < par then W (esc (.at i)) s fun v s' => QF (.rt v) s' else WO (slot s i) fun v => QF (.rt v) (s.set i none) := rfl
theorem retK_fld {par i f : Nat} : retK par QF (.fld i f) s = W (esc (.fld i f)) s fun v s' => QF (.rt v) s' := rfl
theorem w_tret {par : Nat} {m : TM Opd} : W (tret par m) s QF = W m s (retK par QF) := by
  unfold tret
  rw [w_tb]
  congr
  funext o s'
  cases o with
  | val o => rfl
  | «at» i =>
    unfold retK
    dsimp only
    by_cases z : i < par
    · rw [if_pos z]
      unfold W
      dsimp only
      rw [if_pos z]
      show W (tb (esc (.at i)) fun v => tp (.rt v)) s' QF = _
      rw [w_tb]
      rfl
    · rw [if_neg z]
      unfold W
      dsimp only
      rw [if_neg z]
      cases slot s' i <;> rfl
  | fld i f =>
    show W (tb (esc (.fld i f)) fun v => tp (.rt v)) s' QF = _
    rw [w_tb]
    rfl
theorem w_tifs {c : TM Bool} {a b : TM Fl} : W (tifs c a b) s QF = W c s fun x s' => if x = true then W a s' QF else W b s' QF := by
  unfold tifs
  repeat (first | rfl | rw [w_tb] | rw [w_ite] | rw [w_tp] | refine W.ext fun _ _ => ?_)
theorem w_tite {α : Type} {Q : α → Slots → Prop} {c : TM Bool} {a b : TM α} : W (tite c a b) s Q = W c s fun x s' => if x = true then W a s' Q else W b s' Q := by
  unfold tite
  repeat (first | rfl | rw [w_tb] | rw [w_ite] | rw [w_tp] | refine W.ext fun _ _ => ?_)
def blO : OV → Option Bool
  | .frz (.bl b) => some b
  | _ => none
theorem w_ttru {m : TM Opd} : W (ttru m) s QB = W m s fun o s' => WO (o.get s') fun x => WO (tru x) fun b => QB b s' := by
  unfold ttru
  rw [w_tb]
  congr
  funext o s'
  unfold W
  dsimp only
  cases o.get s' with
  | none => rfl
  | some x =>
    dsimp only [WO]
    cases tru x <;> rfl
theorem w_tbool {m : TM Opd} : W (tbool m) s QB = W m s fun o s' => WO (o.get s') fun x => WO (blO x) fun b => QB b s' := by
  unfold tbool
  rw [w_tb]
  congr
  funext o s'
  unfold W
  dsimp only
  cases o.get s' with
  | none => rfl
  | some x =>
    cases x with
    | frz v => cases v <;> rfl
    | _ => rfl
theorem w_tnot {a : TM Bool} : W (tnot a) s QB = W a s fun x s' => QB (!x) s' := by
  unfold tnot
  repeat (first | rfl | rw [w_tb] | rw [w_ite] | rw [w_tp] | refine W.ext fun _ _ => ?_)
theorem w_tand {a b : TM Bool} : W (tand a b) s QB = W a s fun x s' => if x = true then W b s' QB else QB false s' := by
  unfold tand
  repeat (first | rfl | rw [w_tb] | rw [w_ite] | rw [w_tp] | refine W.ext fun _ _ => ?_)
theorem w_tor {a b : TM Bool} : W (tor a b) s QB = W a s fun x s' => if x = true then QB true s' else W b s' QB := by
  unfold tor
  repeat (first | rfl | rw [w_tb] | rw [w_ite] | rw [w_tp] | refine W.ext fun _ _ => ?_)
theorem w_tlist {m : TM (List Opd)} : W (tlist m) s Q = W m s fun os s' => WO (vals os) fun cs => cs.length ≤ szl ∧ Q (.val (.lst cs)) s' := by
  unfold tlist
  rw [w_tb]
  congr
  funext os s'
  unfold W
  dsimp only
  cases vals os with
  | none => rfl
  | some cs =>
    dsimp only [WO]
    by_cases z : cs.length ≤ szl
    · rw [if_pos z]; simp [z]
    · rw [if_neg z]; simp [z]
theorem w_ttuple {m : TM (List Opd)} : W (ttuple m) s Q = W m s fun os s' => WO (vals os) fun cs => cs.length ≤ szl ∧ Q (.val (mkTup cs)) s' := by
  unfold ttuple
  rw [w_tb]
  congr
  funext os s'
  unfold W
  dsimp only
  cases vals os with
  | none => rfl
  | some cs =>
    dsimp only [WO]
    by_cases z : cs.length ≤ szl
    · rw [if_pos z]; simp [z]
    · rw [if_neg z]; simp [z]
theorem w_tcall {reb : Nat → Bool} {run : List OV → List (Str × FV) → Out OV} {names : List Str} {os : List Opd} : W (tcall reb run names os) s Q =
    W (tlend (fun j => reb j || decide (os.length - names.length ≤ j)) os 0 os) s fun all s' => WR (run (all.take (os.length - names.length)) (names.zip ((all.drop (os.length - names.length)).map OV.fz))) fun r cs => Q (.val r) (tput os cs s') := by
  unfold tcall
  rw [w_tb]
  congr
  funext all s'
  unfold W WR
  dsimp only
  cases run (all.take (os.length - names.length)) (names.zip ((all.drop (os.length - names.length)).map OV.fz)) <;> rfl
theorem w_lend_nil {QO : List OV → Slots → Prop} {reb : Nat → Bool} {all : List Opd} {j : Nat} : W (tlend reb all j []) s QO = QO [] s := rfl
theorem w_lend_val {QO : List OV → Slots → Prop} {reb : Nat → Bool} {all os : List Opd} {j : Nat} {o : OV} : W (tlend reb all j (.val o :: os)) s QO = W (tlend reb all (j + 1) os) s fun cs s' => QO (o :: cs) s' := by
  rw [tlend, w_tb, w_esc_val, w_tb]
  · rfl
  · exact fun _ h => nomatch h
theorem w_lend_fld {QO : List OV → Slots → Prop} {reb : Nat → Bool} {all os : List Opd} {j i f : Nat} : W (tlend reb all j (.fld i f :: os)) s QO = W (esc (.fld i f)) s fun c s1 => W (tlend reb all (j + 1) os) s1 fun cs s' => QO (c :: cs) s' := by
  rw [tlend, w_tb]
  · repeat (first | rfl | rw [w_tb] | rw [w_ite] | rw [w_tp] | refine W.ext fun _ _ => ?_)
  · exact fun _ h => nomatch h
theorem w_lend_at {QO : List OV → Slots → Prop} {reb : Nat → Bool} {all os : List Opd} {j i : Nat} : W (tlend reb all j (.at i :: os)) s QO = WO (slot s i) fun o => if (reb j || !once i all) = true then W (tlend reb all (j + 1) os) (s.set i (some (.frz o.fz))) fun cs s' => QO (.frz o.fz :: cs) s' else W (tlend reb all (j + 1) os) (s.set i none) fun cs s' => QO (o :: cs) s' := by
  rw [tlend]
  rw [w_tb]
  by_cases z : (reb j || !once i all) = true
  · rw [if_pos z, w_esc_at]
    unfold WO
    cases slot s i with
    | none => rfl
    | some o =>
      dsimp only
      rw [w_tb]
      simp only [if_pos z]
      rfl
  · rw [if_neg z]
    unfold WO
    cases e : slot s i with
    | none => unfold W; dsimp only; rw [e]
    | some o =>
      simp only [if_neg z]
      unfold W
      dsimp only
      rw [e]
      dsimp only
      have z2 := w_tb (m := tlend reb all (j + 1) os) (k := fun cs => tp (o :: cs)) (s := s.set i none) (Q := QO)
      simp only [w_tp] at z2
      exact z2
end
end Tv
namespace Tv
open PySem L2
open PySem (Str Expr Stmt Scope)
section
variable {s : Slots}
theorem vals_nil : vals [] = some [] := rfl
theorem vals_cons {o : OV} {os : List Opd} : vals (.val o :: os) = (vals os).map (o :: ·) := rfl
theorem tput_nil {s : Slots} {cs : Slots} : tput [] cs s = s := by
  unfold tput
  cases cs <;> rfl
theorem tput_at {i : Nat} {os : List Opd} {c : OV} {cs : Slots} : tput (.at i :: os) (some c :: cs) s = tput os cs (if ((slot s i).isNone && decide (i < s.length)) = true then s.set i (some c) else s) := rfl
theorem tput_val {o : OV} {os : List Opd} {c : Option OV} {cs : Slots} : tput (.val o :: os) (c :: cs) s = tput os cs s := by cases c <;> rfl
theorem tput_fld {i f : Nat} {os : List Opd} {c : Option OV} {cs : Slots} : tput (.fld i f :: os) (c :: cs) s = tput os cs s := by cases c <;> rfl
theorem outR_zero {w : Nat → Bool} : outR 0 w s = [] := rfl
theorem outR_nil {n : Nat} {w : Nat → Bool} : outR (n + 1) w [] = none :: outR n (fun j => w (j + 1)) [] := rfl
theorem outR_succ {n : Nat} {w : Nat → Bool} {t : Option OV} : outR (n + 1) w (t :: s) = (if w 0 = true then none else t) :: outR n (fun j => w (j + 1)) s := rfl
theorem own1_eq {l : List Nat} {i : Nat} : own1 l i = l.contains i := rfl
theorem isAt_at {i j : Nat} : isAt i (.at j) = (i == j) := by
  unfold isAt
  first | rfl | (simp [BEq.comm])
theorem isAt_val {i : Nat} {o : OV} : isAt i (.val o) = false := rfl
theorem isAt_fld {i j f : Nat} : isAt i (.fld j f) = false := rfl
theorem fv_nx : Fl.val .nx = .frz .non := rfl
theorem fv_rt {o : OV} : Fl.val (.rt o) = o := rfl
theorem blO_bl {b : Bool} : blO (.frz (.bl b)) = some b := rfl
theorem wr_fnrun {I : FnI} {w : Nat → Bool} {m : TM Fl} {cs : List OV} {kws : List (Str × FV)} {vs rest : List FV} {ex : List (Str × FV)} {Q : OV → Slots → Prop} (e : bnd I.g I.dfs I.kds (OV.fzs cs) kws = some (vs, rest, ex)) (h : rest.length ≤ szl ∧ ex.length ≤ szl ∧ (ex.all (fun p => sok p.1) && nodupB (ex.map (·.1))) = true) :
    WR (fnrun I w m cs kws) Q = W m (I.rows cs (vs.drop (min cs.length I.g.ps.length)) rest ex) fun fl s => Q fl.val (outR (min cs.length I.g.ps.length) w s) := by
  unfold fnrun
  rw [e]
  dsimp only
  rw [if_pos h]
  unfold WR W
  cases m (I.rows cs (vs.drop (min cs.length I.g.ps.length)) rest ex) <;> rfl
theorem wr_den {T : Tb} {ρ : Rho} {i : Nat} {fd : FD} {b : TM Fl} {cs : List OV} {kws : List (Str × FV)} {vs rest : List FV} {ex : List (Str × FV)} {Q : OV → Slots → Prop} {np : Nat} {w : Nat → Bool} {rows : Slots} (hf : T.fns[i]? = some fd) (hb : bodyM T ρ fd = b) (e : bnd fd.g fd.dfs fd.kds (OV.fzs cs) kws = some (vs, rest, ex))
    (h : rest.length ≤ szl ∧ ex.length ≤ szl ∧ (ex.all (fun p => sok p.1) && nodupB (ex.map (·.1))) = true) (hn : min cs.length fd.g.ps.length = np) (hw : fd.C.w = w) (hr : (fd.I 0).rows cs (vs.drop np) rest ex = rows) : WR (denR T ρ i cs kws) Q = W b rows fun fl s => Q fl.val (outR np w s) := by
  have e1 : denR T ρ i cs kws = fnrun (fd.I 0) fd.C.w (bodyM T ρ fd) cs kws := by
    unfold denR
    rw [hf]
  have key := wr_fnrun (I := fd.I 0) (w := fd.C.w) (m := bodyM T ρ fd) (Q := Q) e h
  rw [e1, key, hb, ← hr, ← hn, ← hw]
  rfl
end
section
variable {i j : Int} {a b : Str}
theorem lt2_i : lt2 (.frz (.int i)) (.frz (.int j)) = some (fbl (decide (i < j))) := rfl
theorem le2_i : le2 (.frz (.int i)) (.frz (.int j)) = some (fbl (decide (i ≤ j))) := rfl
theorem gt2_i : gt2 (.frz (.int i)) (.frz (.int j)) = some (fbl (decide (j < i))) := rfl
theorem ge2_i : ge2 (.frz (.int i)) (.frz (.int j)) = some (fbl (decide (j ≤ i))) := rfl
theorem lt2_s : lt2 (.frz (.str a)) (.frz (.str b)) = some (fbl (slt a b)) := rfl
theorem add2_i : add2 (.frz (.int i)) (.frz (.int j)) = some (fint (i + j)) := rfl
theorem add2_s : add2 (.frz (.str a)) (.frz (.str b)) = if a.length + b.length ≤ szl then some (fstr (a ++ b)) else none := rfl
theorem sub2_i : sub2 (.frz (.int i)) (.frz (.int j)) = some (fint (i - j)) := rfl
theorem mul2_i : mul2 (.frz (.int i)) (.frz (.int j)) = if cMul i j = true then some (fint (i * j)) else none := rfl
theorem mod2_i : mod2 (.frz (.int i)) (.frz (.int j)) = if 0 < j then some (fint (i % j)) else none := by
  show (if decide (0 < j) = true then _ else _) = _
  by_cases z : 0 < j
  · rw [if_pos z, if_pos (decide_eq_true z)]; rfl
  · rw [if_neg z, if_neg (by simpa using z)]
theorem fdv2_i : fdv2 (.frz (.int i)) (.frz (.int j)) = if 0 < j ∧ j < 1073741824 then some (fint (i / j)) else none := by
  show (if (decide (0 < j) && decide (j < 1073741824)) = true then _ else _) = _
  by_cases z : 0 < j ∧ j < 1073741824
  · rw [if_pos z, if_pos (by simpa using z)]; rfl
  · rw [if_neg z, if_neg (by simpa using z)]
theorem pow2_i : pow2 (.frz (.int i)) (.frz (.int j)) = if 0 ≤ j ∧ j ≤ 1000000 ∧ i.natAbs < 18446744073709551616 then some (fint (i ^ j.toNat)) else none := by
  show (if (decide (0 ≤ j) && (decide (j ≤ 1000000) && decide (i.natAbs < 2 ^ 64))) = true then _ else _) = _
  by_cases z : 0 ≤ j ∧ j ≤ 1000000 ∧ i.natAbs < 18446744073709551616
  · rw [if_pos z, if_pos (by simpa using z)]; rfl
  · rw [if_neg z, if_neg (by simpa using z)]
end
theorem ite_F {c p : Prop} [Decidable c] : (if c then p else False) = (c ∧ p) := by
  by_cases z : c
  · rw [if_pos z]; exact propext ⟨fun h => ⟨z, h⟩, fun h => h.2⟩
  · rw [if_neg z]; exact propext ⟨False.elim, fun h => z h.1⟩
end Tv
end

noncomputable section
set_option maxHeartbeats 400000
/-! .. the other words. -/
namespace Tv
open PySem L2
open PySem (Str Expr Stmt Scope)
section
variable {s : Slots} {Q : Opd → Slots → Prop} {QB : Bool → Slots → Prop} {QF : Fl → Slots → Prop} {QL : List Opd → Slots → Prop} {QV : OV → Slots → Prop} {QU : Unit → Slots → Prop} {QX : List FV → Slots → Prop}
/-! a lambda that looks first -/
theorem ob_non : (OV.frz (.non)).ob = none := rfl
theorem ob_bl {b : Bool} : (OV.frz (.bl b)).ob = none := rfl
theorem ob_int {i : Int} : (OV.frz (.int i)).ob = none := rfl
theorem ob_str {x : Str} : (OV.frz (.str x)).ob = none := rfl
theorem ob_flst {l : List FV} : (OV.frz (.lst l)).ob = none := rfl
theorem ob_ftup {l : List FV} : (OV.frz (.tup l)).ob = none := rfl
theorem ob_fdic {k v : List FV} : (OV.frz (.dic k v)).ob = none := rfl
theorem ob_cls {c : Nat} : (OV.frz (.cls c)).ob = none := rfl
theorem ob_scr {n : List Int} : (OV.frz (.scr n)).ob = none := rfl
theorem ob_fobj {c : Nat} {n : List Nat} {v : List FV} : (OV.frz (.obj c n v)).ob = some (c, n) := rfl
theorem ob_obj {c : Nat} {n : List Nat} {v : List OV} : (OV.obj c n v).ob = some (c, n) := rfl
theorem ob_lst {v : List OV} : (OV.lst v).ob = none := rfl
theorem ob_tup {v : List OV} : (OV.tup v).ob = none := rfl
theorem ob_dic {k : List FV} {v : List OV} : (OV.dic k v).ob = none := rfl
theorem castL {n : Nat} : ((no_index (OfNat.ofNat n) : Nat) : Int) = (OfNat.ofNat n : Int) := rfl
theorem w_noexc {α : Type} {m : TM α} {Q : α → Slots → Prop} : W (noexc m) s Q = W m s Q := by
  unfold W noexc
  cases m s <;> rfl
def sub3K (Q : Fl → Slots → Prop) (r : Opd) (ov : OV) (kf : FV) (s : Slots) : OV → Prop
  | .lst os => match kf with
    | .int i => WO (ixN os.length i) fun j => Q .nx (setO r (.lst (os.set j ov)) s)
    | _ => False
  | .dic ks vs => WO (fkey kf) fun q => WO (frzs vs) fun fs => (ks.length < cap ∧ (fkeys ks).isSome = true) ∧ Q .nx (setO r (.dic (dsetK q kf ks) ((dsetV q ov.fz ks fs).map OV.frz)) s)
  | _ => False
theorem sub3K_lst {r : Opd} {ov : OV} {i : Int} {os : List OV} : sub3K QF r ov (.int i) s (.lst os) = WO (ixN os.length i) fun j => QF .nx (setO r (.lst (os.set j ov)) s) := rfl
theorem sub3K_dic {r : Opd} {ov : OV} {kf : FV} {ks : List FV} {vs : List OV} : sub3K QF r ov kf s (.dic ks vs) = WO (fkey kf) fun q => WO (frzs vs) fun fs => (ks.length < cap ∧ (fkeys ks).isSome = true) ∧ QF .nx (setO r (.dic (dsetK q kf ks) ((dsetV q ov.fz ks fs).map OV.frz)) s) := rfl
theorem w_tsub3 {ov : OV} {r : Opd} {kf : FV} (h : isVal r = false) : W (tsub3 [.val ov, r, .val (.frz kf)]) s QF = WO (r.get s) (sub3K QF r ov kf s) := by
  unfold W tsub3
  dsimp only [get_val]
  rw [h]
  rw [if_neg (by simp)]
  unfold WO
  cases r.get s with
  | none => rfl
  | some o =>
    cases o with
    | lst os =>
      cases kf with
      | int i =>
        dsimp only [sub3K, WO]
        cases ixN os.length i <;> rfl
      | _ => rfl
    | dic ks vs =>
      dsimp only [sub3K, WO]
      cases fkey kf with
      | none => rfl
      | some q =>
        dsimp only
        cases frzs vs with
        | none => rfl
        | some fs =>
          dsimp only
          by_cases z : ks.length < cap ∧ (fkeys ks).isSome = true
          · rw [if_pos z]; simp [z]
          · rw [if_neg z]; simp [z]
    | _ => rfl
theorem w_tsub3a {ov : OV} {i : Nat} {kf : FV} : W (tsub3 [.val ov, .at i, .val (.frz kf)]) s QF = WO (slot s i) (sub3K QF (.at i) ov kf s) := w_tsub3 rfl
theorem w_tsub3f {ov : OV} {i f : Nat} {kf : FV} : W (tsub3 [.val ov, .fld i f, .val (.frz kf)]) s QF = WO ((Opd.fld i f).get s) (sub3K QF (.fld i f) ov kf s) := w_tsub3 rfl
theorem w_tor2 {c : Slots → List Opd → Bool} {f g : List Opd → TM Opd} {os : List Opd} : W (tor2 c f g os) s Q = if c s os = true then W (f os) s Q else W (g os) s Q := by
  unfold W tor2
  by_cases z : c s os = true
  · rw [if_pos z, if_pos z]
  · rw [if_neg z, if_neg z]
def obO : Option OV → Bool
  | some x => x.ob.isSome
  | none => false
theorem isOb_cons {a : Opd} {os : List Opd} : isOb s (a :: os) = obO (a.get s) := rfl
def chkO (chk : FV → Option FV) : Opd → Option FV
  | .val (.frz v) => chk v
  | _ => none
theorem w_tdunR {chk : FV → Option FV} {reb : Nat → Bool} {run : List OV → List (Str × FV) → Out OV} {os : List Opd} : W (tdunR chk reb run os) s Q = W (tcall reb run [] os) s fun o s' => WO (chkO chk o) fun u => Q (.val (.frz u)) s' := by
  unfold tdunR
  rw [w_noexc, w_tb]
  congr
  funext o s'
  unfold W
  dsimp only
  cases o with
  | val o =>
    cases o with
    | frz v =>
      dsimp only [chkO]
      cases chk v <;> rfl
    | _ => rfl
  | _ => rfl
theorem w_tdun {tab : MTab} {chk : FV → Option FV} {a : Opd} : W (tdun tab chk [a]) s Q = WO (a.get s) fun x => WO x.ob fun p => WO (tab p.1) fun rr => W (tdunR chk rr.1 rr.2 [a]) s Q := by
  conv => lhs; unfold W tdun
  dsimp only
  cases a.get s with
  | none => rfl
  | some x =>
    dsimp only [WO]
    cases x.ob with
    | none => rfl
    | some p =>
      dsimp only
      cases tab p.1 <;> rfl
theorem w_tdun2 {tab : MTab} {okt : Nat → OV → Bool} {chk : FV → Option FV} {a b : Opd} : W (tdun2 tab okt chk [a, b]) s Q = WO (a.get s) fun x => WO (b.get s) fun y => WO x.ob fun p => WO (tab p.1) fun rr => okt p.1 y = true ∧ W (tdunR chk rr.1 rr.2 [a, b]) s Q := by
  conv => lhs; unfold W tdun2
  dsimp only
  cases a.get s with
  | none => rfl
  | some x =>
    cases b.get s with
    | none => rfl
    | some y =>
      dsimp only [WO]
      cases x.ob with
      | none => rfl
      | some p =>
        dsimp only
        cases tab p.1 with
        | none => rfl
        | some rr =>
          dsimp only
          by_cases z : okt p.1 y = true
          · rw [if_pos z]; simp [z, W]
          · rw [if_neg z]; simp [z]
theorem w_tattr {okc : Nat → Bool} {f : Nat} {m : TM Opd} : W (tattr okc f m) s Q = W m s fun r s' => WO (attrO okc f r.nrm (r.nrm.get s')) fun o => Q o s' := by
  unfold tattr
  rw [w_tb]
  congr
  funext r s'
  unfold W
  dsimp only
  cases attrO okc f r.nrm (r.nrm.get s') <;> rfl
def attrV (f : Nat) (r : Opd) : OV → Option Opd
  | .frz v => some (.val (.frz v))
  | _ => ownF f r
theorem attrV_frz {f : Nat} {r : Opd} {v : FV} : attrV f r (.frz v) = some (.val (.frz v)) := rfl
theorem attrV_lst {f : Nat} {r : Opd} {v : List OV} : attrV f r (.lst v) = ownF f r := rfl
theorem attrV_tup {f : Nat} {r : Opd} {v : List OV} : attrV f r (.tup v) = ownF f r := rfl
theorem attrV_dic {f : Nat} {r : Opd} {k : List FV} {v : List OV} : attrV f r (.dic k v) = ownF f r := rfl
theorem attrV_obj {f c : Nat} {r : Opd} {k : List Nat} {v : List OV} : attrV f r (.obj c k v) = ownF f r := rfl
theorem attrO_frz {okc : Nat → Bool} {f c : Nat} {r : Opd} {ns : List Nat} {vs : List FV} : attrO okc f r (some (.frz (.obj c ns vs))) = if okc c = true then (look f ns vs).map fun v => .val (.frz v) else none := rfl
theorem attrO_obj {okc : Nat → Bool} {f c : Nat} {r : Opd} {ns : List Nat} {vs : List OV} : attrO okc f r (some (.obj c ns vs)) = if okc c = true then (look f ns vs).bind (attrV f r) else none := by
  show (if okc c = true then _ else none) = _
  by_cases z : okc c = true
  · rw [if_pos z, if_pos z]
    cases look f ns vs with
    | none => rfl
    | some o => cases o <;> rfl
  · rw [if_neg z, if_neg z]
theorem nrm_val {o : OV} : (Opd.val o).nrm = .val (.frz o.fz) := rfl
theorem nrm_at {i : Nat} : (Opd.at i).nrm = .at i := rfl
theorem nrm_fld {i f : Nat} : (Opd.fld i f).nrm = .fld i f := rfl
def setfK (okc : Nat → Bool) (f i : Nat) (v : OV) (Q : Fl → Slots → Prop) (s : Slots) : OV → Prop
  | .obj c ns vs => (okc c && decide (ns.length < 1000)) = true ∧ Q .nx (s.set i (some (.obj c (putN f ns) (putV f v ns vs))))
  | _ => False
theorem setfK_obj {okc : Nat → Bool} {f i c : Nat} {v : OV} {ns : List Nat} {vs : List OV} : setfK okc f i v QF s (.obj c ns vs) = ((okc c && decide (ns.length < 1000)) = true ∧ QF .nx (s.set i (some (.obj c (putN f ns) (putV f v ns vs))))) := rfl
theorem w_tsetf {okc : Nat → Bool} {f i : Nat} {m : TM Opd} : W (tsetf okc f i m) s QF = W m s fun o s1 => W (esc o) s1 fun v s2 => WO (slot s2 i) (setfK okc f i v QF s2) := by
  unfold tsetf
  rw [w_tb, w_tval]
  congr
  funext o s1
  congr
  funext v s2
  unfold W
  dsimp only
  cases slot s2 i with
  | none => rfl
  | some o =>
    cases o with
    | obj c ns vs =>
      dsimp only [WO, setfK]
      by_cases z : (okc c && decide (ns.length < 1000)) = true
      · rw [if_pos z]; simp [z]
      · rw [if_neg z]; simp [z]
    | _ => rfl
theorem w_tmeth {meth : Nat → Option ((Nat → Bool) × (List OV → List (Str × FV) → Out OV))} {mid : Nat} {names : List Str} {ca : Bool} {mo : TM Opd} {ma : TM (List Opd)} : W (tmeth meth mid names ca mo ma) s Q =
    W (tkeep ca mo) s fun r s1 => WO (r.get s1) fun x => WO x.ob fun p => WO (meth p.1) fun rr => p.2.contains mid = false ∧ W ma s1 fun os s2 => W (tcall rr.1 rr.2 names (r :: os)) s2 Q := by
  unfold tmeth
  rw [w_tb]
  congr
  funext r s1
  conv => lhs; unfold W
  dsimp only
  cases r.get s1 with
  | none => rfl
  | some x =>
    dsimp only [WO]
    cases x.ob with
    | none => rfl
    | some p =>
      dsimp only
      cases meth p.1 with
      | none => rfl
      | some rr =>
        dsimp only
        by_cases z : p.2.contains mid = true
        · rw [if_pos z]; exact propext ⟨fun h => False.elim h, fun h => by rw [z] at h; cases h.1⟩
        · rw [if_neg z]
          have z' : p.2.contains mid = false := by cases q : p.2.contains mid <;> simp_all
          have e := w_tb (m := ma) (k := fun os => tcall rr.1 rr.2 names (r :: os)) (s := s1) (Q := Q)
          unfold W at e ⊢
          rw [e]
          exact propext ⟨fun h => ⟨z', h⟩, fun h => h.2⟩
def makeQ (Q : Opd → Slots → Prop) (os : List Opd) (s : Slots) (r : OV) (cs : Slots) : Prop := match r, cs with
  | .frz .non, some o :: cs => Q (.val o) (tput os cs s)
  | _, _ => False
theorem makeQ_ok {os : List Opd} {o : OV} {cs : Slots} : makeQ Q os s (.frz .non) (some o :: cs) = Q (.val o) (tput os cs s) := rfl
theorem w_tmake {c : Nat} {reb : Nat → Bool} {run : List OV → List (Str × FV) → Out OV} {names : List Str} {os : List Opd} : W (tmake c reb run names os) s Q =
    W (tlend (fun j => reb (j + 1) || decide (os.length - names.length ≤ j)) os 0 os) s fun all s' => WR (run (.obj c [] [] :: all.take (os.length - names.length)) (names.zip ((all.drop (os.length - names.length)).map OV.fz))) (makeQ Q os s') := by
  unfold tmake
  rw [w_tb]
  congr
  funext all s'
  unfold W WR
  dsimp only
  cases run (.obj c [] [] :: all.take (os.length - names.length)) (names.zip ((all.drop (os.length - names.length)).map OV.fz)) with
  | ok r cs =>
    cases r with
    | frz v =>
      cases v with
      | non =>
        cases cs with
        | nil => rfl
        | cons o cs => cases o <;> rfl
      | _ => rfl
    | _ => rfl
  | exc x cs =>
    cases cs with
    | nil => rfl
    | cons o cs => rfl
  | bad => rfl
theorem w_tfor {m : TM (List FV)} {g : OV → TM Unit} {b : TM Fl} : W (tfor m g b) s QF = W m s fun xs s' => W (tfr g b xs) s' QF := by
  unfold tfor
  rw [w_tb]
theorem w_tfr_nil {g : OV → TM Unit} {b : TM Fl} : W (tfr g b []) s QF = QF .nx s := rfl
theorem w_tfr_cons {g : OV → TM Unit} {b : TM Fl} {x : FV} {xs : List FV} : W (tfr g b (x :: xs)) s QF = W (g (.frz x)) s fun _ s1 => W b s1 (seqK (tfr g b xs) QF) := by
  rw [tfr]
  rw [w_tb]
  repeat (first | rfl | rw [w_tseq] | refine W.ext fun _ _ => ?_)
/-- a loop with an invariant -/
theorem w_tfr {g : OV → TM Unit} {b : TM Fl} (I : List FV → Slots → Prop) {xs : List FV} (h0 : I xs s) (h1 : ∀ x r s, I (x :: r) s → W (g (.frz x)) s fun _ s1 => W b s1 fun f s2 => match f with
    | .nx => I r s2
    | .rt o => QF (.rt o) s2) (h2 : ∀ s, I [] s → QF .nx s) : W (tfr g b xs) s QF := by
  induction xs generalizing s with
  | nil => exact h2 _ h0
  | cons x xs ih =>
    rw [w_tfr_cons]
    refine W.mono (h1 _ _ _ h0) fun _ s1 h => W.mono h fun f s2 h => ?_
    cases f with
    | nx => exact ih h
    | rt o => exact h
theorem w_twipe_nil : W (twipe []) s QU = QU () s := rfl
theorem w_twipe_cons {i : Nat} {is : List Nat} : W (twipe (i :: is)) s QU = (isFrz (slot s i) = true ∧ W (twipe is) (s.set i none) QU) := by
  unfold W
  conv => lhs; unfold twipe
  by_cases z : isFrz (slot s i) = true
  · rw [if_pos z]; simp [z]
  · rw [if_neg z]; simp [z]
def fillK (s0 : Slots) (i : Nat) (is : List Nat) (Q : Unit → Slots → Prop) (s : Slots) : Option OV → Prop
  | some (.frz v) => isFrz (slot s i) = true ∧ W (tfill s0 is) (s.set i (some (.frz v))) Q
  | _ => W (tfill s0 is) s Q
theorem fillK_none {s0 : Slots} {i : Nat} {is : List Nat} : fillK s0 i is QU s none = W (tfill s0 is) s QU := rfl
theorem fillK_frz {s0 : Slots} {i : Nat} {is : List Nat} {v : FV} : fillK s0 i is QU s (some (.frz v)) = (isFrz (slot s i) = true ∧ W (tfill s0 is) (s.set i (some (.frz v))) QU) := rfl
theorem w_tfill_nil {s0 : Slots} : W (tfill s0 []) s QU = QU () s := rfl
def hold {α : Type} (o : Option α) : Option (Option α) := some o
theorem hold_none {α : Type} : hold (none : Option α) = some none := rfl
theorem hold_some {α : Type} {x : α} : hold (some x) = some (some x) := rfl
theorem w_tfill_cons {s0 : Slots} {i : Nat} {is : List Nat} : W (tfill s0 (i :: is)) s QU = WO (hold (slot s0 i)) (fillK s0 i is QU s) := by
  show _ = fillK s0 i is QU s (slot s0 i)
  conv => lhs; unfold W tfill
  cases slot s0 i with
  | none => rfl
  | some o =>
    cases o with
    | frz v =>
      dsimp only [fillK]
      by_cases z : isFrz (slot s i) = true
      · rw [if_pos z]; simp [z, W]
      · rw [if_neg z]; simp [z]
    | _ => rfl
theorem w_tback {s0 : Slots} {is : List Nat} : W (tback s0 is) s QU = W (twipe is) s fun _ s' => W (tfill s0 is) s' QU := by
  unfold tback
  rw [w_tb]
theorem w_tlc {m : TM (List FV)} {g : OV → TM Unit} {t : TM Bool} {e : TM Opd} {own : List Nat} : W (tlc m g t e own) s Q = W m s fun xs s0 => W (twipe own) s0 fun _ s1 => W (tlcr g t e own xs []) s1 fun os s2 => W (tback s0 own) s2 fun _ s3 => Q (.val (.lst os)) s3 := by
  unfold tlc
  rw [w_tb]
  congr
  funext xs s0
  show W (tb (twipe own) fun _ => tb (noexc (tlcr g t e own xs [])) fun os => tb (tback s0 own) fun _ => tp (Opd.val (.lst os))) s0 Q = _
  repeat (first | rfl | rw [w_tb] | rw [w_noexc] | rw [w_tp] | refine W.ext fun _ _ => ?_)
theorem w_tlcr_nil {g : OV → TM Unit} {t : TM Bool} {e : TM Opd} {own : List Nat} {acc : List OV} {Q : List OV → Slots → Prop} : W (tlcr g t e own [] acc) s Q = Q acc s := rfl
theorem w_tlcr_cons {g : OV → TM Unit} {t : TM Bool} {e : TM Opd} {own : List Nat} {x : FV} {xs : List FV} {acc : List OV} {Q : List OV → Slots → Prop} : W (tlcr g t e own (x :: xs) acc) s Q =
    W (g (.frz x)) s fun _ s1 => W t s1 fun b s2 => if b = true then W e s2 fun o s3 => W (esc o) s3 fun v s4 => acc.length < szl ∧ W (twipe own) s4 fun _ s5 => W (tlcr g t e own xs (acc ++ [v])) s5 Q else W (twipe own) s2 fun _ s5 => W (tlcr g t e own xs acc) s5 Q := by
  rw [tlcr]
  repeat (first | rfl | rw [w_tb] | rw [w_ite] | rw [w_tval] | rw [w_bad] | rw [ite_F] | refine W.ext fun _ _ => ?_ | (refine ite_congr rfl (fun _ => ?_) fun _ => rfl))
/-- a list comprehension with an invariant -/
theorem w_tlcr {g : OV → TM Unit} {t : TM Bool} {e : TM Opd} {own : List Nat} {Q : List OV → Slots → Prop} (I : List FV → List OV → Slots → Prop) {xs : List FV} {acc : List OV} (h0 : I xs acc s)
    (h1 : ∀ x r acc s, I (x :: r) acc s → W (g (.frz x)) s fun _ s1 => W t s1 fun b s2 => if b = true then W e s2 fun o s3 => W (esc o) s3 fun v s4 => acc.length < szl ∧ W (twipe own) s4 fun _ s5 => I r (acc ++ [v]) s5 else W (twipe own) s2 fun _ s5 => I r acc s5)
    (h2 : ∀ acc s, I [] acc s → Q acc s) : W (tlcr g t e own xs acc) s Q := by
  induction xs generalizing s acc with
  | nil => exact h2 _ _ h0
  | cons x xs ih =>
    rw [w_tlcr_cons]
    refine W.mono (h1 _ _ _ _ h0) fun _ s1 h => W.mono h fun b s2 h => ?_
    by_cases z : b = true
    · rw [if_pos z] at h ⊢
      exact W.mono h fun o s3 h => W.mono h fun v s4 h => ⟨h.1, W.mono h.2 fun _ s5 h => ih h⟩
    · rw [if_neg z] at h ⊢
      exact W.mono h fun _ s5 h => ih h
theorem w_twalkD {m : TM Opd} : W (twalkD m) s QX = W m s fun o s1 => W (esc o) s1 fun v s2 => WO v.fz.walkD fun xs => QX xs s2 := by
  unfold twalkD
  rw [w_tb, w_tesc]
  congr
  funext o s1
  congr
  funext v s2
  unfold W
  dsimp only
  cases v.fz.walkD <;> rfl
def rngO : List OV → Option (List FV)
  | [.frz (.int j)] => if small j = true then some (rng 0 j.toNat) else none
  | _ => none
theorem rngO_int {j : Int} : rngO [.frz (.int j)] = if small j = true then some (rng 0 j.toNat) else none := rfl
theorem w_trange1 {m : TM (List Opd)} : W (trange1 m) s QX = W m s fun os s' => WO (gets s' os) fun xs => WO (rngO xs) fun ys => QX ys s' := by
  unfold trange1
  rw [w_tb]
  congr
  funext os s'
  unfold W
  dsimp only
  cases gets s' os with
  | none => rfl
  | some xs =>
    dsimp only [WO]
    cases xs with
    | nil => rfl
    | cons x r =>
      cases x with
      | frz v =>
        cases v with
        | int j =>
          cases r with
          | nil =>
            dsimp only [rngO]
            by_cases z : small j = true
            · rw [if_pos z, if_pos z]
            · rw [if_neg z, if_neg z]
          | cons _ _ => rfl
        | _ => rfl
      | _ => rfl
theorem w_tbm {ty : OV → Bool} {f : List Opd → TM Opd} {ca : Bool} {mo : TM Opd} {ma : TM (List Opd)} : W (tbm ty f ca mo ma) s Q = W (tkeep ca mo) s fun r s1 => WO (r.get s1) fun x => ty x = true ∧ W ma s1 fun os s2 => W (f (r :: os)) s2 Q := by
  unfold tbm
  rw [w_tb]
  congr
  funext r s1
  conv => lhs; unfold W
  dsimp only
  cases r.get s1 with
  | none => rfl
  | some x =>
    dsimp only [WO]
    by_cases z : ty x = true
    · rw [if_pos z]
      have e := w_tb (m := ma) (k := fun os => f (r :: os)) (s := s1) (Q := Q)
      unfold W at e ⊢
      rw [e]
      simp [z]
    · rw [if_neg z]; simp [z]
theorem w_tappend {r y : Opd} (h : isVal r = false) : W (tappend [r, y]) s Q = W (esc y) s fun o s1 => WO (lstO r s1) fun os => os.length < szl ∧ Q (.val (.frz .non)) (setO r (.lst (os ++ [o])) s1) := by
  unfold tappend
  dsimp only
  rw [h, if_neg (by simp), w_tb]
  congr
  funext o s1
  unfold W
  dsimp only
  cases lstO r s1 with
  | none => rfl
  | some os =>
    dsimp only [WO]
    by_cases z : os.length < szl
    · rw [if_pos z]; simp [z]
    · rw [if_neg z]; simp [z]
theorem w_tappend_at {i : Nat} {y : Opd} : W (tappend [.at i, y]) s Q = W (esc y) s fun o s1 => WO (lstO (.at i) s1) fun os => os.length < szl ∧ Q (.val (.frz .non)) (setO (.at i) (.lst (os ++ [o])) s1) := w_tappend rfl
theorem w_tappend_fld {i f : Nat} {y : Opd} : W (tappend [.fld i f, y]) s Q = W (esc y) s fun o s1 => WO (lstO (.fld i f) s1) fun os => os.length < szl ∧ Q (.val (.frz .non)) (setO (.fld i f) (.lst (os ++ [o])) s1) := w_tappend rfl
theorem w_textend {r y : Opd} (h : isVal r = false) : W (textend [r, y]) s Q = W (esc y) s fun o s1 => WO (lstO r s1) fun os => WO o.elsO fun os2 => os.length + os2.length ≤ szl ∧ Q (.val (.frz .non)) (setO r (.lst (os ++ os2)) s1) := by
  unfold textend
  dsimp only
  rw [h, if_neg (by simp), w_tb]
  congr
  funext o s1
  unfold W
  dsimp only
  cases lstO r s1 with
  | none => rfl
  | some os =>
    dsimp only [WO]
    cases o.elsO with
    | none => rfl
    | some os2 =>
      dsimp only
      by_cases z : os.length + os2.length ≤ szl
      · rw [if_pos z]; simp [z]
      · rw [if_neg z]; simp [z]
theorem w_textend_at {i : Nat} {y : Opd} : W (textend [.at i, y]) s Q = W (esc y) s fun o s1 => WO (lstO (.at i) s1) fun os => WO o.elsO fun os2 => os.length + os2.length ≤ szl ∧ Q (.val (.frz .non)) (setO (.at i) (.lst (os ++ os2)) s1) := w_textend rfl
def oLst : OV → Option (List OV)
  | .lst os => some os
  | _ => none
theorem lstO_at {i : Nat} : lstO (.at i) s = (slot s i).bind oLst := by
  unfold lstO
  rw [get_at]
  cases slot s i with
  | none => rfl
  | some o => cases o <;> rfl
theorem lstO_fld {i f : Nat} : lstO (.fld i f) s = ((slot s i).bind (fldO f)).bind oLst := by
  unfold lstO
  rw [get_fld]
  cases (slot s i).bind (fldO f) with
  | none => rfl
  | some o => cases o <;> rfl
def strO : OV → Option Str
  | .frz (.str y) => some y
  | _ => none
theorem w_tjs_nil {acc : Str} : W (tjs [] acc) s Q = Q (.val (.frz (.str acc))) s := rfl
theorem w_tjs_cons {m : TM Opd} {ms : List (TM Opd)} {acc : Str} : W (tjs (m :: ms) acc) s Q = W m s fun o s1 => WO (o.get s1) fun x => WO (strO x) fun y => acc.length + y.length ≤ szl ∧ W (tjs ms (acc ++ y)) s1 Q := by
  rw [tjs]
  rw [w_tb]
  congr
  funext o s1
  conv => lhs; unfold W
  dsimp only
  cases o.get s1 with
  | none => rfl
  | some x =>
    cases x with
    | frz v =>
      cases v with
      | str y =>
        dsimp only [WO, strO]
        by_cases z : acc.length + y.length ≤ szl
        · rw [if_pos z]; simp [z, W]
        · rw [if_neg z]; simp [z]
      | _ => rfl
    | _ => rfl
theorem w_tac {β : Type} {m : TM (List FV)} {g : OV → TM Unit} {t : TM Bool} {el : β → TM β} {own : List Nat} {b0 : β} {Q : β → Slots → Prop} : W (tac m g t el own b0) s Q = W m s fun xs s0 => W (twipe own) s0 fun _ s1 => W (tacr g t el own xs b0) s1 fun acc s2 => W (tback s0 own) s2 fun _ s3 => Q acc s3 := by
  unfold tac
  rw [w_tb]
  congr
  funext xs s0
  show W (tb (twipe own) fun _ => tb (noexc (tacr g t el own xs b0)) fun acc => tb (tback s0 own) fun _ => tp acc) s0 Q = _
  repeat (first | rfl | rw [w_tb] | rw [w_noexc] | rw [w_tp] | refine W.ext fun _ _ => ?_)
theorem w_tacr_nil {β : Type} {g : OV → TM Unit} {t : TM Bool} {el : β → TM β} {own : List Nat} {acc : β} {Q : β → Slots → Prop} : W (tacr g t el own [] acc) s Q = Q acc s := rfl
theorem w_tacr_cons {β : Type} {g : OV → TM Unit} {t : TM Bool} {el : β → TM β} {own : List Nat} {x : FV} {xs : List FV} {acc : β} {Q : β → Slots → Prop} : W (tacr g t el own (x :: xs) acc) s Q =
    W (g (.frz x)) s fun _ s1 => W t s1 fun b s2 => if b = true then W (el acc) s2 fun acc' s4 => W (twipe own) s4 fun _ s5 => W (tacr g t el own xs acc') s5 Q else W (twipe own) s2 fun _ s5 => W (tacr g t el own xs acc) s5 Q := by
  rw [tacr]
  repeat (first | rfl | rw [w_tb] | rw [w_ite] | refine W.ext fun _ _ => ?_ | (refine ite_congr rfl (fun _ => ?_) fun _ => rfl))
theorem w_tacr {β : Type} {g : OV → TM Unit} {t : TM Bool} {el : β → TM β} {own : List Nat} {Q : β → Slots → Prop} (I : List FV → β → Slots → Prop) {xs : List FV} {acc : β} (h0 : I xs acc s)
    (h1 : ∀ x r acc s, I (x :: r) acc s → W (g (.frz x)) s fun _ s1 => W t s1 fun b s2 => if b = true then W (el acc) s2 fun acc' s4 => W (twipe own) s4 fun _ s5 => I r acc' s5 else W (twipe own) s2 fun _ s5 => I r acc s5)
    (h2 : ∀ acc s, I [] acc s → Q acc s) : W (tacr g t el own xs acc) s Q := by
  induction xs generalizing s acc with
  | nil => exact h2 _ _ h0
  | cons x xs ih =>
    rw [w_tacr_cons]
    refine W.mono (h1 _ _ _ _ h0) fun _ s1 h => W.mono h fun b s2 h => ?_
    by_cases z : b = true
    · rw [if_pos z] at h ⊢
      exact W.mono h fun o s3 h => W.mono h fun v s4 h => ih h
    · rw [if_neg z] at h ⊢
      exact W.mono h fun _ s5 h => ih h
theorem w_elS {e : TM Opd} {acc : List Str} {Q : List Str → Slots → Prop} : W (elS e acc) s Q = W e s fun o s1 => W (esc o) s1 fun v s2 => WO (strO v) fun c => acc.length < cap ∧ Q (acc ++ [c]) s2 := by
  unfold elS
  rw [w_tb, w_tval]
  congr
  funext o s1
  congr
  funext v s2
  cases v with
  | frz v =>
    cases v with
    | str c =>
      dsimp only [WO, strO]
      rw [w_ite, w_tp, w_bad, ite_F]
    | _ => rfl
  | _ => rfl
theorem w_srt {raw : List Str} : W (srt raw) s Q = ((dd raw).length < 64 ∧ Q (.val (strsL (sortL (dd raw)))) s) := by
  unfold srt
  rw [w_ite, w_tp, w_bad, ite_F]
theorem w_tset {m : TM Opd} {k : List Str → TM Opd} : W (tset m k) s Q = W m s fun o s1 => WO (o.get s1) fun x => WO (rawOf x) fun xs => W (k xs) s1 Q := by
  unfold tset
  rw [w_tb]
  congr
  funext o s1
  conv => lhs; unfold W
  dsimp only
  cases o.get s1 with
  | none => rfl
  | some x =>
    dsimp only [WO]
    cases rawOf x <;> rfl
def chainK (f g : OV → OV → Option OV) (c : TM Opd) (Q : Opd → Slots → Prop) (x : OV) (s : Slots) : OV → Prop
  | .frz y => WO (f x (.frz y)) fun r => WO (blO r) fun k => if k = true then W c s fun oc s' => WO (oc.get s') fun z => WO (g (.frz y) z) fun r => Q (.val r) s' else Q (.val (.frz (.bl false))) s
  | _ => False
theorem chainK_frz {f g : OV → OV → Option OV} {c : TM Opd} {x : OV} {y : FV} : chainK f g c Q x s (.frz y) = WO (f x (.frz y)) fun r => WO (blO r) fun k => if k = true then W c s fun oc s' => WO (oc.get s') fun z => WO (g (.frz y) z) fun r => Q (.val r) s' else Q (.val (.frz (.bl false))) s := rfl
theorem w_tchain {f g : OV → OV → Option OV} {c2 : Bool} {a b c : TM Opd} : W (tchain f g c2 a b c) s Q = W (nofld c2 a) s fun oa s1 => W b s1 fun ob s2 => WO (oa.get s2) fun x => WO (ob.get s2) (chainK f g c Q x s2) := by
  unfold tchain
  rw [w_tb]
  congr
  funext oa s1
  rw [w_tb]
  congr
  funext ob s2
  conv => lhs; unfold W
  dsimp only
  cases oa.get s2 with
  | none => rfl
  | some x =>
    cases ob.get s2 with
    | none => rfl
    | some y =>
      cases y with
      | frz y =>
        dsimp only [WO, chainK]
        cases f x (.frz y) with
        | none => rfl
        | some r =>
          cases r with
          | frz r =>
            cases r with
            | bl k =>
              dsimp only [blO]
              by_cases z : k = true
              · rw [if_pos z, if_pos z]
                have e := w_tb (m := c) (k := fun oc s => match oc.get s with
                  | some z => match g (.frz y) z with
                    | some r => Out.ok (Opd.val r) s
                    | none => .bad
                  | none => .bad) (s := s2) (Q := Q)
                have e2 : ∀ (oc : Opd) (s' : Slots), W (fun s => match oc.get s with
                  | some z => match g (.frz y) z with
                    | some r => Out.ok (Opd.val r) s
                    | none => .bad
                  | none => .bad) s' Q = WO (oc.get s') fun z => WO (g (.frz y) z) fun r => Q (.val r) s' := fun oc s' => by
                  unfold W
                  dsimp only
                  cases oc.get s' with
                  | none => rfl
                  | some z =>
                    dsimp only [WO]
                    cases g (.frz y) z <;> rfl
                exact e.trans (W.ext fun a s' => e2 a s')
              · rw [if_neg z, if_neg z]
            | _ => rfl
          | _ => rfl
      | _ => rfl
theorem w_gall_nil : W (gall [] []) s QU = QU () s := rfl
theorem w_gall_cons {g : OV → TM Unit} {gs : List (OV → TM Unit)} {o : OV} {os : List OV} : W (gall (g :: gs) (o :: os)) s QU = W (g o) s fun _ s1 => W (gall gs os) s1 QU := by
  rw [gall]
  rw [w_tb]
def WG (gs : List (OV → TM Unit)) (os : List OV) (s : Slots) (Q : Unit → Slots → Prop) (_ : UnF Q := ()) : Prop := W (gall gs os) s Q
theorem w_gall {gs : List (OV → TM Unit)} {os : List OV} : W (gall gs os) s QU = WG gs os s QU := rfl
theorem wg_nil : WG [] [] s QU = QU () s := rfl
theorem wg_cons {g : OV → TM Unit} {gs : List (OV → TM Unit)} {o : OV} {os : List OV} : WG (g :: gs) (o :: os) s QU = W (g o) s fun _ s1 => WG gs os s1 QU := w_gall_cons
theorem w_gtup {gs : List OV → TM Unit} {n : Nat} {o : OV} : W (gtup gs n o) s QU = WO o.parts fun os => os.length = n ∧ W (gs os) s QU := by
  unfold gtup
  cases o.parts with
  | none => rfl
  | some os =>
    dsimp only [WO]
    rw [w_ite, w_bad, ite_F]
theorem w_gswap {w : Nat → Bool} {is : List Nat} {o : OV} : W (gswap w is o) s QU = WO o.tparts fun os => os.length = is.length ∧ W (gall (is.map (gname w)) os.reverse) s QU := by
  unfold gswap
  cases o.tparts with
  | none => rfl
  | some os =>
    dsimp only [WO]
    rw [w_ite, w_bad, ite_F]
def andK (b : TM Opd) (Q : Opd → Slots → Prop) (s : Slots) : OV → Prop
  | .frz (.bl x) => if x = true then W b s Q else Q (.val (.frz (.bl false))) s
  | _ => False
theorem andK_bl {b : TM Opd} {x : Bool} : andK b Q s (.frz (.bl x)) = if x = true then W b s Q else Q (.val (.frz (.bl false))) s := rfl
theorem w_tandv {a b : TM Opd} : W (tandv a b) s Q = W a s fun o s1 => WO (o.get s1) (andK b Q s1) := by
  unfold tandv
  rw [w_tb]
  congr
  funext o s1
  conv => lhs; unfold W
  dsimp only
  cases o.get s1 with
  | none => rfl
  | some x =>
    cases x with
    | frz v =>
      cases v with
      | bl k => cases k <;> rfl
      | _ => rfl
    | _ => rfl
theorem w_tnotv {a : TM Opd} : W (tnotv a) s Q = W a s fun o s' => WO (o.get s') fun x => WO (blO x) fun b => Q (.val (.frz (.bl (!b)))) s' := by
  unfold tnotv
  rw [w_t1]
  congr
  funext o s'
  congr
  funext x
  cases x with
  | frz v => cases v <;> rfl
  | _ => rfl
def orK (b : TM Opd) (Q : Opd → Slots → Prop) (s : Slots) : OV → Prop
  | .frz (.bl x) => if x = true then Q (.val (.frz (.bl true))) s else W b s Q
  | _ => False
theorem orK_bl {b : TM Opd} {x : Bool} : orK b Q s (.frz (.bl x)) = if x = true then Q (.val (.frz (.bl true))) s else W b s Q := rfl
theorem w_torv {a b : TM Opd} : W (torv a b) s Q = W a s fun o s1 => WO (o.get s1) (orK b Q s1) := by
  unfold torv
  rw [w_tb]
  congr
  funext o s1
  conv => lhs; unfold W
  dsimp only
  cases o.get s1 with
  | none => rfl
  | some x =>
    cases x with
    | frz v =>
      cases v with
      | bl k => cases k <;> rfl
      | _ => rfl
    | _ => rfl
end
end Tv
end

open PySem L2 Tv
local macro_rules
  | `(tactic| simp_arith [$xs,*]) => `(tactic| simp -dsimp only [↓w_tb, ↓w_tp, ↓w_bad, ↓w_ite, ↓w_tslot, ↓w_tlit, ↓w_tkeepT, ↓w_tkeepF, isFld_val, isFld_at, isFld_fld, ↓w_nofldT, ↓w_nofldF, ↓w_tcons, ↓w_tesc, ↓w_tval, ↓w_esc, ↓we_val, ↓we_at, ↓w_pureN, ↓w_t1, ↓w_tseq, ↓w_tasg, ↓w_gname, ↓w_tdrop, ↓w_tretn, ↓w_tret, ↓w_tifs, ↓w_tite, ↓w_ttru, ↓w_tbool, ↓w_tnot, ↓w_tand, ↓w_tor, ↓w_tlist, ↓w_ttuple, ↓w_tcall, ↓w_lend_nil, ↓w_lend_val, ↓w_lend_fld, ↓w_lend_at,
  ↓wo_some, ↓wo_none, ↓wo_map, ↓wo_bind, ↓wo_ite, ↓slotK_frz, ↓slotK_lst, ↓slotK_tup, ↓slotK_dic, ↓slotK_obj, ↓we_fld, ↓escfK_obj, fldO, look, putV, putN, ↓w_noexc, sub3K_lst, sub3K_dic, ↓w_tsub3a, ↓w_tsub3f, ↓w_tor2, obO, isOb_cons, chkO, chS, chB, ↓w_tdunR, ↓w_tdun, ↓w_tdun2, ↓w_tattr, nrm_val, nrm_at, nrm_fld, attrO_frz, attrO_obj, attrV_frz, attrV_lst, attrV_tup, attrV_dic, attrV_obj, ownF, ↓w_tsetf, ↓setfK_obj, ↓w_tmeth, ↓w_tmake, ↓makeQ_ok, ↓w_tfor, ↓w_tfr_nil, ↓w_twipe_nil, ↓w_twipe_cons, ↓fillK_none, ↓fillK_frz, ↓w_tfill_nil, ↓w_tfill_cons, hold_none, hold_some, ↓w_tback, ↓w_tlc, ↓w_tlcr_nil, ↓w_twalkD, rngO_int, ↓w_trange1, ↓w_tbm, ↓w_tappend_at, ↓w_tappend_fld, ↓w_textend_at, lstO_at, lstO_fld, oLst, strO, ↓w_tjs_nil, ↓w_tjs_cons, ↓w_tac, ↓w_tacr_nil, ↓w_elS, ↓w_srt, ↓w_tset, ↓chainK_frz, ↓w_tchain, ↓w_gall, ↓wg_nil, ↓wg_cons, ↓w_gtup, ↓w_gswap, ↓andK_bl, ↓w_tandv, ↓orK_bl, ↓w_torv, isFrz, ob_non, ob_bl, ob_int, ob_str, ob_flst, ob_ftup, ob_fdic, ob_cls, ob_scr, ob_fobj, ob_obj, ob_lst, ob_tup, ob_dic, OV.parts, OV.tparts, OV.fz, OV.fzs, FV.walkD, FV.walk, isLst, isStr, OV.elsO, ↓w_tnotv, mkTup, Option.isSome_none, Option.isSome_some, List.reverse_cons, List.reverse_nil, List.nil_append, List.cons_append, slot_zero, slot_succ, get_val, get_at, get_fld, gets_nil, gets_cons, seqK_nx, seqK_rt, retK_val, retK_at, retK_fld, vals_nil, vals_cons, tput_nil, tput_at, tput_val, tput_fld, outR_zero, outR_nil, outR_succ, own1_eq, isAt_at, isAt_val, isAt_fld, fv_nx, fv_rt, blO_bl,
  Option.bind_some, Option.map_some, Option.isNone_some, Option.isNone_none, List.set_cons_zero, List.set_cons_succ, List.length_cons, List.length_nil, List.contains_cons, List.contains_nil, Nat.reduceAdd, Nat.reduceEqDiff, Int.reduceEq, Int.reduceMul, Int.reduceSub, Int.reduceMod, Int.reduceNeg, Nat.reduceMul, Nat.reduceLT, castL, Int.reduceAdd, Nat.reduceBEq, Nat.reduceSub, Nat.reduceLeDiff, Nat.zero_add, Bool.or_true, Bool.true_or, Bool.or_false, Bool.false_or, Bool.not_true, Bool.not_false, Bool.and_true, Bool.true_and, Bool.false_and, Bool.and_false, decide_true, decide_false, decide_eq_true_eq, beq_self_eq_true, if_true, if_false, ite_true, ite_false, true_and, and_true, reduceIte, reduceCtorEq, Bool.false_eq_true, of1, of2, i1, i2, lt2_i, le2_i, gt2_i, ge2_i, lt2_s, add2_i, add2_s, sub2_i, mul2_i, mod2_i, fdv2_i, pow2_i, fint, fbl, fstr, intN, lenN, len1, List.take_succ_cons, List.take_zero, List.drop_zero, List.drop_succ_cons, List.map_nil, List.map_cons, List.zip_nil_right, List.zip_cons_cons, List.replicate_succ, List.replicate_zero, List.flatten_cons, List.flatten_nil, List.zip_nil_left, List.filter_cons, List.filter_nil, once, Nat.sub_zero, ix2, OV.dk, fkey, ixI, OV.els, OV.tels, Option.bind_eq_bind, Option.pure_def, ite_F, Int.reduceLT, Int.reduceLE, Int.reducePow, Int.reduceToNat, tru, List.getElem?_cons_zero, List.getElem?_cons_succ, frzs, atI, ixN, setO, isVal, $xs,*])


noncomputable section
set_option maxHeartbeats 2000000
namespace Lw
open PySem L2 Tv
/-- the source of draws -/
abbrev srcO (f b k : Int) : OV := .lst [.frz (.int f), .frz (.int b), .frz (.int k)]
structure SrcP (K f b k : Int) : Prop where
  f0 : 0 ≤ f
  b0 : 0 ≤ b
  b1 : b < 2305843009213693951
  k0 : 0 ≤ k
  k1 : k ≤ K
theorem cMul_small {i j : Int} (h : -18446744073709551616 < i ∧ i < 18446744073709551616) : cMul i j = true := by
  unfold cMul
  simp [h.1, h.2]
theorem szl_ge {n : Nat} (h : n ≤ 1000000 := by omega) : n ≤ szl := Nat.le_trans h (by unfold szl; omega)
theorem e_source {ρ : Rho} {a b : OV} {Q : OV → Slots → Prop} : WR (denR T ρ 15 [a, b] []) Q = W (b__law_source ρ) [some a, some b, none, none, none] fun fl s => Q fl.val (outR 2 (own1 [2, 3, 4]) s) :=
  wr_den (fd := f__law_source) (vs := [a.fz, b.fz]) (rest := []) (ex := []) (by kernel_rfl) (b__law_source_eq ρ) (by kernel_rfl) (by decide) (by kernel_rfl) (by kernel_rfl) (by kernel_rfl)
theorem e_draw {ρ : Rho} {a b : OV} {Q : OV → Slots → Prop} : WR (denR T ρ 16 [a, b] []) Q = W (b__law_draw ρ) [some a, some b, none, none] fun fl s => Q fl.val (outR 2 (own1 [2, 3]) s) :=
  wr_den (fd := f__law_draw) (vs := [a.fz, b.fz]) (rest := []) (ex := []) (by kernel_rfl) (b__law_draw_eq ρ) (by kernel_rfl) (by decide) (by kernel_rfl) (by kernel_rfl) (by kernel_rfl)
def SourceS (run : List OV → List (PySem.Str × FV) → Out OV) : Prop := ∀ (ns : List Int) (k : Int), 0 ≤ k → k < 64 → WR (run [.frz (.scr ns), .frz (.int k)] []) fun r cs => ∃ f b, r = srcO f b 0 ∧ SrcP 0 f b 0 ∧ cs = [some (.frz (.scr ns)), some (.frz (.int k))]
def DrawS (run : List OV → List (PySem.Str × FV) → Out OV) : Prop := ∀ (K f b k m : Int), SrcP K f b k → K < 1000000 → 0 < m → m < 1073741824 → WR (run [srcO f b k, .frz (.int m)] []) fun r cs => ∃ d f' k', r = .frz (.int d) ∧ 0 ≤ d ∧ d < m ∧ SrcP (K + 1) f' b k' ∧ cs = [some (srcO f' b k'), some (.frz (.int m))]
theorem source_ok {ρ : Rho} : SourceS (denR T ρ 15) := by
  intro ns k h0 h1
  rw [e_source]
  unfold b__law_source
  have c1 : cMul 7919 k = true := cMul_small (by omega)
  have c2 : cMul (7919 * k) k = true := cMul_small (by omega)
  have c3 : cMul 31 k = true := cMul_small (by omega)
  have fin : ∀ v : Int, 0 ≤ iabs v ∧ 0 ≤ (v % 2305843009213693951 + 7919 * k * k + 31 * k + 11) % 2305843009213693951 ∧ (v % 2305843009213693951 + 7919 * k * k + 31 * k + 11) % 2305843009213693951 < 2305843009213693951 := fun v =>
    ⟨by unfold iabs; split <;> omega, Int.emod_nonneg _ (by decide), Int.emod_lt_of_pos _ (by decide)⟩
  by_cases hk : k < ns.length
  · have hl : k.toNat < ns.length := by omega
    have hv : ns[k.toNat]? = some ns[k.toNat] := List.getElem?_eq_getElem hl
    generalize ns[k.toNat] = v at hv
    simp_arith [h0, hk, hv, c1, c2, c3]
    refine ⟨by decide, ?_⟩
    obtain ⟨q1, q2, q3⟩ := fin v
    split
    · exact ⟨szl_ge, _, _, rfl, ⟨q1, q2, q3, by omega, by omega⟩⟩
    · exact ⟨szl_ge, _, _, rfl, ⟨by omega, q2, q3, by omega, by omega⟩⟩
  · simp_arith [h0, hk, c1, c2, c3]
    refine ⟨by decide, ?_⟩
    obtain ⟨q1, q2, q3⟩ := fin 0
    split
    · exact ⟨szl_ge, _, _, rfl, ⟨q1, q2, q3, by omega, by omega⟩⟩
    · exact ⟨szl_ge, _, _, rfl, ⟨by omega, q2, q3, by omega, by omega⟩⟩
theorem draw_ok {ρ : Rho} : DrawS (denR T ρ 16) := by
  intro K f b k m S hK h0 h1
  obtain ⟨f0, b0, b1, k0, k1⟩ := S
  rw [e_draw]
  unfold b__law_draw
  have c1 : cMul 1000033 (k + 1) = true := cMul_small (by omega)
  have c2 : cMul 15485917 (k + 1) = true := cMul_small (by omega)
  simp_arith [c1, c2]
  by_cases hf : 0 < f
  · rw [if_pos hf]
    refine ⟨h0, ⟨h0, h1⟩, _, _, _, rfl, Int.emod_nonneg _ (by omega), Int.emod_lt_of_pos _ h0, ⟨Int.ediv_nonneg (by omega) (by omega), b0, b1, k0, by omega⟩, rfl⟩
  · rw [if_neg hf]
    have q : 0 ≤ (b + 1000033 * (k + 1)) ^ 3 % 2305843009213693921 := Int.emod_nonneg _ (by decide)
    have q2 : (b + 1000033 * (k + 1)) ^ 3 % 2305843009213693921 < 2305843009213693921 := Int.emod_lt_of_pos _ (by decide)
    generalize (b + 1000033 * (k + 1)) ^ 3 % 2305843009213693921 = z at q q2 ⊢
    refine ⟨by omega, by omega, h0, _, _, _, rfl, Int.emod_nonneg _ (by omega), Int.emod_lt_of_pos _ h0, ⟨f0, b0, b1, by omega, by omega⟩, rfl⟩
end Lw
end

noncomputable section
set_option maxHeartbeats 2000000
namespace Lw
open PySem L2 Tv
open PySem (Str)
open TL
theorem reb16_0 : T.reb 16 0 = false := by kernel_rfl
theorem reb16_1 : T.reb 16 1 = true := by kernel_rfl
theorem reb17_0 : T.reb 17 0 = false := by kernel_rfl
def alphL : List Nat := (List.range 26).map (· + 97)
def alphS : Str := ⟨alphL.toArray⟩
theorem alph_eq : Str.ofString "abcdefghijklmnopqrstuvwxyz" = alphS := by kernel_rfl
theorem alph_at {d : Nat} (h : d < 26) : alphS.cps.toList[d]? = some (d + 97) := by
  unfold alphS alphL
  simp [h]
theorem alph_len : alphS.length = 26 := by kernel_rfl
theorem alph_len2 : alphS.cps.toList.length = 26 := by kernel_rfl
theorem small_ok {i : Int} (h : -4611686018427387904 ≤ i ∧ i < 4611686018427387904) : small i = true := by
  unfold small
  simp [h.1, h.2]
structure WordP (w : Str) : Prop where
  n1 : 1 ≤ w.cps.toList.length
  n8 : w.cps.toList.length ≤ 8
  az : ∀ c ∈ w.cps.toList, 97 ≤ c ∧ c ≤ 122
theorem e_word {ρ : Rho} {a : OV} {Q : OV → Slots → Prop} : WR (denR T ρ 17 [a] []) Q = W (b__law_word ρ) [some a, none, none] fun fl s => Q fl.val (outR 1 (own1 [1]) s) :=
  wr_den (fd := f__law_word) (vs := [a.fz]) (rest := []) (ex := []) (by kernel_rfl) (b__law_word_eq ρ) (by kernel_rfl) (by decide) (by kernel_rfl) (by kernel_rfl) (by kernel_rfl)
def WordS (run : List OV → List (Str × FV) → Out OV) : Prop := ∀ (K f b k : Int), SrcP K f b k → K < 900000 → WR (run [srcO f b k] []) fun r cs => ∃ w f' k', r = .frz (.str w) ∧ WordP w ∧ SrcP (K + 9) f' b k' ∧ cs = [some (srcO f' b k')]
theorem frzs_frz' (xs : List FV) : frzs (xs.map OV.frz) = some xs := by
  induction xs with
  | nil => rfl
  | cons x xs ih =>
    show (frzs (xs.map OV.frz)).map (x :: ·) = _
    rw [ih]
    rfl
theorem fstrs_str (ys : List Str) : fstrs (ys.map FV.str) = some ys := by
  induction ys with
  | nil => rfl
  | cons y ys ih =>
    show (fstrs (ys.map FV.str)).map (y :: ·) = _
    rw [ih]
    rfl
theorem joinL_nil : ∀ ys : List (List Nat), joinL [] ys = ys.flatten
  | [] => rfl
  | [p] => by simp [joinL]
  | p :: q :: r => by
    show p ++ ([] ++ joinL [] (q :: r)) = _
    rw [joinL_nil (q :: r)]
    simp
theorem glued_nil (ys : List Str) : (Txt.join (Str.ofString "") ys).cps.toList = (ys.map fun y => y.cps.toList).flatten := by
  have h0 : (Str.ofString "").cps.toList = [] := by kernel_rfl
  have e : Txt.join (Str.ofString "") ys = Str.join (Str.ofString "") ys := StrLaws.glued_eq_join _ _
  rw [e]
  have h := tl_join (Str.ofString "") ys
  have h2 : tl (Str.ofString "") = [] := h0
  rw [h2, joinL_nil] at h
  exact h
theorem join_letters {l : List Nat} (hl : l.length ≤ 1000) (hc : ∀ c ∈ l, 97 ≤ c ∧ c ≤ 122) : joinN [.frz (.str (Str.ofString "")), .lst (l.map fun c => OV.frz (.str ⟨#[c]⟩))] = some (.frz (.str ⟨l.toArray⟩)) := by
  have e1 : seqF (.lst (l.map fun c => OV.frz (.str ⟨#[c]⟩))) = some (l.map fun c => FV.str ⟨#[c]⟩) := by
    have := frzs_frz' (l.map fun c => FV.str ⟨#[c]⟩)
    rw [List.map_map] at this
    show (match frzs (l.map (OV.frz ∘ fun c => FV.str ⟨#[c]⟩)) with
      | some xs => some xs
      | none => OV.tels _) = _
    rw [this]
  have e2 : fstrs (l.map fun c => FV.str ⟨#[c]⟩) = some (l.map fun c => (⟨#[c]⟩ : Str)) := by
    have := fstrs_str (l.map fun c => (⟨#[c]⟩ : Str))
    rw [List.map_map] at this
    exact this
  have e3 : Txt.join (Str.ofString "") (l.map fun c => (⟨#[c]⟩ : Str)) = ⟨l.toArray⟩ := by
    have h := glued_nil (l.map fun c => (⟨#[c]⟩ : Str))
    have h2 : ((l.map fun c => (⟨#[c]⟩ : Str)).map fun y => y.cps.toList).flatten = l := by
      clear h hl hc e1 e2
      induction l with
      | nil => rfl
      | cons c l ih => simpa using ih
    rw [h2] at h
    generalize Txt.join (Str.ofString "") (l.map fun c => (⟨#[c]⟩ : Str)) = t at h ⊢
    obtain ⟨a⟩ := t
    have h : a.toList = l := h
    rw [← h]
  have e4 : ((l.map fun c => (⟨#[c]⟩ : Str)).map (·.length)).sum = l.length := by
    clear hl hc e1 e2 e3
    induction l with
    | nil => rfl
    | cons c l ih =>
      simp only [List.map_cons, List.sum_cons, List.length_cons] at ih ⊢
      have : (⟨#[c]⟩ : Str).length = 1 := rfl
      omega
  have e5 : sok ⟨l.toArray⟩ = true := by
    unfold sok
    simp only [Array.all_eq_true]
    intro i hi
    have := hc (l.toArray[i]) (by simp)
    simp at this ⊢
    omega
  show (((seqF _).bind fstrs).bind fun ys => if (ys.map (·.length)).sum + ys.length * (Str.ofString "").length ≤ 16777216 then if sok (Txt.join (Str.ofString "") ys) = true then some (OV.frz (.str (Txt.join (Str.ofString "") ys))) else none else none) = _
  rw [e1, Option.bind_some, e2, Option.bind_some, e4, e3, e5]
  have h6 : (Str.ofString "").length = 0 := by kernel_rfl
  rw [h6, if_pos (by omega), if_pos rfl]
theorem word_ok {ρ : Rho} (hd : DrawS (ρ.c 16)) : WordS (denR T ρ 17) := by
  intro K f b k S hK
  rw [e_word]
  unfold b__law_word
  rw [alph_eq]
  simp_arith [reb16_0, reb16_1]
  refine WR.mono (hd K f b k 8 S (by omega) (by omega) (by omega)) ?_
  rintro r cs ⟨d, f1, k1, rfl, d0, d1, S1, rfl⟩
  have hs : small (1 + d) = true := small_ok (by omega)
  simp_arith [hs]
  refine w_tlcr (I := fun xs acc s => ∃ f2 k2, ∃ l : List Nat, SrcP (K + 1 + acc.length) f2 b k2 ∧ xs.length + acc.length = (1 + d).toNat ∧ acc = l.map (fun c => OV.frz (.str ⟨#[c]⟩)) ∧ (∀ c ∈ l, 97 ≤ c ∧ c ≤ 122) ∧ s = [some (srcO f2 b k2), some (.frz (.str alphS)), none]) ?_ ?_ ?_
  · exact ⟨f1, k1, [], by simpa using S1, by simp [rng], rfl, by simp, rfl⟩
  · rintro x r acc s ⟨f2, k2, l, S2, hl, rfl, hc, rfl⟩
    simp_arith [reb16_0, reb16_1]
    refine WR.mono (hd _ f2 b k2 26 S2 (by simp at hl ⊢; omega) (by omega) (by omega)) ?_
    rintro r cs ⟨e, f3, k3, rfl, e0, e1, S3, rfl⟩
    have he : alphS.cps.toList[e.toNat]? = some (e.toNat + 97) := alph_at (by omega)
    simp_arith [alph_len, alph_len2, he, e0, e1]
    refine ⟨szl_ge, ?_, f3, k3, l ++ [e.toNat + 97], ?_, ?_, ?_, ?_, rfl⟩
    · exact Nat.lt_of_lt_of_le (by simp at hl ⊢; omega : _ < 1000) szl_ge
    · simpa [Int.add_assoc] using S3
    · simp at hl ⊢; omega
    · simp
    · intro c m
      rcases List.mem_append.mp m with m | m
      · exact hc c m
      · simp at m; omega
  · rintro acc s ⟨f2, k2, l, S2, hl, rfl, hc, rfl⟩
    have hj := join_letters (l := l) (by simp at hl; omega) hc
    simp_arith [hj]
    refine ⟨_, f2, k2, rfl, ⟨?_, ?_, ?_⟩, ⟨S2.f0, S2.b0, S2.b1, S2.k0, ?_⟩, rfl⟩
    · simp at hl ⊢; omega
    · simp at hl ⊢; omega
    · simpa using hc
    · have := S2.k1; simp at hl this ⊢; omega
end Lw
end

noncomputable section
set_option maxHeartbeats 2000000
namespace Lw
open PySem L2 Tv
open PySem (Str)
theorem eqx2_i {i j : Int} : eqx2 (.frz (.int i)) (.frz (.int j)) = some (fbl (i == j)) := by
  rfl
theorem fzs_strs (l : List Str) : OV.fzs (l.map fun c => OV.frz (.str c)) = l.map .str := by
  rw [fzs_map, List.map_map]
  rfl
abbrev toldO (ws : List Str) (a b c : Int) (fl : Bool) : OV := .lst [.frz (.lst (ws.map .str)), .frz (.int a), .frz (.int b), .frz (.int c), .frz (.bl fl)]
structure ToldP (n : Nat) (ws : List Str) (a b c : Int) : Prop where
  w : ∀ w ∈ ws, WordP w
  n : ws.length ≤ n
  a0 : 0 ≤ a
  a1 : a < 3
  b0 : 0 ≤ b
  b1 : b ≤ 1000000
  c : c = 0 ∨ c = 4
theorem e_drawn {ρ : Rho} {a : OV} {Q : OV → Slots → Prop} : WR (denR T ρ 18 [a] []) Q = W (b__law_drawn ρ) [some a, none, none, none, none, none] fun fl s => Q fl.val (outR 1 (own1 [1, 2, 3, 4]) s) :=
  wr_den (fd := f__law_drawn) (vs := [a.fz]) (rest := []) (ex := []) (by kernel_rfl) (b__law_drawn_eq ρ) (by kernel_rfl) (by decide) (by kernel_rfl) (by kernel_rfl) (by kernel_rfl)
def DrawnS (run : List OV → List (Str × FV) → Out OV) : Prop := ∀ (K f b k : Int), SrcP K f b k → K < 800000 → WR (run [srcO f b k] []) fun r cs => ∃ ws a b' c fl f' k', r = toldO ws a b' c fl ∧ ToldP 3 ws a b' c ∧ SrcP (K + 40) f' b k' ∧ cs = [some (srcO f' b k')]
theorem drawn_ok {ρ : Rho} (hd : DrawS (ρ.c 16)) (hw : WordS (ρ.c 17)) : DrawnS (denR T ρ 18) := by
  intro K f b k S hK
  rw [e_drawn]
  unfold b__law_drawn
  simp_arith [reb16_0, reb16_1]
  refine WR.mono (hd K f b k 4 S (by omega) (by omega) (by omega)) ?_
  rintro r cs ⟨d, f1, k1, rfl, d0, d1, S1, rfl⟩
  have hs : small d = true := small_ok (by omega)
  simp_arith [hs]
  refine w_tlcr (I := fun xs acc s => ∃ f2 k2, ∃ l : List Str, SrcP (K + 1 + 9 * acc.length) f2 b k2 ∧ xs.length + acc.length = d.toNat ∧ acc = l.map (fun c => OV.frz (.str c)) ∧ (∀ c ∈ l, WordP c) ∧ s = [some (srcO f2 b k2), none, none, none, none, none]) ?_ ?_ ?_
  · exact ⟨f1, k1, [], by simpa using S1, by simp [rng], rfl, by simp, rfl⟩
  · rintro x r acc s ⟨f2, k2, l, S2, hl, rfl, hc, rfl⟩
    simp_arith [reb17_0]
    refine WR.mono (hw _ f2 b k2 S2 (by simp at hl ⊢; omega)) ?_
    rintro r cs ⟨w, f3, k3, rfl, W1, S3, rfl⟩
    simp_arith []
    refine ⟨?_, f3, k3, l ++ [w], ?_, ?_, ?_, ?_, rfl⟩
    · exact Nat.lt_of_lt_of_le (by simp at hl ⊢; omega : _ < 1000) szl_ge
    · have e : K + 1 + 9 * ((List.map (fun c => OV.frz (.str c)) l ++ [OV.frz (.str w)]).length : Int) = K + 1 + 9 * ((List.map (fun c => OV.frz (.str c)) l).length : Int) + 9 := by simp; omega
      rw [e]; exact S3
    · simp at hl ⊢; omega
    · simp
    · intro c m
      rcases List.mem_append.mp m with m | m
      · exact hc c m
      · simp at m; rw [m]; exact W1
  · rintro acc s ⟨f2, k2, l, S2, hl, rfl, hc, rfl⟩
    have hl : l.length = d.toNat := by simpa using hl
    have S2 : SrcP (K + 28) f2 b k2 := ⟨S2.f0, S2.b0, S2.b1, S2.k0, by have := S2.k1; simp at this; omega⟩
    simp_arith [reb16_0, reb16_1]
    refine WR.mono (hd _ f2 b k2 3 S2 (by omega) (by omega) (by omega)) ?_
    rintro r cs ⟨a, f3, k3, rfl, a0, a1, S3, rfl⟩
    simp_arith [reb16_0, reb16_1]
    refine WR.mono (hd _ f3 b k3 1000001 S3 (by omega) (by omega) (by omega)) ?_
    rintro r cs ⟨b', f4, k4, rfl, b0, b1, S4, rfl⟩
    simp_arith [reb16_0, reb16_1]
    refine WR.mono (hd _ f4 b k4 2 S4 (by omega) (by omega) (by omega)) ?_
    rintro r cs ⟨c, f5, k5, rfl, c0, c1, S5, rfl⟩
    have hm : cMul 4 c = true := cMul_small (by omega)
    simp_arith [reb16_0, reb16_1, hm]
    refine ⟨szl_ge, ?_⟩
    refine WR.mono (hd _ f5 b k5 2 S5 (by omega) (by omega) (by omega)) ?_
    rintro r cs ⟨e, f6, k6, rfl, e0, e1, S6, rfl⟩
    simp_arith [eqx2_i, fzs_strs]
    refine ⟨szl_ge, l, _, _, _, _, _, _, rfl, ⟨hc, by omega, a0, by omega, b0, by omega, ?_⟩, ⟨S6.f0, S6.b0, S6.b1, S6.k0, by have := S6.k1; omega⟩, rfl⟩
    omega
end Lw
end

noncomputable section
set_option maxHeartbeats 2000000
namespace Lw
open PySem L2 Tv
open PySem (Str)
abbrev toldF (ws : List Str) (a b c : Int) (fl : Bool) : FV := .lst [.lst (ws.map .str), .int a, .int b, .int c, .bl fl]
theorem e_other {ρ : Rho} {a b : OV} {Q : OV → Slots → Prop} : WR (denR T ρ 19 [a, b] []) Q = W (b__law_other ρ) [some a, some b, none, none, none, none, none, none] fun fl s => Q fl.val (outR 2 (own1 [2, 3, 4, 5, 6, 7]) s) :=
  wr_den (fd := f__law_other) (vs := [a.fz, b.fz]) (rest := []) (ex := []) (by kernel_rfl) (b__law_other_eq ρ) (by kernel_rfl) (by decide) (by kernel_rfl) (by kernel_rfl) (by kernel_rfl)
def OtherS (run : List OV → List (Str × FV) → Out OV) : Prop := ∀ (K f b k : Int) (ws : List Str) (x y z : Int) (fl : Bool), SrcP K f b k → K < 800000 → ToldP 3 ws x y z → WR (run [srcO f b k, .frz (toldF ws x y z fl)] []) fun r cs => ∃ ws' x' y' z' fl' f' k', (∃ os, r = .lst os ∧ OV.fzs os = [.lst (ws'.map .str), .int x', .int y', .int z', .bl fl']) ∧ (ToldP 6 ws' x' y' z' ∧ (ws'.length ≤ 5 ∨ ∀ v, v ∈ ws' ↔ v ∈ ws)) ∧ SrcP (K + 40) f' b k' ∧ cs = [some (srcO f' b k'), some (.frz (toldF ws x y z fl))]
theorem add2_fl {a : List FV} {y : OV} : add2 (.frz (.lst a)) y = cat2 (.frz (.lst a)) y := rfl
theorem add2_l {a : List OV} {y : OV} : add2 (.lst a) y = cat2 (.lst a) y := rfl
theorem cutF_1 (xs : List FV) : cutF (some 1) none xs = xs.drop 1 := by
  unfold cutF HT.sIx
  cases xs with
  | nil => rfl
  | cons x xs =>
    simp
theorem other_ok {ρ : Rho} (hd : DrawS (ρ.c 16)) (hw : WordS (ρ.c 17)) : OtherS (denR T ρ 19) := by
  intro K f b k ws x y z fl S hK P
  have hn := P.n
  have fin : ∀ {f1 k1}, SrcP (K + 10) f1 b k1 → SrcP (K + 40) f1 b k1 := fun S => ⟨S.f0, S.b0, S.b1, S.k0, by have := S.k1; omega⟩
  rw [e_other]
  unfold b__law_other
  simp_arith [reb16_0, reb16_1]
  refine WR.mono (hd K f b k 7 S (by omega) (by omega) (by omega)) ?_
  rintro r cs ⟨d, f1, k1, rfl, d0, d1, S1, rfl⟩
  have S2 : SrcP (K + 10) f1 b k1 := ⟨S1.f0, S1.b0, S1.b1, S1.k0, by have := S1.k1; omega⟩
  simp_arith [eqx2_i, reb17_0, beq_iff_eq, cat2, add2_fl, add2_l, revF, slF, OV.ofl, cutF_1, fzs_frz, frzs_frz', List.length_append, List.length_map, List.length_reverse, List.length_drop]
  by_cases h0 : d = 0
  · rw [if_pos h0]
    refine WR.mono (hw _ f1 b k1 S1 (by omega)) ?_
    rintro r cs ⟨w, f3, k3, rfl, W1, S3, rfl⟩
    simp_arith [eqx2_i, reb17_0, beq_iff_eq, cat2, add2_fl, add2_l, OV.ofl, fzs_frz, frzs_frz', List.length_append, List.length_map]
    refine ⟨szl_ge, szl_ge, szl_ge, ws ++ [w], x, y, z, fl, _, _, ⟨_, rfl, by simp only [OV.fzs, OV.fz, fzs_frz]; try simp⟩, ⟨⟨?_, by simp; omega, P.a0, P.a1, P.b0, P.b1, P.c⟩, .inl (by simp; omega)⟩, fin (by simpa [Int.add_assoc] using S3), rfl⟩
    intro v m
    rcases List.mem_append.mp m with m | m
    · exact P.w v m
    · simp at m; rw [m]; exact W1
  rw [if_neg h0]
  by_cases h1 : d = 1
  · rw [if_pos h1]
    refine ⟨szl_ge, ws.drop 1, x, y, z, fl, _, _, ⟨_, rfl, by simp only [OV.fzs, OV.fz, fzs_frz]; try simp⟩, ⟨⟨fun w m => P.w w (List.mem_of_mem_drop m), by simp; omega, P.a0, P.a1, P.b0, P.b1, P.c⟩, .inl (by simp; omega)⟩, fin S2, rfl⟩
  rw [if_neg h1]
  by_cases h2 : d = 2
  · rw [if_pos h2]
    refine ⟨szl_ge, ws, _, _, _, _, _, _, ⟨_, rfl, rfl⟩, ⟨⟨P.w, by omega, Int.emod_nonneg _ (by decide), Int.emod_lt_of_pos _ (by decide), P.b0, P.b1, P.c⟩, .inl (by omega)⟩, fin S2, rfl⟩
  rw [if_neg h2]
  by_cases h3 : d = 3
  · rw [if_pos h3]
    refine ⟨szl_ge, ws, _, _, _, _, _, _, ⟨_, rfl, rfl⟩, ⟨⟨P.w, by omega, P.a0, P.a1, P.b0, P.b1, by have := P.c; omega⟩, .inl (by omega)⟩, fin S2, rfl⟩
  rw [if_neg h3]
  by_cases h4 : d = 4
  · rw [if_pos h4]
    refine ⟨szl_ge, ws, _, _, _, _, _, _, ⟨_, rfl, rfl⟩, ⟨⟨P.w, by omega, P.a0, P.a1, P.b0, P.b1, P.c⟩, .inl (by omega)⟩, fin S2, rfl⟩
  rw [if_neg h4]
  refine ⟨szl_ge, szl_ge, ws.reverse ++ ws, x, y, z, fl, _, _, ⟨_, rfl, by simp only [OV.fzs, OV.fz, fzs_frz]; try simp⟩, ⟨⟨fun w m => ?_, by simp; omega, P.a0, P.a1, P.b0, P.b1, P.c⟩, .inr fun v => by simp⟩, fin S2, rfl⟩
  rcases List.mem_append.mp m with m | m
  · exact P.w w (List.mem_reverse.mp m)
  · exact P.w w m
end Lw
end

noncomputable section
set_option maxHeartbeats 2000000
namespace Lw
open PySem L2 Tv
open PySem (Str)
theorem isi_str {w : Str} : isiN (T.isi (Sum.inl "str")) [.frz (.str w)] = some (.frz (.bl true)) := by kernel_rfl
theorem isi_int_i {i : Int} : isiN (T.isi (Sum.inl "int")) [.frz (.int i)] = some (.frz (.bl true)) := by kernel_rfl
theorem isi_bool_i {i : Int} : isiN (T.isi (Sum.inl "bool")) [.frz (.int i)] = some (.frz (.bl false)) := by kernel_rfl
theorem isi_bool_b {b : Bool} : isiN (T.isi (Sum.inl "bool")) [.frz (.bl b)] = some (.frz (.bl true)) := by kernel_rfl
theorem e_isint {ρ : Rho} {a : OV} {Q : OV → Slots → Prop} : WR (denR T ρ 0 [a] []) Q = W (b_is_integer ρ) [some a] fun fl s => Q fl.val (outR 1 (own1 []) s) :=
  wr_den (fd := f_is_integer) (vs := [a.fz]) (rest := []) (ex := []) (by kernel_rfl) (b_is_integer_eq ρ) (by kernel_rfl) (by decide) (by kernel_rfl) (by kernel_rfl) (by kernel_rfl)
theorem e_isname {ρ : Rho} {a : OV} {Q : OV → Slots → Prop} : WR (denR T ρ 1 [a] []) Q = W (b_is_name ρ) [some a, none] fun fl s => Q fl.val (outR 1 (own1 []) s) :=
  wr_den (fd := f_is_name) (vs := [a.fz]) (rest := []) (ex := []) (by kernel_rfl) (b_is_name_eq ρ) (by kernel_rfl) (by decide) (by kernel_rfl) (by kernel_rfl) (by kernel_rfl)
theorem e_iskind {ρ : Rho} {a : OV} {Q : OV → Slots → Prop} : WR (denR T ρ 2 [a] []) Q = W (b_is_kind ρ) [some a] fun fl s => Q fl.val (outR 1 (own1 []) s) :=
  wr_den (fd := f_is_kind) (vs := [a.fz]) (rest := []) (ex := []) (by kernel_rfl) (b_is_kind_eq ρ) (by kernel_rfl) (by decide) (by kernel_rfl) (by kernel_rfl) (by kernel_rfl)
def IsIntS (run : List OV → List (Str × FV) → Out OV) : Prop := ∀ i : Int, WR (run [.frz (.int i)] []) fun r cs => r = .frz (.bl true) ∧ cs = [some (.frz (.int i))]
def IsNameS (run : List OV → List (Str × FV) → Out OV) : Prop := ∀ w : Str, WordP w → WR (run [.frz (.str w)] []) fun r cs => r = .frz (.bl true) ∧ cs = [some (.frz (.str w))]
theorem isint_ok {ρ : Rho} : IsIntS (denR T ρ 0) := by
  intro i
  rw [e_isint]
  unfold b_is_integer
  simp_arith [isi_int_i, isi_bool_i]
theorem sin_alph {c : Nat} (h : 97 ≤ c ∧ c ≤ 122) : in2 (.frz (.str ⟨#[c]⟩)) (.frz (.str alphS)) = some (.frz (.bl true)) := by
  have e : in2 (.frz (.str ⟨#[c]⟩)) (.frz (.str alphS)) = some (.frz (.bl (decide (c ∈ alphS.cps.toList)))) := rfl
  rw [e]
  have m : c ∈ alphS.cps.toList := by
    refine List.mem_of_getElem? (i := c - 97) ?_
    rw [alph_at (by omega)]
    congr
    omega
  rw [decide_eq_true m]
theorem all_true (n : Nat) : bs1 (fun bs => bs.all id) [.lst (List.replicate n (OV.frz (.bl true)))] = some (.frz (.bl true)) := by
  have e1 : frzs (List.replicate n (OV.frz (.bl true))) = some (List.replicate n (FV.bl true)) := by
    have := frzs_frz' (List.replicate n (FV.bl true))
    rw [List.map_replicate] at this
    exact this
  have e2 : fbls (List.replicate n (FV.bl true)) = some (List.replicate n true) := by
    clear e1
    induction n with
    | zero => rfl
    | succ n ih =>
      show (fbls (List.replicate n (FV.bl true))).map (true :: ·) = _
      rw [ih]
      rfl
  show ((frzs (List.replicate n (OV.frz (.bl true)))).bind fbls).map (fun bs => OV.frz (.bl (bs.all id))) = _
  rw [e1, Option.bind_some, e2, Option.map_some]
  congr
  induction n with
  | zero => rfl
  | succ n ih => simp [List.replicate_succ]
theorem isname_ok {ρ : Rho} : IsNameS (denR T ρ 1) := by
  intro w P
  rw [e_isname]
  unfold b_is_name
  rw [alph_eq]
  have hl : w.length = w.cps.toList.length := by show w.cps.size = _; simp
  have h1 : (1 : Int) ≤ (w.length : Int) := by have := P.n1; omega
  have h8 : (w.length : Int) ≤ 8 := by have := P.n8; omega
  have hz : w.length ≤ szl := szl_ge (by omega)
  simp_arith [isi_str, hz, h1, h8]
  refine w_tlcr (I := fun xs acc s => ∃ l : List Nat, ∃ n : Nat, xs = l.map (fun c => FV.str ⟨#[c]⟩) ∧ (∀ c ∈ l, 97 ≤ c ∧ c ≤ 122) ∧ xs.length + acc.length ≤ 8 ∧ acc = List.replicate n (OV.frz (.bl true)) ∧ s = [some (.frz (.str w)), none]) ?_ ?_ ?_
  · exact ⟨w.cps.toList, 0, rfl, P.az, by have := P.n8; simp at this ⊢; exact this, rfl, rfl⟩
  · rintro x r acc s ⟨l, n, hx, hc, hn, rfl, rfl⟩
    cases l with
    | nil => cases hx
    | cons c l =>
      cases hx
      simp_arith [sin_alph (hc c List.mem_cons_self)]
      refine ⟨Nat.lt_of_lt_of_le (by simp at hn ⊢; omega : _ < 1000) szl_ge, l, n + 1, rfl, fun c m => hc c (List.mem_cons_of_mem _ m), by simp at hn ⊢; omega, ?_⟩
      rw [List.replicate_succ']
  · rintro acc s ⟨l, n, hx, hc, hn, rfl, rfl⟩
    have hb : bs1 (fun bs => bs.all id) [.lst (List.replicate n (OV.frz (.bl true)))] = some (.frz (.bl true)) := all_true n
    simp_arith [hb]
theorem nin_kinds {w : Str} (h1 : w ≠ Str.ofString "self") (h2 : w ≠ Str.ofString "stops") : nin2 (.frz (.str w)) (.frz (.tup [.str (Str.ofString "self"), .str (Str.ofString "stops")])) = some (.frz (.bl true)) := by
  have e : nin2 (.frz (.str w)) (.frz (.tup [.str (Str.ofString "self"), .str (Str.ofString "stops")])) = some (.frz (.bl (!(Str.ofString "self" == w || (Str.ofString "stops" == w || false))))) := rfl
  rw [e]
  have g1 : (Str.ofString "self" == w) = false := beq_eq_false_iff_ne.mpr (Ne.symm h1)
  have g2 : (Str.ofString "stops" == w) = false := beq_eq_false_iff_ne.mpr (Ne.symm h2)
  rw [g1, g2]
  rfl
theorem reb1_0 : T.reb 1 0 = true := by kernel_rfl
def IsKindS (run : List OV → List (Str × FV) → Out OV) : Prop := ∀ w : Str, WordP w → w ≠ Str.ofString "self" → w ≠ Str.ofString "stops" → WR (run [.frz (.str w)] []) fun r cs => r = .frz (.bl true) ∧ cs = [some (.frz (.str w))]
theorem iskind_ok {ρ : Rho} (hn : IsNameS (ρ.c 1)) : IsKindS (denR T ρ 2) := by
  intro w P h1 h2
  rw [e_iskind]
  unfold b_is_kind
  simp_arith [reb1_0]
  refine WR.mono (hn w P) ?_
  rintro r cs ⟨rfl, rfl⟩
  simp_arith [nin_kinds h1 h2]
end Lw
end

noncomputable section
set_option maxHeartbeats 2000000
namespace Lw
open PySem L2 Tv
open PySem (Str)
/-- strings, sorted, each once -/
def nms (ws : List Str) : List Str := sortL (dd ws)
abbrev tupS (ws : List Str) : FV := .tup (ws.map .str)
theorem tupN_strs {xs : List Str} : tupN [strsL xs] = some (.frz (tupS xs)) := by
  have e : frzs ((xs.map FV.str).map OV.frz) = some (xs.map FV.str) := frzs_frz' _
  show ((frzs ((xs.map FV.str).map OV.frz)).map fun xs => OV.frz (.tup xs)) = _
  rw [e]
  rfl
theorem e_asc {ρ : Rho} {a : OV} {Q : OV → Slots → Prop} : WR (denR T ρ 3 [a] []) Q = W (b_ascending ρ) [some a, none] fun fl s => Q fl.val (outR 1 (own1 []) s) :=
  wr_den (fd := f_ascending) (vs := [a.fz]) (rest := []) (ex := []) (by kernel_rfl) (b_ascending_eq ρ) (by kernel_rfl) (by decide) (by kernel_rfl) (by kernel_rfl) (by kernel_rfl)
theorem e_names {ρ : Rho} {a : OV} {Q : OV → Slots → Prop} : WR (denR T ρ 4 [a] []) Q = W (b_names_in ρ) [some a, none] fun fl s => Q fl.val (outR 1 (own1 [1]) s) :=
  wr_den (fd := f_names_in) (vs := [a.fz]) (rest := []) (ex := []) (by kernel_rfl) (b_names_in_eq ρ) (by kernel_rfl) (by decide) (by kernel_rfl) (by kernel_rfl) (by kernel_rfl)
theorem e_flag {ρ : Rho} {a : OV} {Q : OV → Slots → Prop} : WR (denR T ρ 5 [a] []) Q = W (b_need_flag ρ) [some a] fun fl s => Q fl.val (outR 1 (own1 []) s) :=
  wr_den (fd := f_need_flag) (vs := [a.fz]) (rest := []) (ex := []) (by kernel_rfl) (b_need_flag_eq ρ) (by kernel_rfl) (by decide) (by kernel_rfl) (by kernel_rfl) (by kernel_rfl)
theorem e_few {ρ : Rho} {a b : OV} {Q : OV → Slots → Prop} : WR (denR T ρ 6 [a, b] []) Q = W (b_need_few ρ) [some a, some b] fun fl s => Q fl.val (outR 2 (own1 []) s) :=
  wr_den (fd := f_need_few) (vs := [a.fz, b.fz]) (rest := []) (ex := []) (by kernel_rfl) (b_need_few_eq ρ) (by kernel_rfl) (by decide) (by kernel_rfl) (by kernel_rfl) (by kernel_rfl)
def AscS (run : List OV → List (Str × FV) → Out OV) : Prop := ∀ ws : List Str, ws.length < 64 → WR (run [.frz (tupS ws)] []) fun r cs => r = .frz (tupS (nms ws)) ∧ cs = [some (.frz (tupS ws))]
def NamesS (run : List OV → List (Str × FV) → Out OV) : Prop := ∀ ws : List Str, ws.length < 64 → (∀ w ∈ ws, WordP w) → WR (run [.frz (tupS ws)] []) fun r cs => r = .frz (tupS (nms ws)) ∧ cs = [some (.frz (tupS ws))]
theorem asc_ok {ρ : Rho} : AscS (denR T ρ 3) := by
  intro ws hl
  rw [e_asc]
  unfold b_ascending
  simp_arith []
  refine w_tacr (I := fun xs acc s => ∃ l : List Str, xs = l.map FV.str ∧ acc ++ l = ws ∧ s = [some (.frz (tupS ws)), none]) ?_ ?_ ?_
  · exact ⟨ws, rfl, rfl, rfl⟩
  · rintro x r acc s ⟨l, hx, ha, rfl⟩
    cases l with
    | nil => cases hx
    | cons w l =>
      cases hx
      have hc : acc.length < cap := by
        have := congrArg List.length ha
        simp at this
        have c : 64 ≤ cap := by unfold cap; omega
        omega
      simp_arith [hc]
      exact ⟨l, rfl, by rw [← ha]; simp⟩
  · rintro acc s ⟨l, hx, ha, rfl⟩
    cases l with
    | nil =>
      rw [List.append_nil] at ha
      subst ha
      have hd : (dd acc).length < 64 := Nat.lt_of_le_of_lt (dd_len acc) hl
      simp_arith [hd, tupN_strs]
      rfl
    | cons _ _ => cases hx
theorem reb3_0 : T.reb 3 0 = true := by kernel_rfl
theorem names_ok {ρ : Rho} (hn : IsNameS (ρ.c 1)) (ha : AscS (ρ.c 3)) : NamesS (denR T ρ 4) := by
  intro ws hl hw
  rw [e_names]
  unfold b_names_in
  simp_arith []
  refine Tv.w_tfr (I := fun xs s => ∃ l : List Str, xs = l.map FV.str ∧ (∀ w ∈ l, WordP w) ∧ ∃ o, s = [some (.frz (tupS ws)), o]) ?_ ?_ ?_
  · exact ⟨ws, rfl, hw, _, rfl⟩
  · rintro x r s ⟨l, hx, hc, o, rfl⟩
    cases l with
    | nil => cases hx
    | cons w l =>
      cases hx
      simp_arith [reb1_0]
      refine WR.mono (hn w (hc w List.mem_cons_self)) ?_
      rintro r cs ⟨rfl, rfl⟩
      simp_arith []
      exact ⟨l, rfl, fun w m => hc w (List.mem_cons_of_mem _ m), _, rfl⟩
  · rintro s ⟨l, hx, hc, o, rfl⟩
    simp_arith [reb3_0]
    refine WR.mono (ha ws hl) ?_
    rintro r cs ⟨rfl, rfl⟩
    simp_arith []
def FewS (run : List OV → List (Str × FV) → Out OV) : Prop := ∀ (ws : List Str) (m : Int), (ws.length : Int) ≤ m → WR (run [.frz (tupS ws), .frz (.int m)] []) fun r cs => r = .frz .non ∧ cs = [some (.frz (tupS ws)), some (.frz (.int m))]
def FlagS (run : List OV → List (Str × FV) → Out OV) : Prop := ∀ b : Bool, WR (run [.frz (.bl b)] []) fun r cs => r = .frz .non ∧ cs = [some (.frz (.bl b))]
theorem few_ok {ρ : Rho} : FewS (denR T ρ 6) := by
  intro ws m h
  rw [e_few]
  unfold b_need_few
  have h' : ¬ m < (ws.length : Int) := by omega
  simp_arith [List.length_map, h']
theorem flag_ok {ρ : Rho} : FlagS (denR T ρ 5) := by
  intro b
  rw [e_flag]
  unfold b_need_flag
  simp_arith [isi_bool_b]
end Lw
end

noncomputable section
set_option maxHeartbeats 2000000
namespace Lw
open PySem L2 Tv
open PySem (Str)
theorem okA0 : T.okA 0 0 = true := by kernel_rfl
theorem okA1 : T.okA 1 0 = true := by kernel_rfl
theorem okA2 : T.okA 2 0 = true := by kernel_rfl
theorem reb0_0 : T.reb 0 0 = true := by kernel_rfl
theorem reb2_0 : T.reb 2 0 = true := by kernel_rfl
theorem reb4_0 : T.reb 4 0 = true := by kernel_rfl
theorem reb5_0 : T.reb 5 0 = true := by kernel_rfl
theorem reb6_0 : T.reb 6 0 = true := by kernel_rfl
theorem reb6_1 : T.reb 6 1 = true := by kernel_rfl
theorem reb11_0 : T.reb 11 0 = false := by kernel_rfl
theorem reb11_1 : T.reb 11 1 = true := by kernel_rfl
theorem reb11_2 : T.reb 11 2 = true := by kernel_rfl
theorem opt_lay {r : Runs} : T.opt r (fun d => List.lookup 3 d.meths) 0 = some (T.reb 11, r 11) := by kernel_rfl
theorem e_lay {ρ : Rho} {a b c : OV} {Q : OV → Slots → Prop} : WR (denR T ρ 11 [a, b, c] []) Q = W (b_Options_lay ρ) [some a, some b, some c] fun fl s => Q fl.val (outR 3 (own1 []) s) :=
  wr_den (fd := f_Options_lay) (vs := [a.fz, b.fz, c.fz]) (rest := []) (ex := []) (by kernel_rfl) (b_Options_lay_eq ρ) (by kernel_rfl) (by decide) (by kernel_rfl) (by kernel_rfl) (by kernel_rfl)
abbrev KS := List (Str × Int)
abbrev optO (W : FV) (fl : Bool) (ks : KS) : OV := .obj 0 [0, 1, 2] [.frz W, .frz (.bl fl), .dic (ks.map fun q => .str q.1) (ks.map fun q => .frz (.int q.2))]
structure KindP (w : Str) : Prop where
  p : WordP w
  n1 : w ≠ Str.ofString "self"
  n2 : w ≠ Str.ofString "stops"
def LayS (run : List OV → List (Str × FV) → Out OV) : Prop := ∀ (W : FV) (fl : Bool) (ks : KS) (kd : Str) (sz : Int), ks.length < 100 → KindP kd → 0 ≤ sz → sz ≤ 1000000 → (∀ q ∈ ks, q.1 ≠ kd) →
  WR (run [optO W fl ks, .frz (.str kd), .frz (.int sz)] []) fun r cs => r = .frz .non ∧ cs = [some (optO W fl (if 0 < sz then ks ++ [(kd, sz)] else ks)), some (.frz (.str kd)), some (.frz (.int sz))]
theorem lay_ok {ρ : Rho} (hi : IsIntS (ρ.c 0)) (hk : IsKindS (ρ.c 2)) : LayS (denR T ρ 11) := by
  intro W fl ks kd sz hn P h0 h1 hf
  rw [e_lay]
  unfold b_Options_lay
  simp_arith [reb2_0]
  refine WR.mono (hk kd P.p P.n1 P.n2) ?_
  rintro r cs ⟨rfl, rfl⟩
  simp_arith [reb0_0]
  refine WR.mono (hi sz) ?_
  rintro r cs ⟨rfl, rfl⟩
  have e1 : frzs (ks.map fun q => OV.frz (FV.int q.2)) = some (ks.map fun q => FV.int q.2) := by
    have := frzs_frz' (ks.map fun q => FV.int q.2)
    rw [List.map_map] at this
    exact this
  have e2 : (fkeys (ks.map fun q => FV.str q.1)).isSome = true := by
    clear hn hf e1
    induction ks with
    | nil => rfl
    | cons q ks ih =>
      show ((match (some (Sum.inr q.1 : Key)), fkeys (ks.map fun q => FV.str q.1) with
        | some k, some ks => some (k :: ks)
        | _, _ => none : Option (List Key))).isSome = true
      cases z : fkeys (ks.map fun q => FV.str q.1) with
      | none => rw [z] at ih; cases ih
      | some _ => rfl
  have e3 : dhas (Sum.inr kd) (ks.map fun q => FV.str q.1) = false := by
    unfold dhas
    rw [List.any_eq_false]
    intro x m
    obtain ⟨q, hq, hx⟩ := List.mem_map.mp m
    subst hx
    have := hf q hq
    show ¬ decide (some (Sum.inr q.1 : Key) = some (Sum.inr kd)) = true
    simpa using this
  have e4 : ks.length < cap := by unfold cap; omega
  have e5 : dsetK (Sum.inr kd) (FV.str kd) (ks.map fun q => FV.str q.1) = (ks ++ [(kd, sz)]).map fun q => FV.str q.1 := by
    unfold dsetK
    rw [e3, if_neg (by simp), List.map_append]
    rfl
  have e6 : (dsetV (Sum.inr kd) (FV.int sz) (ks.map fun q => FV.str q.1) (ks.map fun q => FV.int q.2)).map OV.frz = (ks ++ [(kd, sz)]).map fun q => OV.frz (FV.int q.2) := by
    unfold dsetV
    rw [e3, if_neg (by simp), List.map_append, List.map_append, List.map_map]
    rfl
  simp_arith [h0, h1, okA2, e1, e2, e4, e5, e6, List.length_map]
  by_cases hs : 0 < sz
  · simp only [if_pos hs]
  · simp only [if_neg hs]
end Lw
end

noncomputable section
set_option maxHeartbeats 2000000
namespace Lw
open PySem L2 Tv
open PySem (Str)
/-- the sizes as they are given -/
structure SzP (ks vs : List FV) (l : KS) : Prop where
  s : sortX [.frz (.dic ks vs)] = some (strsL (l.map (·.1)))
  ix : ∀ q ∈ l, dval ks vs (Sum.inr q.1) = some (.int q.2)
  ge : ∀ q ∈ l, 0 ≤ q.2
  le : ∀ q ∈ l, q.2 ≤ 1000000
  kd : ∀ q ∈ l, KindP q.1
  nd : (l.map (·.1)).Nodup
  n : l.length < 50
def pos (l : KS) : KS := l.filter fun q => decide (0 < q.2)
theorem init_body {ρ : Rho} (hN : NamesS (ρ.c 4)) (hW : FewS (ρ.c 6)) (hF : FlagS (ρ.c 5)) (hL : LayS (ρ.c 11)) {ws : List Str} {fl : Bool} {ks vs : List FV} {l : KS} {Q : Fl → Slots → Prop} (h1 : ws.length < 64) (h2 : ∀ w ∈ ws, WordP w) (h3 : (nms ws).length ≤ 5) (S : SzP ks vs l)
    (q : ∀ o, Q .nx [some (optO (tupS (nms ws)) fl (pos l)), some (.frz (.bl fl)), some (.frz (tupS ws)), some (.frz (.dic ks vs)), o]) :
    Tv.W (b_Options___init__ ρ) [some (.obj 0 [] []), some (.frz (.bl fl)), some (.frz (tupS ws)), some (.frz (.dic ks vs)), none] Q := by
  unfold b_Options___init__
  simp_arith [reb4_0]
  refine WR.mono (hN ws h1 h2) ?_
  rintro r cs ⟨rfl, rfl⟩
  simp_arith [okA0, reb6_0, reb6_1]
  refine WR.mono (hW (nms ws) 5 (by omega)) ?_
  rintro r cs ⟨rfl, rfl⟩
  simp_arith [reb5_0]
  refine WR.mono (hF fl) ?_
  rintro r cs ⟨rfl, rfl⟩
  simp_arith [okA1, okA2, tdic0, S.s, strsL, OV.ofl, fzs_frz]
  refine Tv.w_tfr (I := fun xs s => ∃ d r : KS, l = d ++ r ∧ xs = (r.map (·.1)).map FV.str ∧ ∃ o, s = [some (optO (tupS (nms ws)) fl (pos d)), some (.frz (.bl fl)), some (.frz (tupS ws)), some (.frz (.dic ks vs)), o]) ?_ ?_ ?_
  · exact ⟨[], l, rfl, rfl, none, rfl⟩
  · rintro x r s ⟨d, e, hl, hx, o, rfl⟩
    cases e with
    | nil => cases hx
    | cons q e =>
      cases hx
      have hq : q ∈ l := by rw [hl]; simp
      simp_arith [opt_lay, reb11_0, reb11_1, reb11_2, S.ix q hq]
      refine WR.mono (hL (tupS (nms ws)) fl (pos d) q.1 q.2 ?_ (S.kd q hq) (S.ge q hq) (S.le q hq) ?_) ?_
      · have := S.n
        have h : (pos d).length ≤ d.length := List.length_filter_le _ _
        rw [hl] at this
        simp at this
        omega
      · intro p hp e1
        have hp := (List.mem_filter.mp hp).1
        have nd := S.nd
        rw [hl, List.map_append, List.map_cons] at nd
        exact (List.nodup_append.mp nd).2.2 p.1 (List.mem_map_of_mem hp) q.1 List.mem_cons_self e1
      · rintro r cs ⟨rfl, rfl⟩
        simp_arith []
        refine ⟨d ++ [q], e, by rw [hl]; simp, rfl, some (.frz (.str q.1)), ?_⟩
        have e1 : (if 0 < q.2 then pos d ++ [(q.1, q.2)] else pos d) = pos (d ++ [q]) := by
          unfold pos
          rw [List.filter_append]
          by_cases z : 0 < q.2
          · rw [if_pos z, List.filter_cons_of_pos (by simpa using z)]
            rfl
          · rw [if_neg z, List.filter_cons_of_neg (by simpa using z)]
            simp
        rw [e1]
  · rintro s ⟨d, e, hl, hx, o, rfl⟩
    cases e with
    | nil =>
      rw [List.append_nil] at hl
      subst hl
      simp_arith []
      exact q o
    | cons _ _ => cases hx
end Lw
end

noncomputable section
set_option maxHeartbeats 2000000
namespace Lw
open PySem L2 Tv
open PySem (Str)
abbrev kA : Str := Str.ofString "apoint"
abbrev kC : Str := Str.ofString "cell"
abbrev kZ : Str := Str.ofString "zcell"
theorem tput_nc {os : List Opd} {s : Slots} : tput os [] s = s := by
  cases os with
  | nil => rfl
  | cons o os => cases o <;> rfl
theorem e_init0 {ρ : Rho} {o : OV} {Q : OV → Slots → Prop} : WR (denR T ρ 7 [o] []) Q = Tv.W (b_Options___init__ ρ) [some o, some (.frz (.bl false)), some (.frz (.tup [])), some (.frz (.dic [] [])), none] fun fl s => Q fl.val (outR 1 (own1 [4]) s) :=
  wr_den (fd := f_Options___init__) (vs := [o.fz, .bl false]) (rest := []) (ex := []) (by kernel_rfl) (b_Options___init___eq ρ) (by kernel_rfl) (by decide) (by kernel_rfl) (by kernel_rfl) (by kernel_rfl)
theorem e_init1 {ρ : Rho} {o : OV} {a : FV} {Q : OV → Slots → Prop} : WR (denR T ρ 7 [o] [(kC, a)]) Q = Tv.W (b_Options___init__ ρ) [some o, some (.frz (.bl false)), some (.frz (.tup [])), some (.frz (.dic [.str kC] [a])), none] fun fl s => Q fl.val (outR 1 (own1 [4]) s) :=
  wr_den (fd := f_Options___init__) (vs := [o.fz, .bl false]) (rest := []) (ex := [(kC, a)]) (by kernel_rfl) (b_Options___init___eq ρ) (by kernel_rfl) ⟨szl_ge (by simp), szl_ge (by simp), by kernel_rfl⟩ (by kernel_rfl) (by kernel_rfl) (by kernel_rfl)
theorem e_init4 {ρ : Rho} {o : OV} {fl a b c : FV} {Q : OV → Slots → Prop} : WR (denR T ρ 7 [o] [(Str.ofString "stops", fl), (kZ, a), (kC, b), (kA, c)]) Q = Tv.W (b_Options___init__ ρ) [some o, some (.frz fl), some (.frz (.tup [])), some (.frz (.dic [.str kZ, .str kC, .str kA] [a, b, c])), none] fun fl s => Q fl.val (outR 1 (own1 [4]) s) :=
  wr_den (fd := f_Options___init__) (vs := [o.fz, fl]) (rest := []) (ex := [(kZ, a), (kC, b), (kA, c)]) (by kernel_rfl) (b_Options___init___eq ρ) (by kernel_rfl) ⟨szl_ge (by simp), szl_ge (by simp), by kernel_rfl⟩ (by kernel_rfl) (by kernel_rfl) (by kernel_rfl)
theorem e_init6 {ρ : Rho} {o : OV} {fl a b c w0 w1 w2 w3 w4 w5 : FV} {Q : OV → Slots → Prop} : WR (denR T ρ 7 [o, .frz w0, .frz w1, .frz w2, .frz w3, .frz w4, .frz w5] [(kA, c), (kZ, a), (kC, b), (Str.ofString "stops", fl)]) Q = Tv.W (b_Options___init__ ρ) [some o, some (.frz fl), some (.frz (.tup [w0, w1, w2, w3, w4, w5])), some (.frz (.dic [.str kA, .str kZ, .str kC] [c, a, b])), none] fun fl s => Q fl.val (outR 1 (own1 [4]) s) :=
  wr_den (fd := f_Options___init__) (vs := [o.fz, fl]) (rest := [w0, w1, w2, w3, w4, w5]) (ex := [(kA, c), (kZ, a), (kC, b)]) (by kernel_rfl) (b_Options___init___eq ρ) (by kernel_rfl) ⟨szl_ge (by simp), szl_ge (by simp), by kernel_rfl⟩ (by kernel_rfl) (by kernel_rfl) (by kernel_rfl)
theorem sortL_of {xs ys : List Str} (p : ys.Perm xs) (s : ys.Pairwise fun a b => leS a b = true) : sortL xs = ys :=
  List.Perm.eq_of_pairwise (le := fun a b => leS a b = true) (fun a b _ _ h1 h2 => leS_anti h1 h2) (List.pairwise_mergeSort leS_trans leS_total xs) s ((List.mergeSort_perm xs leS).trans p.symm)
def srt3 (x y z : Int) : KS := [(kA, z), (kC, y), (kZ, x)]
theorem le_ac : leS kA kC = true := by kernel_rfl
theorem le_az : leS kA kZ = true := by kernel_rfl
theorem le_cz : leS kC kZ = true := by kernel_rfl
theorem pw3 : [kA, kC, kZ].Pairwise fun a b => leS a b = true := by
  simp [le_ac, le_az, le_cz]
theorem sort_zca : sortL [kZ, kC, kA] = [kA, kC, kZ] := sortL_of (by decide +kernel) pw3
theorem sort_azc : sortL [kA, kZ, kC] = [kA, kC, kZ] := sortL_of (by decide +kernel) pw3
theorem kindA : KindP kA := ⟨⟨by decide +kernel, by decide +kernel, by decide +kernel⟩, by decide +kernel, by decide +kernel⟩
theorem kindC : KindP kC := ⟨⟨by decide +kernel, by decide +kernel, by decide +kernel⟩, by decide +kernel, by decide +kernel⟩
theorem kindZ : KindP kZ := ⟨⟨by decide +kernel, by decide +kernel, by decide +kernel⟩, by decide +kernel, by decide +kernel⟩
theorem ne_ac : kA ≠ kC := by decide +kernel
theorem ne_az : kA ≠ kZ := by decide +kernel
theorem ne_cz : kC ≠ kZ := by decide +kernel
theorem szp4 {x y z : Int} (x0 : 0 ≤ x) (x1 : x ≤ 1000000) (y0 : 0 ≤ y) (y1 : y ≤ 1000000) (z0 : 0 ≤ z) (z1 : z ≤ 1000000) : SzP [.str kZ, .str kC, .str kA] [.int x, .int y, .int z] (srt3 x y z) := by
  refine ⟨?_, ?_, ?_, ?_, ?_, by show [kA, kC, kZ].Nodup; decide +kernel, by show 3 < 50; decide⟩
  · show (if 3 < 64 then some (strsL (sortL [kZ, kC, kA])) else none) = _
    rw [sort_zca]
    rfl
  · intro q m
    simp only [srt3, List.mem_cons, List.not_mem_nil, or_false] at m
    rcases m with rfl | rfl | rfl <;> simp [dval, fkey, ne_ac, ne_az, ne_cz, ne_ac.symm, ne_az.symm, ne_cz.symm]
  all_goals
    intro q m
    simp only [srt3, List.mem_cons, List.not_mem_nil, or_false] at m
    rcases m with rfl | rfl | rfl
    all_goals first | assumption | exact kindA | exact kindC | exact kindZ
theorem szp6 {x y z : Int} (x0 : 0 ≤ x) (x1 : x ≤ 1000000) (y0 : 0 ≤ y) (y1 : y ≤ 1000000) (z0 : 0 ≤ z) (z1 : z ≤ 1000000) : SzP [.str kA, .str kZ, .str kC] [.int z, .int x, .int y] (srt3 x y z) := by
  refine ⟨?_, ?_, ?_, ?_, ?_, by show [kA, kC, kZ].Nodup; decide +kernel, by show 3 < 50; decide⟩
  · show (if 3 < 64 then some (strsL (sortL [kA, kZ, kC])) else none) = _
    rw [sort_azc]
    rfl
  · intro q m
    simp only [srt3, List.mem_cons, List.not_mem_nil, or_false] at m
    rcases m with rfl | rfl | rfl <;> simp [dval, fkey, ne_ac, ne_az, ne_cz, ne_ac.symm, ne_az.symm, ne_cz.symm]
  all_goals
    intro q m
    simp only [srt3, List.mem_cons, List.not_mem_nil, or_false] at m
    rcases m with rfl | rfl | rfl
    all_goals first | assumption | exact kindA | exact kindC | exact kindZ
theorem szp0 : SzP [] [] [] := ⟨by kernel_rfl, by simp, by simp, by simp, by simp, by simp, by simp⟩
theorem szp1 : SzP [.str kC] [.int 0] [(kC, 0)] := by
  refine ⟨?_, ?_, ?_, ?_, ?_, by decide +kernel, by decide⟩
  · show (if 1 < 64 then some (strsL (sortL [kC])) else none) = _
    rw [sortL_of (xs := [kC]) (ys := [kC]) (List.Perm.refl _) (by simp)]
    rfl
  all_goals
    intro q m
    simp only [List.mem_cons, List.not_mem_nil, or_false] at m
    subst m
    first | exact kindC | simp [dval, fkey]
end Lw
end

noncomputable section
set_option maxHeartbeats 2000000
namespace Lw
open PySem L2 Tv
open PySem (Str)
theorem adn_mem {l : List Str} {k x : Str} : x ∈ adn l k ↔ x ∈ l ∨ x = k := by
  unfold adn
  by_cases z : k ∈ l
  · rw [if_pos z]
    exact ⟨.inl, fun h => h.elim id fun e => e ▸ z⟩
  · rw [if_neg z]; simp
theorem adn_nd {l : List Str} {k : Str} (h : l.Nodup) : (adn l k).Nodup := by
  unfold adn
  by_cases z : k ∈ l
  · rw [if_pos z]; exact h
  · rw [if_neg z]
    refine List.nodup_append.mpr ⟨h, by simp, fun a ha b hb e => ?_⟩
    simp at hb
    subst hb e
    exact z ha
theorem dd_mem {xs : List Str} {x : Str} : x ∈ dd xs ↔ x ∈ xs := by
  have key : ∀ (xs l : List Str), x ∈ xs.foldl adn l ↔ x ∈ l ∨ x ∈ xs := by
    intro xs
    induction xs with
    | nil => intro l; simp
    | cons y ys ih =>
      intro l
      rw [List.foldl_cons, ih, adn_mem]
      simp [or_assoc]
  have := key xs []
  simpa [dd] using this
theorem dd_nd (xs : List Str) : (dd xs).Nodup := by
  have key : ∀ (xs l : List Str), l.Nodup → (xs.foldl adn l).Nodup := by
    intro xs
    induction xs with
    | nil => intro l h; exact h
    | cons y ys ih => intro l h; exact ih _ (adn_nd h)
  exact key xs [] List.nodup_nil
theorem nms_ext {xs ys : List Str} (h : ∀ x, x ∈ xs ↔ x ∈ ys) : nms xs = nms ys := by
  unfold nms
  have p : (dd xs).Perm (dd ys) := (List.perm_ext_iff_of_nodup (dd_nd xs) (dd_nd ys)).mpr fun x => by rw [dd_mem, dd_mem]; exact h x
  exact sortL_of ((List.mergeSort_perm (dd ys) leS).trans p.symm) (List.pairwise_mergeSort leS_trans leS_total _)
theorem nms_len (xs : List Str) : (nms xs).length = (dd xs).length := (List.mergeSort_perm (dd xs) leS).length_eq
theorem nms_nil : nms [] = [] := by
  unfold nms
  exact sortL_of (ys := []) (List.Perm.refl _) .nil
abbrev new0 : OV := .obj 0 [] []
structure NumP (x y z : Int) : Prop where
  x0 : 0 ≤ x
  x1 : x ≤ 1000000
  y0 : 0 ≤ y
  y1 : y ≤ 1000000
  z0 : 0 ≤ z
  z1 : z ≤ 1000000
def Make0 (run : List OV → List (Str × FV) → Out OV) : Prop := WR (run [new0] []) fun r cs => r = .frz .non ∧ cs = [some (optO (tupS []) false [])]
def Make1 (run : List OV → List (Str × FV) → Out OV) : Prop := WR (run [new0] [(kC, .int 0)]) fun r cs => r = .frz .non ∧ cs = [some (optO (tupS []) false [])]
def Make4 (run : List OV → List (Str × FV) → Out OV) : Prop := ∀ fl x y z, NumP x y z → WR (run [new0] [(Str.ofString "stops", .bl fl), (kZ, .int x), (kC, .int y), (kA, .int z)]) fun r cs => r = .frz .non ∧ cs = [some (optO (tupS []) fl (pos (srt3 x y z)))]
def Make6 (run : List OV → List (Str × FV) → Out OV) : Prop := ∀ w0 w1 w2 w3 w4 w5 fl x y z, NumP x y z → (∀ w ∈ [w0, w1, w2, w3, w4, w5], WordP w) → (nms [w0, w1, w2, w3, w4, w5]).length ≤ 5 →
  WR (run [new0, .frz (.str w0), .frz (.str w1), .frz (.str w2), .frz (.str w3), .frz (.str w4), .frz (.str w5)] [(kA, .int z), (kZ, .int x), (kC, .int y), (Str.ofString "stops", .bl fl)]) fun r cs => r = .frz .non ∧ cs = [some (optO (tupS (nms [w0, w1, w2, w3, w4, w5])) fl (pos (srt3 x y z)))]
structure InitH (ρ : Rho) : Prop where
  n : NamesS (ρ.c 4)
  w : FewS (ρ.c 6)
  f : FlagS (ρ.c 5)
  l : LayS (ρ.c 11)
theorem make0_ok {ρ : Rho} (h : InitH ρ) : Make0 (denR T ρ 7) := by
  unfold Make0
  rw [e_init0]
  refine init_body h.n h.w h.f h.l (ws := []) (l := []) (by decide) (by simp) (by rw [nms_nil]; decide) szp0 fun o => ?_
  simp_arith [nms_nil]
  rfl
theorem make1_ok {ρ : Rho} (h : InitH ρ) : Make1 (denR T ρ 7) := by
  unfold Make1
  rw [e_init1]
  refine init_body h.n h.w h.f h.l (ws := []) (l := [(kC, 0)]) (by decide) (by simp) (by rw [nms_nil]; decide) szp1 fun o => ?_
  simp_arith [nms_nil]
  rfl
theorem make4_ok {ρ : Rho} (h : InitH ρ) : Make4 (denR T ρ 7) := by
  intro fl x y z P
  rw [e_init4]
  refine init_body h.n h.w h.f h.l (ws := []) (l := srt3 x y z) (by decide) (by simp) (by rw [nms_nil]; decide) (szp4 P.x0 P.x1 P.y0 P.y1 P.z0 P.z1) fun o => ?_
  simp_arith [nms_nil]
theorem make6_ok {ρ : Rho} (h : InitH ρ) : Make6 (denR T ρ 7) := by
  intro w0 w1 w2 w3 w4 w5 fl x y z P hw hn
  rw [e_init6]
  refine init_body h.n h.w h.f h.l (ws := [w0, w1, w2, w3, w4, w5]) (l := srt3 x y z) (by simp) hw hn (szp6 P.x0 P.x1 P.y0 P.y1 P.z0 P.z1) fun o => ?_
  simp_arith []
end Lw
end

noncomputable section
set_option maxHeartbeats 2000000
namespace Lw
open PySem L2 Tv
open PySem (Str)
theorem e_made {ρ : Rho} {a : OV} {Q : OV → Slots → Prop} : WR (denR T ρ 20 [a] []) Q = Tv.W (b__law_made ρ) [some a, none, none, none, none, none, none] fun fl s => Q fl.val (outR 1 (own1 [1, 2, 3, 4, 5, 6]) s) :=
  wr_den (fd := f__law_made) (vs := [a.fz]) (rest := []) (ex := []) (by kernel_rfl) (b__law_made_eq ρ) (by kernel_rfl) (by decide) (by kernel_rfl) (by kernel_rfl) (by kernel_rfl)
def MadeS (run : List OV → List (Str × FV) → Out OV) : Prop := ∀ ws x y z fl, ToldP 6 ws x y z → (nms ws).length ≤ 5 → WR (run [.frz (toldF ws x y z fl)] []) fun r cs => r = optO (tupS (nms ws)) fl (pos (srt3 x y z)) ∧ cs = [some (.frz (toldF ws x y z fl))]
theorem eq_nil0 : eqx2 (.frz (.lst [])) (.lst []) = some (fbl true) := by kernel_rfl
theorem eq_nil1 {a : Str} : eqx2 (.frz (.lst [.str a])) (.lst []) = some (fbl false) := by kernel_rfl
theorem eq_nil2 {a b : Str} : eqx2 (.frz (.lst [.str a, .str b])) (.lst []) = some (fbl false) := by kernel_rfl
theorem eq_nil3 {a b c : Str} : eqx2 (.frz (.lst [.str a, .str b, .str c])) (.lst []) = some (fbl false) := by kernel_rfl
theorem eq_nil4 {a b c d : Str} : eqx2 (.frz (.lst [.str a, .str b, .str c, .str d])) (.lst []) = some (fbl false) := by kernel_rfl
theorem eq_nil5 {a b c d e : Str} : eqx2 (.frz (.lst [.str a, .str b, .str c, .str d, .str e])) (.lst []) = some (fbl false) := by kernel_rfl
theorem eq_nil6 {a b c d e f : Str} : eqx2 (.frz (.lst [.str a, .str b, .str c, .str d, .str e, .str f])) (.lst []) = some (fbl false) := by kernel_rfl
theorem mul6 {v : FV} : mul2 (.lst [.frz v]) (.frz (.int 6)) = some (.lst [.frz v, .frz v, .frz v, .frz v, .frz v, .frz v]) := by kernel_rfl
theorem made_ok {ρ : Rho} (h4 : Make4 (ρ.m 7)) (h6 : Make6 (ρ.m 7)) : MadeS (denR T ρ 20) := by
  intro ws x y z fl P hn
  have NP : NumP x y z := ⟨P.a0, by have := P.a1; omega, P.b0, P.b1, by have := P.c; omega, by have := P.c; omega⟩
  rw [e_made]
  unfold b__law_made
  match ws, P, hn with
  | [], P, hn =>
    simp_arith [eq_nil0, List.map_nil, szl]
    refine WR.mono (h4 fl x y z NP) ?_
    rintro r cs ⟨rfl, rfl⟩
    simp_arith [tput_nc, nms_nil]
  | [a], P, hn =>
    simp_arith [eq_nil1, mul6, List.map_cons, List.map_nil, add2_fl, add2_l, cat2, OV.ofl, szl, fzs_frz]
    have hE : nms [a, a, a, a, a, a] = nms [a] := nms_ext fun v => by simp <;> grind
    refine WR.mono (h6 a a a a a a fl x y z NP (fun w m => P.w w (by simp at m ⊢; grind)) (by rw [hE]; exact hn)) ?_
    rintro r cs ⟨rfl, rfl⟩
    simp_arith [tput_nc, hE]
  | [a, b], P, hn =>
    simp_arith [eq_nil2, mul6, List.map_cons, List.map_nil, add2_fl, add2_l, cat2, OV.ofl, szl, fzs_frz]
    have hE : nms [a, b, a, a, a, a] = nms [a, b] := nms_ext fun v => by simp <;> grind
    refine WR.mono (h6 a b a a a a fl x y z NP (fun w m => P.w w (by simp at m ⊢; grind)) (by rw [hE]; exact hn)) ?_
    rintro r cs ⟨rfl, rfl⟩
    simp_arith [tput_nc, hE]
  | [a, b, c], P, hn =>
    simp_arith [eq_nil3, mul6, List.map_cons, List.map_nil, add2_fl, add2_l, cat2, OV.ofl, szl, fzs_frz]
    have hE : nms [a, b, c, a, a, a] = nms [a, b, c] := nms_ext fun v => by simp <;> grind
    refine WR.mono (h6 a b c a a a fl x y z NP (fun w m => P.w w (by simp at m ⊢; grind)) (by rw [hE]; exact hn)) ?_
    rintro r cs ⟨rfl, rfl⟩
    simp_arith [tput_nc, hE]
  | [a, b, c, d], P, hn =>
    simp_arith [eq_nil4, mul6, List.map_cons, List.map_nil, add2_fl, add2_l, cat2, OV.ofl, szl, fzs_frz]
    have hE : nms [a, b, c, d, a, a] = nms [a, b, c, d] := nms_ext fun v => by simp <;> grind
    refine WR.mono (h6 a b c d a a fl x y z NP (fun w m => P.w w (by simp at m ⊢; grind)) (by rw [hE]; exact hn)) ?_
    rintro r cs ⟨rfl, rfl⟩
    simp_arith [tput_nc, hE]
  | [a, b, c, d, e], P, hn =>
    simp_arith [eq_nil5, mul6, List.map_cons, List.map_nil, add2_fl, add2_l, cat2, OV.ofl, szl, fzs_frz]
    have hE : nms [a, b, c, d, e, a] = nms [a, b, c, d, e] := nms_ext fun v => by simp <;> grind
    refine WR.mono (h6 a b c d e a fl x y z NP (fun w m => P.w w (by simp at m ⊢; grind)) (by rw [hE]; exact hn)) ?_
    rintro r cs ⟨rfl, rfl⟩
    simp_arith [tput_nc, hE]
  | [a, b, c, d, e, f], P, hn =>
    simp_arith [eq_nil6, mul6, List.map_cons, List.map_nil, add2_fl, add2_l, cat2, OV.ofl, szl, fzs_frz]
    have hE : nms [a, b, c, d, e, f] = nms [a, b, c, d, e, f] := nms_ext fun v => by simp <;> grind
    refine WR.mono (h6 a b c d e f fl x y z NP (fun w m => P.w w (by simp at m ⊢; grind)) (by rw [hE]; exact hn)) ?_
    rintro r cs ⟨rfl, rfl⟩
    simp_arith [tput_nc, hE]
  | a :: b :: c :: d :: e :: f :: g :: r, P, hn =>
    have := P.n
    simp at this
end Lw
end

noncomputable section
set_option maxHeartbeats 2000000
namespace Lw
open PySem L2 Tv
open PySem (Str)
open TL
/-- a text that is short and sound -/
structure TG (n : Nat) (w : Str) : Prop where
  n : w.cps.toList.length ≤ n
  s : ∀ c ∈ w.cps.toList, c < 1114112
theorem sok_of {n : Nat} {w : Str} (h : TG n w) : sok w = true := by
  unfold sok
  rw [Array.all_eq_true]
  intro i hi
  have := h.s w.cps[i] (by simp)
  simpa using this
theorem len_of {n : Nat} {w : Str} (h : TG n w) : w.length ≤ n := by
  have := h.n
  show w.cps.size ≤ n
  simpa using this
theorem cps_app (a b : Str) : (a ++ b).cps.toList = a.cps.toList ++ b.cps.toList := by
  show (a.cps ++ b.cps).toList = _
  simp
theorem TG.app {m n : Nat} {a b : Str} (h : TG m a) (k : TG n b) : TG (m + n) (a ++ b) := by
  refine ⟨?_, fun c hc => ?_⟩
  · rw [cps_app, List.length_append]
    have := h.n
    have := k.n
    omega
  · rw [cps_app] at hc
    rcases List.mem_append.mp hc with z | z
    · exact h.s c z
    · exact k.s c z
theorem TG.mono {m n : Nat} {a : Str} (h : TG m a) (k : m ≤ n) : TG n a := ⟨Nat.le_trans h.n k, h.s⟩
theorem tg_word {w : Str} (h : WordP w) : TG 8 w := ⟨h.n8, fun c m => by have := h.az c m; omega⟩
abbrev num (i : Int) : Str := Str.ofString (toString i)
theorem tg_num {i : Int} (h0 : 0 ≤ i) (h1 : i ≤ 1000000) : TG 10 (num i) := by
  refine ⟨?_, fun c hc => Nat.lt_trans (PySem.W.KSb.asc_num i c hc) (by omega)⟩
  have e := PySem.W.KIN.signs_num i.toNat
  have e2 : ((i.toNat : Nat) : Int) = i := by omega
  rw [e2] at e
  rw [e, List.length_map]
  have := PySem.W.KXf.digits_le h0 (by omega)
  have e3 : i.natAbs = i.toNat := by omega
  rw [e3] at this
  exact this
theorem strI_num {i : Int} (h0 : 0 ≤ i) (h1 : i ≤ 1000000) : strI i = some (.frz (.str (num i))) := by
  unfold strI
  have hl : i.natAbs.log2 < 1920 := by
    by_cases z : i.natAbs = 0
    · rw [z]; decide
    · have h : i.natAbs < 2 ^ 20 := by
        have : (2 : Nat) ^ 20 = 1048576 := by decide
        omega
      exact Nat.lt_trans ((Nat.log2_lt z).mpr h) (by decide)
  rw [if_pos hl, if_pos (sok_of (tg_num h0 h1))]
theorem joinL_mem {S : List Nat} {c : Nat} : ∀ {ps : List (List Nat)}, c ∈ joinL S ps → c ∈ S ∨ ∃ p ∈ ps, c ∈ p
  | [], h => by cases h
  | [p], h => .inr ⟨p, by simp, h⟩
  | p :: q :: r, h => by
    rcases List.mem_append.mp (show c ∈ p ++ (S ++ joinL S (q :: r)) from h) with z | z
    · exact .inr ⟨p, by simp, z⟩
    · rcases List.mem_append.mp z with z | z
      · exact .inl z
      · rcases joinL_mem z with z | ⟨x, m, z⟩
        · exact .inl z
        · exact .inr ⟨x, List.mem_cons_of_mem _ m, z⟩
theorem joinL_len {S : List Nat} {n : Nat} (hS : S.length ≤ 10) : ∀ {ps : List (List Nat)}, (∀ p ∈ ps, p.length ≤ n) → (joinL S ps).length ≤ ps.length * (n + 10)
  | [], _ => by simp [joinL]
  | [p], h => by
    have := h p (by simp)
    simp [joinL]
    omega
  | p :: q :: r, h => by
    have h1 := h p (by simp)
    have h2 := joinL_len hS (ps := q :: r) fun x m => h x (List.mem_cons_of_mem _ m)
    show (p ++ (S ++ joinL S (q :: r))).length ≤ _
    rw [List.length_append, List.length_append, List.length_cons (a := p), Nat.add_mul, Nat.one_mul]
    omega
abbrev sp1 : Str := Str.ofString " "
theorem join_gen {xs : List Str} (hn : xs.length ≤ 100) (hx : ∀ x ∈ xs, TG 40 x) : joinN [.frz (.str sp1), .lst (xs.map fun x => OV.frz (.str x))] = some (.frz (.str (Txt.join sp1 xs))) ∧ TG 5000 (Txt.join sp1 xs) := by
  have e1 : seqF (.lst (xs.map fun x => OV.frz (.str x))) = some (xs.map FV.str) := by
    have := frzs_frz' (xs.map FV.str)
    rw [List.map_map] at this
    show (match frzs (xs.map (OV.frz ∘ FV.str)) with
      | some xs => some xs
      | none => OV.tels _) = _
    rw [this]
  have hsum : ∀ ys : List Str, (∀ x ∈ ys, TG 40 x) → (ys.map (·.length)).sum ≤ ys.length * 40 := by
    intro ys
    induction ys with
    | nil => intro _; simp
    | cons y ys ih =>
      intro h
      have h1 := len_of (h y (by simp))
      have h2 := ih fun x m => h x (List.mem_cons_of_mem _ m)
      simp only [List.map_cons, List.sum_cons, List.length_cons]
      omega
  have h1 : sp1.length = 1 := by kernel_rfl
  have h2 : tl sp1 = [32] := by kernel_rfl
  have ej : Txt.join sp1 xs = Str.join sp1 xs := StrLaws.glued_eq_join _ _
  have et : (Txt.join sp1 xs).cps.toList = joinL [32] (xs.map tl) := by
    rw [ej]
    have := tl_join sp1 xs
    rw [h2] at this
    exact this
  have tg : TG 5000 (Txt.join sp1 xs) := by
    refine ⟨?_, fun c hc => ?_⟩
    · rw [et]
      have := joinL_len (S := [32]) (n := 40) (by decide) (ps := xs.map tl) (fun p m => by
        obtain ⟨x, hm, e⟩ := List.mem_map.mp m
        subst e
        exact (hx x hm).n)
      rw [List.length_map] at this
      omega
    · rw [et] at hc
      rcases joinL_mem hc with z | ⟨p, m, z⟩
      · simp at z; omega
      · obtain ⟨x, hm, e⟩ := List.mem_map.mp m
        subst e
        exact (hx x hm).s c z
  refine ⟨?_, tg⟩
  show (((seqF _).bind fstrs).bind fun ys => if (ys.map (·.length)).sum + ys.length * sp1.length ≤ 16777216 then if sok (Txt.join sp1 ys) = true then some (OV.frz (.str (Txt.join sp1 ys))) else none else none) = _
  rw [e1, Option.bind_some, fstrs_str, Option.bind_some, if_pos (by have := hsum xs hx; rw [h1]; omega), if_pos (sok_of tg)]
abbrev pl1 : Str := Str.ofString "+"
abbrev eq1 : Str := Str.ofString "="
abbrev st1 : Str := Str.ofString "stops"
/-- what is written -/
def partsL (W : List Str) (fl : Bool) (l : KS) : List Str := W.map (pl1 ++ ·) ++ l.map (fun q => q.1 ++ eq1 ++ num q.2) ++ (if fl then [st1] else [])
def textO (W : List Str) (fl : Bool) (l : KS) : Str := Txt.join sp1 (partsL W fl l)
structure PartP (W : List Str) (l : KS) : Prop where
  w : ∀ w ∈ W, WordP w
  nw : W.length ≤ 20
  k : ∀ q ∈ l, WordP q.1
  ge : ∀ q ∈ l, 0 ≤ q.2
  le : ∀ q ∈ l, q.2 ≤ 1000000
  nl : l.length ≤ 20
theorem tg_pl : TG 1 pl1 := ⟨by decide +kernel, by decide +kernel⟩
theorem tg_eq : TG 1 eq1 := ⟨by decide +kernel, by decide +kernel⟩
theorem tg_st : TG 5 st1 := ⟨by decide +kernel, by decide +kernel⟩
theorem parts_tg {W : List Str} {fl : Bool} {l : KS} (P : PartP W l) : (∀ x ∈ partsL W fl l, TG 40 x) ∧ (partsL W fl l).length ≤ 100 := by
  refine ⟨fun x m => ?_, ?_⟩
  · rcases List.mem_append.mp m with m | m
    · rcases List.mem_append.mp m with m | m
      · obtain ⟨w, hw, e⟩ := List.mem_map.mp m
        subst e
        exact (tg_pl.app (tg_word (P.w w hw))).mono (by omega)
      · obtain ⟨q, hq, e⟩ := List.mem_map.mp m
        subst e
        exact (((tg_word (P.k q hq)).app tg_eq).app (tg_num (P.ge q hq) (P.le q hq))).mono (by omega)
    · cases fl with
      | false => cases m
      | true =>
        have : x = st1 := by simpa using m
        subst this
        exact tg_st.mono (by omega)
  · unfold partsL
    have := P.nw
    have := P.nl
    cases fl <;> simp <;> omega
theorem text_ok {W : List Str} {fl : Bool} {l : KS} (P : PartP W l) : joinN [.frz (.str sp1), .lst ((partsL W fl l).map fun x => OV.frz (.str x))] = some (.frz (.str (textO W fl l))) ∧ TG 5000 (textO W fl l) := join_gen (parts_tg P).2 (parts_tg P).1
end Lw
end

noncomputable section
set_option maxHeartbeats 2000000
namespace Lw
open PySem L2 Tv
open PySem (Str)
abbrev optF (W : List Str) (fl : Bool) (l : KS) : FV := .obj 0 [0, 1, 2] [tupS W, .bl fl, .dic (l.map fun q => .str q.1) (l.map fun q => .int q.2)]
theorem e_str {ρ : Rho} {a : OV} {Q : OV → Slots → Prop} : WR (denR T ρ 9 [a] []) Q = Tv.W (b_Options___str__ ρ) [some a, none, none, none] fun fl s => Q fl.val (outR 1 (own1 [1]) s) :=
  wr_den (fd := f_Options___str__) (vs := [a.fz]) (rest := []) (ex := []) (by kernel_rfl) (b_Options___str___eq ρ) (by kernel_rfl) (by decide) (by kernel_rfl) (by kernel_rfl) (by kernel_rfl)
theorem fkeys_ok (l : KS) : (fkeys (l.map fun q => FV.str q.1)).isSome = true := by
  induction l with
  | nil => rfl
  | cons q ks ih =>
    show ((match (some (Sum.inr q.1 : Key)), fkeys (ks.map fun q => FV.str q.1) with
      | some k, some ks => some (k :: ks)
      | _, _ => none : Option (List Key))).isSome = true
    cases z : fkeys (ks.map fun q => FV.str q.1) with
    | none => rw [z] at ih; cases ih
    | some _ => rfl
theorem dval_ok {q : Str × Int} : ∀ {l : KS}, (l.map (·.1)).Nodup → q ∈ l → dval (l.map fun q => FV.str q.1) (l.map fun q => FV.int q.2) (Sum.inr q.1) = some (FV.int q.2)
  | [], _, h => by cases h
  | p :: l, nd, h => by
    show (if some (Sum.inr p.1 : Key) = some (Sum.inr q.1) then some (FV.int p.2) else dval _ _ _) = _
    rcases List.mem_cons.mp h with e | m
    · subst e
      rw [if_pos rfl]
    · rw [if_neg ?_]
      · exact dval_ok (List.nodup_cons.mp nd).2 m
      · intro e
        injection e with e
        injection e with e
        refine (List.nodup_cons.mp nd).1 ?_
        show p.1 ∈ _
        rw [e]
        exact List.mem_map_of_mem m
def StrS (run : List OV → List (Str × FV) → Out OV) : Prop := ∀ (W : List Str) (fl : Bool) (l : KS), PartP W l → (l.map (·.1)).Nodup → WR (run [.frz (optF W fl l)] []) fun r cs => r = .frz (.str (textO W fl l)) ∧ cs = [some (.frz (optF W fl l))]
theorem mul_st {b : Bool} : mul2 (.lst [.frz (.str st1)]) (.frz (.int (if b = true then 1 else 0))) = some (.lst (if b = true then [.frz (.str st1)] else [])) := by
  cases b <;> kernel_rfl
theorem str_ok {ρ : Rho} : StrS (denR T ρ 9) := by
  intro W fl l P nd
  rw [e_str]
  unfold b_Options___str__
  simp_arith [okA0]
  refine w_tlcr (I := fun xs acc s => ∃ d r : List Str, W = d ++ r ∧ xs = r.map FV.str ∧ acc = d.map (fun w => OV.frz (.str (pl1 ++ w))) ∧ s = [some (.frz (optF W fl l)), none, none, none]) ?_ ?_ ?_
  · exact ⟨[], W, rfl, rfl, rfl, rfl⟩
  · rintro x r acc s ⟨d, e, hl, hx, rfl, rfl⟩
    cases e with
    | nil => cases hx
    | cons w e =>
      cases hx
      have hw : w ∈ W := by rw [hl]; simp
      have hz : pl1.length + w.length ≤ szl := szl_ge (by have := len_of tg_pl; have := len_of (tg_word (P.w w hw)); omega)
      have hn : (d.map fun w => OV.frz (.str (pl1 ++ w))).length < szl := by
        have := P.nw
        rw [hl] at this
        simp at this ⊢
        exact Nat.lt_of_lt_of_le (by omega : _ < 1000) szl_ge
      simp_arith [hz, hn]
      exact ⟨d ++ [w], e, by rw [hl]; simp, rfl, by simp⟩
  · rintro acc s ⟨d, e, hl, hx, rfl, rfl⟩
    cases e with
    | cons _ _ => cases hx
    | nil =>
      rw [List.append_nil] at hl
      subst hl
      simp_arith [okA2, fkeys_ok, if_true]
      refine w_tlcr (I := fun xs acc s => ∃ a r : KS, l = a ++ r ∧ xs = r.map (fun q => FV.str q.1) ∧ acc = a.map (fun q => OV.frz (.str (q.1 ++ eq1 ++ num q.2))) ∧ s = [some (.frz (optF W fl l)), some (.lst (W.map fun w => OV.frz (.str (pl1 ++ w)))), none, none]) ?_ ?_ ?_
      · exact ⟨[], l, rfl, rfl, rfl, rfl⟩
      · rintro x r acc s ⟨a, e, hl, hx, rfl, rfl⟩
        cases e with
        | nil => cases hx
        | cons q e =>
          cases hx
          have hq : q ∈ l := by rw [hl]; simp
          have t1 := tg_word (P.k q hq)
          have t3 := tg_num (P.ge q hq) (P.le q hq)
          have z0 : q.1.length ≤ szl := szl_ge (by have := len_of t1; omega)
          have z1 : Str.empty.length + q.1.length ≤ szl := szl_ge (by have := len_of t1; have h : Str.empty.length = 0 := by kernel_rfl
                                                                      omega)
          have z2 : (Str.empty ++ q.1).length + eq1.length ≤ szl := by
            rw [Str.empty_append]
            exact szl_ge (by have := len_of t1; have := len_of tg_eq; omega)
          have z3 : (Str.empty ++ q.1 ++ eq1).length + (num q.2).length ≤ szl := by
            rw [Str.empty_append]
            exact szl_ge (by have := len_of (t1.app tg_eq); have := len_of t3; omega)
          have hn : (a.map (fun q => OV.frz (.str (q.1 ++ eq1 ++ num q.2)))).length < szl := by
            have := P.nl
            rw [hl] at this
            simp at this ⊢
            exact Nat.lt_of_lt_of_le (by omega : _ < 1000) szl_ge
          simp_arith [z0, z1, z2, z3, okA2, fmtI, dval_ok nd hq, strI_num (P.ge q hq) (P.le q hq), hn]
          exact ⟨a ++ [q], e, by rw [hl]; simp, rfl, by simp [Str.empty_append]⟩
      · rintro acc s ⟨a, e, hl, hx, rfl, rfl⟩
        cases e with
        | cons _ _ => cases hx
        | nil =>
          rw [List.append_nil] at hl
          subst hl
          have tx := (text_ok (fl := fl) P).1
          have e9 : (W.map (fun w => OV.frz (.str (pl1 ++ w))) ++ l.map (fun q => OV.frz (.str (q.1 ++ eq1 ++ num q.2)))) ++ (if fl = true then [OV.frz (.str st1)] else []) = (partsL W fl l).map fun x => OV.frz (.str x) := by
            unfold partsL
            cases fl <;> simp <;> rfl
          have l1 : (W.map (fun w => OV.frz (.str (pl1 ++ w)))).length + (l.map (fun q => OV.frz (.str (q.1 ++ eq1 ++ num q.2)))).length ≤ szl := by
            have := P.nw
            have := P.nl
            simp
            exact szl_ge (by omega)
          have l2 : (W.map (fun w => OV.frz (.str (pl1 ++ w))) ++ l.map (fun q => OV.frz (.str (q.1 ++ eq1 ++ num q.2)))).length + (if fl = true then [OV.frz (.str st1)] else []).length ≤ szl := by
            have := P.nw
            have := P.nl
            cases fl <;> simp <;> exact szl_ge (by omega)
          have o1 : 1 ≤ szl := szl_ge
          simp_arith [okA1, l1, l2, mul_st, o1, e9, tx]
end Lw
end

noncomputable section
set_option maxHeartbeats 4000000
namespace Lw
open PySem L2 Tv
open PySem (Str)
theorem wo_join {W : List Str} {fl : Bool} {l : KS} {L : List OV} {Q : OV → Prop} (P : PartP W l) (h : L = (partsL W fl l).map fun x => OV.frz (.str x)) (q : Q (.frz (.str (textO W fl l)))) : WO (joinN [.frz (.str sp1), .lst L]) Q := by
  rw [h, (text_ok P).1]
  exact q
theorem e_words {ρ : Rho} {a : OV} {Q : OV → Slots → Prop} : WR (denR T ρ 21 [a] []) Q = Tv.W (b__law_words ρ) [some a, none, none, none, none, none, none, none, none, none] fun fl s => Q fl.val (outR 1 (own1 [1, 2, 3, 4, 5, 6, 7, 8]) s) :=
  wr_den (fd := f__law_words) (vs := [a.fz]) (rest := []) (ex := []) (by kernel_rfl) (b__law_words_eq ρ) (by kernel_rfl) (by decide) (by kernel_rfl) (by kernel_rfl) (by kernel_rfl)
theorem nms_mem {ws : List Str} {w : Str} : w ∈ nms ws ↔ w ∈ ws := by
  show w ∈ (dd ws).mergeSort leS ↔ _
  rw [(List.mergeSort_perm (dd ws) leS).mem_iff]
  exact dd_mem
theorem part_ok {n : Nat} {ws : List Str} {x y z : Int} (P : ToldP n ws x y z) (hn : (nms ws).length ≤ 5) : PartP (nms ws) (pos (srt3 x y z)) := by
  have key : ∀ q ∈ pos (srt3 x y z), q = (kA, z) ∨ q = (kC, y) ∨ q = (kZ, x) := fun q m => by
    have m := (List.mem_filter.mp m).1
    simpa [srt3] using m
  have c := P.c
  have a1 := P.a1
  refine ⟨fun w m => P.w w (nms_mem.mp m), by omega, fun q m => ?_, fun q m => ?_, fun q m => ?_, ?_⟩
  · rcases key q m with rfl | rfl | rfl
    · exact kindA.p
    · exact kindC.p
    · exact kindZ.p
  · rcases key q m with rfl | rfl | rfl
    · show 0 ≤ z; omega
    · exact P.b0
    · exact P.a0
  · rcases key q m with rfl | rfl | rfl
    · show z ≤ 1000000; omega
    · exact P.b1
    · show x ≤ 1000000; omega
  · have : (pos (srt3 x y z)).length ≤ (srt3 x y z).length := List.length_filter_le _ _
    have e : (srt3 x y z).length = 3 := rfl
    omega
def WordsS (run : List OV → List (Str × FV) → Out OV) : Prop := ∀ ws x y z fl, ToldP 6 ws x y z → (nms ws).length ≤ 5 → WR (run [.frz (toldF ws x y z fl)] []) fun r cs => r = .frz (.str (textO (nms ws) fl (pos (srt3 x y z)))) ∧ cs = [some (.frz (toldF ws x y z fl))]
theorem pos3 {x y z : Int} : pos (srt3 x y z) = (if 0 < z then [(kA, z)] else []) ++ (if 0 < y then [(kC, y)] else []) ++ (if 0 < x then [(kZ, x)] else []) := by
  unfold pos srt3
  by_cases h1 : 0 < z <;> by_cases h2 : 0 < y <;> by_cases h3 : 0 < x <;> simp [h1, h2, h3]
theorem words_ok {ρ : Rho} : WordsS (denR T ρ 21) := by
  intro ws x y z fl P hn
  have PP := part_ok P hn
  have hc : ws.length < cap := by have := P.n; unfold cap; omega
  have hd : (dd ws).length < 64 := by rw [← nms_len]; omega
  have hnm : sortL (dd ws) = nms ws := rfl
  rw [e_words]
  unfold b__law_words
  simp_arith [rawOf, fstrs_str, hc, hd, hnm, strsL, OV.ofl, fzs_frz]
  refine w_tlcr (I := fun xs acc s => ∃ d r : List Str, nms ws = d ++ r ∧ xs = r.map FV.str ∧ acc = d.map (fun w => OV.frz (.str (pl1 ++ w))) ∧ s = [some (.frz (toldF ws x y z fl)), some (.frz (.lst (ws.map .str))), some (.frz (.int x)), some (.frz (.int y)), some (.frz (.int z)), some (.frz (.bl fl)), none, none, none, none]) ?_ ?_ ?_
  · exact ⟨[], nms ws, rfl, rfl, rfl, rfl⟩
  · rintro x' r acc s ⟨d, e, hl, hx, rfl, rfl⟩
    cases e with
    | nil => cases hx
    | cons w e =>
      cases hx
      have hw : w ∈ nms ws := by rw [hl]; simp
      have hz : pl1.length + w.length ≤ szl := szl_ge (by have := len_of tg_pl; have := len_of (tg_word (PP.w w hw)); omega)
      have hn : (d.map fun w => OV.frz (.str (pl1 ++ w))).length < szl := by
        have := PP.nw
        rw [hl] at this
        simp at this ⊢
        exact Nat.lt_of_lt_of_le (by omega : _ < 1000) szl_ge
      simp_arith [hz, hn]
      exact ⟨d ++ [w], e, by rw [hl]; simp, rfl, by simp⟩
  · rintro acc s ⟨d, e, hl, hx, rfl, rfl⟩
    cases e with
    | cons _ _ => cases hx
    | nil =>
      rw [List.append_nil] at hl
      rw [← hl]
      have hz0 : 0 ≤ z ∧ z ≤ 1000000 := by have := P.c; omega
      have hx0 : 0 ≤ x ∧ x ≤ 1000000 := by have := P.a0; have := P.a1; omega
      have ta := (tg_word kindA.p).app tg_eq
      have tc := (tg_word kindC.p).app tg_eq
      have tz := (tg_word kindZ.p).app tg_eq
      have na := tg_num hz0.1 hz0.2
      have nc := tg_num P.b0 P.b1
      have nz := tg_num hx0.1 hx0.2
      have a1 : kA.length + eq1.length ≤ szl := szl_ge (by have := len_of (tg_word kindA.p); have := len_of tg_eq; omega)
      have c1 : kC.length + eq1.length ≤ szl := szl_ge (by have := len_of (tg_word kindC.p); have := len_of tg_eq; omega)
      have z1 : kZ.length + eq1.length ≤ szl := szl_ge (by have := len_of (tg_word kindZ.p); have := len_of tg_eq; omega)
      have a2 : (kA ++ eq1).length + (num z).length ≤ szl := szl_ge (by have := len_of ta; have := len_of na; omega)
      have c2 : (kC ++ eq1).length + (num y).length ≤ szl := szl_ge (by have := len_of tc; have := len_of nc; omega)
      have z2 : (kZ ++ eq1).length + (num x).length ≤ szl := szl_ge (by have := len_of tz; have := len_of nz; omega)
      have g1 := strI_num hz0.1 hz0.2
      have g2 := strI_num P.b0 P.b1
      have g3 := strI_num hx0.1 hx0.2
      have l0 : ∀ r : List OV, r.length ≤ 3 → ((nms ws).map (fun w => OV.frz (.str (pl1 ++ w))) ++ r).length < szl := fun r h => by
        simp
        exact Nat.lt_of_lt_of_le (by omega : _ < 1000) szl_ge
      have o2 : 2 ≤ szl := szl_ge
      have o3 : 3 ≤ szl := szl_ge
      have l1 : ((nms ws).map (fun w => OV.frz (.str (pl1 ++ w)))).length + 4 ≤ szl := by
        simp
        exact szl_ge (by omega)
      by_cases p1 : 0 < z <;> by_cases p2 : 0 < y <;> by_cases p3 : 0 < x <;> cases fl
      all_goals
        simp_arith [↓Tv.w_tfr_cons, List.map_cons, List.map_nil, o2, o3, strN, a1, c1, z1, a2, c2, z2, g1, g2, g3, p1, p2, p3]
      all_goals repeat' apply And.intro
      all_goals try (simp only [List.length_append, List.length_map, List.length_cons, List.length_nil]; exact Nat.lt_of_lt_of_le (by omega : _ < 1000) szl_ge)
      all_goals first
        | (refine wo_join (fl := true) PP ?_ ?_
           · first
               | (simp [partsL, pos3, p1, p2, p3]; done)
               | (simp [partsL, pos3, p1, p2, p3]; rfl)
           · simp_arith []
             done)
        | (refine wo_join (fl := false) PP ?_ ?_
           · first
               | (simp [partsL, pos3, p1, p2, p3]; done)
               | (simp [partsL, pos3, p1, p2, p3]; rfl)
           · simp_arith []
             done)
end Lw
end

noncomputable section
set_option maxHeartbeats 4000000
namespace Lw
open PySem L2 Tv
open PySem (Str)
theorem toDs_str (ws : List Str) : toDs (ws.map .str) = some (ws.map PyData.str) := by
  induction ws with
  | nil => rfl
  | cons w ws ih =>
    show (match some (PyData.str w), toDs (ws.map .str) with
      | some d, some ds => some (d :: ds)
      | _, _ => none) = _
    rw [ih]
    rfl
theorem eqvAll_str : ∀ ws vs : List Str, PyData.eqvAll (ws.map PyData.str) (vs.map PyData.str) = decide (ws = vs)
  | [], [] => rfl
  | [], v :: vs => rfl
  | w :: ws, [] => rfl
  | w :: ws, v :: vs => by
    show (PyData.eqv (.str w) (.str v) && PyData.eqvAll (ws.map PyData.str) (vs.map PyData.str)) = _
    rw [eqvAll_str ws vs]
    show ((w == v) && decide (ws = vs)) = _
    by_cases h1 : w = v <;> by_cases h2 : ws = vs <;> simp [h1, h2]
theorem depthAll_str (ws : List Str) : PyData.depthAll (ws.map PyData.str) ≤ 1 := by
  induction ws with
  | nil => simp [PyData.depthAll]
  | cons w ws ih => simp [PyData.depthAll, PyData.depth] at ih ⊢; omega
theorem edt_tup (W V : List Str) : edt (tupS W) (tupS V) = some (decide (W = V)) := by
  unfold edt
  have e1 : toD (tupS W) = some (.tuple (W.map .str)) := by
    show (toDs (W.map .str)).map PyData.tuple = _
    rw [toDs_str]
    rfl
  have e2 : toD (tupS V) = some (.tuple (V.map .str)) := by
    show (toDs (V.map .str)).map PyData.tuple = _
    rw [toDs_str]
    rfl
  have hd : deep (.tuple (W.map PyData.str)) (.tuple (V.map PyData.str)) = true := by
    unfold deep
    have := depthAll_str W
    have h : PyData.depth (.tuple (W.map PyData.str)) ≤ 64 := by
      simp [PyData.depth]
      omega
    simp [h]
  rw [e1, e2]
  dsimp only
  rw [if_pos hd]
  show some (PyData.eqvAll _ _) = _
  rw [eqvAll_str]
theorem edt_bl (a b : Bool) : edt (.bl a) (.bl b) = some (a == b) := by
  cases a <;> cases b <;> kernel_rfl
theorem eqd_lst (W V : List Str) : eqx2 (strsL W) (strsL V) = some (fbl (decide (W = V))) := by
  have f1 : ∀ W : List Str, (strsL W).fz = .lst (W.map .str) := fun W => by
    show FV.lst (OV.fzs ((W.map FV.str).map OV.frz)) = _
    rw [fzs_frz]
  have e1 : ∀ W : List Str, toD (strsL W).fz = some (.list (W.map .str)) := fun W => by
    rw [f1]
    show (toDs (W.map .str)).map PyData.list = _
    rw [toDs_str]
    rfl
  have hd : deep (.list (W.map PyData.str)) (.list (V.map PyData.str)) = true := by
    unfold deep
    have := depthAll_str W
    have h : PyData.depth (.list (W.map PyData.str)) ≤ 64 := by
      simp [PyData.depth]
      omega
    simp [h]
  have e : eqd (strsL W) (strsL V) = some (decide (W = V)) := by
    unfold eqd
    rw [e1, e1]
    dsimp only
    rw [if_pos hd]
    show some (PyData.eqvAll _ _) = _
    rw [eqvAll_str]
  unfold eqx2 eqx
  rw [e]
  rfl
abbrev dicF (l : KS) : FV := .dic (l.map fun q => .str q.1) (l.map fun q => .int q.2)
theorem edt_dic {x y z x' y' z' : Int} (h : NumP x y z) (h' : NumP x' y' z') : edt (dicF (pos (srt3 x y z))) (dicF (pos (srt3 x' y' z'))) = some (decide (x = x' ∧ y = y' ∧ z = z')) := by
  have e : ∀ l l' : KS, edt (dicF l) (dicF l') = deqS (l.map fun q => .str q.1) (l.map fun q => .int q.2) (l'.map fun q => .str q.1) (l'.map fun q => .int q.2) := fun _ _ => rfl
  rw [e, pos3, pos3]
  have hx := h.x0
  have hy := h.y0
  have hz := h.z0
  have hx' := h'.x0
  have hy' := h'.y0
  have hz' := h'.z0
  have d0 : ∀ i j : Int, deep (.int i) (.int j) = true := fun i j => rfl
  have q0 : ∀ i j : Int, PyData.eqv (.int i) (.int j) = (i == j) := fun i j => rfl
  have t0 : ∀ i : Int, toD (.int i) = some (.int i) := fun i => rfl
  by_cases a1 : 0 < z <;> by_cases a2 : 0 < y <;> by_cases a3 : 0 < x <;> by_cases b1 : 0 < z' <;> by_cases b2 : 0 < y' <;> by_cases b3 : 0 < x'
  all_goals
    simp [a1, a2, a3, b1, b2, b3, deqS, deq, fkeys, fkey, eKeys, eKey, dval, ne_ac, ne_az, ne_cz, ne_ac.symm, ne_az.symm, ne_cz.symm, d0, q0, t0, isSc, scsEq, scEq]
  all_goals try omega
  all_goals try grind
end Lw
end

noncomputable section
set_option maxHeartbeats 4000000
namespace Lw
open PySem L2 Tv
open PySem (Str)
theorem e_eq {ρ : Rho} {a b : OV} {Q : OV → Slots → Prop} : WR (denR T ρ 8 [a, b] []) Q = Tv.W (b_Options___eq__ ρ) [some a, some b] fun fl s => Q fl.val (outR 2 (own1 []) s) :=
  wr_den (fd := f_Options___eq__) (vs := [a.fz, b.fz]) (rest := []) (ex := []) (by kernel_rfl) (b_Options___eq___eq ρ) (by kernel_rfl) (by decide) (by kernel_rfl) (by kernel_rfl) (by kernel_rfl)
theorem e_repr {ρ : Rho} {a : OV} {Q : OV → Slots → Prop} : WR (denR T ρ 10 [a] []) Q = Tv.W (b_Options___repr__ ρ) [some a] fun fl s => Q fl.val (outR 1 (own1 []) s) :=
  wr_den (fd := f_Options___repr__) (vs := [a.fz]) (rest := []) (ex := []) (by kernel_rfl) (b_Options___repr___eq ρ) (by kernel_rfl) (by decide) (by kernel_rfl) (by kernel_rfl) (by kernel_rfl)
abbrev optV (W : List Str) (fl : Bool) (x y z : Int) : FV := optF W fl (pos (srt3 x y z))
def EqS (run : List OV → List (Str × FV) → Out OV) : Prop := ∀ (W W' : List Str) (fl fl' : Bool) (x y z x' y' z' : Int), NumP x y z → NumP x' y' z' → WR (run [.frz (optV W fl x y z), .frz (optV W' fl' x' y' z')] []) fun r cs => r = .frz (.bl (decide (W = W' ∧ fl = fl' ∧ x = x' ∧ y = y' ∧ z = z'))) ∧ cs = [some (.frz (optV W fl x y z)), some (.frz (optV W' fl' x' y' z'))]
/-- what is no Options -/
def notO (v : FV) : Prop := isiN (T.isi (Sum.inr 0)) [.frz v] = some (.frz (.bl false))
def EqN (run : List OV → List (Str × FV) → Out OV) : Prop := ∀ (o v : FV), notO v → WR (run [.frz o, .frz v] []) fun r cs => r = .frz (.bl false) ∧ cs = [some (.frz o), some (.frz v)]
theorem isi_opt {W : List Str} {fl : Bool} {l : KS} : isiN (T.isi (Sum.inr 0)) [.frz (optF W fl l)] = some (.frz (.bl true)) := by kernel_rfl
theorem eqx_opt {W W' : List Str} {fl fl' : Bool} {x y z x' y' z' : Int} (h : NumP x y z) (h' : NumP x' y' z') : eqx2 (.frz (.tup [tupS W, .bl fl, dicF (pos (srt3 x y z))])) (.frz (.tup [tupS W', .bl fl', dicF (pos (srt3 x' y' z'))])) = some (fbl (decide (W = W' ∧ fl = fl' ∧ x = x' ∧ y = y' ∧ z = z'))) := by
  have e0 : toD (OV.frz (.tup [tupS W, .bl fl, dicF (pos (srt3 x y z))])).fz = none := by
    show (toDs [tupS W, .bl fl, dicF (pos (srt3 x y z))]).map PyData.tuple = none
    have : toDs [tupS W, .bl fl, dicF (pos (srt3 x y z))] = none := by
      show (match toD (tupS W), (none : Option (List PyData)) with
        | some d, some ds => some (d :: ds)
        | _, _ => none) = none
      cases toD (tupS W) <;> rfl
    rw [this]
    rfl
  have e1 : eqd (.frz (.tup [tupS W, .bl fl, dicF (pos (srt3 x y z))])) (.frz (.tup [tupS W', .bl fl', dicF (pos (srt3 x' y' z'))])) = none := by
    unfold eqd
    rw [e0]
  unfold eqx2 eqx
  rw [e1]
  show (epairs [tupS W, .bl fl, dicF (pos (srt3 x y z))] [tupS W', .bl fl', dicF (pos (srt3 x' y' z'))]).map fbl = _
  have e2 : epairs [tupS W, .bl fl, dicF (pos (srt3 x y z))] [tupS W', .bl fl', dicF (pos (srt3 x' y' z'))] = some (decide (W = W') && ((fl == fl') && (decide (x = x' ∧ y = y' ∧ z = z') && true))) := by
    unfold epairs epairs epairs epairs
    rw [edt_tup, edt_bl, edt_dic h h']
  rw [e2]
  by_cases h1 : W = W' <;> by_cases h2 : fl = fl' <;> by_cases h3 : x = x' ∧ y = y' ∧ z = z' <;> simp [h1, h2, h3, beq_eq_false_iff_ne.mpr, Ne] <;> (cases fl <;> cases fl' <;> simp_all)
theorem eq_ok {ρ : Rho} : EqS (denR T ρ 8) := by
  intro W W' fl fl' x y z x' y' z' h h'
  rw [e_eq]
  unfold b_Options___eq__
  have o3 : 3 ≤ szl := szl_ge
  simp_arith [isi_opt, okA0, okA1, okA2, o3, eqx_opt h h']
theorem eqn_ok {ρ : Rho} : EqN (denR T ρ 8) := by
  intro o v h
  rw [e_eq]
  unfold b_Options___eq__
  have h : isiN (T.isi (Sum.inr 0)) [.frz v] = some (.frz (.bl false)) := h
  simp_arith [h]
abbrev op1 : Str := Str.ofString "Options("
abbrev cl1 : Str := Str.ofString ")"
theorem tg_op : TG 8 op1 := ⟨by decide +kernel, by decide +kernel⟩
theorem tg_cl : TG 1 cl1 := ⟨by decide +kernel, by decide +kernel⟩
theorem opt_str {r : Runs} : T.opt r CD.str 0 = some (T.reb 9, r 9) := by kernel_rfl
theorem opt_repr {r : Runs} : T.opt r CD.repr 0 = some (T.reb 10, r 10) := by kernel_rfl
theorem opt_eq {r : Runs} : T.opt r CD.eq 0 = some (T.reb 8, r 8) := by kernel_rfl
theorem reb8_0 : T.reb 8 0 = true := by kernel_rfl
theorem reb8_1 : T.reb 8 1 = true := by kernel_rfl
theorem reb9_0 : T.reb 9 0 = true := by kernel_rfl
theorem reb10_0 : T.reb 10 0 = true := by kernel_rfl
def ReprS (run : List OV → List (Str × FV) → Out OV) : Prop := ∀ (W : List Str) (fl : Bool) (l : KS), PartP W l → (l.map (·.1)).Nodup → WR (run [.frz (optF W fl l)] []) fun r cs => r = .frz (.str (op1 ++ textO W fl l ++ cl1)) ∧ cs = [some (.frz (optF W fl l))]
theorem repr_ok {ρ : Rho} (hs : StrS (ρ.d 9)) : ReprS (denR T ρ 10) := by
  intro W fl l P nd
  rw [e_repr]
  unfold b_Options___repr__
  have h0 : Str.empty.length = 0 := by kernel_rfl
  have t1 := (text_ok (fl := fl) P).2
  have z1 : Str.empty.length + op1.length ≤ szl := szl_ge (by have := len_of tg_op; omega)
  have z2 : op1.length + (textO W fl l).length ≤ szl := by
    exact szl_ge (by have := len_of tg_op; have := len_of t1; omega)
  have z3 : (op1 ++ textO W fl l).length + cl1.length ≤ szl := by
    exact szl_ge (by have := len_of (tg_op.app t1); have := len_of tg_cl; omega)
  simp_arith [z1, opt_str]
  refine WR.mono (hs W fl l P nd) ?_
  rintro r cs ⟨rfl, rfl⟩
  simp_arith [z2, z3, Str.empty_append]
end Lw
end

noncomputable section
set_option maxHeartbeats 8000000
namespace Lw
open PySem L2 Tv
open PySem (Str)
theorem e_law {ρ : Rho} {a : OV} {Q : OV → Slots → Prop} : WR (denR T ρ 22 [a] []) Q = Tv.W (b_law ρ) [some a, none, none, none, none, none, none, none, none, none] fun fl s => Q fl.val (outR 1 (own1 [1, 2, 3, 4, 5, 6, 7, 8]) s) :=
  wr_den (fd := f_law) (vs := [a.fz]) (rest := []) (ex := []) (by kernel_rfl) (b_law_eq ρ) (by kernel_rfl) (by decide) (by kernel_rfl) (by kernel_rfl) (by kernel_rfl)
theorem e_minit {ρ : Rho} {o : OV} {Q : OV → Slots → Prop} : WR (denR T ρ 12 [o] []) Q = Tv.W (b_Machine___init__ ρ) [some o, some (.frz (.tup []))] fun fl s => Q fl.val (outR 1 (own1 []) s) :=
  wr_den (fd := f_Machine___init__) (vs := [o.fz]) (rest := []) (ex := []) (by kernel_rfl) (b_Machine___init___eq ρ) (by kernel_rfl) (by decide) (by kernel_rfl) (by kernel_rfl) (by kernel_rfl)
theorem okA4 : T.okA 4 1 = true := by kernel_rfl
def MakeM (run : List OV → List (Str × FV) → Out OV) : Prop := WR (run [.obj 1 [] []] []) fun r cs => r = .frz .non ∧ cs = [some (.obj 1 [4] [.frz (.tup [])])]
theorem makem_ok {ρ : Rho} (hN : NamesS (ρ.c 4)) (hW : FewS (ρ.c 6)) : MakeM (denR T ρ 12) := by
  unfold MakeM
  rw [e_minit]
  unfold b_Machine___init__
  simp_arith [reb4_0]
  have h := hN [] (by decide) (by simp)
  rw [nms_nil] at h
  refine WR.mono h ?_
  rintro r cs ⟨rfl, rfl⟩
  simp_arith [okA4, reb6_0, reb6_1]
  refine WR.mono (hW [] 8 (by decide)) ?_
  rintro r cs ⟨rfl, rfl⟩
  simp_arith []
  rfl
abbrev o00 : OV := optO (tupS []) false []
def Eq0 (run : List OV → List (Str × FV) → Out OV) : Prop := WR (run [o00, o00] []) fun r cs => r = .frz (.bl true) ∧ ∃ a b, cs = [some a, some b]
def Str0 (run : List OV → List (Str × FV) → Out OV) : Prop := WR (run [o00] []) fun r cs => r = .frz (.str (Str.ofString "")) ∧ ∃ a, cs = [some a]
def Repr0 (run : List OV → List (Str × FV) → Out OV) : Prop := WR (run [o00] []) fun r cs => r = .frz (.str (Str.ofString "Options()")) ∧ ∃ a, cs = [some a]
theorem isi_o00 : isiN (T.isi (Sum.inr 0)) [o00] = some (.frz (.bl true)) := by kernel_rfl
theorem eqx_00 : eqx2 (.frz (.tup [tupS [], .bl false, .dic [] []])) (.frz (.tup [tupS [], .bl false, .dic [] []])) = some (fbl true) := by kernel_rfl
theorem eq0_ok {ρ : Rho} : Eq0 (denR T ρ 8) := by
  unfold Eq0
  rw [e_eq]
  unfold b_Options___eq__
  have o3 : 3 ≤ szl := szl_ge
  have z : isiN (T.isi (Sum.inr 0)) [.obj 0 [0, 1, 2] [.frz (.tup []), .frz (.bl false), .dic [] []]] = some (.frz (.bl true)) := isi_o00
  have z2 := eqx_00
  simp_arith [List.map_nil, isi_o00, okA0, okA1, okA2, o3, eqx_00]
  exact ⟨_, _, rfl⟩
theorem str0_ok {ρ : Rho} : Str0 (denR T ρ 9) := by
  unfold Str0
  rw [e_str]
  unfold b_Options___str__
  have fk : (fkeys []).isSome = true := rfl
  have o0 : 0 ≤ szl := szl_ge
  have o1 : 1 ≤ szl := szl_ge
  have ml : mul2 (.lst [.frz (.str st1)]) (.frz (.int 0)) = some (.lst []) := by kernel_rfl
  have jn : joinN [.frz (.str sp1), .lst []] = some (.frz (.str (Str.ofString ""))) := by kernel_rfl
  simp_arith [List.map_nil, okA0, okA1, okA2, fk, o0, o1, ml, jn]
  exact ⟨_, rfl⟩
theorem text0 : textO [] false [] = Str.ofString "" := by kernel_rfl
theorem rp0 : Str.empty ++ op1 ++ Str.ofString "" ++ cl1 = Str.ofString "Options()" := by kernel_rfl
theorem rp0' : op1 ++ Str.ofString "" ++ cl1 = Str.ofString "Options()" := by kernel_rfl
theorem eqx_s {a b : Str} : eqx2 (.frz (.str a)) (.frz (.str b)) = some (fbl (a == b)) := rfl
theorem repr0_ok {ρ : Rho} (hs : StrS (ρ.d 9)) : Repr0 (denR T ρ 10) := by
  unfold Repr0
  rw [e_repr]
  unfold b_Options___repr__
  have P0 : PartP [] [] := ⟨by simp, by simp, by simp, by simp, by simp, by simp⟩
  have h := hs [] false [] P0 (by simp)
  rw [text0] at h
  have z1 : Str.empty.length + op1.length ≤ szl := szl_ge (by decide +kernel)
  have z2 : (Str.empty ++ op1).length + (Str.ofString "").length ≤ szl := szl_ge (by decide +kernel)
  have z3 : (Str.empty ++ op1 ++ Str.ofString "").length + cl1.length ≤ szl := szl_ge (by decide +kernel)
  simp_arith [z1, opt_str, reb9_0, List.map_nil]
  refine WR.mono h ?_
  rintro r cs ⟨rfl, rfl⟩
  simp_arith [z2, z3, rp0]
  exact ⟨_, rfl⟩
structure LawH (ρ : Rho) : Prop where
  src : SourceS (ρ.c 15)
  drawn : DrawnS (ρ.c 18)
  other : OtherS (ρ.c 19)
  made : MadeS (ρ.c 20)
  words : WordsS (ρ.c 21)
  m0 : Make0 (ρ.m 7)
  m1 : Make1 (ρ.m 7)
  mm : MakeM (ρ.m 12)
  eq : EqS (ρ.d 8)
  eqn : EqN (ρ.d 8)
  str : StrS (ρ.d 9)
  repr : ReprS (ρ.d 10)
  e0 : Eq0 (ρ.d 8)
  s0 : Str0 (ρ.d 9)
  r0 : Repr0 (ρ.d 10)
theorem reb15_0 : T.reb 15 0 = true := by kernel_rfl
theorem reb15_1 : T.reb 15 1 = true := by kernel_rfl
theorem reb18_0 : T.reb 18 0 = false := by kernel_rfl
theorem reb19_0 : T.reb 19 0 = false := by kernel_rfl
theorem reb19_1 : T.reb 19 1 = true := by kernel_rfl
theorem reb20_0 : T.reb 20 0 = true := by kernel_rfl
theorem reb21_0 : T.reb 21 0 = true := by kernel_rfl
theorem strsL_ob {xs : List Str} : (strsL xs).ob = none := rfl
theorem ofl_ob {xs : List FV} : (OV.ofl xs).ob = none := rfl
theorem eq_tail {x y z x' y' z' : Int} {fl fl' : Bool} : eqx2 (OV.ofl [.int x, .int y, .int z, .bl fl]) (OV.ofl [.int x', .int y', .int z', .bl fl']) = some (fbl (x == x' && (y == y' && (z == z' && ((fl == fl') && true))))) := rfl
theorem fzs_ints (l : KS) : OV.fzs (l.map fun q => OV.frz (.int q.2)) = l.map fun q => FV.int q.2 := by
  rw [fzs_map, List.map_map]
  rfl
theorem rp_t : reprB [.frz (.bl true)] = some (.frz (.str (Str.ofString "True"))) := rfl
theorem rp_f : reprB [.frz (.bl false)] = some (.frz (.str (Str.ofString "False"))) := rfl
theorem ne_s {a b : Str} : ne2 (.frz (.str a)) (.frz (.str b)) = some (fbl (!(a == b))) := rfl
theorem okE_opt {W : List Str} {fl : Bool} {l : KS} : T.okE 0 (.frz (optF W fl l)) = true := by kernel_rfl
theorem okE_non : T.okE 0 (.frz .non) = true := by kernel_rfl
theorem okE_str {x : Str} : T.okE 0 (.frz (.str x)) = true := by kernel_rfl
theorem okE_mac : T.okE 0 (.frz (.obj 1 [4] [.tup []])) = true := by kernel_rfl
theorem okE_tup : T.okE 0 (.frz (.tup [])) = true := by kernel_rfl
theorem okE_int {i : Int} : T.okE 0 (.frz (.int i)) = true := by kernel_rfl
theorem no_non : notO .non := by unfold notO; kernel_rfl
theorem no_str {x : Str} : notO (.str x) := by unfold notO; kernel_rfl
theorem no_mac : notO (.obj 1 [4] [.tup []]) := by unfold notO; kernel_rfl
theorem no_tup : notO (.tup []) := by unfold notO; kernel_rfl
theorem no_int {i : Int} : notO (.int i) := by unfold notO; kernel_rfl
theorem mul5 : mul2 (.lst [.frz (.bl false)]) (.frz (.int 5)) = some (.lst [.frz (.bl false), .frz (.bl false), .frz (.bl false), .frz (.bl false), .frz (.bl false)]) := by kernel_rfl
theorem ne5 : ne2 (.lst [.frz (.bl false), .frz (.bl false), .frz (.bl false), .frz (.bl false), .frz (.bl false)]) (.lst [.frz (.bl false), .frz (.bl false), .frz (.bl false), .frz (.bl false), .frz (.bl false)]) = some (fbl false) := by kernel_rfl
theorem okE_optO {W : FV} {fl : Bool} {l : KS} : T.okE 0 (optO W fl l) = true := by kernel_rfl
theorem pos_nd {x y z : Int} : ((pos (srt3 x y z)).map (·.1)).Nodup := by
  have h : ((srt3 x y z).map (·.1)).Nodup := by show [kA, kC, kZ].Nodup; decide +kernel
  unfold pos
  exact h.sublist (List.Sublist.map _ List.filter_sublist)
theorem tx_le {W : List Str} {fl : Bool} {l : KS} (P : PartP W l) : op1.length + (textO W fl l).length ≤ szl ∧ (op1 ++ textO W fl l).length + cl1.length ≤ szl := by
  have t1 := (text_ok (fl := fl) P).2
  exact ⟨szl_ge (by have := len_of tg_op; have := len_of t1; omega), szl_ge (by have := len_of (tg_op.app t1); have := len_of tg_cl; omega)⟩
theorem law_ok {ρ : Rho} (H : LawH ρ) {ns : List Int} : WR (denR T ρ 22 [.frz (.scr ns)] []) fun r _ => r = .frz (.bl true) := by
  rw [e_law]
  unfold b_law
  have hs : small (imax 1 (imin 3 (ns.length : Int))) = true := small_ok (by unfold imax imin; split <;> split <;> omega)
  simp_arith [hs]
  refine Tv.w_tfr (I := fun xs s => (∀ x ∈ xs, ∃ i : Int, x = .int i ∧ 0 ≤ i ∧ i < 64) ∧ ∃ o1 o2 o3 o4 o5 o6 o7 o8, s = [some (.frz (.scr ns)), o1, o2, o3, o4, o5, o6, o7, o8, none]) ?_ ?_ ?_
  · refine ⟨fun x m => ?_, _, _, _, _, _, _, _, _, rfl⟩
    unfold rng at m
    obtain ⟨i, hi, e⟩ := List.mem_map.mp m
    refine ⟨_, e.symm, by omega, ?_⟩
    have := List.mem_range.mp hi
    have h2 : (imax 1 (imin 3 (ns.length : Int))).toNat ≤ 3 := by unfold imax imin; split <;> split <;> omega
    omega
  · rintro x r s ⟨hx, o1, o2, o3, o4, o5, o6, o7, o8, rfl⟩
    obtain ⟨i, rfl, i0, i1⟩ := hx x List.mem_cons_self
    simp_arith [reb15_0, reb15_1]
    refine WR.mono (H.src ns i i0 i1) ?_
    rintro r' cs ⟨f, b, rfl, S0, rfl⟩
    have h5 : small 5 = true := small_ok (by omega)
    simp_arith [h5]
    refine Tv.w_tfr (I := fun xs s => ∃ (K f k : Int) (o3 o4 o5 o6 o7 o8 : Option OV), SrcP K f b k ∧ K + 80 * xs.length ≤ 400 ∧ s = [some (.frz (.scr ns)), some (.frz (.int i)), some (srcO f b k), o3, o4, o5, o6, o7, o8, none]) ?_ ?_ ?_
    · exact ⟨0, f, 0, _, _, _, _, _, _, S0, by simp [rng], rfl⟩
    · rintro x' r' s ⟨K, f2, k2, o3, o4, o5, o6, o7, o8, S, hK, rfl⟩
      have hK : K + 80 + 80 * (r'.length : Int) ≤ 400 := by simp at hK; omega
      simp_arith [reb18_0]
      refine WR.mono (H.drawn K f2 b k2 S (by omega)) ?_
      rintro r2 cs ⟨ws, x, y, z, fl, f3, k3, rfl, P, S2, rfl⟩
      simp_arith [reb19_0, reb19_1]
      refine WR.mono (H.other (K + 40) f3 b k3 ws x y z fl S2 (by omega) P) ?_
      rintro r2 cs ⟨ws', x', y', z', fl', f4, k4, ⟨os, rfl, hos⟩, ⟨P', hn'⟩, S3, rfl⟩
      have hn : (nms ws).length ≤ 5 := by
        rw [nms_len]
        have := dd_len ws
        have := P.n
        omega
      have hn' : (nms ws').length ≤ 5 := by
        rcases hn' with h | h
        · rw [nms_len]
          have := dd_len ws'
          omega
        · rw [nms_ext h]; exact hn
      have P6 : ToldP 6 ws x y z := ⟨P.w, by have := P.n; omega, P.a0, P.a1, P.b0, P.b1, P.c⟩
      simp_arith [reb20_0]
      refine WR.mono (H.made ws x y z fl P6 hn) ?_
      rintro r2 cs ⟨rfl, rfl⟩
      simp_arith [reb20_0, hos]
      refine WR.mono (H.made ws' x' y' z' fl' P' hn') ?_
      rintro r2 cs ⟨rfl, rfl⟩
      have hc : ws.length < cap := by have := P.n; unfold cap; omega
      have hc' : ws'.length < cap := by have := P'.n; unfold cap; omega
      have hd : (dd ws).length < 64 := by rw [← nms_len]; omega
      have hd' : (dd ws').length < 64 := by rw [← nms_len]; omega
      have hm : sortL (dd ws) = nms ws := rfl
      have hm' : sortL (dd ws') = nms ws' := rfl
      have N : NumP x y z := ⟨P.a0, by have := P.a1; omega, P.b0, P.b1, by have := P.c; omega, by have := P.c; omega⟩
      have N' : NumP x' y' z' := ⟨P'.a0, by have := P'.a1; omega, P'.b0, P'.b1, by have := P'.c; omega, by have := P'.c; omega⟩
      have o2 : 2 ≤ szl := szl_ge
      simp_arith [hos, o2, rawOf, fstrs_str, hc, hc', hd, hd', hm, hm', strsL_ob, ofl_ob, slF, cutF_1, eqd_lst, eq_tail, List.drop_succ_cons, List.drop_zero]
      have nd : ((pos (srt3 x y z)).map (·.1)).Nodup := pos_nd
      have nd' : ((pos (srt3 x' y' z')).map (·.1)).Nodup := pos_nd
      have PP := part_ok P6 hn
      have PP' := part_ok P' hn'
      have hw := tx_le (fl := fl) PP
      have hw' := tx_le (fl := fl') PP'
      have big : (if nms ws = nms ws' then (x == x' && (y == y' && (z == z' && fl == fl'))) else false) = decide (nms ws = nms ws' ∧ fl = fl' ∧ x = x' ∧ y = y' ∧ z = z') := by
        by_cases h1 : nms ws = nms ws' <;> by_cases h2 : x = x' <;> by_cases h3 : y = y' <;> by_cases h4 : z = z' <;> cases fl <;> cases fl' <;> simp [h1, h2, h3, h4]
      have swap : decide (nms ws' = nms ws ∧ fl' = fl ∧ x' = x ∧ y' = y ∧ z' = z) = decide (nms ws = nms ws' ∧ fl = fl' ∧ x = x' ∧ y = y' ∧ z = z') := by
        congr 1
        exact propext ⟨fun ⟨a, b, c, d, e⟩ => ⟨a.symm, b.symm, c.symm, d.symm, e.symm⟩, fun ⟨a, b, c, d, e⟩ => ⟨a.symm, b.symm, c.symm, d.symm, e.symm⟩⟩
      have self1 : decide (nms ws = nms ws ∧ fl = fl ∧ x = x ∧ y = y ∧ z = z) = true := by simp
      by_cases hA : nms ws = nms ws'
      · rw [if_pos hA] at big
        rw [if_pos hA, big]
        generalize hD : decide (nms ws = nms ws' ∧ fl = fl' ∧ x = x' ∧ y = y' ∧ z = z') = D at big swap ⊢
        cases D
        all_goals
          simp_arith [opt_eq, okE_optO, reb8_0, reb8_1, fzs_ints]
          refine WR.mono (H.eq (nms ws) (nms ws') fl fl' x y z x' y' z' N N') ?_
          rintro r5 cs5 ⟨rfl, rfl⟩
          simp_arith [fzs_ints, hD, rp_t, rp_f, ne_s, opt_eq, okE_opt, reb8_0, reb8_1]
          refine WR.mono (H.eq (nms ws') (nms ws) fl' fl x' y' z' x y z N' N) ?_
          rintro r5 cs5 ⟨rfl, rfl⟩
          simp_arith [fzs_ints, swap, rp_t, rp_f, ne_s, opt_eq, okE_opt, reb8_0, reb8_1]
          refine WR.mono (H.eq (nms ws) (nms ws) fl fl x y z x y z N N) ?_
          rintro r5 cs5 ⟨rfl, rfl⟩
          simp_arith [fzs_ints, self1, chNe, opt_str, reb9_0]
          refine WR.mono (H.str (nms ws) fl _ PP nd) ?_
          rintro r5 cs5 ⟨rfl, rfl⟩
          simp_arith [fzs_ints, reb21_0]
          refine WR.mono (H.words ws x y z fl P6 hn) ?_
          rintro r5 cs5 ⟨rfl, rfl⟩
          simp_arith [fzs_ints, ne_s, opt_repr, reb10_0]
          refine WR.mono (H.repr (nms ws') fl' _ PP' nd') ?_
          rintro r5 cs5 ⟨rfl, rfl⟩
          simp_arith [fzs_ints, reb21_0]
          refine WR.mono (H.words ws' x' y' z' fl' P' hn') ?_
          rintro r5 cs5 ⟨rfl, rfl⟩
          simp_arith [fzs_ints, ne_s, hw'.1, hw'.2, opt_str, reb9_0]
          refine WR.mono (H.str (nms ws) fl _ PP nd) ?_
          rintro r5 cs5 ⟨rfl, rfl⟩
          simp_arith [fzs_ints]
          refine WR.mono H.mm ?_
          rintro r5 cs5 ⟨rfl, rfl⟩
          have o5 : 5 ≤ szl := szl_ge
          have o0 : 0 ≤ szl := szl_ge
          have lt0 : 0 < szl := Nat.lt_of_lt_of_le (by decide : 0 < 100) szl_ge
          have lt1 : 1 < szl := Nat.lt_of_lt_of_le (by decide : 1 < 100) szl_ge
          have lt2' : 2 < szl := Nat.lt_of_lt_of_le (by decide : 2 < 100) szl_ge
          have lt3 : 3 < szl := Nat.lt_of_lt_of_le (by decide : 3 < 100) szl_ge
          have lt4 : 4 < szl := Nat.lt_of_lt_of_le (by decide : 4 < 100) szl_ge
          simp_arith [fzs_ints, lt0, lt1, lt2', lt3, lt4, o5, o0, ↓w_tlcr_cons, opt_eq, okE_non, okE_str, okE_mac, okE_tup, okE_int, reb8_0, reb8_1]
          refine WR.mono (H.eqn _ _ no_non) ?_
          rintro r5 cs5 ⟨rfl, rfl⟩
          simp_arith [fzs_ints, lt0, lt1, lt2', lt3, lt4, o5, o0, ↓w_tlcr_cons, opt_eq, okE_non, okE_str, okE_mac, okE_tup, okE_int, reb8_0, reb8_1, mul5, ne5]
          refine WR.mono (H.eqn _ _ no_str) ?_
          rintro r5 cs5 ⟨rfl, rfl⟩
          simp_arith [fzs_ints, lt0, lt1, lt2', lt3, lt4, o5, o0, ↓w_tlcr_cons, opt_eq, okE_non, okE_str, okE_mac, okE_tup, okE_int, reb8_0, reb8_1, mul5, ne5]
          refine WR.mono (H.eqn _ _ no_mac) ?_
          rintro r5 cs5 ⟨rfl, rfl⟩
          simp_arith [fzs_ints, lt0, lt1, lt2', lt3, lt4, o5, o0, ↓w_tlcr_cons, opt_eq, okE_non, okE_str, okE_mac, okE_tup, okE_int, reb8_0, reb8_1, mul5, ne5]
          refine WR.mono (H.eqn _ _ no_tup) ?_
          rintro r5 cs5 ⟨rfl, rfl⟩
          simp_arith [fzs_ints, lt0, lt1, lt2', lt3, lt4, o5, o0, ↓w_tlcr_cons, opt_eq, okE_non, okE_str, okE_mac, okE_tup, okE_int, reb8_0, reb8_1, mul5, ne5]
          refine WR.mono (H.eqn _ _ no_int) ?_
          rintro r5 cs5 ⟨rfl, rfl⟩
          simp_arith [fzs_ints, lt0, lt1, lt2', lt3, lt4, o5, o0, ↓w_tlcr_cons, opt_eq, okE_non, okE_str, okE_mac, okE_tup, okE_int, reb8_0, reb8_1, mul5, ne5]
          exact ⟨szl_ge, K + 40 + 40, f4, k4, _, _, _, _, _, _, S3, by omega, rfl⟩
      · rw [if_neg hA] at big
        rw [if_neg hA]
        have hD := big.symm
        rw [hD] at swap
        simp_arith [opt_eq, okE_optO, reb8_0, reb8_1, fzs_ints]
        refine WR.mono (H.eq (nms ws) (nms ws') fl fl' x y z x' y' z' N N') ?_
        rintro r5 cs5 ⟨rfl, rfl⟩
        simp_arith [fzs_ints, hD, rp_t, rp_f, ne_s, opt_eq, okE_opt, reb8_0, reb8_1]
        refine WR.mono (H.eq (nms ws') (nms ws) fl' fl x' y' z' x y z N' N) ?_
        rintro r5 cs5 ⟨rfl, rfl⟩
        simp_arith [fzs_ints, swap, rp_t, rp_f, ne_s, opt_eq, okE_opt, reb8_0, reb8_1]
        refine WR.mono (H.eq (nms ws) (nms ws) fl fl x y z x y z N N) ?_
        rintro r5 cs5 ⟨rfl, rfl⟩
        simp_arith [fzs_ints, self1, chNe, opt_str, reb9_0]
        refine WR.mono (H.str (nms ws) fl _ PP nd) ?_
        rintro r5 cs5 ⟨rfl, rfl⟩
        simp_arith [fzs_ints, reb21_0]
        refine WR.mono (H.words ws x y z fl P6 hn) ?_
        rintro r5 cs5 ⟨rfl, rfl⟩
        simp_arith [fzs_ints, ne_s, opt_repr, reb10_0]
        refine WR.mono (H.repr (nms ws') fl' _ PP' nd') ?_
        rintro r5 cs5 ⟨rfl, rfl⟩
        simp_arith [fzs_ints, reb21_0]
        refine WR.mono (H.words ws' x' y' z' fl' P' hn') ?_
        rintro r5 cs5 ⟨rfl, rfl⟩
        simp_arith [fzs_ints, ne_s, hw'.1, hw'.2, opt_str, reb9_0]
        refine WR.mono (H.str (nms ws) fl _ PP nd) ?_
        rintro r5 cs5 ⟨rfl, rfl⟩
        simp_arith [fzs_ints]
        refine WR.mono H.mm ?_
        rintro r5 cs5 ⟨rfl, rfl⟩
        have o5 : 5 ≤ szl := szl_ge
        have o0 : 0 ≤ szl := szl_ge
        have lt0 : 0 < szl := Nat.lt_of_lt_of_le (by decide : 0 < 100) szl_ge
        have lt1 : 1 < szl := Nat.lt_of_lt_of_le (by decide : 1 < 100) szl_ge
        have lt2' : 2 < szl := Nat.lt_of_lt_of_le (by decide : 2 < 100) szl_ge
        have lt3 : 3 < szl := Nat.lt_of_lt_of_le (by decide : 3 < 100) szl_ge
        have lt4 : 4 < szl := Nat.lt_of_lt_of_le (by decide : 4 < 100) szl_ge
        simp_arith [fzs_ints, lt0, lt1, lt2', lt3, lt4, o5, o0, ↓w_tlcr_cons, opt_eq, okE_non, okE_str, okE_mac, okE_tup, okE_int, reb8_0, reb8_1]
        refine WR.mono (H.eqn _ _ no_non) ?_
        rintro r5 cs5 ⟨rfl, rfl⟩
        simp_arith [fzs_ints, lt0, lt1, lt2', lt3, lt4, o5, o0, ↓w_tlcr_cons, opt_eq, okE_non, okE_str, okE_mac, okE_tup, okE_int, reb8_0, reb8_1, mul5, ne5]
        refine WR.mono (H.eqn _ _ no_str) ?_
        rintro r5 cs5 ⟨rfl, rfl⟩
        simp_arith [fzs_ints, lt0, lt1, lt2', lt3, lt4, o5, o0, ↓w_tlcr_cons, opt_eq, okE_non, okE_str, okE_mac, okE_tup, okE_int, reb8_0, reb8_1, mul5, ne5]
        refine WR.mono (H.eqn _ _ no_mac) ?_
        rintro r5 cs5 ⟨rfl, rfl⟩
        simp_arith [fzs_ints, lt0, lt1, lt2', lt3, lt4, o5, o0, ↓w_tlcr_cons, opt_eq, okE_non, okE_str, okE_mac, okE_tup, okE_int, reb8_0, reb8_1, mul5, ne5]
        refine WR.mono (H.eqn _ _ no_tup) ?_
        rintro r5 cs5 ⟨rfl, rfl⟩
        simp_arith [fzs_ints, lt0, lt1, lt2', lt3, lt4, o5, o0, ↓w_tlcr_cons, opt_eq, okE_non, okE_str, okE_mac, okE_tup, okE_int, reb8_0, reb8_1, mul5, ne5]
        refine WR.mono (H.eqn _ _ no_int) ?_
        rintro r5 cs5 ⟨rfl, rfl⟩
        simp_arith [fzs_ints, lt0, lt1, lt2', lt3, lt4, o5, o0, ↓w_tlcr_cons, opt_eq, okE_non, okE_str, okE_mac, okE_tup, okE_int, reb8_0, reb8_1, mul5, ne5]
        exact ⟨szl_ge, K + 40 + 40, f4, k4, _, _, _, _, _, _, S3, by omega, rfl⟩
    · rintro s ⟨K, f5, k5, o3, o4, o5, o6, o7, o8, S, hK, rfl⟩
      simp_arith []
      exact ⟨fun x m => hx x (List.mem_cons_of_mem _ m), _, _, _, _, _, _, _, _, rfl⟩
  · rintro s ⟨hx, o1, o2, o3, o4, o5, o6, o7, o8, rfl⟩
    simp_arith []
    refine WR.mono H.m1 ?_
    rintro r5 cs5 ⟨rfl, rfl⟩
    simp_arith [tput_nc]
    refine WR.mono H.m0 ?_
    rintro r5 cs5 ⟨rfl, rfl⟩
    simp_arith [tput_nc, opt_eq, okE_optO, reb8_0, reb8_1, fzs_ints, List.map_nil]
    refine WR.mono H.e0 ?_
    rintro r5 cs5 ⟨rfl, a5, b5, rfl⟩
    simp_arith [tput_nc]
    refine WR.mono H.m0 ?_
    rintro r5 cs5 ⟨rfl, rfl⟩
    simp_arith [tput_nc, opt_str, reb9_0]
    refine WR.mono H.s0 ?_
    rintro r5 cs5 ⟨rfl, a6, rfl⟩
    simp_arith [eqx_s, beq_self_eq_true]
    refine WR.mono H.m0 ?_
    rintro r5 cs5 ⟨rfl, rfl⟩
    simp_arith [tput_nc, opt_repr, reb10_0]
    refine WR.mono H.r0 ?_
    rintro r5 cs5 ⟨rfl, a7, rfl⟩
    simp_arith [eqx_s, beq_self_eq_true]
end Lw
end

noncomputable section
set_option maxHeartbeats 4000000
namespace Lw
open PySem L2 Tv PyProof.Rows
open PySem (Str)
theorem s_source (n : Nat) : SourceS (hist T (n + 1) 0 15) := source_ok
theorem s_draw (n : Nat) : DrawS (hist T (n + 1) 0 16) := draw_ok
theorem s_word (n : Nat) : WordS (hist T (n + 2) 0 17) := word_ok (s_draw n)
theorem s_drawn (n : Nat) : DrawnS (hist T (n + 3) 0 18) := drawn_ok (s_draw (n + 1)) (s_word n)
theorem s_other (n : Nat) : OtherS (hist T (n + 3) 0 19) := other_ok (s_draw (n + 1)) (s_word n)
theorem s_isint (n : Nat) : IsIntS (hist T (n + 1) 0 0) := isint_ok
theorem s_isname (n : Nat) : IsNameS (hist T (n + 1) 0 1) := isname_ok
theorem s_iskind (n : Nat) : IsKindS (hist T (n + 2) 0 2) := iskind_ok (s_isname n)
theorem s_asc (n : Nat) : AscS (hist T (n + 1) 0 3) := asc_ok
theorem s_names (n : Nat) : NamesS (hist T (n + 2) 0 4) := names_ok (s_isname n) (s_asc n)
theorem s_flag (n : Nat) : FlagS (hist T (n + 1) 0 5) := flag_ok
theorem s_few (n : Nat) : FewS (hist T (n + 1) 0 6) := few_ok
theorem s_lay (n : Nat) : LayS (hist T (n + 3) 0 11) := lay_ok (s_isint (n + 1)) (s_iskind n)
theorem s_init (n : Nat) : InitH ⟨hist T (n + 3) 0, hist T (n + 3) 1, hist T (n + 3) 4⟩ := ⟨s_names (n + 1), s_few (n + 2), s_flag (n + 2), s_lay n⟩
theorem s_make0 (n : Nat) : Make0 (hist T (n + 4) 0 7) := make0_ok (s_init n)
theorem s_make1 (n : Nat) : Make1 (hist T (n + 4) 0 7) := make1_ok (s_init n)
theorem s_make4 (n : Nat) : Make4 (hist T (n + 4) 0 7) := make4_ok (s_init n)
theorem s_make6 (n : Nat) : Make6 (hist T (n + 4) 0 7) := make6_ok (s_init n)
theorem s_makem (n : Nat) : MakeM (hist T (n + 3) 0 12) := makem_ok (s_names n) (s_few (n + 1))
theorem s_made (n : Nat) : MadeS (hist T (n + 6) 0 20) := made_ok (ρ := ⟨hist T (n + 5) 0, hist T (n + 5) 1, hist T (n + 5) 4⟩) (s_make4 n) (s_make6 n)
theorem s_words (n : Nat) : WordsS (hist T (n + 1) 0 21) := words_ok
theorem s_eq (n : Nat) : EqS (hist T (n + 1) 0 8) := eq_ok
theorem s_eqn (n : Nat) : EqN (hist T (n + 1) 0 8) := eqn_ok
theorem s_eq0 (n : Nat) : Eq0 (hist T (n + 1) 0 8) := eq0_ok
theorem s_str (n : Nat) : StrS (hist T (n + 1) 0 9) := str_ok
theorem s_str0 (n : Nat) : Str0 (hist T (n + 1) 0 9) := str0_ok
theorem s_repr (n : Nat) : ReprS (hist T (n + 6) 0 10) := repr_ok (ρ := ⟨hist T (n + 5) 0, hist T (n + 5) 1, hist T (n + 5) 4⟩) (s_str n)
theorem s_repr0 (n : Nat) : Repr0 (hist T (n + 6) 0 10) := repr0_ok (ρ := ⟨hist T (n + 5) 0, hist T (n + 5) 1, hist T (n + 5) 4⟩) (s_str n)
theorem s_law : LawH ⟨hist T 10 0, hist T 10 1, hist T 10 4⟩ :=
  ⟨s_source 9, s_drawn 7, s_other 7, s_made 4, s_words 9, s_make0 5, s_make1 5, s_makem 6, s_eq 5, s_eqn 5, s_str 5, s_repr 0, s_eq0 5, s_str0 5, s_repr0 0⟩
theorem main (ns : List Int) (_ : ns.length ≤ 63) : ∃ t, hist T 11 0 lawI [.frz (.scr ns)] [] = .ok (.frz (.bl true)) t := by
  have h : WR (hist T 11 0 22 [.frz (.scr ns)] []) fun r _ => r = .frz (.bl true) := law_ok s_law
  show ∃ t, hist T 11 0 22 [.frz (.scr ns)] [] = .ok (.frz (.bl true)) t
  unfold WR at h
  cases e : hist T 11 0 22 [.frz (.scr ns)] [] with
  | ok a s =>
    rw [e] at h
    have h : a = .frz (.bl true) := h
    rw [h]
    exact ⟨s, rfl⟩
  | exc x s => rw [e] at h; exact h.elim
  | bad => rw [e] at h; exact h.elim
theorem room : Room (11 + 4) callerA := ⟨rfl, by decide, by decide⟩
end Lw
end

noncomputable section
set_option maxHeartbeats 0
namespace Lw
open PySem L2 Tv PyProof.Rows
theorem holds (N : Nat) (hr : Room (N + 4) callerA) (main : ∀ ns : List Int, ns.length ≤ 63 → ∃ t, hist T N 0 lawI [.frz (.scr ns)] [] = .ok (.frz (.bl true)) t) : PySem.Challenge.rw_keptcopy_k02_options_compared_and_writte.Holds := by
  w_on; o_law
  refine HandSHeadRun.head_any (r := PySem.W.OpenLaw.row PySem.Challenge.rw_keptcopy_k02_options_compared_and_writte) (q := PySem.W.view (PySem.W.OpenLaw.row PySem.Challenge.rw_keptcopy_k02_options_compared_and_writte).prog [30]) (H := Lw.hk) (ob := Lw.ob) (M := 30000) (loose := Lw.names) (d := HandSHeadRun.topDef (PySem.W.OpenLaw.row PySem.Challenge.rw_keptcopy_k02_options_compared_and_writte).prog 30) (kwd := []) Lw.ob_eq
    (by kernel_rfl) (fun s => by kernel_rfl) Lw.run (by kernel_rfl) (by kernel_rfl) (by kernel_rfl) (by rfl) (by first | assumption | decide +kernel) (by decide +kernel) ⟨rfl, rfl, rfl, rfl, rfl, by decide +kernel⟩ ?hw ?hc
  case hw => w_witness2
  case hc =>
    exact walk_T (l := PySem.Challenge.rw_keptcopy_k02_options_compared_and_writte) (n := 63) (N := N) (fd := f_law) T pth lawI rfl (by decide) (by kernel_rfl) hr (by kernel_rfl) fnsT (by kernel_rfl) (by kernel_rfl) main
theorem proved : PySem.Challenge.rw_keptcopy_k02_options_compared_and_writte.Holds := holds 11 room main
end Lw
end

theorem PySem.Challenge.cw_keptcopy_k02_options_compared_and_writte_holds : PySem.Challenge.rw_keptcopy_k02_options_compared_and_writte.Holds := by
  exact Lw.proved
