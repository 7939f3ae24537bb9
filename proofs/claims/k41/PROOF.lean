import PyProof.Rows.All
import Wide.All
import OpenK.AllK
import Wide.FinOn
import KE.KStateDown
import Lean
import HandS.ForMost
import HandS.Head0
import HandS.Head1
import HandS.Head2
import HandS.HeadEnd
import HandS.HeadHook1
import HandS.HeadHook2
import PyProof.NeKinds
import HandS.Exc
import HandS.Defaults
import HandS.ExcOwn
import HandS.CallSlots
import HandS.Wide
import HandS.IsInst
import HandS.ListEq
import HandS.Codes
import HandS.Words
import HandS.DeepEq
import HandS.Dict
import PySem.Challenge.RW_pairorder_k41_shortages_judged
set_option Elab.async false
set_option linter.all false
set_option maxRecDepth 100000
set_option maxHeartbeats 2000000
/-! D1: values without addresses, ownership, the frame predicate. -/
namespace Dv
open PySem PySem.Spec PyProof.Rows L2

/-- a key of a dict: an int or a text, or a tuple of them -/
inductive Ky where
  | k (a : Key) | t (as : List Key)
  deriving DecidableEq

/-- a Python value, by value -/
inductive D where
  | non | bl (b : Bool) | int (i : Int) | str (x : Str)
  | lst (xs : List D) | tup (xs : List D) | dic (ks : List Ky) (vs : List D) | ins (c : Nat) (fs : List D) | exc (c : Nat) (fs : List D) | scr (ns : List Int)

/-- the program's classes: where each stands, its attributes in the order of __init__ -/
structure Cl where
  ad : Nat → Addr
  lay : Nat → List Str

/-- ownership: u nothing is known; s a scalar; z shared; o w a list or dict of our own, items w; t ws a tuple or instance of our own; c the bare object as it stands -/
inductive W where
  | u | s | z | o (w : W) | t (ws : List W) | c (o : HO)

inductive Sc : V → D → Prop
  | non : Sc .non .non
  | bl (b : Bool) : Sc (.bl b) (.bl b)
  | int (i : Int) : Sc (.int i) (.int i)
  | str (x : Str) : Sc (.str x) (.str x)

mutual
/-- v stands for d in what is frozen -/
inductive Rp (K : PySem.W.Frag) (cl : Cl) (F : Hp) : V → D → Prop
  | sc {v d} : Sc v d → Rp K cl F v d
  | lst {p vs ds} : F p = some (.lst vs) → RpL K cl F vs ds → Rp K cl F (.ref p) (.lst ds)
  | scr {p ns} : SqL K F p (ns.map V.int) → Rp K cl F (.ref p) (.scr ns)
  | tup {p vs ds} : F p = some (.tup vs) → RpL K cl F vs ds → Rp K cl F (.ref p) (.tup ds)
  | dk {p kvs ks ds} : F p = some (.dK kvs) → ks = kvs.map (fun q => Ky.k q.1) → RpL K cl F (kvs.map (·.2)) ds → Rp K cl F (.ref p) (.dic ks ds)
  | dt {p kvs ks ds} : F p = some (.dT kvs) → ks = kvs.map (fun q => Ky.t q.1) → RpL K cl F (kvs.map (·.2)) ds → Rp K cl F (.ref p) (.dic ks ds)
  | ins {p c dx fs ds} : F p = some (.ins (cl.ad c) dx fs) → fs.map (·.1) = (cl.lay c).take fs.length → RpL K cl F (fs.map (·.2)) ds → Rp K cl F (.ref p) (.ins c ds)
  | xd {p c fs ds} : F p = some (.xd fs) → fs.map (·.1) = cl.lay c → RpL K cl F (fs.map (·.2)) ds → Rp K cl F (.ref p) (.exc c ds)
inductive RpL (K : PySem.W.Frag) (cl : Cl) (F : Hp) : List V → List D → Prop
  | nil : RpL K cl F [] []
  | cons {v d vs ds} : Rp K cl F v d → RpL K cl F vs ds → RpL K cl F (v :: vs) (d :: ds)
end

structure Root where
  w : W
  v : Option V
  d : D

def mkR (w : W) (vs : List V) (ds : List D) : List Root := List.zipWith (fun v d => ⟨w, some v, d⟩) vs ds
def mkT : List W → List V → List D → List Root
  | w :: ws, v :: vs, d :: ds => ⟨w, some v, d⟩ :: mkT ws vs ds
  | _, _, _ => []

abbrev FpS := Addr → Prop

mutual
inductive Own (K : PySem.W.Frag) (cl : Cl) (F H : Hp) : W → Option V → D → FpS → Prop
  | u {v d} : Own K cl F H .u v d (fun _ => False)
  | s {v d} : Sc v d → Own K cl F H .s (some v) d (fun _ => False)
  | z {v d} : Rp K cl F v d → Own K cl F H .z (some v) d (fun _ => False)
  | c {p o d} : H p = some o → Own K cl F H (.c o) (some (.ref p)) d (fun a => a = p)
  | l {w p vs ds A} : H p = some (.lst vs) → vs.length = ds.length → OwnR K cl F H (mkR w vs ds) A → ¬ A p → Own K cl F H (.o w) (some (.ref p)) (.lst ds) (fun a => a = p ∨ A a)
  | dk {w p kvs ks ds A} : H p = some (.dK kvs) → ks = kvs.map (fun q => Ky.k q.1) → kvs.length = ds.length → OwnR K cl F H (mkR w (kvs.map (·.2)) ds) A → ¬ A p → Own K cl F H (.o w) (some (.ref p)) (.dic ks ds) (fun a => a = p ∨ A a)
  | dt {w p kvs ks ds A} : H p = some (.dT kvs) → ks = kvs.map (fun q => Ky.t q.1) → kvs.length = ds.length → OwnR K cl F H (mkR w (kvs.map (·.2)) ds) A → ¬ A p → Own K cl F H (.o w) (some (.ref p)) (.dic ks ds) (fun a => a = p ∨ A a)
  | t {ws p vs ds A} : H p = some (.tup vs) → ws.length = vs.length → vs.length = ds.length → OwnR K cl F H (mkT ws vs ds) A → ¬ A p → Own K cl F H (.t ws) (some (.ref p)) (.tup ds) (fun a => a = p ∨ A a)
  | i {ws p c dx fs ds A} : H p = some (.ins (cl.ad c) dx fs) → fs.map (·.1) = (cl.lay c).take fs.length → ws.length = fs.length → fs.length = ds.length → OwnR K cl F H (mkT ws (fs.map (·.2)) ds) A → ¬ A p →
      Own K cl F H (.t ws) (some (.ref p)) (.ins c ds) (fun a => a = p ∨ A a)
inductive OwnR (K : PySem.W.Frag) (cl : Cl) (F H : Hp) : List Root → FpS → Prop
  | nil : OwnR K cl F H [] (fun _ => False)
  | cons {x rs A B} : Own K cl F H x.w x.v x.d A → OwnR K cl F H rs B → (∀ a, A a → ¬ B a) → OwnR K cl F H (x :: rs) (fun a => A a ∨ B a)
end

variable {K : PySem.W.Frag} {cl : Cl} {F F' H H' : Hp}

def Sub (F F' : Hp) : Prop := ∀ a o, F a = some o → F' a = some o
theorem Sub.refl {F : Hp} : Sub F F := fun _ _ h => h
theorem Sub.trans {F G H : Hp} (a : Sub F G) (b : Sub G H) : Sub F H := fun x o h => b x o (a x o h)
theorem Rd.sub {a : Addr} {u : HO} (s : Sub F F') (h : Rd F a u) : Rd F' a u := h.elim (fun z => .inl (s _ _ z)) fun ⟨o, z⟩ => .inr ⟨o, s _ _ z⟩
theorem SqL.sub {a : Addr} {xs : List V} (s : Sub F F') (h : SqL K F a xs) : SqL K F' a xs := h.elim (fun z => .inl (Rd.sub s z)) .inr
theorem SqT.sub {a : Addr} {xs : List V} (s : Sub F F') (h : SqT K F a xs) : SqT K F' a xs := h.elim (fun z => .inl (Rd.sub s z)) .inr

mutual
theorem Rp.sub (s : Sub F F') : ∀ {v : V} {d : D}, Rp K cl F v d → Rp K cl F' v d
  | _, _, .sc h => .sc h
  | _, _, .lst h r => .lst (s _ _ h) (RpL.sub s r)
  | _, _, .scr h => .scr (SqL.sub s h)
  | _, _, .tup h r => .tup (s _ _ h) (RpL.sub s r)
  | _, _, .dk h e r => .dk (s _ _ h) e (RpL.sub s r)
  | _, _, .dt h e r => .dt (s _ _ h) e (RpL.sub s r)
  | _, _, .ins h e r => .ins (s _ _ h) e (RpL.sub s r)
  | _, _, .xd h e r => .xd (s _ _ h) e (RpL.sub s r)
theorem RpL.sub (s : Sub F F') : ∀ {vs : List V} {ds : List D}, RpL K cl F vs ds → RpL K cl F' vs ds
  | _, _, .nil => .nil
  | _, _, .cons a b => .cons (Rp.sub s a) (RpL.sub s b)
end
theorem RpL.length : ∀ {vs : List V} {ds : List D}, RpL K cl F vs ds → vs.length = ds.length
  | _, _, .nil => rfl
  | _, _, .cons _ b => by simp [RpL.length b]
theorem RpL.get : ∀ {vs : List V} {ds : List D} {i : Nat} {v : V}, RpL K cl F vs ds → vs[i]? = some v → ∃ d, ds[i]? = some d ∧ Rp K cl F v d
  | _, _, 0, _, .cons a b, e => by simp at e; subst e; exact ⟨_, rfl, a⟩
  | _, _, i + 1, v, .cons _ b, e => by simpa using RpL.get (i := i) b (by simpa using e)
theorem RpL.getD : ∀ {vs : List V} {ds : List D} {i : Nat} {d : D}, RpL K cl F vs ds → ds[i]? = some d → ∃ v, vs[i]? = some v ∧ Rp K cl F v d
  | _, _, 0, _, .cons a b, e => by simp at e; subst e; exact ⟨_, rfl, a⟩
  | _, _, i + 1, v, .cons _ b, e => by simpa using RpL.getD (i := i) b (by simpa using e)
theorem RpL.append : ∀ {vs ws : List V} {ds es : List D}, RpL K cl F vs ds → RpL K cl F ws es → RpL K cl F (vs ++ ws) (ds ++ es)
  | _, _, _, _, .nil, s => s
  | _, _, _, _, .cons a b, s => .cons a (RpL.append b s)
theorem RpL.drop : ∀ {vs : List V} {ds : List D} (n : Nat), RpL K cl F vs ds → RpL K cl F (vs.drop n) (ds.drop n)
  | _, _, 0, h => h
  | _, _, _ + 1, .nil => .nil
  | _, _, n + 1, .cons _ b => RpL.drop n b
theorem RpL.take : ∀ {vs : List V} {ds : List D} (n : Nat), RpL K cl F vs ds → RpL K cl F (vs.take n) (ds.take n)
  | _, _, 0, _ => .nil
  | _, _, _ + 1, .nil => .nil
  | _, _, n + 1, .cons a b => .cons a (RpL.take n b)
theorem RpL.ofMkR : ∀ {vs : List V} {ds : List D}, vs.length = ds.length → (∀ x ∈ mkR .z vs ds, ∃ v, x.v = some v ∧ Rp K cl F v x.d) → RpL K cl F vs ds
  | [], [], _, _ => .nil
  | v :: vs, d :: ds, e, h => by
    obtain ⟨v', e1, r⟩ := h ⟨.z, some v, d⟩ (by simp [mkR])
    simp at e1; subst e1
    exact .cons r (RpL.ofMkR (by simpa using e) fun x hx => h x (by simp [mkR] at hx ⊢; exact .inr hx))

/-! ### footprints -/
mutual
theorem Own.mono (s : Sub F F') : ∀ {w : W} {v : Option V} {d : D} {A : FpS}, Own K cl F H w v d A → (∀ a, A a → H' a = H a) → Own K cl F' H' w v d A
  | _, _, _, _, .u, _ => .u
  | _, _, _, _, .s h, _ => .s h
  | _, _, _, _, .z h, _ => .z (Rp.sub s h)
  | _, _, _, _, .c h, k => .c ((k _ rfl).trans h)
  | _, _, _, _, .l h e r n, k => .l ((k _ (.inl rfl)).trans h) e (OwnR.mono s r fun a z => k a (.inr z)) n
  | _, _, _, _, .dk h e e2 r n, k => .dk ((k _ (.inl rfl)).trans h) e e2 (OwnR.mono s r fun a z => k a (.inr z)) n
  | _, _, _, _, .dt h e e2 r n, k => .dt ((k _ (.inl rfl)).trans h) e e2 (OwnR.mono s r fun a z => k a (.inr z)) n
  | _, _, _, _, .t h e e2 r n, k => .t ((k _ (.inl rfl)).trans h) e e2 (OwnR.mono s r fun a z => k a (.inr z)) n
  | _, _, _, _, .i h e e2 e3 r n, k => .i ((k _ (.inl rfl)).trans h) e e2 e3 (OwnR.mono s r fun a z => k a (.inr z)) n
theorem OwnR.mono (s : Sub F F') : ∀ {R : List Root} {A : FpS}, OwnR K cl F H R A → (∀ a, A a → H' a = H a) → OwnR K cl F' H' R A
  | _, _, .nil, _ => .nil
  | _, _, .cons a b d, k => .cons (Own.mono s a fun x z => k x (.inl z)) (OwnR.mono s b fun x z => k x (.inr z)) d
end
mutual
theorem Own.there : ∀ {w : W} {v : Option V} {d : D} {A : FpS}, Own K cl F H w v d A → ∀ a, A a → ∃ o, H a = some o
  | _, _, _, _, .u, _, z => z.elim
  | _, _, _, _, .s _, _, z => z.elim
  | _, _, _, _, .z _, _, z => z.elim
  | _, _, _, _, .c h, _, z => ⟨_, z ▸ h⟩
  | _, _, _, _, .l h _ r _, a, z => z.elim (fun e => ⟨_, e ▸ h⟩) fun z => OwnR.there r a z
  | _, _, _, _, .dk h _ _ r _, a, z => z.elim (fun e => ⟨_, e ▸ h⟩) fun z => OwnR.there r a z
  | _, _, _, _, .dt h _ _ r _, a, z => z.elim (fun e => ⟨_, e ▸ h⟩) fun z => OwnR.there r a z
  | _, _, _, _, .t h _ _ r _, a, z => z.elim (fun e => ⟨_, e ▸ h⟩) fun z => OwnR.there r a z
  | _, _, _, _, .i h _ _ _ r _, a, z => z.elim (fun e => ⟨_, e ▸ h⟩) fun z => OwnR.there r a z
theorem OwnR.there : ∀ {R : List Root} {A : FpS}, OwnR K cl F H R A → ∀ a, A a → ∃ o, H a = some o
  | _, _, .nil, _, z => z.elim
  | _, _, .cons x y _, a, z => z.elim (fun z => Own.there x a z) fun z => OwnR.there y a z
end
theorem fpEq {A B : FpS} (h : ∀ a, A a ↔ B a) : A = B := funext fun a => propext (h a)
theorem OwnR.perm {R R' : List Root} (p : R.Perm R') : ∀ {A : FpS}, OwnR K cl F H R A → OwnR K cl F H R' A := by
  induction p with
  | nil => exact fun h => h
  | cons x _ ih =>
    intro A h
    cases h with
    | cons a b d => exact .cons a (ih b) d
  | swap x y l =>
    intro A h
    cases h with
    | @cons _ _ A1 B1 a b d =>
      cases b with
      | @cons _ _ A2 B2 a2 b2 d2 =>
        rw [show (fun a => A1 a ∨ A2 a ∨ B2 a) = (fun a => A2 a ∨ A1 a ∨ B2 a) from fpEq fun a => ⟨fun z => by rcases z with z | z | z <;> simp [z], fun z => by rcases z with z | z | z <;> simp [z]⟩]
        exact .cons a2 (.cons a b2 fun x z q => d x z (.inr q)) fun x z q => q.elim (fun q => d x q (.inl z)) fun q => d2 x z q
  | trans _ _ i1 i2 => exact fun h => i2 (i1 h)
theorem OwnR.append : ∀ {R R' : List Root} {A B : FpS}, OwnR K cl F H R A → OwnR K cl F H R' B → (∀ a, A a → ¬ B a) → OwnR K cl F H (R ++ R') (fun a => A a ∨ B a)
  | [], R', A, B, h, h', d => by
    cases h
    rw [show (fun a => False ∨ B a) = B from fpEq fun a => by simp]
    exact h'
  | x :: R, R', A, B, h, h', d => by
    cases h with
    | @cons _ _ A1 B1 a b d1 =>
      rw [show (fun a => (A1 a ∨ B1 a) ∨ B a) = (fun a => A1 a ∨ (B1 a ∨ B a)) from fpEq fun a => or_assoc]
      exact .cons a (OwnR.append b h' fun x z q => d x (.inr z) q) fun x z q => q.elim (d1 x z) (d x (.inl z))
theorem OwnR.split : ∀ {R R' : List Root} {A : FpS}, OwnR K cl F H (R ++ R') A → ∃ A1 B1, OwnR K cl F H R A1 ∧ OwnR K cl F H R' B1 ∧ (∀ a, A1 a → ¬ B1 a) ∧ A = fun a => A1 a ∨ B1 a
  | [], R', A, h => ⟨_, A, .nil, h, fun _ z => z.elim, fpEq fun a => by simp⟩
  | x :: R, R', A, h => by
    cases h with
    | @cons _ _ A1 B1 a b d1 =>
      obtain ⟨A2, B2, h1, h2, h3, rfl⟩ := OwnR.split b
      exact ⟨_, _, .cons a h1 fun y z q => d1 y z (.inl q), h2, fun y z q => z.elim (fun z => d1 y z (.inr q)) fun z => h3 y z q, fpEq fun y => or_assoc.symm⟩
end Dv
/-! D2: the frame predicate S and what may be done under it. -/
namespace Dv
open PySem PySem.Spec PyProof.Rows L2
variable {K : PySem.W.Frag} {cl : Cl} {F F' H H' B F0 : Hp}

mutual
def W.fz : W → Bool
  | .u => false
  | .s => true
  | .z => true
  | .o w => w.fz
  | .t ws => fzL ws
  | .c _ => false
def fzL : List W → Bool
  | [] => true
  | w :: ws => w.fz && fzL ws
end
mutual
def W.beq : W → W → Bool
  | .u, .u => true
  | .s, .s => true
  | .z, .z => true
  | .o a, .o b => a.beq b
  | .t as, .t bs => beqL as bs
  | _, _ => false
def beqL : List W → List W → Bool
  | [], [] => true
  | a :: as, b :: bs => a.beq b && beqL as bs
  | _, _ => false
end
mutual
theorem W.beq_ok : ∀ {a b : W}, a.beq b = true → a = b
  | .u, b, h => by cases b <;> simp [W.beq] at h ⊢
  | .s, b, h => by cases b <;> simp [W.beq] at h ⊢
  | .z, b, h => by cases b <;> simp [W.beq] at h ⊢
  | .c _, b, h => by cases b <;> simp [W.beq] at h ⊢
  | .o a, b, h => by
    cases b with
    | o c => rw [W.beq_ok (a := a) (b := c) (by simpa [W.beq] using h)]
    | _ => simp [W.beq] at h
  | .t a, b, h => by
    cases b with
    | t c => rw [beqL_ok (as := a) (bs := c) (by simpa [W.beq] using h)]
    | _ => simp [W.beq] at h
theorem beqL_ok : ∀ {as bs : List W}, beqL as bs = true → as = bs
  | [], [], _ => rfl
  | [], _ :: _, h => by simp [beqL] at h
  | _ :: _, [], h => by simp [beqL] at h
  | a :: as, b :: bs, h => by
    simp only [beqL, Bool.and_eq_true] at h
    rw [W.beq_ok h.1, beqL_ok h.2]
end
/-- w may be weakened to w' -/
def leW : W → W → Bool
  | _, .u => true
  | .u, _ => false
  | w, .z => w.fz
  | .o a, .o b => leW a b
  | a, b => a.beq b

theorem mkR_mem {w : W} : ∀ {vs : List V} {ds : List D} {x : Root}, x ∈ mkR w vs ds → x.w = w ∧ ∃ v, x.v = some v
  | [], _, _, h => by simp [mkR] at h
  | _ :: _, [], _, h => by simp [mkR] at h
  | v :: vs, d :: ds, x, h => by
    simp only [mkR, List.zipWith_cons_cons, List.mem_cons] at h
    rcases h with rfl | h
    · exact ⟨rfl, _, rfl⟩
    · exact mkR_mem (vs := vs) (ds := ds) h
theorem mkT_fz : ∀ {ws : List W} {vs : List V} {ds : List D} {x : Root}, fzL ws = true → x ∈ mkT ws vs ds → x.w.fz = true
  | [], _, _, _, _, h => by simp [mkT] at h
  | _ :: _, [], _, _, _, h => by simp [mkT] at h
  | _ :: _, _ :: _, [], _, _, h => by simp [mkT] at h
  | w :: ws, v :: vs, d :: ds, x, f, h => by
    simp only [fzL, Bool.and_eq_true] at f
    simp only [mkT, List.mem_cons] at h
    rcases h with rfl | h
    · exact f.1
    · exact mkT_fz f.2 h
theorem RpL.ofT : ∀ {ws : List W} {vs : List V} {ds : List D}, ws.length = vs.length → vs.length = ds.length → (∀ x ∈ mkT ws vs ds, ∃ v, x.v = some v ∧ Rp K cl F v x.d) → RpL K cl F vs ds
  | [], [], [], _, _, _ => .nil
  | w :: ws, v :: vs, d :: ds, e, e2, h => by
    obtain ⟨v', e1, r⟩ := h ⟨w, some v, d⟩ (by simp [mkT])
    simp at e1; subst e1
    exact .cons r (RpL.ofT (ws := ws) (by simpa using e) (by simpa using e2) fun x hx => h x (by simp [mkT]; exact .inr hx))
theorem RpL.ofR : ∀ {w : W} {vs : List V} {ds : List D}, vs.length = ds.length → (∀ x ∈ mkR w vs ds, ∃ v, x.v = some v ∧ Rp K cl F v x.d) → RpL K cl F vs ds
  | _, [], [], _, _ => .nil
  | w, v :: vs, d :: ds, e2, h => by
    obtain ⟨v', e1, r⟩ := h ⟨w, some v, d⟩ (by simp [mkR])
    simp at e1; subst e1
    exact .cons r (RpL.ofR (w := w) (by simpa using e2) fun x hx => h x (by simp [mkR]; exact .inr hx))

mutual
theorem Own.frz {F1 : Hp} (s : Sub F F1) : ∀ {w : W} {v : Option V} {d : D} {A : FpS}, Own K cl F H w v d A → w.fz = true → (∀ a, A a → ∀ o, H a = some o → F1 a = some o) → ∃ v', v = some v' ∧ Rp K cl F1 v' d
  | _, _, _, _, .u, f, _ => by cases f
  | _, _, _, _, .s h, _, _ => ⟨_, rfl, .sc h⟩
  | _, _, _, _, .z h, _, _ => ⟨_, rfl, Rp.sub s h⟩
  | _, _, _, _, .c h, f, _ => by cases f
  | _, _, _, _, .l h e r n, f, k => ⟨_, rfl, .lst (k _ (.inl rfl) _ h) (RpL.ofR e fun x hx => OwnR.frz s r (fun x hx => by rw [(mkR_mem hx).1]; exact f) (fun a z => k a (.inr z)) x hx)⟩
  | _, _, _, _, .dk h e e2 r n, f, k => ⟨_, rfl, .dk (k _ (.inl rfl) _ h) e (RpL.ofR (by simpa using e2) fun x hx => OwnR.frz s r (fun x hx => by rw [(mkR_mem hx).1]; exact f) (fun a z => k a (.inr z)) x hx)⟩
  | _, _, _, _, .dt h e e2 r n, f, k => ⟨_, rfl, .dt (k _ (.inl rfl) _ h) e (RpL.ofR (by simpa using e2) fun x hx => OwnR.frz s r (fun x hx => by rw [(mkR_mem hx).1]; exact f) (fun a z => k a (.inr z)) x hx)⟩
  | _, _, _, _, .t h e e2 r n, f, k => ⟨_, rfl, .tup (k _ (.inl rfl) _ h) (RpL.ofT e e2 fun x hx => OwnR.frz s r (fun x hx => mkT_fz f hx) (fun a z => k a (.inr z)) x hx)⟩
  | _, _, _, _, .i h e e2 e3 r n, f, k => ⟨_, rfl, .ins (k _ (.inl rfl) _ h) e (RpL.ofT (by simpa using e2) (by simpa using e3) fun x hx => OwnR.frz s r (fun x hx => mkT_fz f hx) (fun a z => k a (.inr z)) x hx)⟩
theorem OwnR.frz {F1 : Hp} (s : Sub F F1) : ∀ {R : List Root} {A : FpS}, OwnR K cl F H R A → (∀ x ∈ R, x.w.fz = true) → (∀ a, A a → ∀ o, H a = some o → F1 a = some o) → ∀ x ∈ R, ∃ v, x.v = some v ∧ Rp K cl F1 v x.d
  | _, _, .nil, _, _ => fun x h => by cases h
  | _, _, .cons a b d, f, k => fun x h => by
    rcases List.mem_cons.mp h with e | h
    · rw [e]; exact Own.frz s a (f _ List.mem_cons_self) fun y z => k y (.inl z)
    · exact OwnR.frz s b (fun x hx => f x (List.mem_cons_of_mem _ hx)) (fun y z => k y (.inr z)) x h
end

/-- the roots R stand in H; B is not touched, F0 is frozen -/
def S (K : PySem.W.Frag) (cl : Cl) (B F0 H : Hp) (R : List Root) : Prop :=
  ∃ (F : Hp) (A : FpS), OwnR K cl F H R A ∧ Sub F H ∧ (∀ a, A a → F a = none ∧ B a = none) ∧ Sub B H ∧ Sub F0 F ∧ (∀ a o, F a = some o → F0 a = some o ∨ B a = none)

theorem S.perm {R R' : List Root} (h : S K cl B F0 H R) (p : R.Perm R') : S K cl B F0 H R' := by
  obtain ⟨F, A, r, h⟩ := h
  exact ⟨F, A, r.perm p, h⟩
theorem S.drop {x : Root} {R : List Root} (h : S K cl B F0 H (x :: R)) : S K cl B F0 H R := by
  obtain ⟨F, A, r, h1, h2, h⟩ := h
  cases r with
  | cons a b d => exact ⟨F, _, b, h1, fun a z => h2 a (.inr z), h⟩
theorem S.dropL {R' : List Root} : ∀ {R : List Root}, S K cl B F0 H (R ++ R') → S K cl B F0 H R'
  | [], h => h
  | _ :: R, h => S.dropL (R := R) (S.drop h)
theorem S.toFront {x : Root} {R R' : List Root} (h : S K cl B F0 H (R ++ x :: R')) : S K cl B F0 H (x :: (R ++ R')) := h.perm List.perm_middle
theorem S.toBack {x : Root} {R R' : List Root} (h : S K cl B F0 H (x :: (R ++ R'))) : S K cl B F0 H (R ++ x :: R') := h.perm List.perm_middle.symm
theorem S.swap {x y : Root} {R : List Root} (h : S K cl B F0 H (x :: y :: R)) : S K cl B F0 H (y :: x :: R) := h.perm (List.Perm.swap _ _ _)

theorem S.addU {R : List Root} {v : Option V} {d : D} (h : S K cl B F0 H R) : S K cl B F0 H (⟨.u, v, d⟩ :: R) := by
  obtain ⟨F, A, r, h1, h2, h⟩ := h
  exact ⟨F, _, .cons .u r fun _ z => z.elim, h1, fun a z => h2 a (z.elim False.elim id), h⟩
theorem S.toU {x : Root} {R : List Root} {v : Option V} {d : D} (h : S K cl B F0 H (x :: R)) : S K cl B F0 H (⟨.u, v, d⟩ :: R) := h.drop.addU
theorem S.addS {R : List Root} {v : V} {d : D} (h : S K cl B F0 H R) (s : Sc v d) : S K cl B F0 H (⟨.s, some v, d⟩ :: R) := by
  obtain ⟨F, A, r, h1, h2, h⟩ := h
  exact ⟨F, _, .cons (.s s) r fun _ z => z.elim, h1, fun a z => h2 a (z.elim False.elim id), h⟩
theorem S.sc {R : List Root} {v : Option V} {d : D} (h : S K cl B F0 H (⟨.s, v, d⟩ :: R)) : ∃ v', v = some v' ∧ Sc v' d := by
  obtain ⟨F, A, r, h⟩ := h
  cases r with
  | cons a b _ =>
    cases a with
    | s q => exact ⟨_, rfl, q⟩
theorem S.rp {R : List Root} {v : Option V} {d : D} (h : S K cl B F0 H (⟨.z, v, d⟩ :: R)) : ∃ v', v = some v' ∧ Rp K cl H v' d := by
  obtain ⟨F, A, r, h1, h⟩ := h
  cases r with
  | cons a b _ =>
    cases a with
    | z q => exact ⟨_, rfl, q.sub h1⟩
theorem S.frz {w : W} {v : Option V} {d : D} {R : List Root} (h : S K cl B F0 H (⟨w, v, d⟩ :: R)) (f : w.fz = true) : S K cl B F0 H (⟨.z, v, d⟩ :: R) := by
  obtain ⟨F, A, r, h1, h2, h3, h4, h5⟩ := h
  cases r with
  | @cons _ _ A1 B1 a b dj =>
    classical
    have n1 : ∀ x, A1 x → F x = none := fun x z => (h2 x (.inl z)).1
    let F1 : Hp := fun x => if A1 x then H x else F x
    have s1 : Sub F F1 := fun x o e => by
      show (if A1 x then H x else F x) = some o
      by_cases q : A1 x
      · rw [n1 x q] at e; cases e
      · rw [if_neg q]; exact e
    have k1 : ∀ x, A1 x → ∀ o, H x = some o → F1 x = some o := fun x q o e => by
      show (if A1 x then H x else F x) = some o
      rw [if_pos q]; exact e
    obtain ⟨v', e, rp⟩ := Own.frz s1 a f k1
    have e' : v = some v' := e
    subst e'
    refine ⟨F1, _, .cons (.z rp) (b.mono s1 fun _ _ => rfl) fun _ z => z.elim, fun x o e => ?_, fun x z => ?_, h3, h4.trans s1, fun x o e => ?_⟩
    · have e : (if A1 x then H x else F x) = some o := e
      by_cases q : A1 x
      · rw [if_pos q] at e; exact e
      · rw [if_neg q] at e; exact h1 x o e
    · have z : B1 x := z.elim False.elim id
      refine ⟨?_, (h2 x (.inr z)).2⟩
      show (if A1 x then H x else F x) = none
      rw [if_neg fun q => dj x q z]; exact (h2 x (.inr z)).1
    · have e : (if A1 x then H x else F x) = some o := e
      by_cases q : A1 x
      · exact .inr (h2 x (.inl q)).2
      · rw [if_neg q] at e; exact h5 x o e
/-- a shared thing gives another shared thing -/
theorem S.addz {v v' : V} {d d' : D} {R : List Root} (h : S K cl B F0 H (⟨.z, some v, d⟩ :: R)) (f : ∀ F, Sub F H → Rp K cl F v d → Rp K cl F v' d') : S K cl B F0 H (⟨.z, some v', d'⟩ :: ⟨.z, some v, d⟩ :: R) := by
  obtain ⟨F, A, r, h1, h2, h⟩ := h
  cases r with
  | cons a b dj =>
    cases a with
    | z q => exact ⟨F, _, .cons (.z (f F h1 q)) (.cons (.z q) b fun _ z => z.elim) fun _ z => z.elim, h1, fun a z => h2 a (z.elim False.elim id), h⟩
theorem S.dupz {v : V} {d : D} {R : List Root} (h : S K cl B F0 H (⟨.z, some v, d⟩ :: R)) : S K cl B F0 H (⟨.z, some v, d⟩ :: ⟨.z, some v, d⟩ :: R) := h.addz fun _ _ q => q
theorem S.dups {v : Option V} {d : D} {R : List Root} (h : S K cl B F0 H (⟨.s, v, d⟩ :: R)) : S K cl B F0 H (⟨.s, v, d⟩ :: ⟨.s, v, d⟩ :: R) := by
  obtain ⟨v', e, q⟩ := h.sc
  subst e
  exact h.addS q
/-- what is so whatever is frozen -/
theorem S.addK {v : V} {d : D} {R : List Root} (h : S K cl B F0 H R) (f : ∀ F, Rp K cl F v d) : S K cl B F0 H (⟨.z, some v, d⟩ :: R) := by
  obtain ⟨F, A, r, h1, h2, h⟩ := h
  exact ⟨F, _, .cons (.z (f F)) r fun _ z => z.elim, h1, fun a z => h2 a (z.elim False.elim id), h⟩
theorem S.alloc {R : List Root} {p : Addr} {o : HO} (h : S K cl B F0 H R) (n : H p = none) : S K cl B F0 (upd H p o) R := by
  obtain ⟨F, A, r, h1, h2, h3, h⟩ := h
  have s : Sub H (upd H p o) := fun a u e => by rw [upd_ne (ne_of_none e n)]; exact e
  refine ⟨F, A, r.mono .refl fun a z => ?_, h1.trans s, h2, h3.trans s, h⟩
  obtain ⟨u, e⟩ := r.there a z
  rw [upd_ne (ne_of_none e n)]
theorem S.rawNew {R : List Root} {p : Addr} {o : HO} {d : D} (h : S K cl B F0 H R) (n : H p = none) : S K cl B F0 (upd H p o) (⟨.c o, some (.ref p), d⟩ :: R) := by
  obtain ⟨F, A, r, h1, h2, h3, h⟩ := h
  have s : Sub H (upd H p o) := fun a u e => by rw [upd_ne (ne_of_none e n)]; exact e
  refine ⟨F, _, .cons (.c upd_same) (r.mono .refl fun a z => ?_) fun a z q => ?_, h1.trans s, fun a z => ?_, h3.trans s, h⟩
  · obtain ⟨u, e⟩ := r.there a z
    rw [upd_ne (ne_of_none e n)]
  · obtain ⟨u, e⟩ := r.there a q
    rw [z, n] at e; cases e
  · rcases z with z | z
    · subst z
      refine ⟨?_, ?_⟩
      · cases e : F a with
        | none => rfl
        | some u => rw [h1 a u e] at n; cases n
      · cases e : B a with
        | none => rfl
        | some u => rw [h3 a u e] at n; cases n
    · exact h2 a z
theorem S.rawSet {R : List Root} {p : Addr} {o o' : HO} {d d' : D} (h : S K cl B F0 H (⟨.c o, some (.ref p), d⟩ :: R)) : S K cl B F0 (upd H p o') (⟨.c o', some (.ref p), d'⟩ :: R) := by
  obtain ⟨F, A, r, h1, h2, h3, h⟩ := h
  cases r with
  | @cons _ _ A1 B1 a b dj =>
    cases a with
    | c q =>
      have np : F p = none ∧ B p = none := h2 p (.inl rfl)
      have s : ∀ {G : Hp}, Sub G H → G p = none → Sub G (upd H p o') := fun g e a u q => by rw [upd_ne (fun z => by rw [z, e] at q; cases q)]; exact g a u q
      exact ⟨F, _, .cons (.c upd_same) (b.mono .refl fun a z => upd_ne fun q => dj a q z) dj, s h1 np.1, h2, s h3 np.2, h⟩
theorem S.raw {R : List Root} {p : Addr} {o : HO} {d d' : D} (h : S K cl B F0 H (⟨.c o, some (.ref p), d⟩ :: R)) : H p = some o ∧ S K cl B F0 H (⟨.c o, some (.ref p), d'⟩ :: R) := by
  obtain ⟨F, A, r, h1, h2, h3, h⟩ := h
  cases r with
  | cons a b dj =>
    cases a with
    | c q => exact ⟨q, F, _, .cons (.c q) b dj, h1, h2, h3, h⟩

/-! unfold, fold -/
theorem S.openL {w : W} {v : Option V} {ds : List D} {R : List Root} (h : S K cl B F0 H (⟨.o w, v, .lst ds⟩ :: R)) :
    ∃ p vs, v = some (.ref p) ∧ H p = some (.lst vs) ∧ vs.length = ds.length ∧ S K cl B F0 H (⟨.c (.lst vs), some (.ref p), .non⟩ :: (mkR w vs ds ++ R)) := by
  obtain ⟨F, A, r, h1, h2, h⟩ := h
  cases r with
  | @cons _ _ A1 B1 a b dj =>
    cases a with
    | @l _ p vs _ A2 q e r n =>
      refine ⟨p, vs, rfl, q, e, F, _, .cons (.c q) (r.append b fun a z => dj a (.inr z)) fun a z y => ?_, h1, fun a z => h2 a ?_, h⟩
      · rcases y with y | y
        · exact n (z ▸ y)
        · exact dj a (.inl z) y
      · rcases z with z | z | z
        · exact .inl (.inl z)
        · exact .inl (.inr z)
        · exact .inr z
theorem S.closeL {w : W} {p : Addr} {d : D} {vs : List V} {ds : List D} {R : List Root} (h : S K cl B F0 H (⟨.c (.lst vs), some (.ref p), d⟩ :: (mkR w vs ds ++ R))) (e : vs.length = ds.length) :
    S K cl B F0 H (⟨.o w, some (.ref p), .lst ds⟩ :: R) := by
  obtain ⟨F, A, r, h1, h2, h⟩ := h
  cases r with
  | @cons _ _ A1 B1 a b dj =>
    cases a with
    | c q =>
      obtain ⟨A2, B2, x, y, dj2, rfl⟩ := b.split
      refine ⟨F, _, .cons (.l q e x fun z => dj p rfl (.inl z)) y fun a z => ?_, h1, fun a z => h2 a ?_, h⟩
      · rcases z with z | z
        · exact fun y => dj a z (.inr y)
        · exact dj2 a z
      · rcases z with (z | z) | z
        · exact .inl z
        · exact .inr (.inl z)
        · exact .inr (.inr z)
theorem S.closeT {ws : List W} {p : Addr} {d : D} {vs : List V} {ds : List D} {R : List Root} (h : S K cl B F0 H (⟨.c (.tup vs), some (.ref p), d⟩ :: (mkT ws vs ds ++ R))) (e1 : ws.length = vs.length) (e : vs.length = ds.length) :
    S K cl B F0 H (⟨.t ws, some (.ref p), .tup ds⟩ :: R) := by
  obtain ⟨F, A, r, h1, h2, h⟩ := h
  cases r with
  | @cons _ _ A1 B1 a b dj =>
    cases a with
    | c q =>
      obtain ⟨A2, B2, x, y, dj2, rfl⟩ := b.split
      refine ⟨F, _, .cons (.t q e1 e x fun z => dj p rfl (.inl z)) y fun a z => ?_, h1, fun a z => h2 a ?_, h⟩
      · rcases z with z | z
        · exact fun y => dj a z (.inr y)
        · exact dj2 a z
      · rcases z with (z | z) | z
        · exact .inl z
        · exact .inr (.inl z)
        · exact .inr (.inr z)
theorem S.openT {ws : List W} {v : Option V} {ds : List D} {R : List Root} (h : S K cl B F0 H (⟨.t ws, v, .tup ds⟩ :: R)) :
    ∃ p vs, v = some (.ref p) ∧ H p = some (.tup vs) ∧ ws.length = vs.length ∧ vs.length = ds.length ∧ S K cl B F0 H (⟨.c (.tup vs), some (.ref p), .non⟩ :: (mkT ws vs ds ++ R)) := by
  obtain ⟨F, A, r, h1, h2, h⟩ := h
  cases r with
  | @cons _ _ A1 B1 a b dj =>
    cases a with
    | @t _ p vs _ A2 q e e2 r n =>
      refine ⟨p, vs, rfl, q, e, e2, F, _, .cons (.c q) (r.append b fun a z => dj a (.inr z)) fun a z y => ?_, h1, fun a z => h2 a ?_, h⟩
      · rcases y with y | y
        · exact n (z ▸ y)
        · exact dj a (.inl z) y
      · rcases z with z | z | z
        · exact .inl (.inl z)
        · exact .inl (.inr z)
        · exact .inr z
theorem S.closeI {ws : List W} {p dx : Addr} {c : Nat} {d : D} {fs : List (Str × V)} {ds : List D} {R : List Root} (h : S K cl B F0 H (⟨.c (.ins (cl.ad c) dx fs), some (.ref p), d⟩ :: (mkT ws (fs.map (·.2)) ds ++ R)))
    (e0 : fs.map (·.1) = (cl.lay c).take fs.length) (e1 : ws.length = fs.length) (e : fs.length = ds.length) : S K cl B F0 H (⟨.t ws, some (.ref p), .ins c ds⟩ :: R) := by
  obtain ⟨F, A, r, h1, h2, h⟩ := h
  cases r with
  | @cons _ _ A1 B1 a b dj =>
    cases a with
    | c q =>
      obtain ⟨A2, B2, x, y, dj2, rfl⟩ := b.split
      refine ⟨F, _, .cons (.i q e0 e1 e x fun z => dj p rfl (.inl z)) y fun a z => ?_, h1, fun a z => h2 a ?_, h⟩
      · rcases z with z | z
        · exact fun y => dj a z (.inr y)
        · exact dj2 a z
      · rcases z with (z | z) | z
        · exact .inl z
        · exact .inr (.inl z)
        · exact .inr (.inr z)
theorem S.openI {ws : List W} {v : Option V} {c : Nat} {ds : List D} {R : List Root} (h : S K cl B F0 H (⟨.t ws, v, .ins c ds⟩ :: R)) :
    ∃ p dx fs, v = some (.ref p) ∧ H p = some (.ins (cl.ad c) dx fs) ∧ fs.map (·.1) = (cl.lay c).take fs.length ∧ ws.length = fs.length ∧ fs.length = ds.length ∧ S K cl B F0 H (⟨.c (.ins (cl.ad c) dx fs), some (.ref p), .non⟩ :: (mkT ws (fs.map (·.2)) ds ++ R)) := by
  obtain ⟨F, A, r, h1, h2, h⟩ := h
  cases r with
  | @cons _ _ A1 B1 a b dj =>
    cases a with
    | @i _ p _ dx fs _ A2 q e0 e e2 r n =>
      refine ⟨p, dx, fs, rfl, q, e0, e, e2, F, _, .cons (.c q) (r.append b fun a z => dj a (.inr z)) fun a z y => ?_, h1, fun a z => h2 a ?_, h⟩
      · rcases y with y | y
        · exact n (z ▸ y)
        · exact dj a (.inl z) y
      · rcases z with z | z | z
        · exact .inl (.inl z)
        · exact .inl (.inr z)
        · exact .inr z
/-- a new list of our own out of roots on top -/
theorem S.newL {w : W} {p : Addr} {vs : List V} {ds : List D} {R : List Root} (h : S K cl B F0 H (mkR w vs ds ++ R)) (e : vs.length = ds.length) (n : H p = none) : S K cl B F0 (upd H p (.lst vs)) (⟨.o w, some (.ref p), .lst ds⟩ :: R) :=
  S.closeL (d := .non) (h.rawNew n) e
theorem S.newT {ws : List W} {p : Addr} {vs : List V} {ds : List D} {R : List Root} (h : S K cl B F0 H (mkT ws vs ds ++ R)) (e1 : ws.length = vs.length) (e : vs.length = ds.length) (n : H p = none) : S K cl B F0 (upd H p (.tup vs)) (⟨.t ws, some (.ref p), .tup ds⟩ :: R) :=
  S.closeT (d := .non) (h.rawNew n) e1 e

/-! weakening -/
theorem S.weakAll {w w' : W} (f : ∀ {v : Option V} {d : D} {R : List Root} {H : Hp}, S K cl B F0 H (⟨w, v, d⟩ :: R) → S K cl B F0 H (⟨w', v, d⟩ :: R)) :
    ∀ {vs : List V} {ds : List D} {R : List Root} {H : Hp}, S K cl B F0 H (mkR w vs ds ++ R) → S K cl B F0 H (mkR w' vs ds ++ R)
  | [], _, _, _, h => h
  | _ :: _, [], _, _, h => h
  | v :: vs, d :: ds, R, H, h => by
    have h1 : S K cl B F0 H (mkR w' vs ds ++ (⟨w', some v, d⟩ :: R)) := S.weakAll f (vs := vs) (ds := ds) (h.perm (by
      show (⟨w, some v, d⟩ :: (mkR w vs ds ++ R)).Perm (mkR w vs ds ++ (⟨w, some v, d⟩ :: R))
      exact List.perm_middle.symm) |> fun h => (h.toFront |> f |> S.toBack))
    exact h1.toFront
theorem S.weak (w : W) {w' : W} {v : Option V} {d : D} {R : List Root} {H : Hp} (l : leW w w' = true) (h : S K cl B F0 H (⟨w, v, d⟩ :: R)) : S K cl B F0 H (⟨w', v, d⟩ :: R) := by
  match w, l, h with
  | .o a, l, h =>
    cases w' with
    | u => exact h.toU
    | z => exact h.frz (by simpa [leW] using l)
    | o b =>
      have l' : leW a b = true := by simpa [leW] using l
      cases d with
      | lst ds =>
        obtain ⟨p, vs, rfl, q, e, h⟩ := h.openL
        exact S.closeL ((S.weakAll (fun {v d R H} h => S.weak a (v := v) (d := d) (R := R) (H := H) l' h) (h.perm (by exact List.perm_middle.symm))).toFront) e
      | dic ks ds =>
        obtain ⟨F, A, r, h1, h2, h3⟩ := h
        cases r with
        | @cons _ _ A1 B1 a1 b1 dj =>
          cases a1 with
          | @dk _ p kvs _ _ A2 q e e2 r n =>
            have hs : S K cl B F0 H (mkR a (kvs.map (·.2)) ds ++ (⟨.c (.dK kvs), some (.ref p), .non⟩ :: R)) := by
              refine S.perm (R := ⟨.c (.dK kvs), some (.ref p), .non⟩ :: (mkR a (kvs.map (·.2)) ds ++ R)) ⟨F, _, .cons (.c q) (r.append b1 fun a z => dj a (.inr z)) fun a z y => ?_, h1, fun a z => h2 a ?_, h3⟩ List.perm_middle.symm
              · rcases y with y | y
                · exact n (z ▸ y)
                · exact dj a (.inl z) y
              · rcases z with z | z | z
                · exact .inl (.inl z)
                · exact .inl (.inr z)
                · exact .inr z
            obtain ⟨F, A, r, h1, h2, h⟩ := (S.weakAll (fun {v d R H} h => S.weak a (v := v) (d := d) (R := R) (H := H) l' h) hs).toFront
            cases r with
            | @cons _ _ A1 B1 a b' dj =>
              cases a with
              | c q' =>
                obtain ⟨A2, B2, x, y, dj2, rfl⟩ := b'.split
                refine ⟨F, _, .cons (.dk q e e2 x fun z => dj p rfl (.inl z)) y fun a z => ?_, h1, fun a z => h2 a ?_, h⟩
                · rcases z with z | z
                  · exact fun y => dj a z (.inr y)
                  · exact dj2 a z
                · rcases z with (z | z) | z
                  · exact .inl z
                  · exact .inr (.inl z)
                  · exact .inr (.inr z)
          | @dt _ p kvs _ _ A2 q e e2 r n =>
            have hs : S K cl B F0 H (mkR a (kvs.map (·.2)) ds ++ (⟨.c (.dT kvs), some (.ref p), .non⟩ :: R)) := by
              refine S.perm (R := ⟨.c (.dT kvs), some (.ref p), .non⟩ :: (mkR a (kvs.map (·.2)) ds ++ R)) ⟨F, _, .cons (.c q) (r.append b1 fun a z => dj a (.inr z)) fun a z y => ?_, h1, fun a z => h2 a ?_, h3⟩ List.perm_middle.symm
              · rcases y with y | y
                · exact n (z ▸ y)
                · exact dj a (.inl z) y
              · rcases z with z | z | z
                · exact .inl (.inl z)
                · exact .inl (.inr z)
                · exact .inr z
            obtain ⟨F, A, r, h1, h2, h⟩ := (S.weakAll (fun {v d R H} h => S.weak a (v := v) (d := d) (R := R) (H := H) l' h) hs).toFront
            cases r with
            | @cons _ _ A1 B1 a b' dj =>
              cases a with
              | c q' =>
                obtain ⟨A2, B2, x, y, dj2, rfl⟩ := b'.split
                refine ⟨F, _, .cons (.dt q e e2 x fun z => dj p rfl (.inl z)) y fun a z => ?_, h1, fun a z => h2 a ?_, h⟩
                · rcases z with z | z
                  · exact fun y => dj a z (.inr y)
                  · exact dj2 a z
                · rcases z with (z | z) | z
                  · exact .inl z
                  · exact .inr (.inl z)
                  · exact .inr (.inr z)
      | _ =>
        obtain ⟨F, A, r, h⟩ := h
        cases r with
        | cons a1 b1 dj => cases a1
    | _ => simp [leW, W.beq] at l
  | .t ws, l, h =>
    cases w' with
    | u => exact h.toU
    | z => exact h.frz (by simpa [leW] using l)
    | t b =>
      have e := W.beq_ok (a := .t ws) (b := .t b) (by simpa [leW] using l)
      rw [← e]; exact h
    | _ => simp [leW, W.beq] at l
  | .u, l, h =>
    cases w' with
    | u => exact h
    | _ => simp [leW] at l
  | .s, l, h =>
    cases w' with
    | u => exact h.toU
    | s => exact h
    | z => exact h.frz rfl
    | _ => simp [leW, W.beq] at l
  | .z, l, h =>
    cases w' with
    | u => exact h.toU
    | z => exact h
    | _ => simp [leW, W.beq] at l
  | .c o, l, h =>
    cases w' with
    | u => exact h.toU
    | z => simp [leW, W.fz] at l
    | _ => simp [leW, W.beq] at l
end Dv
/-! D3: slots, the judgements. -/
namespace Dv
open PySem PySem.Spec PyProof.Rows L2
variable {K : PySem.W.Frag} {cl : Cl} {F F' H H' B F0 : Hp}

mutual
/-- nothing shared within -/
def W.cw : W → Bool
  | .u => false
  | .s => true
  | .z => false
  | .o w => w.cw
  | .t ws => cwL ws
  | .c _ => false
def cwL : List W → Bool
  | [] => true
  | w :: ws => w.cw && cwL ws
end
theorem mkT_cw : ∀ {ws : List W} {vs : List V} {ds : List D} {x : Root}, cwL ws = true → x ∈ mkT ws vs ds → x.w.cw = true
  | [], _, _, _, _, h => by simp [mkT] at h
  | _ :: _, [], _, _, _, h => by simp [mkT] at h
  | _ :: _, _ :: _, [], _, _, h => by simp [mkT] at h
  | w :: ws, v :: vs, d :: ds, x, f, h => by
    simp only [cwL, Bool.and_eq_true] at f
    simp only [mkT, List.mem_cons] at h
    rcases h with rfl | h
    · exact f.1
    · exact mkT_cw f.2 h
mutual
theorem Own.cw {F1 : Hp} : ∀ {w : W} {v : Option V} {d : D} {A : FpS}, Own K cl F H w v d A → w.cw = true → Own K cl F1 H w v d A
  | _, _, _, _, .u, f => by cases f
  | _, _, _, _, .s h, _ => .s h
  | _, _, _, _, .z h, f => by cases f
  | _, _, _, _, .c h, f => by cases f
  | _, _, _, _, .l h e r n, f => .l h e (OwnR.cw r fun x hx => by rw [(mkR_mem hx).1]; exact f) n
  | _, _, _, _, .dk h e e2 r n, f => .dk h e e2 (OwnR.cw r fun x hx => by rw [(mkR_mem hx).1]; exact f) n
  | _, _, _, _, .dt h e e2 r n, f => .dt h e e2 (OwnR.cw r fun x hx => by rw [(mkR_mem hx).1]; exact f) n
  | _, _, _, _, .t h e e2 r n, f => .t h e e2 (OwnR.cw r fun x hx => mkT_cw f hx) n
  | _, _, _, _, .i h e e2 e3 r n, f => .i h e e2 e3 (OwnR.cw r fun x hx => mkT_cw f hx) n
theorem OwnR.cw {F1 : Hp} : ∀ {R : List Root} {A : FpS}, OwnR K cl F H R A → (∀ x ∈ R, x.w.cw = true) → OwnR K cl F1 H R A
  | _, _, .nil, _ => .nil
  | _, _, .cons a b d, f => .cons (Own.cw a (f _ List.mem_cons_self)) (OwnR.cw b fun x hx => f x (List.mem_cons_of_mem _ hx)) d
end

/-! ### what a callee is handed -/
theorem S.call {R R1 : List Root} (h : S K cl B F0 H (R1 ++ R)) : ∃ B1 F1, S K cl B1 F1 H R1 ∧ ∀ H' R', S K cl B1 F1 H' R' → S K cl B F0 H' (R' ++ R) := by
  classical
  obtain ⟨F, A, r, h1, h2, h3, h4, h5⟩ := h
  obtain ⟨A1, A2, x, y, dj, rfl⟩ := r.split
  refine ⟨fun a => if A1 a then none else H a, F, ⟨F, A1, x, h1, fun a z => ⟨(h2 a (.inl z)).1, if_pos z⟩, fun a o e => ?_, .refl, fun a o e => .inl e⟩, fun H' R' h' => ?_⟩
  · have e : (if A1 a then none else H a) = some o := e
    by_cases q : A1 a
    · rw [if_pos q] at e; cases e
    · rw [if_neg q] at e; exact e
  · obtain ⟨F', A', r', k1, k2, k3, k4, k5⟩ := h'
    have kB : ∀ a o, ¬ A1 a → H a = some o → H' a = some o := fun a o n e => k3 a o (show (if A1 a then none else H a) = some o by rw [if_neg n]; exact e)
    have notF' : ∀ a, A2 a → F' a = none := fun a z => by
      cases e : F' a with
      | none => rfl
      | some o =>
        rcases k5 a o e with q | q
        · rw [(h2 a (.inr z)).1] at q; cases q
        · have q : (if A1 a then none else H a) = none := q
          rw [if_neg fun w => dj a w z] at q
          obtain ⟨u, e'⟩ := y.there a z
          rw [q] at e'; cases e'
    refine ⟨F', _, r'.append (y.mono k4 fun a z => ?_) fun a z q => ?_, k1, fun a z => ?_, fun a o e => kB a o (fun q => ?_) (h3 a o e), h4.trans k4, fun a o e => ?_⟩
    · obtain ⟨u, e⟩ := y.there a z
      rw [kB a u (fun w => dj a w z) e, e]
    · have w := (k2 a z).2
      have w : (if A1 a then none else H a) = none := w
      rw [if_neg fun w => dj a w q] at w
      obtain ⟨u, e⟩ := y.there a q
      rw [w] at e; cases e
    · rcases z with z | z
      · refine ⟨(k2 a z).1, ?_⟩
        cases e : B a with
        | none => rfl
        | some o =>
          have w : (if A1 a then none else H a) = none := (k2 a z).2
          by_cases q : A1 a
          · rw [(h2 a (.inl q)).2] at e; cases e
          · rw [if_neg q, h3 a o e] at w; cases w
      · exact ⟨notF' a z, (h2 a (.inr z)).2⟩
    · rw [(h2 a (.inl q)).2] at e; cases e
    · rcases k5 a o e with q | q
      · exact h5 a o q
      · have q : (if A1 a then none else H a) = none := q
        by_cases w : A1 a
        · exact .inr (h2 a (.inl w)).2
        · rw [if_neg w] at q
          cases e' : B a with
          | none => exact .inr rfl
          | some o' => rw [h3 a o' e'] at q; cases q

def zs (R : List Root) : List Root := R.map fun x => ⟨.z, x.v, x.d⟩
theorem OwnR.ofz {F1 : Hp} : ∀ {R : List Root}, (∀ x ∈ R, ∃ v, x.v = some v ∧ Rp K cl F1 v x.d) → OwnR K cl F1 H (zs R) (fun _ => False)
  | [], _ => .nil
  | x :: R, h => by
    obtain ⟨v, e, r⟩ := h x List.mem_cons_self
    have a : OwnR K cl F1 H (zs R) (fun _ => False) := OwnR.ofz fun y hy => h y (List.mem_cons_of_mem _ hy)
    have b : Own K cl F1 H .z x.v x.d (fun _ => False) := by rw [e]; exact .z r
    rw [show (fun _ : Addr => False) = (fun _ => False ∨ False) from fpEq fun _ => by simp]
    exact .cons (x := ⟨.z, x.v, x.d⟩) b a fun _ z => z.elim
/-- some things are lent: the callee sees them as shared, and gives back nothing that is shared -/
theorem S.lend {R R1 R2 : List Root} (h : S K cl B F0 H (R1 ++ (R2 ++ R))) (hf : ∀ x ∈ R1, x.w.fz = true) :
    ∃ B1 F1, S K cl B1 F1 H (zs R1 ++ R2) ∧ ∀ H' R', (∀ x ∈ R', x.w.cw = true) → S K cl B1 F1 H' R' → S K cl B F0 H' (R' ++ (R1 ++ R)) := by
  classical
  obtain ⟨F, A, r, h1, h2, h3, h4, h5⟩ := h
  obtain ⟨A1, A23, x, y, dj, rfl⟩ := r.split
  obtain ⟨A2, A3, y2, z, dj2, rfl⟩ := y.split
  let F1 : Hp := fun a => if A1 a then H a else F a
  have n1 : ∀ a, A1 a → F a = none := fun a q => (h2 a (.inl q)).1
  have s1 : Sub F F1 := fun a o e => by
    show (if A1 a then H a else F a) = some o
    by_cases q : A1 a
    · rw [n1 a q] at e; cases e
    · rw [if_neg q]; exact e
  have s2 : Sub F1 H := fun a o e => by
    have e : (if A1 a then H a else F a) = some o := e
    by_cases q : A1 a
    · rw [if_pos q] at e; exact e
    · rw [if_neg q] at e; exact h1 a o e
  have f1n : ∀ a, ¬ A1 a → F1 a = F a := fun a q => if_neg q
  refine ⟨fun a => if A2 a then none else H a, F1, ⟨F1, _, (OwnR.ofz (OwnR.frz s1 x hf fun a q o e => ?_)).append (y2.mono s1 fun _ _ => rfl) fun _ q => q.elim, s2, fun a q => ?_, fun a o e => ?_, .refl, fun a o e => .inl e⟩, fun H' R' hc h' => ?_⟩
  · show (if A1 a then H a else F a) = some o
    rw [if_pos q]; exact e
  · have q : A2 a := q.elim False.elim id
    exact ⟨by rw [f1n a fun w => dj a w (.inl q)]; exact (h2 a (.inr (.inl q))).1, if_pos q⟩
  · have e : (if A2 a then none else H a) = some o := e
    by_cases q : A2 a
    · rw [if_pos q] at e; cases e
    · rw [if_neg q] at e; exact e
  · obtain ⟨F', A', r', k1, k2, k3, k4, k5⟩ := h'
    have kB : ∀ a o, ¬ A2 a → H a = some o → H' a = some o := fun a o n e => k3 a o (show (if A2 a then none else H a) = some o by rw [if_neg n]; exact e)
    have out : ∀ a, A' a → ¬ A2 a → H a = none := fun a q n => by
      have w : (if A2 a then none else H a) = none := (k2 a q).2
      rw [if_neg n] at w; exact w
    have keep1 : ∀ a, A1 a → H' a = H a := fun a q => by
      obtain ⟨u, e⟩ := x.there a q
      rw [kB a u (fun w => dj a q (.inl w)) e, e]
    have keep3 : ∀ a, A3 a → H' a = H a := fun a q => by
      obtain ⟨u, e⟩ := z.there a q
      rw [kB a u (fun w => dj2 a w q) e, e]
    refine ⟨F, _, (r'.cw hc).append ((x.mono .refl keep1).append (z.mono .refl keep3) fun a p q => dj a p (.inr q)) fun a p q => ?_, fun a o e => ?_, fun a q => ?_, fun a o e => kB a o (fun q => ?_) (h3 a o e), h4, h5⟩
    · rcases q with q | q
      · obtain ⟨u, e⟩ := x.there a q
        rw [out a p fun w => dj a q (.inl w)] at e; cases e
      · obtain ⟨u, e⟩ := z.there a q
        rw [out a p fun w => dj2 a w q] at e; cases e
    · refine kB a o (fun q => ?_) (h1 a o e)
      rw [(h2 a (.inr (.inl q))).1] at e; cases e
    · rcases q with q | q | q
      · refine ⟨?_, ?_⟩
        · cases e : F a with
          | none => rfl
          | some o =>
            have w := k4 a o (s1 a o e)
            rw [(k2 a q).1] at w; cases w
        · cases e : B a with
          | none => rfl
          | some o =>
            by_cases w : A2 a
            · rw [(h2 a (.inr (.inl w))).2] at e; cases e
            · have w2 := out a q w
              rw [h3 a o e] at w2; cases w2
      · exact h2 a (.inl q)
      · exact h2 a (.inr (.inr q))
    · rw [(h2 a (.inr (.inl q))).2] at e; cases e

/-! ### slots -/
def zr : List W → L2.St → List D → List Root
  | w :: Γ, v :: σ, d :: ρ => ⟨w, v, d⟩ :: zr Γ σ ρ
  | _, _, _ => []
structure Rel (K : PySem.W.Frag) (cl : Cl) (B F0 : Hp) (R : List Root) (Γ : List W) (ρ : List D) (σ : L2.St) (H : Hp) : Prop where
  s : S K cl B F0 H (R ++ zr Γ σ ρ)
  l1 : Γ.length = σ.length
  l2 : ρ.length = σ.length
theorem zr_split : ∀ {Γ : List W} {σ : L2.St} {ρ : List D} {i : Nat} {w : W}, Γ.length = σ.length → ρ.length = σ.length → Γ[i]? = some w →
    ∃ v d R1 R2, σ[i]? = some v ∧ ρ[i]? = some d ∧ zr Γ σ ρ = R1 ++ ⟨w, v, d⟩ :: R2 ∧ ∀ w' v' d', zr (Γ.set i w') (σ.set i v') (ρ.set i d') = R1 ++ ⟨w', v', d'⟩ :: R2
  | [], _, _, _, _, _, _, e => by simp at e
  | _ :: _, [], _, _, _, l, _, _ => by simp at l
  | _ :: _, _ :: _, [], _, _, _, l, _ => by simp at l
  | w0 :: Γ, v :: σ, d :: ρ, 0, w, _, _, e => by
    simp at e; subst e
    exact ⟨v, d, [], zr Γ σ ρ, rfl, rfl, rfl, fun _ _ _ => rfl⟩
  | w0 :: Γ, v :: σ, d :: ρ, i + 1, w, l1, l2, e => by
    obtain ⟨v', d', R1, R2, e1, e2, e3, e4⟩ := zr_split (Γ := Γ) (σ := σ) (ρ := ρ) (i := i) (w := w) (by simpa using l1) (by simpa using l2) (by simpa using e)
    refine ⟨v', d', ⟨w0, v, d⟩ :: R1, R2, by simpa using e1, by simpa using e2, by simp [zr, e3], fun w1 v1 d1 => ?_⟩
    simp only [List.set_cons_succ, zr, e4, List.cons_append]
variable {R : List Root} {Γ Γ' : List W} {ρ ρ' : List D} {σ σ' : L2.St}
theorem List.set_same {α : Type} : ∀ {l : List α} {i : Nat} {a : α}, l[i]? = some a → l.set i a = l
  | [], _, _, e => by simp at e
  | x :: l, 0, a, e => by simp at e; subst e; rfl
  | x :: l, i + 1, a, e => by simp at e; simp [List.set_same e]
/-- the slot's root to the front, u in its place -/
theorem Rel.out (h : Rel K cl B F0 R Γ ρ σ H) {i : Nat} {w : W} (e : Γ[i]? = some w) : ∃ v d, σ[i]? = some v ∧ ρ[i]? = some d ∧ Rel K cl B F0 (⟨w, v, d⟩ :: R) (Γ.set i .u) ρ σ H := by
  obtain ⟨v, d, R1, R2, e1, e2, e3, e4⟩ := zr_split h.l1 h.l2 e
  refine ⟨v, d, e1, e2, ⟨?_, by simpa using h.l1, h.l2⟩⟩
  have q := e4 .u v d
  rw [List.set_same e1, List.set_same e2] at q
  rw [q]
  have s := h.s
  rw [e3, ← List.append_assoc] at s
  have s2 := (S.toFront s).addU (v := v) (d := d)
  refine s2.perm ?_
  rw [List.append_assoc]
  show (⟨.u, v, d⟩ :: ⟨w, v, d⟩ :: (R ++ (R1 ++ R2))).Perm (⟨w, v, d⟩ :: (R ++ (R1 ++ ⟨.u, v, d⟩ :: R2)))
  refine (List.Perm.swap _ _ _).trans (List.Perm.cons _ ?_)
  rw [← List.append_assoc, ← List.append_assoc]
  exact List.perm_middle.symm
/-- a root into a slot -/
theorem Rel.into {w : W} {v : Option V} {d : D} (h : Rel K cl B F0 (⟨w, v, d⟩ :: R) Γ ρ σ H) (i : Nat) : Rel K cl B F0 R (Γ.set i w) (ρ.set i d) (σ.set i v) H := by
  refine ⟨?_, by simpa using h.l1, by simpa using h.l2⟩
  cases e : Γ[i]? with
  | none =>
    have h1 := List.getElem?_eq_none_iff.mp e
    have l1 := h.l1
    have l2 := h.l2
    have e1 : Γ.set i w = Γ := List.set_eq_of_length_le h1
    have e2 : ρ.set i d = ρ := List.set_eq_of_length_le (by omega)
    have e3 : σ.set i v = σ := List.set_eq_of_length_le (by omega)
    rw [e1, e2, e3]
    exact S.drop h.s
  | some w0 =>
    obtain ⟨v0, d0, R1, R2, e1, e2, e3, e4⟩ := zr_split h.l1 h.l2 e
    rw [e4]
    have s : S K cl B F0 H (⟨w, v, d⟩ :: (R ++ zr Γ σ ρ)) := h.s
    rw [e3, ← List.append_assoc] at s
    have s2 := S.drop (S.toFront (R := ⟨w, v, d⟩ :: (R ++ R1)) s)
    rw [← List.append_assoc]
    exact S.toBack s2
theorem Rel.perm {R' : List Root} (h : Rel K cl B F0 R Γ ρ σ H) (p : R.Perm R') : Rel K cl B F0 R' Γ ρ σ H := ⟨h.s.perm (p.append_right _), h.l1, h.l2⟩
theorem Rel.mapS {R' : List Root} {B' F0' H' : Hp} (h : Rel K cl B F0 R Γ ρ σ H) (f : ∀ {Z}, S K cl B F0 H (R ++ Z) → S K cl B' F0' H' (R' ++ Z)) : Rel K cl B' F0' R' Γ ρ σ H' := ⟨f h.s, h.l1, h.l2⟩
def leL : List W → List W → Bool
  | [], [] => true
  | a :: as, b :: bs => leW a b && leL as bs
  | _, _ => false
theorem S.weakZ : ∀ {Γ Γ' : List W} {σ : L2.St} {ρ : List D} {R : List Root}, leL Γ Γ' = true → S K cl B F0 H (R ++ zr Γ σ ρ) → S K cl B F0 H (R ++ zr Γ' σ ρ)
  | [], [], _, _, _, _, h => h
  | [], _ :: _, _, _, _, l, _ => by simp [leL] at l
  | _ :: _, [], _, _, _, l, _ => by simp [leL] at l
  | a :: as, b :: bs, [], _, _, _, h => by simpa [zr] using h
  | a :: as, b :: bs, _ :: _, [], _, _, h => by simpa [zr] using h
  | a :: as, b :: bs, v :: σ, d :: ρ, R, l, h => by
    simp only [leL, Bool.and_eq_true] at l
    have h1 := S.weak a l.1 (S.toFront (by simpa [zr] using h))
    have h2 := S.weakZ (R := ⟨b, v, d⟩ :: R) l.2 (by simpa using h1)
    exact S.toBack (by simpa using h2)
theorem leL_len : ∀ {a b : List W}, leL a b = true → a.length = b.length
  | [], [], _ => rfl
  | [], _ :: _, l => by simp [leL] at l
  | _ :: _, [], l => by simp [leL] at l
  | _ :: as, _ :: bs, l => by simp only [leL, Bool.and_eq_true] at l; simp [leL_len l.2]
theorem Rel.weak (h : Rel K cl B F0 R Γ ρ σ H) (l : leL Γ Γ' = true) : Rel K cl B F0 R Γ' ρ σ H := ⟨h.s.weakZ l, (leL_len l).symm.trans h.l1, h.l2⟩
theorem S.weakM : ∀ {ws ws' : List W} {vs : List V} {ds : List D} {R : List Root}, leL ws ws' = true → S K cl B F0 H (mkT ws vs ds ++ R) → S K cl B F0 H (mkT ws' vs ds ++ R)
  | [], [], _, _, _, _, h => h
  | [], _ :: _, _, _, _, l, _ => by simp [leL] at l
  | _ :: _, [], _, _, _, l, _ => by simp [leL] at l
  | a :: as, b :: bs, [], _, _, _, h => by simpa [mkT] using h
  | a :: as, b :: bs, _ :: _, [], _, _, h => by simpa [mkT] using h
  | a :: as, b :: bs, v :: vs, d :: ds, R, l, h => by
    simp only [leL, Bool.and_eq_true] at l
    have h1 := S.weak a l.1 (show S K cl B F0 H (⟨a, some v, d⟩ :: (mkT as vs ds ++ R)) from h)
    have h2 := S.weakM (R := ⟨b, some v, d⟩ :: R) l.2 (h1.perm List.perm_middle.symm)
    exact S.toFront h2
end Dv
/-! D4: the judgements; statements. -/
namespace Dv
open PySem PySem.Spec PyProof.Rows L2

inductive Res (α : Type) where
  | ok (a : α) | err (c : Nat) (fs : List D) (ρ : List D) | stk
def Res.bind {α β : Type} (x : Res α) (f : α → Res β) : Res β := match x with
  | .ok a => f a
  | .err c fs ρ => .err c fs ρ
  | .stk => .stk
@[simp] theorem Res.bind_ok {α β : Type} (a : α) (f : α → Res β) : (Res.ok a).bind f = f a := rfl
@[simp] theorem Res.bind_err {α β : Type} (c : Nat) (fs ρ : List D) (f : α → Res β) : (Res.err c fs ρ : Res α).bind f = .err c fs ρ := rfl
@[simp] theorem Res.bind_stk {α β : Type} (f : α → Res β) : (Res.stk : Res α).bind f = .stk := rfl

abbrev En := List D
abbrev GE := En → Res (D × En)
abbrev GA := En → Res (List D × En)
abbrev GT := En → Res (Bool × En)
inductive Fl where
  | nx | bk | ct | rt (d : D)
abbrev GS := En → Res (Fl × En)

/-- where a piece of a def stands -/
structure Cq where
  X : Cx
  cl : Cl
  xw : WX
  ge : List W
  gr : List W
  wr : W
  io : List Nat
  gb : List W
  gc : List W

theorem notIn {io : List Nat} {i : Nat} (h : io.contains i = false) : i ∉ io := fun m => by
  have : io.contains i = true := by simpa using m
  rw [this] at h; cases h
def Keep (io : List Nat) (σ σ' : L2.St) : Prop := ∀ i ∈ io, σ'[i]? = σ[i]?
theorem Keep.refl {io : List Nat} {σ : L2.St} : Keep io σ σ := fun _ _ => rfl
theorem Keep.set {io : List Nat} {σ : L2.St} {i : Nat} {v : Option V} (h : i ∉ io) : Keep io σ (σ.set i v) := fun j hj => List.getElem?_set_ne (fun e : i = j => h (e ▸ hj))
theorem Keep.trans {io : List Nat} {a b c : L2.St} (h : Keep io a b) (k : Keep io b c) : Keep io a c := fun i hi => (k i hi).trans (h i hi)

abbrev RelC (C : Cq) (B F0 : Hp) (R : List Root) (Γ : List W) (ρ : En) (σ : L2.St) (H : Hp) : Prop := Rel C.X.K C.cl B F0 R Γ ρ σ H
def ErrOk (C : Cq) (B F0 : Hp) (R0 : List Root) (σ : L2.St) (c : Nat) (fs ρ : List D) : Prop :=
  ∀ H' dx, RelC C B F0 (⟨.z, some (.ref dx), .exc c fs⟩ :: R0) C.ge ρ σ H' → C.xw (.ref (C.cl.ad c)) (some dx) σ H'

def PostE (C : Cq) (B F0 : Hp) (T R0 : List Root) (Γ' : List W) (w : W) (σ : L2.St) (Q : VK) : Res (D × En) → Prop
  | .ok (d, ρ') => ∀ v H', RelC C B F0 (⟨w, some v, d⟩ :: (T ++ R0)) Γ' ρ' σ H' → Q v H'
  | .err c fs ρ' => ErrOk C B F0 R0 σ c fs ρ'
  | .stk => False
def DE (C : Cq) (Γ : List W) (e : Expr) (g : GE) (Γ' : List W) (w : W) : Prop := ∃ t, PE C.X e t ∧ ∀ (B F0 : Hp) (T R0 : List Root) (ρ : En) (σ : L2.St) (H : Hp) (Q : VK),
  RelC C B F0 (T ++ R0) Γ ρ σ H → PostE C B F0 T R0 Γ' w σ Q (g ρ) → t σ H Q

def PostT (C : Cq) (B F0 : Hp) (T R0 : List Root) (Γ' : List W) (σ : L2.St) (Q : Bool → Hp → Prop) : Res (Bool × En) → Prop
  | .ok (b, ρ') => ∀ H', RelC C B F0 (T ++ R0) Γ' ρ' σ H' → Q b H'
  | .err c fs ρ' => ErrOk C B F0 R0 σ c fs ρ'
  | .stk => False
def DT (C : Cq) (Γ : List W) (e : Expr) (g : GT) (Γ' : List W) : Prop := ∃ t, PT C.X e t ∧ ∀ (B F0 : Hp) (T R0 : List Root) (ρ : En) (σ : L2.St) (H : Hp) (Q : Bool → Hp → Prop),
  RelC C B F0 (T ++ R0) Γ ρ σ H → PostT C B F0 T R0 Γ' σ Q (g ρ) → t σ H Q
/-- a test whatever its whole -/
def DTw (C : Cq) (Γ : List W) (e : Expr) (g : GT) (Γ' : List W) : Prop := ∃ t, PW C.X e t ∧ ∀ (B F0 : Hp) (T R0 : List Root) (ρ : En) (σ : L2.St) (H : Hp) (Q : Bool → Hp → Prop),
  RelC C B F0 (T ++ R0) Γ ρ σ H → PostT C B F0 T R0 Γ' σ Q (g ρ) → t σ H Q

/-- which slots the arguments came out of -/
def Lk (σ : L2.St) (ms : List (Option Nat)) (vs : List V) : Prop := ∀ (k j : Nat), ms[k]? = some (some j) → ∃ v, vs[k]? = some v ∧ σ[j]? = some (some v)
def PostA (C : Cq) (B F0 : Hp) (T R0 : List Root) (Γ' : List W) (ws : List W) (ms : List (Option Nat)) (σ : L2.St) (Q : List V → Hp → Prop) : Res (List D × En) → Prop
  | .ok (ds, ρ') => ∀ vs H', vs.length = ws.length → ds.length = ws.length → Lk σ ms vs → RelC C B F0 (mkT ws vs ds ++ (T ++ R0)) Γ' ρ' σ H' → Q vs H'
  | .err c fs ρ' => ErrOk C B F0 R0 σ c fs ρ'
  | .stk => False
def DA (C : Cq) (Γ : List W) (es : List Expr) (g : GA) (Γ' : List W) (ws : List W) (ms : List (Option Nat)) : Prop := ∃ t, PA C.X es t ∧ ∀ (B F0 : Hp) (T R0 : List Root) (ρ : En) (σ : L2.St) (H : Hp) (Q : List V → Hp → Prop),
  RelC C B F0 (T ++ R0) Γ ρ σ H → PostA C B F0 T R0 Γ' ws ms σ Q (g ρ) → t σ H Q

def PostS (C : Cq) (B F0 : Hp) (R0 : List Root) (Γ' : List W) (σ : L2.St) (D : Ends) : Res (Fl × En) → Prop
  | .ok (.nx, ρ') => ∀ σ' H', Keep C.io σ σ' → RelC C B F0 R0 Γ' ρ' σ' H' → D.nx σ' H'
  | .ok (.bk, ρ') => ∀ σ' H', Keep C.io σ σ' → RelC C B F0 R0 C.gb ρ' σ' H' → D.bk σ' H'
  | .ok (.ct, ρ') => ∀ σ' H', Keep C.io σ σ' → RelC C B F0 R0 C.gc ρ' σ' H' → D.ct σ' H'
  | .ok (.rt d, ρ') => ∀ v σ' H', Keep C.io σ σ' → RelC C B F0 (⟨C.wr, some v, d⟩ :: R0) C.gr ρ' σ' H' → D.rt v H'
  | .err c fs ρ' => ∀ σ', Keep C.io σ σ' → ErrOk C B F0 R0 σ' c fs ρ'
  | .stk => False
def DS (C : Cq) (Γ : List W) (st : Stmt) (g : GS) (Γ' : List W) : Prop := ∃ t, PS C.X st t ∧ ∀ (B F0 : Hp) (R0 : List Root) (ρ : En) (σ : L2.St) (H : Hp) (D : Ends),
  RelC C B F0 R0 Γ ρ σ H → PostS C B F0 R0 Γ' σ D (g ρ) → t D σ H
def DSs (C : Cq) (Γ : List W) (sts : List Stmt) (g : GS) (Γ' : List W) : Prop := ∃ t, PSs C.X sts t ∧ ∀ (B F0 : Hp) (R0 : List Root) (ρ : En) (σ : L2.St) (H : Hp) (D : Ends),
  RelC C B F0 R0 Γ ρ σ H → PostS C B F0 R0 Γ' σ D (g ρ) → t D σ H

variable {C : Cq} {Γ Γ1 Γ2 Γ3 Γ' : List W} {pos : Pos} {B F0 : Hp} {T R0 : List Root} {σ σ' : L2.St}

theorem PostS.keep {D : Ends} {r : Res (Fl × En)} (k : Keep C.io σ σ') (h : PostS C B F0 R0 Γ' σ D r) : PostS C B F0 R0 Γ' σ' D r := by
  match r, h with
  | .ok (.nx, _), h => exact fun s H z => h s H (k.trans z)
  | .ok (.bk, _), h => exact fun s H z => h s H (k.trans z)
  | .ok (.ct, _), h => exact fun s H z => h s H (k.trans z)
  | .ok (.rt _, _), h => exact fun v s H z => h v s H (k.trans z)
  | .err _ _ _, h => exact fun s z => h s (k.trans z)
  | .stk, h => exact h

/-! ### sequences -/
def sSeq (a b : GS) : GS := fun ρ => match a ρ with
  | .ok (.nx, ρ') => b ρ'
  | r => r
def sNil : GS := fun ρ => .ok (.nx, ρ)
theorem dss_nil : DSs C Γ [] sNil Γ := ⟨_, pss_nil, fun B F0 R0 ρ σ H D r h => h σ H .refl r⟩
theorem dss_cons {st : Stmt} {rest : List Stmt} {ga gb : GS} (h1 : DS C Γ st ga Γ1) (h2 : DSs C Γ1 rest gb Γ2) : DSs C Γ (st :: rest) (sSeq ga gb) Γ2 := by
  obtain ⟨t, p1, f1⟩ := h1
  obtain ⟨u, p2, f2⟩ := h2
  refine ⟨_, pss_cons p1 p2, fun B F0 R0 ρ σ H D r h => ?_⟩
  refine f1 B F0 R0 ρ σ H _ r ?_
  unfold sSeq at h
  match e : ga ρ, h with
  | .ok (.nx, ρ'), h => exact fun σ' H' k r' => f2 B F0 R0 ρ' σ' H' D r' (PostS.keep k h)
  | .ok (.bk, ρ'), h => exact h
  | .ok (.ct, ρ'), h => exact h
  | .ok (.rt d, ρ'), h => exact h
  | .err c fs ρ', h => exact h
  | .stk, h => exact h
theorem dss_one {st : Stmt} {ga : GS} (h1 : DS C Γ st ga Γ1) : DSs C Γ [st] ga Γ1 := by
  obtain ⟨t, p1, f1⟩ := h1
  exact ⟨_, pss_one p1, f1⟩
/-- another typing of the slots behind -/
theorem ds_weak {st : Stmt} {ga : GS} (h1 : DS C Γ st ga Γ1) (l : leL Γ1 Γ2 = true) : DS C Γ st ga Γ2 := by
  obtain ⟨t, p1, f1⟩ := h1
  refine ⟨t, p1, fun B F0 R0 ρ σ H D r h => f1 B F0 R0 ρ σ H D r ?_⟩
  match e : ga ρ, h with
  | .ok (.nx, _), h => exact fun s H z q => h s H z (q.weak l)
  | .ok (.bk, _), h => exact h
  | .ok (.ct, _), h => exact h
  | .ok (.rt _, _), h => exact h
  | .err _ _ _, h => exact h
  | .stk, h => exact h
theorem dss_weak {st : List Stmt} {ga : GS} (h1 : DSs C Γ st ga Γ1) (l : leL Γ1 Γ2 = true) : DSs C Γ st ga Γ2 := by
  obtain ⟨t, p1, f1⟩ := h1
  refine ⟨t, p1, fun B F0 R0 ρ σ H D r h => f1 B F0 R0 ρ σ H D r ?_⟩
  match e : ga ρ, h with
  | .ok (.nx, _), h => exact fun s H z q => h s H z (q.weak l)
  | .ok (.bk, _), h => exact h
  | .ok (.ct, _), h => exact h
  | .ok (.rt _, _), h => exact h
  | .err _ _ _, h => exact h
  | .stk, h => exact h
/-- .. and ahead -/
theorem dss_pre {st : List Stmt} {ga : GS} (h1 : DSs C Γ1 st ga Γ2) (l : leL Γ Γ1 = true) : DSs C Γ st ga Γ2 := by
  obtain ⟨t, p1, f1⟩ := h1
  exact ⟨t, p1, fun B F0 R0 ρ σ H D r h => f1 B F0 R0 ρ σ H D (r.weak l) h⟩
theorem ds_pre {st : Stmt} {ga : GS} (h1 : DS C Γ1 st ga Γ2) (l : leL Γ Γ1 = true) : DS C Γ st ga Γ2 := by
  obtain ⟨t, p1, f1⟩ := h1
  exact ⟨t, p1, fun B F0 R0 ρ σ H D r h => f1 B F0 R0 ρ σ H D (r.weak l) h⟩
theorem de_weak {e : Expr} {g : GE} {w w' : W} (h1 : DE C Γ e g Γ1 w) (lw : leW w w' = true) (l : leL Γ1 Γ2 = true) : DE C Γ e g Γ2 w' := by
  obtain ⟨t, p1, f1⟩ := h1
  refine ⟨t, p1, fun B F0 T R0 ρ σ H Q r h => f1 B F0 T R0 ρ σ H Q r ?_⟩
  match e : g ρ, h with
  | .ok (_, _), h => exact fun v H q => h v H ((q.weak l).mapS fun s => S.weak w lw s)
  | .err _ _ _, h => exact h
  | .stk, h => exact h
theorem de_w {e : Expr} {g : GE} {w w' : W} (h1 : DE C Γ e g Γ1 w) (lw : leW w w' = true) : DE C Γ e g Γ1 w' := by
  obtain ⟨t, p1, f1⟩ := h1
  refine ⟨t, p1, fun B F0 T R0 ρ σ H Q r h => f1 B F0 T R0 ρ σ H Q r ?_⟩
  match e : g ρ, h with
  | .ok (_, _), h => exact fun v H q => h v H (q.mapS fun s => S.weak w lw s)
  | .err _ _ _, h => exact h
  | .stk, h => exact h
theorem de_pre {e : Expr} {g : GE} {w : W} (h1 : DE C Γ1 e g Γ2 w) (l : leL Γ Γ1 = true) : DE C Γ e g Γ2 w := by
  obtain ⟨t, p1, f1⟩ := h1
  exact ⟨t, p1, fun B F0 T R0 ρ σ H Q r h => f1 B F0 T R0 ρ σ H Q (r.weak l) h⟩
theorem dt_weak {e : Expr} {g : GT} (h1 : DT C Γ e g Γ1) (l : leL Γ1 Γ2 = true) : DT C Γ e g Γ2 := by
  obtain ⟨t, p1, f1⟩ := h1
  refine ⟨t, p1, fun B F0 T R0 ρ σ H Q r h => f1 B F0 T R0 ρ σ H Q r ?_⟩
  match e : g ρ, h with
  | .ok (_, _), h => exact fun H q => h H (q.weak l)
  | .err _ _ _, h => exact h
  | .stk, h => exact h

/-! ### small statements -/
def sPass : GS := fun ρ => .ok (.nx, ρ)
theorem ds_pass : DS C Γ (.Pass pos) sPass Γ := ⟨_, ps_pass, fun B F0 R0 ρ σ H D r h => h σ H .refl r⟩
def sBrk : GS := fun ρ => .ok (.bk, ρ)
def sCont : GS := fun ρ => .ok (.ct, ρ)
theorem ds_break (l : leL Γ C.gb = true) : DS C Γ (.Break pos) sBrk Γ' := ⟨_, ps_break, fun B F0 R0 ρ σ H D r h => h σ H .refl (r.weak l)⟩
theorem ds_continue (l : leL Γ C.gc = true) : DS C Γ (.Continue pos) sCont Γ' := ⟨_, ps_continue, fun B F0 R0 ρ σ H D r h => h σ H .refl (r.weak l)⟩
def sRet (g : GE) : GS := fun ρ => (g ρ).bind fun r => .ok (.rt r.1, r.2)
theorem ds_ret {e : Expr} {g : GE} {w : W} (he : DE C Γ e g Γ1 w) (lw : leW w C.wr = true) (l : leL Γ1 C.gr = true) : DS C Γ (.Return (some e) pos) (sRet g) Γ' := by
  obtain ⟨t, p, f⟩ := he
  refine ⟨_, ps_ret p, fun B F0 R0 ρ σ H D r h => f B F0 [] R0 ρ σ H _ r ?_⟩
  unfold sRet at h
  match e : g ρ, h with
  | .ok (d, ρ'), h => exact fun v H' q => h v σ H' .refl ((q.weak l).mapS fun s => S.weak w lw s)
  | .err c fs ρ', h => exact h σ .refl
  | .stk, h => exact h
def sRetN : GS := fun ρ => .ok (.rt .non, ρ)
theorem ds_retN (lw : leW .s C.wr = true) (l : leL Γ C.gr = true) : DS C Γ (.Return none pos) sRetN Γ' :=
  ⟨_, ps_retN, fun B F0 R0 ρ σ H D r h => h .non σ H .refl ((r.weak l).mapS fun s => S.weak .s lw (s.addS .non))⟩
def sExp (g : GE) : GS := fun ρ => (g ρ).bind fun r => .ok (.nx, r.2)
theorem ds_expr {e : Expr} {g : GE} {w : W} (he : DE C Γ e g Γ1 w) (hs : swapsWith e none pos.line C.X.env = pure false := by rfl) : DS C Γ (.Expr e pos) (sExp g) Γ1 := by
  obtain ⟨t, p, f⟩ := he
  refine ⟨_, ps_expr p hs, fun B F0 R0 ρ σ H D r h => f B F0 [] R0 ρ σ H _ r ?_⟩
  unfold sExp at h
  match e : g ρ, h with
  | .ok (d, ρ'), h => exact fun v H' q => h σ H' .refl (q.mapS fun s => S.drop s)
  | .err c fs ρ', h => exact h σ .refl
  | .stk, h => exact h
theorem ds_doc {x j pos pos'} : DS C Γ (.Expr (.Constant (.str x) j pos) pos') sPass Γ := ⟨_, ps_doc, fun B F0 R0 ρ σ H D r h => h σ H .refl r⟩
def sIf (c : GT) (a b : GS) : GS := fun ρ => (c ρ).bind fun r => if r.1 = true then a r.2 else b r.2
theorem ds_if {c : Expr} {a b : List Stmt} {gc : GT} {ga gb : GS} (hc : DT C Γ c gc Γ1) (ha : DSs C Γ1 a ga Γ2) (hb : DSs C Γ1 b gb Γ2) : DS C Γ (.If c a b pos) (sIf gc ga gb) Γ2 := by
  obtain ⟨t, p, f⟩ := hc
  obtain ⟨ta, pa, fa⟩ := ha
  obtain ⟨tb, pb, fb⟩ := hb
  refine ⟨_, ps_if p pa pb, fun B F0 R0 ρ σ H D r h => f B F0 [] R0 ρ σ H _ r ?_⟩
  unfold sIf at h
  match e : gc ρ, h with
  | .ok (true, ρ'), h => exact fun H' q => fa B F0 R0 ρ' σ H' D q h
  | .ok (false, ρ'), h => exact fun H' q => fb B F0 R0 ρ' σ H' D q h
  | .err c fs ρ', h => exact h σ .refl
  | .stk, h => exact h
/-- what is never reached -/
def sNo : GS := fun _ => .stk
theorem ds_no {st : Stmt} : DS C Γ st sNo Γ' := ⟨_, ps_never, fun B F0 R0 ρ σ H D r h => h⟩
theorem dss_no {st : List Stmt} : DSs C Γ st sNo Γ' := ⟨_, pss_never, fun B F0 R0 ρ σ H D r h => h⟩

/-! ### targets -/
def PostG (C : Cq) (B F0 : Hp) (R0 : List Root) (Γ' : List W) (σ : L2.St) (Q : L2.St → Hp → Prop) : Option En → Prop
  | some ρ' => ∀ σ' H', Keep C.io σ σ' → RelC C B F0 R0 Γ' ρ' σ' H' → Q σ' H'
  | none => False
/-- a target takes a value that is owned as w -/
def DG (C : Cq) (w : W) (Γ : List W) (tg : Expr) (p : D → En → Option En) (Γ' : List W) : Prop := ∃ t, PG C.X tg t ∧ ∀ (B F0 : Hp) (R0 : List Root) (v : V) (d : D) (ρ : En) (σ : L2.St) (H : Hp) (Q : L2.St → Hp → Prop),
  RelC C B F0 (⟨w, some v, d⟩ :: R0) Γ ρ σ H → PostG C B F0 R0 Γ' σ Q (p d ρ) → t v σ H Q
def pName (i : Nat) : D → En → Option En := fun d ρ => some (ρ.set i d)
theorem dg_name {w : W} {i : Nat} {x : Str} (hN : C.X.N.Nodup) (hi : C.X.N[i]? = some x) (hx : Loc C.X.env.scope x) (hio : C.io.contains i = false := by rfl)
    (hf : C.X.fn x = true ∨ C.X.env.scope.names.lookup x = some .local := by first | exact .inl rfl | exact .inr rfl) : DG C w Γ (.Name x pos) (pName i) (Γ.set i w) := by
  refine ⟨_, pg_name hN hi hx hf, fun B F0 R0 v d ρ σ H Q r h => ?_⟩
  exact h (σ.set i (some v)) H (Keep.set (notIn hio)) (r.into i)
def sAsg (g : GE) (p : D → En → Option En) : GS := fun ρ => (g ρ).bind fun r => match p r.1 r.2 with
  | some ρ' => .ok (.nx, ρ')
  | none => .stk
theorem ds_asg {tg e : Expr} {g : GE} {w : W} {p : D → En → Option En} (he : DE C Γ e g Γ1 w) (hg : DG C w Γ1 tg p Γ2) (hs : swapsWithSole [tg] e pos.line C.X.env = pure false := by rfl) (hw : swappedStores [tg] e C.X.env = pure none := by rfl)
    (h1 : (assignEach [tg] C.X.env).map (·.2) = [assign tg C.X.env] := by rfl) : DS C Γ (.Assign [tg] e pos) (sAsg g p) Γ2 := by
  obtain ⟨t, pe, f⟩ := he
  obtain ⟨u, pg, fg⟩ := hg
  refine ⟨_, ps_asg pe pg hs hw h1, fun B F0 R0 ρ σ H D r h => f B F0 [] R0 ρ σ H _ r ?_⟩
  unfold sAsg at h
  match e : g ρ, h with
  | .ok (d, ρ'), h =>
    refine fun v H' q => fg B F0 R0 v d ρ' σ H' _ q ?_
    simp only [Res.bind_ok] at h
    match e2 : p d ρ', h with
    | some ρ2, h => exact h
    | none, h => exact h
  | .err c fs ρ', h => exact h σ .refl
  | .stk, h => exact h
/-- name = value -/
theorem ds_set {i : Nat} {x : Str} {e : Expr} {g : GE} {w : W} {pos' : Pos} (hN : C.X.N.Nodup) (hi : C.X.N[i]? = some x) (hx : Loc C.X.env.scope x) (he : DE C Γ e g Γ1 w) (hio : C.io.contains i = false := by rfl)
    (hs : swapsWith e (some (.Name x pos')) pos.line C.X.env = pure false := by rfl) (hf : C.X.fn x = true ∨ C.X.env.scope.names.lookup x = some .local := by first | exact .inl rfl | exact .inr rfl) :
    DS C Γ (.Assign [.Name x pos'] e pos) (sAsg g (pName i)) (Γ1.set i w) := by
  obtain ⟨t, pe, f⟩ := he
  refine ⟨_, ps_set hN hi hx pe hs hf, fun B F0 R0 ρ σ H D r h => f B F0 [] R0 ρ σ H _ r ?_⟩
  unfold sAsg at h
  match e : g ρ, h with
  | .ok (d, ρ'), h => exact fun v H' q => h (σ.set i (some v)) H' (Keep.set (notIn hio)) (Rel.into q i)
  | .err c fs ρ', h => exact h σ .refl
  | .stk, h => exact h

/-! ### for -/
/-- what an iterator yields: the items ds, each owned as w, while the roots T stand -/
def Wk (K : PySem.W.Frag) (cl : Cl) (J : It) (T : List Root) (w : W) (ds : List D) : Prop := ∀ (B F0 : Hp) (R : List Root) (H : Hp) (i : Nat), S K cl B F0 H (T ++ R) →
  (i = ds.length → J.stop i H) ∧ ∀ d, ds[i]? = some d → J.go i H ∧ ∀ x H', J.yld i H x H' → S K cl B F0 H' (⟨w, some x, d⟩ :: (T ++ R))
def PostI (C : Cq) (B F0 : Hp) (T R0 : List Root) (Γ' : List W) (w : W) (σ : L2.St) (Q : It → Hp → Prop) : Res (List D × En) → Prop
  | .ok (ds, ρ') => ∀ J H' T', Wk C.X.K C.cl J T' w ds → RelC C B F0 (T' ++ (T ++ R0)) Γ' ρ' σ H' → Q J H'
  | .err c fs ρ' => ErrOk C B F0 R0 σ c fs ρ'
  | .stk => False
def DI (C : Cq) (Γ : List W) (tg it : Expr) (g : GA) (Γ' : List W) (w : W) : Prop := ∃ t, PI C.X tg it t ∧ ∀ (B F0 : Hp) (T R0 : List Root) (ρ : En) (σ : L2.St) (H : Hp) (Q : It → Hp → Prop),
  RelC C B F0 (T ++ R0) Γ ρ σ H → PostI C B F0 T R0 Γ' w σ Q (g ρ) → t σ H Q
def forL (p : D → En → Option En) (body : GS) : List D → En → Res (Fl × En)
  | [], ρ => .ok (.nx, ρ)
  | x :: xs, ρ => match p x ρ with
    | none => .stk
    | some ρ1 => match body ρ1 with
      | .ok (.nx, ρ') => forL p body xs ρ'
      | .ok (.ct, ρ') => forL p body xs ρ'
      | .ok (.bk, ρ') => .ok (.nx, ρ')
      | .ok (.rt d, ρ') => .ok (.rt d, ρ')
      | .err c fs ρ' => .err c fs ρ'
      | .stk => .stk
def sFor (g : GA) (p : D → En → Option En) (body : GS) : GS := fun ρ => (g ρ).bind fun r => forL p body r.1 r.2
theorem ErrOk.drop {T : List Root} {c : Nat} {fs ρ : List D} (h : ErrOk C B F0 R0 σ c fs ρ) : ErrOk C B F0 (T ++ R0) σ c fs ρ := fun H' dx r => by
  refine h H' dx (r.mapS fun {Z} s => ?_)
  have s2 : S C.X.K C.cl B F0 H' (T ++ (⟨.z, some (.ref dx), .exc c fs⟩ :: (R0 ++ Z))) := s.perm (by
    simp only [List.cons_append, List.append_assoc]
    exact List.perm_middle.symm)
  exact S.dropL s2
theorem ds_for {tg it : Expr} {body : List Stmt} {g : GA} {w : W} {p : D → En → Option En} {gb : GS} {Γi : List W} (hp : PassesOwn (model C.X.prog C.X.w) C.X.A C.X.env C.X.xe) (hc : C.X.calm = true) (hi : DI C Γ tg it g Γ1 w) (l : leL Γ1 Γi = true)
    (hg : DG C w Γi tg p Γ2) (hb : DSs { C with gb := Γi, gc := Γi } Γ2 body gb Γi) (hs : ∀ x, foldedSetIterable it C.X.env x = pure x := by intro _; rfl) : DS C Γ (.For tg it body [] pos) (sFor g p gb) Γi := by
  obtain ⟨ti, pi, fi⟩ := hi
  obtain ⟨tg', pg, fg⟩ := hg
  obtain ⟨tb, pb, fb⟩ := hb
  refine ⟨_, ps_for hp hc pi pg pb hs, fun B F0 R0 ρ σ H D r h => fi B F0 [] R0 ρ σ H _ r ?_⟩
  unfold sFor at h
  match e : g ρ, h with
  | .err c fs ρ', h => exact h σ .refl
  | .stk, h => exact h
  | .ok (ds, ρ'), h =>
    intro J H' T' wk q
    have h : PostS C B F0 R0 Γi σ D (forL p gb ds ρ') := h
    refine ⟨fun i m σ2 H2 => m = ds.length - i ∧ i ≤ ds.length ∧ Keep C.io σ σ2 ∧ ∃ ρ2, RelC C B F0 (T' ++ R0) Γi ρ2 σ2 H2 ∧ PostS C B F0 R0 Γi σ D (forL p gb (ds.drop i) ρ2), ⟨ds.length, by simp, Nat.zero_le _, .refl, ρ', q.weak l, h⟩, ?_⟩
    rintro i m σ2 H2 ⟨rfl, hi, k, ρ2, r2, h2⟩
    by_cases hlt : i < ds.length
    · have ed : ds.drop i = ds[i] :: ds.drop (i + 1) := List.drop_eq_getElem_cons hlt
      rw [ed] at h2
      have wi := wk B F0 (R0 ++ zr Γi σ2 ρ2) H2 i (by have := r2.s; rwa [List.append_assoc] at this)
      obtain ⟨go, yl⟩ := wi.2 ds[i] (List.getElem?_eq_getElem hlt)
      refine .inr ⟨go, fun σ3 H3 => Keep C.io σ σ3 ∧ ∃ ρ3, RelC C B F0 (T' ++ R0) Γi ρ3 σ3 H3 ∧ PostS C B F0 R0 Γi σ D (forL p gb (ds.drop (i + 1)) ρ3), fun σ3 H3 ⟨k3, ρ3, r3, h3⟩ => ⟨ds.length - (i + 1), by omega, rfl, hlt, k3, ρ3, r3, h3⟩, fun x H3 y => ?_⟩
      have s3 := yl x H3 y
      have r3 : RelC C B F0 (⟨w, some x, ds[i]⟩ :: (T' ++ R0)) Γi ρ2 σ2 H3 := ⟨by simpa using s3, r2.l1, r2.l2⟩
      refine fg B F0 (T' ++ R0) x ds[i] ρ2 σ2 H3 _ r3 ?_
      unfold forL at h2
      match e2 : p ds[i] ρ2, h2 with
      | none, h2 => exact h2
      | some ρ3, h2 =>
        intro σ4 H4 k4 r4
        refine fb B F0 (T' ++ R0) ρ3 σ4 H4 _ r4 ?_
        have kk : Keep C.io σ σ4 := k.trans k4
        simp only at h2
        match e3 : gb ρ3, h2 with
        | .ok (.nx, ρ5), h2 => exact fun σ5 H5 k5 r5 => ⟨kk.trans k5, ρ5, r5, h2⟩
        | .ok (.ct, ρ5), h2 => exact fun σ5 H5 k5 r5 => ⟨kk.trans k5, ρ5, r5, h2⟩
        | .ok (.bk, ρ5), h2 => exact fun σ5 H5 k5 r5 => h2 σ5 H5 (kk.trans k5) (r5.mapS fun {Z} s => S.dropL (R := T') (by simpa using s))
        | .ok (.rt d, ρ5), h2 => exact fun v σ5 H5 k5 r5 => h2 v σ5 H5 (kk.trans k5) (r5.mapS fun {Z} s => by
            have s2 : S C.X.K C.cl B F0 H5 (T' ++ (⟨C.wr, some v, d⟩ :: (R0 ++ Z))) := s.perm (by simp only [List.cons_append, List.append_assoc]; exact List.perm_middle.symm)
            exact S.dropL s2)
        | .err c fs ρ5, h2 => exact fun σ5 k5 => (h2 σ5 (kk.trans k5)).drop
        | .stk, h2 => exact h2
    · have e : i = ds.length := by omega
      subst e
      have wi := wk B F0 (R0 ++ zr Γi σ2 ρ2) H2 ds.length (by have := r2.s; rwa [List.append_assoc] at this)
      refine .inl ⟨wi.1 rfl, ?_⟩
      rw [List.drop_of_length_le (Nat.le_refl _)] at h2
      exact h2 σ2 H2 k (r2.mapS fun {Z} s => S.dropL (R := T') (by simpa using s))
end Dv
/-! D5: names, constants, operators, comparisons, tests. -/
namespace Dv
open PySem PySem.Spec PyProof.Rows L2
variable {K : PySem.W.Frag} {cl : Cl} {F H B F0 : Hp} {C : Cq} {Γ Γ1 Γ2 Γ3 Γ' : List W} {pos : Pos} {T R0 R : List Root} {σ σ' : L2.St} {a b c : Expr} {x y : V}

def W.sv : W → Bool
  | .s => true
  | .z => true
  | _ => false
theorem S.rpv {w : W} {v : Option V} {d : D} (h : S K cl B F0 H (⟨w, v, d⟩ :: R)) (f : w.sv = true) : ∃ v', v = some v' ∧ Rp K cl H v' d := by
  cases w with
  | s => obtain ⟨v', e, s⟩ := h.sc; exact ⟨v', e, .sc s⟩
  | z => exact h.rp
  | _ => cases f
theorem S.rpv1 {w : W} {v : V} {d : D} (h : S K cl B F0 H (⟨w, some v, d⟩ :: R)) (f : w.sv = true) : Rp K cl H v d := by
  obtain ⟨v', e, r⟩ := h.rpv f
  cases e; exact r
theorem Rp.to_int {i : Int} (h : Rp K cl F x (.int i)) : x = .int i := by
  cases h with
  | sc h => cases h; rfl
theorem Rp.to_bl {i : Bool} (h : Rp K cl F x (.bl i)) : x = .bl i := by
  cases h with
  | sc h => cases h; rfl
theorem Rp.to_str {i : Str} (h : Rp K cl F x (.str i)) : x = .str i := by
  cases h with
  | sc h => cases h; rfl
theorem Rp.to_non (h : Rp K cl F x .non) : x = .non := by
  cases h with
  | sc h => cases h; rfl
theorem Rp.to_lst {ds : List D} (h : Rp K cl F x (.lst ds)) : ∃ p vs, x = .ref p ∧ F p = some (.lst vs) ∧ RpL K cl F vs ds := by
  cases h with
  | sc h => cases h
  | lst h r => exact ⟨_, _, rfl, h, r⟩
theorem Rp.to_tup {ds : List D} (h : Rp K cl F x (.tup ds)) : ∃ p vs, x = .ref p ∧ F p = some (.tup vs) ∧ RpL K cl F vs ds := by
  cases h with
  | sc h => cases h
  | tup h r => exact ⟨_, _, rfl, h, r⟩
theorem Rp.to_ins {c : Nat} {ds : List D} (h : Rp K cl F x (.ins c ds)) : ∃ p dx fs, x = .ref p ∧ F p = some (.ins (cl.ad c) dx fs) ∧ fs.map (·.1) = (cl.lay c).take fs.length ∧ RpL K cl F (fs.map (·.2)) ds := by
  cases h with
  | sc h => cases h
  | ins h e r => exact ⟨_, _, _, rfl, h, e, r⟩
theorem Rp.to_ref {d : D} (h : Rp K cl F x d) : (∃ v, Sc v d) ∨ ∃ p, x = .ref p := by
  cases h with
  | sc h => exact .inl ⟨_, h⟩
  | _ => exact .inr ⟨_, rfl⟩
/-- None or not -/
theorem Rp.to_isNon {d : D} (h : Rp K cl F x d) : decide (x = .non) = (match d with | .non => true | _ => false) := by
  cases h with
  | sc h => cases h <;> simp
  | _ => simp

/-! ### names -/
def gVar (i : Nat) : GE := fun ρ => .ok (ρ.getD i .non, ρ)
theorem getD_of {α : Type} {l : List α} {i : Nat} {a d : α} (h : l[i]? = some a) : l.getD i d = a := by simp [h]
theorem Rel.get {w : W} {i : Nat} {ρ : En} (h : Rel K cl B F0 R Γ ρ σ H) (e : Γ[i]? = some w) (f : w.sv = true) : ∃ v, σ[i]? = some (some v) ∧ Rel K cl B F0 (⟨w, some v, ρ.getD i .non⟩ :: R) Γ ρ σ H := by
  obtain ⟨v, d, e1, e2, r⟩ := h.out e
  obtain ⟨v', ev, _⟩ := S.rpv r.s f
  have ev : v = some v' := ev
  subst ev
  refine ⟨v', e1, ?_⟩
  have r2 : Rel K cl B F0 (⟨w, some v', d⟩ :: ⟨w, some v', d⟩ :: R) (Γ.set i .u) ρ σ H := r.mapS fun {Z} s => by
    cases w with
    | s => exact S.dups s
    | z => exact S.dupz s
    | _ => cases f
  have r3 := r2.into i
  rw [List.set_same e2, List.set_same e1, List.set_set, List.set_same e] at r3
  rw [getD_of e2]
  exact r3
theorem Rel.move {w : W} {i : Nat} {ρ : En} (h : Rel K cl B F0 R Γ ρ σ H) (e : Γ[i]? = some w) (f : w.fz = true) : ∃ v, σ[i]? = some (some v) ∧ Rel K cl B F0 (⟨w, some v, ρ.getD i .non⟩ :: R) (Γ.set i .u) ρ σ H := by
  obtain ⟨v, d, e1, e2, r⟩ := h.out e
  obtain ⟨v', ev, _⟩ := S.rpv (w := .z) (S.frz r.s f) rfl
  have ev : v = some v' := ev
  subst ev
  rw [getD_of e2]
  exact ⟨v', e1, r⟩
theorem Rel.frzGet {w : W} {i : Nat} {ρ : En} (h : Rel K cl B F0 R Γ ρ σ H) (e : Γ[i]? = some w) (f : w.fz = true) : ∃ v, σ[i]? = some (some v) ∧ Rel K cl B F0 (⟨.z, some v, ρ.getD i .non⟩ :: R) (Γ.set i .z) ρ σ H := by
  obtain ⟨v, d, e1, e2, r⟩ := h.out e
  have r0 : Rel K cl B F0 (⟨.z, v, d⟩ :: R) (Γ.set i .u) ρ σ H := r.mapS fun {Z} s => S.frz s f
  obtain ⟨v', ev, _⟩ := S.rpv (w := .z) r0.s rfl
  have ev : v = some v' := ev
  subst ev
  have r2 : Rel K cl B F0 (⟨.z, some v', d⟩ :: ⟨.z, some v', d⟩ :: R) (Γ.set i .u) ρ σ H := r0.mapS fun {Z} s => S.dupz s
  have r3 := r2.into i
  rw [List.set_same e2, List.set_same e1, List.set_set] at r3
  rw [getD_of e2]
  exact ⟨v', e1, r3⟩
section
variable {i : Nat} {nm : Str} {w : W}
theorem de_var (hN : C.X.N[i]? = some nm) (hv : Vis C.X.env.scope nm) (e : Γ[i]? = some w) (f : w.sv = true) (hd : (nm == ("__debug__" : Str)) = false := by decide) (hcd : (nm == ("__classdict__" : Str)) = false := by decide) : DE C Γ (.Name nm pos) (gVar i) Γ w := by
  refine ⟨_, pe_var hN hv hd hcd, fun B F0 T R0 ρ σ H Q r h => ?_⟩
  obtain ⟨v, ev, r2⟩ := r.get e f
  exact ⟨v, ev, h v H r2⟩
/-- .. moved out of its slot -/
theorem de_mov (hN : C.X.N[i]? = some nm) (hv : Vis C.X.env.scope nm) (e : Γ[i]? = some w) (f : w.fz = true) (hd : (nm == ("__debug__" : Str)) = false := by decide) (hcd : (nm == ("__classdict__" : Str)) = false := by decide) : DE C Γ (.Name nm pos) (gVar i) (Γ.set i .u) w := by
  refine ⟨_, pe_var hN hv hd hcd, fun B F0 T R0 ρ σ H Q r h => ?_⟩
  obtain ⟨v, ev, r2⟩ := r.move e f
  exact ⟨v, ev, h v H r2⟩
/-- .. shared from now on -/
theorem de_frz (hN : C.X.N[i]? = some nm) (hv : Vis C.X.env.scope nm) (e : Γ[i]? = some w) (f : w.fz = true) (hd : (nm == ("__debug__" : Str)) = false := by decide) (hcd : (nm == ("__classdict__" : Str)) = false := by decide) : DE C Γ (.Name nm pos) (gVar i) (Γ.set i .z) .z := by
  refine ⟨_, pe_var hN hv hd hcd, fun B F0 T R0 ρ σ H Q r h => ?_⟩
  obtain ⟨v, ev, r2⟩ := r.frzGet e f
  exact ⟨v, ev, h v H r2⟩
end
/-! ### constants -/
def gC (d : D) : GE := fun ρ => .ok (d, ρ)
theorem de_c {e : Expr} {v : V} {d : D} (p : PE C.X e (tC v)) (s : Sc v d) : DE C Γ e (gC d) Γ .s :=
  ⟨_, p, fun B F0 T R0 ρ σ H Q r h => h v H (r.mapS fun {Z} q => S.addS q s)⟩
theorem de_int {i j} : DE C Γ (.Constant (.int i) j pos) (gC (.int i)) Γ .s := de_c pe_int (.int i)
theorem de_bl {i j} : DE C Γ (.Constant (.bool i) j pos) (gC (.bl i)) Γ .s := de_c pe_bl (.bl i)
theorem de_non {j} : DE C Γ (.Constant .none j pos) (gC .non) Γ .s := de_c pe_non .non
theorem de_str {i j} : DE C Γ (.Constant (.str i) j pos) (gC (.str i)) Γ .s := de_c pe_str (.str i)
/-- a module's constant that is a scalar -/
theorem de_glob {nm : Str} {v : V} {u : Value} {d : D} (hg : Gl C.X nm) (hm : C.X.mg nm = some u) (r : RelV v u) (s : Sc v d) (hd : (nm == ("__debug__" : Str)) = false := by decide) : DE C Γ (.Name nm pos) (gC d) Γ .s := de_c (pe_glob hg hm r hd) s
theorem de_globi {nm : Str} {i : Int} (hg : Gl C.X nm) (hm : ∃ t, C.X.mg nm = some (.int i t)) (hd : (nm == ("__debug__" : Str)) = false := by decide) : DE C Γ (.Name nm pos) (gC (.int i)) Γ .s := by
  obtain ⟨t, e⟩ := hm
  exact de_glob (v := .int i) hg e ⟨t, rfl⟩ (.int i) hd

/-! ### operators -/
/-- a two-place rule of HandS does f, on operands owned as wa, wb -/
def D2 (K : PySem.W.Frag) (cl : Cl) (r : R2) (wa wb : W) (f : D → D → Option D) (w : W) : Prop := ∀ (B F0 : Hp) (R : List Root) (H : Hp) (x y : V) (dx dy : D) (Q : VK),
  S K cl B F0 H (⟨wb, some y, dy⟩ :: ⟨wa, some x, dx⟩ :: R) → ∀ d, f dx dy = some d → (∀ v H', S K cl B F0 H' (⟨w, some v, d⟩ :: R) → Q v H') → r x y H Q
def gOp (f : D → D → Option D) (ga gb : GE) : GE := fun ρ => (ga ρ).bind fun p => (gb p.2).bind fun q => match f p.1 q.1 with
  | some d => .ok (d, q.2)
  | none => .stk
theorem de_bin {r : R2} {ta tb : TE} {ga gb : GE} {wa wb w : W} {f : D → D → Option D} (hd : D2 C.X.K C.cl r wa wb f w)
    (fa : ∀ (B F0 : Hp) (T R0 : List Root) (ρ : En) (σ : L2.St) (H : Hp) (Q : VK), RelC C B F0 (T ++ R0) Γ ρ σ H → PostE C B F0 T R0 Γ1 wa σ Q (ga ρ) → ta σ H Q)
    (fb : ∀ (B F0 : Hp) (T R0 : List Root) (ρ : En) (σ : L2.St) (H : Hp) (Q : VK), RelC C B F0 (T ++ R0) Γ1 ρ σ H → PostE C B F0 T R0 Γ2 wb σ Q (gb ρ) → tb σ H Q)
    (B F0 : Hp) (T R0 : List Root) (ρ : En) (σ : L2.St) (H : Hp) (Q : VK) (rr : RelC C B F0 (T ++ R0) Γ ρ σ H) (h : PostE C B F0 T R0 Γ2 w σ Q (gOp f ga gb ρ)) : tOp r ta tb σ H Q := by
  refine fa B F0 T R0 ρ σ H _ rr ?_
  unfold gOp at h
  match e1 : ga ρ, h with
  | .err c fs ρ', h => exact h
  | .stk, h => exact h
  | .ok (dx, ρ1), h =>
    intro x H1 r1
    refine fb B F0 (⟨wa, some x, dx⟩ :: T) R0 ρ1 σ H1 _ r1 ?_
    simp only [Res.bind_ok] at h
    match e2 : gb ρ1, h with
    | .err c fs ρ', h => exact h
    | .stk, h => exact h
    | .ok (dy, ρ2), h =>
      intro y H2 r2
      simp only [Res.bind_ok] at h
      match e3 : f dx dy, h with
      | none, h => exact h.elim
      | some d, h => exact hd B F0 _ H2 x y dx dy Q r2.s d e3 fun v H3 s => h v H3 ⟨s, r2.l1, r2.l2⟩
theorem de_op {op : Operator} {r : R2} {ga gb : GE} {wa wb w : W} {f : D → D → Option D} (ho : OpR C.X (binaryOp op) r) (hd : D2 C.X.K C.cl r wa wb f w) (ha : DE C Γ a ga Γ1 wa) (hb : DE C Γ1 b gb Γ2 wb) :
    DE C Γ (.BinOp a op b pos) (gOp f ga gb) Γ2 w := by
  obtain ⟨ta, pa, fa⟩ := ha
  obtain ⟨tb, pb, fb⟩ := hb
  exact ⟨_, pe_op ho pa pb, de_bin hd fa fb⟩
theorem de_cmp {op : CmpOp} {r : R2} {ga gb : GE} {wa wb w : W} {f : D → D → Option D} (ho : OpR C.X (compareOp op) r) (hd : D2 C.X.K C.cl r wa wb f w) (ha : DE C Γ a ga Γ1 wa) (hb : DE C Γ1 b gb Γ2 wb) (hm : behindInMarks op b = false := by first | exact nomark _ | rfl) :
    DE C Γ (.Compare a [op] [b] pos) (gOp f ga gb) Γ2 w := by
  obtain ⟨ta, pa, fa⟩ := ha
  obtain ⟨tb, pb, fb⟩ := hb
  exact ⟨_, pe_cmpR ho pa pb hm, de_bin hd fa fb⟩
def tBool (r : Res (D × En)) : Res (Bool × En) := r.bind fun p => match p.1 with
  | .bl k => .ok (k, p.2)
  | _ => .stk
def tVal (g : GE) : GT := fun ρ => tBool (g ρ)
/-- from a value's rule to a test's -/
theorem dt_of {e : Expr} {t : TE} {t' : TT} {g : GE} {w : W} (p : PT C.X e t') (hw : w.sv = true) (ht : ∀ σ H (Q : Bool → Hp → Prop), t σ H (fun x H' => ∃ k, x = .bl k ∧ Q k H') → t' σ H Q)
    (f : ∀ (B F0 : Hp) (T R0 : List Root) (ρ : En) (σ : L2.St) (H : Hp) (Q : VK), RelC C B F0 (T ++ R0) Γ ρ σ H → PostE C B F0 T R0 Γ1 w σ Q (g ρ) → t σ H Q) : DT C Γ e (tVal g) Γ1 := by
  refine ⟨t', p, fun B F0 T R0 ρ σ H Q r h => ht σ H Q (f B F0 T R0 ρ σ H _ r ?_)⟩
  unfold tVal tBool at h
  match e1 : g ρ, h with
  | .err c fs ρ', h => exact h
  | .stk, h => exact h
  | .ok (d, ρ'), h =>
    intro v H' q
    have rp := S.rpv1 q.s hw
    match d, h, rp, q with
    | .bl k, h, rp, q => exact ⟨k, rp.to_bl, h H' (q.mapS fun {Z} s => S.drop s)⟩
theorem dt_cmp {op : CmpOp} {r : R2} {ga gb : GE} {wa wb w : W} {f : D → D → Option D} (ho : OpR C.X (compareOp op) r) (hd : D2 C.X.K C.cl r wa wb f w) (ha : DE C Γ a ga Γ1 wa) (hb : DE C Γ1 b gb Γ2 wb) (hw : w.sv = true := by rfl) (hm : behindInMarks op b = false := by first | exact nomark _ | rfl) :
    DT C Γ (.Compare a [op] [b] pos) (tVal (gOp f ga gb)) Γ2 := by
  obtain ⟨ta, pa, fa⟩ := ha
  obtain ⟨tb, pb, fb⟩ := hb
  exact dt_of (t := tOp r ta tb) (pt_cmpR ho pa pb hm) hw (fun _ _ _ h => h) (de_bin hd fa fb)
theorem dt_val {e : Expr} {g : GE} {w : W} (he : DE C Γ e g Γ1 w) (hw : w.sv = true := by rfl) (hi : ∀ whole, isTrue e C.X.env whole = (do let v ← whole; standAt e.pos; holding [v] (truthy v)) := by intro _; rfl) : DT C Γ e (tVal g) Γ1 := by
  obtain ⟨t, p, f⟩ := he
  exact dt_of (pt_val p hi) hw (fun _ _ _ h => h) f
theorem de_weakT {e : Expr} {g : GT} (h : DTw C Γ e g Γ1) : DT C Γ e g Γ1 := by
  obtain ⟨t, p, f⟩ := h
  exact ⟨t, p.pt, f⟩
def tNot (g : GT) : GT := fun ρ => (g ρ).bind fun p => .ok (!p.1, p.2)
theorem dt_not {g : GT} (ha : DT C Γ a g Γ1) : DT C Γ (.UnaryOp .Not a pos) (tNot g) Γ1 := by
  obtain ⟨t, p, f⟩ := ha
  refine ⟨_, pt_not p, fun B F0 T R0 ρ σ H Q r h => f B F0 T R0 ρ σ H _ r ?_⟩
  unfold tNot at h
  match e1 : g ρ, h with
  | .err c fs ρ', h => exact h
  | .stk, h => exact h
  | .ok (k, ρ'), h => exact fun H' q => h H' q
def tAnd (ga gb : GT) : GT := fun ρ => (ga ρ).bind fun p => if p.1 = true then gb p.2 else .ok (false, p.2)
def tOr (ga gb : GT) : GT := fun ρ => (ga ρ).bind fun p => if p.1 = true then .ok (true, p.2) else gb p.2
theorem dt_and1 {ga : GT} (ha : DT C Γ a ga Γ1) : DTw C Γ (.BoolOp .And [a] pos) ga Γ1 := by
  obtain ⟨t, p, f⟩ := ha
  exact ⟨_, pw_and1 p, f⟩
theorem dt_or1 {ga : GT} (ha : DT C Γ a ga Γ1) : DTw C Γ (.BoolOp .Or [a] pos) ga Γ1 := by
  obtain ⟨t, p, f⟩ := ha
  exact ⟨_, pw_or1 p, f⟩
theorem dt_and {rest : List Expr} {ga gb : GT} (ha : DT C Γ a ga Γ1) (hb : DTw C Γ1 (.BoolOp .And (b :: rest) pos) gb Γ2) (l : leL Γ1 Γ2 = true) : DTw C Γ (.BoolOp .And (a :: b :: rest) pos) (tAnd ga gb) Γ2 := by
  obtain ⟨t, p, f⟩ := ha
  obtain ⟨u, q, fb⟩ := hb
  refine ⟨_, pw_and p q, fun B F0 T R0 ρ σ H Q r h => f B F0 T R0 ρ σ H _ r ?_⟩
  unfold tAnd at h
  match e1 : ga ρ, h with
  | .err c fs ρ', h => exact h
  | .stk, h => exact h
  | .ok (true, ρ'), h => exact fun H' r' => fb B F0 T R0 ρ' σ H' Q r' h
  | .ok (false, ρ'), h => exact fun H' r' => h H' (r'.weak l)
theorem dt_or {rest : List Expr} {ga gb : GT} (ha : DT C Γ a ga Γ1) (hb : DTw C Γ1 (.BoolOp .Or (b :: rest) pos) gb Γ2) (l : leL Γ1 Γ2 = true) : DTw C Γ (.BoolOp .Or (a :: b :: rest) pos) (tOr ga gb) Γ2 := by
  obtain ⟨t, p, f⟩ := ha
  obtain ⟨u, q, fb⟩ := hb
  refine ⟨_, pw_or p q, fun B F0 T R0 ρ σ H Q r h => f B F0 T R0 ρ σ H _ r ?_⟩
  unfold tOr at h
  match e1 : ga ρ, h with
  | .err c fs ρ', h => exact h
  | .stk, h => exact h
  | .ok (false, ρ'), h => exact fun H' r' => fb B F0 T R0 ρ' σ H' Q r' h
  | .ok (true, ρ'), h => exact fun H' r' => h H' (r'.weak l)
/-- and, or, not as values (of truth values) -/
def gAnd (ga gb : GE) : GE := fun ρ => (ga ρ).bind fun p => match p.1 with
  | .bl true => gb p.2
  | .bl false => .ok (.bl false, p.2)
  | _ => .stk
def gOr (ga gb : GE) : GE := fun ρ => (ga ρ).bind fun p => match p.1 with
  | .bl false => gb p.2
  | .bl true => .ok (.bl true, p.2)
  | _ => .stk
theorem de_one {op} {g : GE} {w : W} (ha : DE C Γ a g Γ1 w) : DE C Γ (.BoolOp op [a] pos) g Γ1 w := by
  obtain ⟨t, p, f⟩ := ha
  exact ⟨_, pe_one p, f⟩
theorem de_and {rest : List Expr} {ga gb : GE} {wa : W} (ha : DE C Γ a ga Γ1 wa) (hw : wa.sv = true) (hb : DE C Γ1 (.BoolOp .And (b :: rest) pos) gb Γ2 .s) (l : leL Γ1 Γ2 = true) : DE C Γ (.BoolOp .And (a :: b :: rest) pos) (gAnd ga gb) Γ2 .s := by
  obtain ⟨t, p, f⟩ := ha
  obtain ⟨u, q, fb⟩ := hb
  refine ⟨_, pe_and p q, fun B F0 T R0 ρ σ H Q r h => f B F0 T R0 ρ σ H _ r ?_⟩
  unfold gAnd at h
  match e1 : ga ρ, h with
  | .err c fs ρ', h => exact h
  | .stk, h => exact h
  | .ok (d, ρ'), h =>
    intro v H' r'
    have rp := S.rpv1 r'.s hw
    have r2 : RelC C B F0 (T ++ R0) Γ1 ρ' σ H' := r'.mapS fun {Z} s => S.drop s
    match d, h, rp with
    | .bl true, h, rp => exact ⟨true, rp.to_bl, fb B F0 T R0 ρ' σ H' Q r2 h⟩
    | .bl false, h, rp => exact ⟨false, rp.to_bl, h _ H' ((r2.weak l).mapS fun {Z} s => S.addS s (.bl false))⟩
theorem de_or {rest : List Expr} {ga gb : GE} {wa : W} (ha : DE C Γ a ga Γ1 wa) (hw : wa.sv = true) (hb : DE C Γ1 (.BoolOp .Or (b :: rest) pos) gb Γ2 .s) (l : leL Γ1 Γ2 = true) : DE C Γ (.BoolOp .Or (a :: b :: rest) pos) (gOr ga gb) Γ2 .s := by
  obtain ⟨t, p, f⟩ := ha
  obtain ⟨u, q, fb⟩ := hb
  refine ⟨_, pe_or p q, fun B F0 T R0 ρ σ H Q r h => f B F0 T R0 ρ σ H _ r ?_⟩
  unfold gOr at h
  match e1 : ga ρ, h with
  | .err c fs ρ', h => exact h
  | .stk, h => exact h
  | .ok (d, ρ'), h =>
    intro v H' r'
    have rp := S.rpv1 r'.s hw
    have r2 : RelC C B F0 (T ++ R0) Γ1 ρ' σ H' := r'.mapS fun {Z} s => S.drop s
    match d, h, rp with
    | .bl false, h, rp => exact ⟨false, rp.to_bl, fb B F0 T R0 ρ' σ H' Q r2 h⟩
    | .bl true, h, rp => exact ⟨true, rp.to_bl, h _ H' ((r2.weak l).mapS fun {Z} s => S.addS s (.bl true))⟩
def gNot (ga : GE) : GE := fun ρ => (ga ρ).bind fun p => match p.1 with
  | .bl k => .ok (.bl (!k), p.2)
  | _ => .stk
theorem de_not {ga : GE} {wa : W} (ha : DE C Γ a ga Γ1 wa) (hw : wa.sv = true) : DE C Γ (.UnaryOp .Not a pos) (gNot ga) Γ1 .s := by
  obtain ⟨t, p, f⟩ := ha
  refine ⟨_, pe_not p, fun B F0 T R0 ρ σ H Q r h => f B F0 T R0 ρ σ H _ r ?_⟩
  unfold gNot at h
  match e1 : ga ρ, h with
  | .err c fs ρ', h => exact h
  | .stk, h => exact h
  | .ok (d, ρ'), h =>
    intro v H' r'
    have rp := S.rpv1 r'.s hw
    match d, h, rp, r' with
    | .bl k, h, rp, r' => exact ⟨k, rp.to_bl, h _ H' (r'.mapS fun {Z} s => S.addS (S.drop s) (.bl (!k)))⟩
def gIf (gt : GT) (ga gb : GE) : GE := fun ρ => (gt ρ).bind fun p => if p.1 = true then ga p.2 else gb p.2
theorem de_if {gt : GT} {ga gb : GE} {w : W} (hc : DT C Γ c gt Γ1) (ha : DE C Γ1 a ga Γ2 w) (hb : DE C Γ1 b gb Γ2 w) : DE C Γ (.IfExp c a b pos) (gIf gt ga gb) Γ2 w := by
  obtain ⟨t, p, f⟩ := hc
  obtain ⟨ta, pa, fa⟩ := ha
  obtain ⟨tb, pb, fb⟩ := hb
  refine ⟨_, pe_ifExp p pa pb, fun B F0 T R0 ρ σ H Q r h => f B F0 T R0 ρ σ H _ r ?_⟩
  unfold gIf at h
  match e1 : gt ρ, h with
  | .err c fs ρ', h => exact h
  | .stk, h => exact h
  | .ok (true, ρ'), h => exact fun H' r' => fa B F0 T R0 ρ' σ H' Q r' h
  | .ok (false, ρ'), h => exact fun H' r' => fb B F0 T R0 ρ' σ H' Q r' h
/-- a chain a < b < c -/
def gCh (f f' : D → D → Option D) (ga gb gc : GE) : GE := fun ρ => (ga ρ).bind fun p => (gb p.2).bind fun q => match f p.1 q.1 with
  | some (.bl true) => (gc q.2).bind fun r => (match f' q.1 r.1 with
    | some d => .ok (d, r.2)
    | none => .stk)
  | some (.bl false) => .ok (.bl false, q.2)
  | _ => .stk

/-! ### two ints -/
def fI (g : Int → Int → D) : D → D → Option D
  | .int i, .int j => some (g i j)
  | _, _ => none
open Classical in
noncomputable def fIC (P : Int → Int → Prop) (g : Int → Int → D) : D → D → Option D
  | .int i, .int j => if P i j then some (g i j) else none
  | _, _ => none
theorem d2_I {wa wb : W} {g : Int → Int → V} {g' : Int → Int → D} (ha : wa.sv = true) (hb : wb.sv = true) (hs : ∀ i j, Sc (g i j) (g' i j)) : D2 K cl (rI0 g) wa wb (fI g') .s := by
  intro B F0 R H x y dx dy Q s d e h
  have r1 := S.rpv1 s hb
  have r2 := S.rpv1 (S.drop s) ha
  match dx, dy, e, r1, r2 with
  | .int i, .int j, e, r1, r2 =>
    have e : some (g' i j) = some d := e
    cases e
    exact ⟨i, j, r2.to_int, r1.to_int, h _ H (S.addS (S.drop (S.drop s)) (hs i j))⟩
open Classical in
theorem d2_IC {wa wb : W} {P : Int → Int → Prop} {P' : Int → Int → Prop} {g : Int → Int → V} {g' : Int → Int → D} (ha : wa.sv = true) (hb : wb.sv = true) (hp : ∀ i j, P i j → P' i j) (hs : ∀ i j, P i j → Sc (g i j) (g' i j)) :
    D2 K cl (rI P' g) wa wb (fIC P g') .s := by
  intro B F0 R H x y dx dy Q s d e h
  have r1 := S.rpv1 s hb
  have r2 := S.rpv1 (S.drop s) ha
  match dx, dy, e, r1, r2 with
  | .int i, .int j, e, r1, r2 =>
    have e : (if P i j then some (g' i j) else none) = some d := e
    by_cases p : P i j
    · rw [if_pos p] at e
      cases e
      exact ⟨i, j, r2.to_int, r1.to_int, hp i j p, h _ H (S.addS (S.drop (S.drop s)) (hs i j p))⟩
    · rw [if_neg p] at e; cases e
/-- one int -/
def gUn (f : D → Option D) (ga : GE) : GE := fun ρ => (ga ρ).bind fun p => match f p.1 with
  | some d => .ok (d, p.2)
  | none => .stk
def fNeg : D → Option D
  | .int i => some (.int (-i))
  | _ => none
theorem de_neg {ga : GE} {wa : W} (ha : DE C Γ a ga Γ1 wa) (hw : wa.sv = true) : DE C Γ (.UnaryOp .USub a pos) (gUn fNeg ga) Γ1 .s := by
  obtain ⟨t, p, f⟩ := ha
  refine ⟨_, pe_un un_neg p, fun B F0 T R0 ρ σ H Q r h => f B F0 T R0 ρ σ H _ r ?_⟩
  unfold gUn at h
  match e1 : ga ρ, h with
  | .err c fs ρ', h => exact h
  | .stk, h => exact h
  | .ok (d, ρ'), h =>
    intro v H' r'
    have rp := S.rpv1 r'.s hw
    match d, h, rp, r' with
    | .int k, h, rp, r' => exact ⟨k, rp.to_int, h _ H' (r'.mapS fun {Z} s => S.addS (S.drop s) (.int (-k)))⟩
end Dv
/-! D6: arguments, displays, calls. -/
namespace Dv
open PySem PySem.Spec PyProof.Rows L2
variable {K : PySem.W.Frag} {cl : Cl} {F H B F0 : Hp} {C : Cq} {Γ Γ1 Γ2 Γ3 Γ' : List W} {pos : Pos} {T R0 R : List Root} {σ σ' : L2.St} {a b c e : Expr} {es : List Expr} {x y : V}

theorem mkT_rep {w : W} : ∀ {n : Nat} {vs : List V} {ds : List D}, vs.length = n → mkT (List.replicate n w) vs ds = mkR w vs ds
  | 0, [], ds, _ => by cases ds <;> rfl
  | n + 1, v :: vs, [], _ => rfl
  | n + 1, v :: vs, d :: ds, e => by
    have ih := mkT_rep (w := w) (n := n) (vs := vs) (ds := ds) (by simpa using e)
    show (⟨w, some v, d⟩ :: mkT (List.replicate n w) vs ds) = _
    rw [ih]; rfl
/-! ### arguments -/
def gaNil : GA := fun ρ => .ok ([], ρ)
def gaCons (g : GE) (ga : GA) : GA := fun ρ => (g ρ).bind fun p => (ga p.2).bind fun q => .ok (p.1 :: q.1, q.2)
theorem da_nil : DA C Γ [] gaNil Γ [] [] := ⟨_, pa_nil, fun B F0 T R0 ρ σ H Q r h => h [] H rfl rfl (fun k j e => by simp at e) r⟩
theorem da_step {g : GE} {ga : GA} {w : W} {ws : List W} {m : Option Nat} {ms : List (Option Nat)} {t : TE} (p : PE C.X e t)
    (f : ∀ (B F0 : Hp) (T R0 : List Root) (ρ : En) (σ : L2.St) (H : Hp) (Q : VK), RelC C B F0 (T ++ R0) Γ ρ σ H → (match g ρ with
      | .ok (d, ρ') => ∀ v H', (∀ j, m = some j → σ[j]? = some (some v)) → RelC C B F0 (⟨w, some v, d⟩ :: (T ++ R0)) Γ1 ρ' σ H' → Q v H'
      | .err c fs ρ' => ErrOk C B F0 R0 σ c fs ρ'
      | .stk => False) → t σ H Q) (ha : DA C Γ1 es ga Γ2 ws ms)
    (hs : starEach (e :: es) C.X.env = (false, eval e C.X.env) :: starEach es C.X.env := by rfl) : DA C Γ (e :: es) (gaCons g ga) Γ2 (w :: ws) (m :: ms) := by
  obtain ⟨ta, pa, fa⟩ := ha
  refine ⟨_, pa_cons p pa hs, fun B F0 T R0 ρ σ H Q r h => f B F0 T R0 ρ σ H _ r ?_⟩
  unfold gaCons at h
  match e1 : g ρ, h with
  | .err c fs ρ', h => exact h
  | .stk, h => exact h
  | .ok (d, ρ1), h =>
    intro v H1 hm r1
    refine fa B F0 (⟨w, some v, d⟩ :: T) R0 ρ1 σ H1 _ r1 ?_
    simp only [Res.bind_ok] at h
    match e2 : ga ρ1, h with
    | .err c fs ρ', h => exact h
    | .stk, h => exact h
    | .ok (ds, ρ2), h =>
      intro vs H2 l1 l2 lk r2
      refine h (v :: vs) H2 (by simp [l1]) (by simp [l2]) (fun k j ek => ?_) (r2.mapS fun {Z} s => ?_)
      · cases k with
        | zero =>
          simp at ek
          exact ⟨v, rfl, hm j ek⟩
        | succ k => exact lk k j (by simpa using ek)
      · refine s.perm ?_
        show ((mkT ws vs ds ++ (⟨w, some v, d⟩ :: (T ++ R0))) ++ Z).Perm (⟨w, some v, d⟩ :: (mkT ws vs ds ++ (T ++ R0)) ++ Z)
        exact (List.perm_middle).append_right _
theorem da_cons {g : GE} {ga : GA} {w : W} {ws : List W} {ms : List (Option Nat)} (he : DE C Γ e g Γ1 w) (ha : DA C Γ1 es ga Γ2 ws ms)
    (hs : starEach (e :: es) C.X.env = (false, eval e C.X.env) :: starEach es C.X.env := by rfl) : DA C Γ (e :: es) (gaCons g ga) Γ2 (w :: ws) (none :: ms) := by
  obtain ⟨t, p, f⟩ := he
  refine da_step p (fun B F0 T R0 ρ σ H Q r h => f B F0 T R0 ρ σ H Q r ?_) ha hs
  match e1 : g ρ, h with
  | .err c fs ρ', h => exact h
  | .stk, h => exact h
  | .ok (d, ρ1), h => exact fun v H' r' => h v H' (fun j z => by cases z) r'
/-- a slot of our own is handed over -/
theorem da_mov {i : Nat} {nm : Str} {ga : GA} {w : W} {ws : List W} {ms : List (Option Nat)} (hN : C.X.N[i]? = some nm) (hv : Vis C.X.env.scope nm) (ew : Γ[i]? = some w) (f : w.fz = true) (ha : DA C (Γ.set i .u) es ga Γ2 ws ms)
    (hs : starEach (.Name nm pos :: es) C.X.env = (false, eval (.Name nm pos) C.X.env) :: starEach es C.X.env := by rfl) (hd : (nm == ("__debug__" : Str)) = false := by decide) (hcd : (nm == ("__classdict__" : Str)) = false := by decide) :
    DA C Γ (.Name nm pos :: es) (gaCons (gVar i) ga) Γ2 (w :: ws) (some i :: ms) := by
  refine da_step (pe_var hN hv hd hcd) (fun B F0 T R0 ρ σ H Q r h => ?_) ha hs
  obtain ⟨v, ev, r2⟩ := r.move ew f
  exact ⟨v, ev, h v H (fun j z => by cases z; exact ev) r2⟩
theorem da_weak {ga : GA} {ws ws' : List W} {ms : List (Option Nat)} (h : DA C Γ es ga Γ' ws ms) (l : leL ws ws' = true) : DA C Γ es ga Γ' ws' ms := by
  obtain ⟨t, p, f⟩ := h
  refine ⟨t, p, fun B F0 T R0 ρ σ H Q r h => f B F0 T R0 ρ σ H Q r ?_⟩
  match e1 : ga ρ, h with
  | .err c fs ρ', h => exact h
  | .stk, h => exact h
  | .ok (ds, ρ2), h => exact fun vs H2 l1 l2 lk r2 => h vs H2 (l1.trans (leL_len l)) (l2.trans (leL_len l)) lk (r2.mapS fun {Z} s => by
      rw [List.append_assoc] at s ⊢
      exact S.weakM l s)

/-! ### displays -/
def gTup (ga : GA) : GE := fun ρ => (ga ρ).bind fun p => .ok (.tup p.1, p.2)
def gLst (ga : GA) : GE := fun ρ => (ga ρ).bind fun p => .ok (.lst p.1, p.2)
theorem de_tup {ga : GA} {ws : List W} {ms : List (Option Nat)} {x1} (h : DA C Γ es ga Γ' ws ms) (hl : decide (ws.length ≤ 1000) = true) : DE C Γ (.Tuple es x1 pos) (gTup ga) Γ' (.t ws) := by
  obtain ⟨t, p, f⟩ := h
  refine ⟨_, pe_tup p, fun B F0 T R0 ρ σ H Q r h => f B F0 T R0 ρ σ H _ r ?_⟩
  unfold gTup at h
  match e1 : ga ρ, h with
  | .err c fs ρ', h => exact h
  | .stk, h => exact h
  | .ok (ds, ρ2), h =>
    intro vs H2 l1 l2 lk r2
    refine ⟨by rw [l1, sizeLine_eq]; have := of_decide_eq_true hl; omega, fun p n => h _ _ (r2.mapS fun {Z} s => ?_)⟩
    exact S.newT (by rwa [List.append_assoc] at s) l1.symm (l1.trans l2.symm) n
theorem de_lst {ga : GA} {ws : List W} {w : W} {ms : List (Option Nat)} (h : DA C Γ es ga Γ' ws ms) (hw : leL ws (List.replicate ws.length w) = true) (hl : decide (ws.length ≤ 1000) = true) : DE C Γ (.List es pos) (gLst ga) Γ' (.o w) := by
  obtain ⟨t, p, f⟩ := h
  refine ⟨_, pe_lst p, fun B F0 T R0 ρ σ H Q r h => f B F0 T R0 ρ σ H _ r ?_⟩
  unfold gLst at h
  match e1 : ga ρ, h with
  | .err c fs ρ', h => exact h
  | .stk, h => exact h
  | .ok (ds, ρ2), h =>
    intro vs H2 l1 l2 lk r2
    refine ⟨by rw [l1, sizeLine_eq]; have := of_decide_eq_true hl; omega, fun p n => h _ _ (r2.mapS fun {Z} s => ?_)⟩
    rw [List.append_assoc] at s
    have s2 := S.weakM hw s
    rw [mkT_rep l1] at s2
    exact S.newL s2 (l1.trans l2.symm) n

/-! ### built-in calls on values -/
/-- a built-in's rule does f, on arguments owned as ws -/
def DB (K : PySem.W.Frag) (cl : Cl) (r : List V → Hp → VK → Prop) (ws : List W) (f : List D → Option D) (w : W) : Prop := ∀ (B F0 : Hp) (R : List Root) (H : Hp) (vs : List V) (ds : List D) (Q : VK),
  vs.length = ws.length → ds.length = ws.length → S K cl B F0 H (mkT ws vs ds ++ R) → ∀ d, f ds = some d → (∀ v H', S K cl B F0 H' (⟨w, some v, d⟩ :: R) → Q v H') → r vs H Q
def gBi (f : List D → Option D) (ga : GA) : GE := fun ρ => (ga ρ).bind fun p => match f p.1 with
  | some d => .ok (d, p.2)
  | none => .stk
theorem de_built {r : List V → Hp → VK → Prop} {f : List D → Option D} {ga : GA} {ws : List W} {ms : List (Option Nat)} {w : W} {t : TA} {ex : Expr} (pe : PE C.X ex (tCB r t)) (hd : DB C.X.K C.cl r ws f w)
    (fa : ∀ (B F0 : Hp) (T R0 : List Root) (ρ : En) (σ : L2.St) (H : Hp) (Q : List V → Hp → Prop), RelC C B F0 (T ++ R0) Γ ρ σ H → PostA C B F0 T R0 Γ' ws ms σ Q (ga ρ) → t σ H Q) : DE C Γ ex (gBi f ga) Γ' w := by
  refine ⟨_, pe, fun B F0 T R0 ρ σ H Q rr h => fa B F0 T R0 ρ σ H _ rr ?_⟩
  unfold gBi at h
  match e1 : ga ρ, h with
  | .err c fs ρ', h => exact h
  | .stk, h => exact h
  | .ok (ds, ρ2), h =>
    intro vs H2 l1 l2 lk r2
    simp only [Res.bind_ok] at h
    match e2 : f ds, h with
    | none, h => exact h.elim
    | some d, h =>
      refine hd B F0 ((T ++ R0) ++ zr Γ' σ ρ2) H2 vs ds Q l1 l2 (by have := r2.s; rwa [List.append_assoc] at this) d e2 fun v H3 s => h v H3 ⟨?_, r2.l1, r2.l2⟩
      simpa using s
section
variable {nm : Str} {p : Pos} {id Tn : String} {r : List V → Hp → VK → Prop} {f : List D → Option D} {ga : GA} {ws : List W} {ms : List (Option Nat)} {w : W}
theorem de_bi (hc : CallR C.X (.builtin id) r) (hd : DB C.X.K C.cl r ws f w) (hg : Gl C.X nm) (hm : C.X.mg nm = none) (hv : bootBuiltins nm = some (.builtin id)) (ha : DA C Γ (e :: es) ga Γ' ws ms) (hn : nm ≠ "__name__" := by decide) (hdb : (nm == ("__debug__" : Str)) = false := by decide)
    (he : starEach (e :: es) C.X.env = (false, eval e C.X.env) :: starEach es C.X.env := by rfl) (hpl : (backTo pos (starEach es C.X.env)).any (·.1) = false := by rfl) : DE C Γ (.Call (.Name nm p) (e :: es) [] pos) (gBi f ga) Γ' w := by
  obtain ⟨t, pa, fa⟩ := ha
  exact de_built (pe_callB hc hg hm hv pa hn hdb he hpl) hd fa
theorem de_ty (hc : CallR C.X (.type Tn) r) (hd : DB C.X.K C.cl r ws f w) (hg : Gl C.X nm) (hm : C.X.mg nm = none) (hv : bootBuiltins nm = some (.type Tn)) (ha : DA C Γ (e :: es) ga Γ' ws ms) (hn : nm ≠ "__name__" := by decide) (hdb : (nm == ("__debug__" : Str)) = false := by decide)
    (he : starEach (e :: es) C.X.env = (false, eval e C.X.env) :: starEach es C.X.env := by rfl) (hpl : (backTo pos (starEach es C.X.env)).any (·.1) = false := by rfl) : DE C Γ (.Call (.Name nm p) (e :: es) [] pos) (gBi f ga) Γ' w := by
  obtain ⟨t, pa, fa⟩ := ha
  exact de_built (pe_callTy hc hg hm hv pa hn hdb he hpl) hd fa
end

/-! ### calls of defs -/
structure Sig where
  ws : List W
  wr : W
  os : List W
  io : List Nat
abbrev GF := List D → Res (D × List D)
def PostF (K : PySem.W.Frag) (cl : Cl) (B F0 : Hp) (sg : Sig) (vs : List V) (Q : VK) (E : XK) : Res (D × List D) → Prop
  | .ok (d, outs) => ∀ v H', S K cl B F0 H' (⟨sg.wr, some v, d⟩ :: mkT sg.os (sg.io.filterMap (vs[·]?)) outs) → Q v H'
  | .err c fs outs => ∀ dx H', S K cl B F0 H' (⟨.z, some (.ref dx), .exc c fs⟩ :: mkT sg.os (sg.io.filterMap (vs[·]?)) outs) → E (.ref (cl.ad c)) (some dx) H'
  | .stk => False
/-- a def that does G -/
def spD (K : PySem.W.Frag) (cl : Cl) (sg : Sig) (G : GF) : Sp := fun vs H Q E => ∃ (ds : List D) (B F0 : Hp), vs.length = sg.ws.length ∧ ds.length = sg.ws.length ∧ S K cl B F0 H (mkT sg.ws vs ds) ∧ PostF K cl B F0 sg vs Q E (G ds)
abbrev FnD (P : Program) (w : World) (K : PySem.W.Frag) (mg : Str → Option Value) (base : Heap) (cl : Cl) (k : Nat) (f : Addr) (fd : FuncData) (ps : List Str) (sg : Sig) (G : GF) : Prop := FnOk P w K mg base (L2.CX P w) k f fd ps (spD K cl sg G)

/-- the outs into their slots -/
def puts : List Nat → List D → En → En
  | j :: js, d :: ds, ρ => puts js ds (ρ.set j d)
  | _, _, ρ => ρ
def putW : List Nat → List W → List W → List W
  | j :: js, w :: ws, Γ => putW js ws (Γ.set j w)
  | _, _, Γ => Γ
theorem Rel.puts : ∀ {js : List Nat} {ws : List W} {vs : List V} {ds : List D} {Γ : List W} {ρ : En}, js.length = ws.length → js.length = vs.length → js.length = ds.length → (∀ (k j : Nat) (v : V), js[k]? = some j → vs[k]? = some v → σ[j]? = some (some v)) →
    Rel K cl B F0 (mkT ws vs ds ++ R) Γ ρ σ H → Rel K cl B F0 R (putW js ws Γ) (puts js ds ρ) σ H
  | [], [], [], [], _, _, _, _, _, _, h => h
  | j :: js, w :: ws, v :: vs, d :: ds, Γ, ρ, l1, l2, l3, lk, h => by
    have e : σ.set j (some v) = σ := List.set_same (lk 0 j v rfl rfl)
    have h1 := Rel.into (R := mkT ws vs ds ++ R) (w := w) (v := some v) (d := d) h j
    rw [e] at h1
    exact Rel.puts (js := js) (by simpa using l1) (by simpa using l2) (by simpa using l3) (fun k j v a b => lk (k + 1) j v (by simpa using a) (by simpa using b)) h1
def gCall (G : GF) (back : List Nat) (ga : GA) : GE := fun ρ => (ga ρ).bind fun p => match G p.1 with
  | .ok (d, outs) => if outs.length = back.length then .ok (d, puts back outs p.2) else .stk
  | .err c fs outs => if outs.length = back.length then .err c fs (puts back outs p.2) else .stk
  | .stk => .stk
/-- the arguments back are those that the callee may change -/
def Back (sg : Sig) (ms : List (Option Nat)) (back : List Nat) : Prop := sg.os.length = sg.io.length ∧ back.length = sg.io.length ∧ ∀ (k i : Nat), sg.io[k]? = some i → ∃ j : Nat, back[k]? = some j ∧ ms[i]? = some (some j) ∧ i < sg.ws.length
theorem filterMap_all : ∀ {io : List Nat} {vs : List V}, (∀ i ∈ io, i < vs.length) → (io.filterMap (vs[·]?)).length = io.length ∧ ∀ (k i : Nat) (v : V), io[k]? = some i → (io.filterMap (vs[·]?))[k]? = some v → vs[i]? = some v
  | [], _, _ => ⟨rfl, fun k i v a => by simp at a⟩
  | i :: io, vs, h => by
    have hi : i < vs.length := h i List.mem_cons_self
    obtain ⟨l, g⟩ := filterMap_all (io := io) (vs := vs) fun j hj => h j (List.mem_cons_of_mem _ hj)
    have e : vs[i]? = some vs[i] := List.getElem?_eq_getElem hi
    refine ⟨by simp [List.filterMap_cons, e, l], fun k j v a b => ?_⟩
    simp only [List.filterMap_cons, e] at b
    cases k with
    | zero => simp at a b; rw [← a, ← b]; exact e
    | succ k => exact g k j v (by simpa using a) (by simpa using b)
theorem io_len {sg : Sig} {ms : List (Option Nat)} {back : List Nat} {vs : List V} (hb : Back sg ms back) (l1 : vs.length = sg.ws.length) : (sg.io.filterMap (vs[·]?)).length = back.length := by
  have hlt : ∀ i ∈ sg.io, i < vs.length := fun i hi => by
    obtain ⟨k, hk, ek⟩ := List.getElem_of_mem hi
    obtain ⟨j, _, _, q⟩ := hb.2.2 k i (by rw [List.getElem?_eq_getElem hk, ek])
    omega
  rw [(filterMap_all hlt).1, hb.2.1]
theorem io_links {sg : Sig} {ms : List (Option Nat)} {back : List Nat} {vs : List V} (hb : Back sg ms back) (l1 : vs.length = sg.ws.length) (lk : Lk σ ms vs) :
    ∀ (k j : Nat) (v : V), back[k]? = some j → (sg.io.filterMap (vs[·]?))[k]? = some v → σ[j]? = some (some v) := fun k j v a b => by
  have hlt : ∀ i ∈ sg.io, i < vs.length := fun i hi => by
    obtain ⟨k, hk, ek⟩ := List.getElem_of_mem hi
    obtain ⟨j, _, _, q⟩ := hb.2.2 k i (by rw [List.getElem?_eq_getElem hk, ek])
    omega
  have hk : k < sg.io.length := by
    have := (List.getElem?_eq_some_iff.mp a).1
    rw [hb.2.1] at this; exact this
  obtain ⟨j', e1, e2, e3⟩ := hb.2.2 k sg.io[k] (List.getElem?_eq_getElem hk)
  rw [a] at e1; cases e1
  obtain ⟨v', q1, q2⟩ := lk _ _ e2
  have q3 := (filterMap_all hlt).2 k sg.io[k] v (List.getElem?_eq_getElem hk) b
  rw [q1] at q3; cases q3
  exact q2
/-- behind a call: what the caller has -/
theorem call_post {sg : Sig} {ms : List (Option Nat)} {back : List Nat} {G : GF} {vs : List V} {ds : List D} {ρ : En} {Q : VK} (hb : Back sg ms back) (l1 : vs.length = sg.ws.length) (l2 : ds.length = sg.ws.length) (lk : Lk σ ms vs)
    (r : RelC C B F0 (mkT sg.ws vs ds ++ (T ++ R0)) Γ ρ σ H) (lge : ∀ c fs outs, G ds = .err c fs outs → leL (putW back sg.os Γ) C.ge = true)
    (h : PostE C B F0 T R0 (putW back sg.os Γ) sg.wr σ Q (match G ds with
      | .ok (d, outs) => if outs.length = back.length then .ok (d, puts back outs ρ) else .stk
      | .err c fs outs => if outs.length = back.length then .err c fs (puts back outs ρ) else .stk
      | .stk => .stk)) : spD C.X.K C.cl sg G vs H Q (fun c d H' => C.xw c d σ H') := by
  have s : S C.X.K C.cl B F0 H (mkT sg.ws vs ds ++ ((T ++ R0) ++ zr Γ σ ρ)) := by have := r.s; rwa [List.append_assoc] at this
  obtain ⟨B1, F1, s1, back1⟩ := S.call s
  refine ⟨ds, B1, F1, l1, l2, s1, ?_⟩
  have il := io_len (vs := vs) hb l1
  have lks := io_links hb l1 lk
  match e : G ds, h with
  | .stk, h => exact h
  | .ok (d, outs), h =>
    intro v H' s'
    by_cases lo : outs.length = back.length
    · simp only [if_pos lo] at h
      have s2 := back1 H' _ s'
      have r2 : RelC C B F0 (⟨sg.wr, some v, d⟩ :: (mkT sg.os (sg.io.filterMap (vs[·]?)) outs ++ (T ++ R0))) Γ ρ σ H' := ⟨by simpa using s2, r.l1, r.l2⟩
      have r3 : RelC C B F0 (mkT sg.os (sg.io.filterMap (vs[·]?)) outs ++ (⟨sg.wr, some v, d⟩ :: (T ++ R0))) Γ ρ σ H' := r2.perm (List.perm_middle.symm)
      exact h v H' (Rel.puts (by rw [hb.2.1, hb.1]) il.symm lo.symm lks r3)
    · simp only [if_neg lo] at h
      exact h.elim
  | .err c fs outs, h =>
    intro dx H' s'
    by_cases lo : outs.length = back.length
    · simp only [if_pos lo] at h
      have s2 := back1 H' _ s'
      have r2 : RelC C B F0 (⟨.z, some (.ref dx), .exc c fs⟩ :: (mkT sg.os (sg.io.filterMap (vs[·]?)) outs ++ (T ++ R0))) Γ ρ σ H' := ⟨by simpa using s2, r.l1, r.l2⟩
      have r3 : RelC C B F0 (mkT sg.os (sg.io.filterMap (vs[·]?)) outs ++ (T ++ (⟨.z, some (.ref dx), .exc c fs⟩ :: R0))) Γ ρ σ H' := r2.perm (by
        refine (List.perm_middle.symm).trans (List.Perm.append_left _ ?_)
        exact List.perm_middle.symm)
      have r4 := Rel.puts (by rw [hb.2.1, hb.1]) il.symm lo.symm lks r3
      have r5 : RelC C B F0 (⟨.z, some (.ref dx), .exc c fs⟩ :: R0) (putW back sg.os Γ) (puts back outs ρ) σ H' := r4.mapS fun {Z} s => S.dropL (R := T) (by simpa using s)
      exact h H' dx (r5.weak (lge c fs outs e))
    · simp only [if_neg lo] at h
      exact h.elim
section
variable {k : Nat} {f : Addr} {fd : FuncData} {ps : List Str} {sg : Sig} {G : GF} {nm : Str} {p : Pos} {ga : GA} {ms : List (Option Nat)} {back : List Nat}
/-- f(e, ..) -/
theorem de_call (Fn : FnD C.X.prog C.X.w C.X.K C.X.mg C.X.base C.cl k f fd ps sg G) (hr : Room k C.X.A) (tk : Takes C.X C.xw) (hg : Gl C.X nm) (hm : C.X.mg nm = some (.ref f)) (hk : PySem.W.keepIn C.X.K (.ref f) = true) (hb : Binds C.X.K fd ps [])
    (ha : DA C Γ (e :: es) ga Γ' sg.ws ms) (hB : Back sg ms back) (lge : (∀ ds c fs outs, G ds ≠ .err c fs outs) ∨ leL (putW back sg.os Γ') C.ge = true)
    (hdb : (nm == ("__debug__" : Str)) = false := by decide) (he : starEach (e :: es) C.X.env = (false, eval e C.X.env) :: starEach es C.X.env := by rfl) (hpl : (backTo pos (starEach es C.X.env)).any (·.1) = false := by rfl) :
    DE C Γ (.Call (.Name nm p) (e :: es) [] pos) (gCall G back ga) (putW back sg.os Γ') sg.wr := by
  obtain ⟨t, pa, fa⟩ := ha
  refine ⟨_, pe_callS Fn hr hg hm hk hb (fun σ => passAt tk σ) pa hdb he hpl, fun B F0 T R0 ρ σ H Q rr h => fa B F0 T R0 ρ σ H _ rr ?_⟩
  unfold gCall at h
  match e1 : ga ρ, h with
  | .err c fs ρ', h => exact h
  | .stk, h => exact h
  | .ok (ds, ρ2), h => exact fun vs H2 l1 l2 lk r2 => call_post hB l1 l2 lk r2 (fun c fs outs z => lge.elim (fun n => absurd z (n ds c fs outs)) id) h
end
end Dv
/-! D7: defs, methods, instances. -/
namespace Dv
open PySem PySem.Spec PyProof.Rows L2
variable {K : PySem.W.Frag} {cl : Cl} {F H B F0 : Hp} {C : Cq} {Γ Γ1 Γ2 Γ3 Γ' : List W} {pos : Pos} {T R0 R : List Root} {σ σ' : L2.St} {a b c e : Expr} {es : List Expr} {x y : V}

def exL (n : Nat) (io : List Nat) (os : List W) : List W := putW io os (List.replicate n .u)
def outsOf (io : List Nat) (ρ : En) : List D := io.map fun i => ρ.getD i .non
/-- a def that always returns by a return -/
def runF (n : Nat) (io : List Nat) (g : GS) : GF := fun ds => match g (ds ++ List.replicate (n - ds.length) .non) with
  | .ok (.rt d, ρ) => .ok (d, outsOf io ρ)
  | .ok _ => .stk
  | .err c fs ρ => .err c fs (outsOf io ρ)
  | .stk => .stk
/-- a def that may come to its end -/
def runP (n : Nat) (io : List Nat) (g : GS) : GF := fun ds => match g (ds ++ List.replicate (n - ds.length) .non) with
  | .ok (.rt d, ρ) => .ok (d, outsOf io ρ)
  | .ok (.nx, ρ) => .ok (.non, outsOf io ρ)
  | .ok _ => .stk
  | .err c fs ρ => .err c fs (outsOf io ρ)
  | .stk => .stk

theorem S.addUs : ∀ (m : Nat) {R : List Root}, S K cl B F0 H R → S K cl B F0 H (zr (List.replicate m .u) (List.replicate m none) (List.replicate m .non) ++ R)
  | 0, R, h => h
  | m + 1, R, h => (S.addUs m h).addU
theorem S.startZ : ∀ {ws : List W} {vs : List V} {ds : List D} (m : Nat) {R : List Root}, vs.length = ws.length → ds.length = ws.length → S K cl B F0 H (mkT ws vs ds ++ R) →
    S K cl B F0 H (zr (ws ++ List.replicate m .u) (vs.map some ++ List.replicate m none) (ds ++ List.replicate m .non) ++ R)
  | [], [], [], m, R, _, _, h => S.addUs m h
  | w :: ws, v :: vs, d :: ds, m, R, l1, l2, h => by
    have h1 : S K cl B F0 H (mkT ws vs ds ++ (⟨w, some v, d⟩ :: R)) := h.perm (by exact List.perm_middle.symm)
    have h2 := S.startZ (ws := ws) (vs := vs) (ds := ds) m (by simpa using l1) (by simpa using l2) h1
    exact S.toFront h2
theorem Rel.outs : ∀ {js : List Nat} {ws : List W} {vs : List V} {R : List Root} {Γ : List W} {ρ : En}, js.Nodup → js.length = ws.length → js.length = vs.length → (∀ k j : Nat, js[k]? = some j → ∃ w v, ws[k]? = some w ∧ vs[k]? = some v ∧ Γ[j]? = some w ∧ σ[j]? = some (some v)) →
    Rel K cl B F0 R Γ ρ σ H → S K cl B F0 H (mkT ws vs (outsOf js ρ) ++ R)
  | [], [], [], R, Γ, ρ, _, _, _, _, h => S.dropL (R := zr Γ σ ρ) (h.s.perm List.perm_append_comm)
  | j :: js, w :: ws, v :: vs, R, Γ, ρ, nd, l1, l2, lk, h => by
    obtain ⟨w', v', e1, e2, e3, e4⟩ := lk 0 j rfl
    simp at e1 e2
    subst e1 e2
    obtain ⟨v2, d, q1, q2, r⟩ := h.out e3
    rw [e4] at q1; cases q1
    have nd' := List.nodup_cons.mp nd
    have ih := Rel.outs (js := js) (ws := ws) (vs := vs) nd'.2 (by simpa using l1) (by simpa using l2) (fun k i ek => by
      obtain ⟨w2, v3, a1, a2, a3, a4⟩ := lk (k + 1) i (by simpa using ek)
      refine ⟨w2, v3, by simpa using a1, by simpa using a2, ?_, a4⟩
      have ne : j ≠ i := fun z => nd'.1 (z ▸ List.mem_of_getElem? ek)
      rw [List.getElem?_set_ne ne]; exact a3) r
    show S K cl B F0 H (⟨w, some v, ρ.getD j .non⟩ :: (mkT ws vs (outsOf js ρ) ++ R))
    rw [getD_of q2]
    exact S.toFront ih
/-- what a signature must be -/
structure SigOk (sg : Sig) (n : Nat) : Prop where
  le : sg.ws.length ≤ n
  nd : sg.io.Nodup
  lo : sg.os.length = sg.io.length
  lt : ∀ i ∈ sg.io, i < sg.ws.length
theorem putW_len : ∀ {js : List Nat} {ws Γ : List W}, (putW js ws Γ).length = Γ.length
  | [], _, _ => rfl
  | _ :: _, [], _ => rfl
  | j :: js, w :: ws, Γ => by rw [putW, putW_len, List.length_set]
theorem putW_out : ∀ {js : List Nat} {ws Γ : List W} {i : Nat}, i ∉ js → (putW js ws Γ)[i]? = Γ[i]?
  | [], _, _, _, _ => rfl
  | _ :: _, [], _, _, _ => rfl
  | j :: js, w :: ws, Γ, i, h => by
    simp only [List.mem_cons, not_or] at h
    rw [putW, putW_out h.2, List.getElem?_set_ne (Ne.symm h.1)]
theorem putW_at : ∀ {js : List Nat} {ws Γ : List W} {k j : Nat} {w : W}, js.Nodup → js[k]? = some j → ws[k]? = some w → j < Γ.length → (putW js ws Γ)[j]? = some w
  | [], _, _, _, _, _, _, e, _, _ => by simp at e
  | _ :: _, [], _, _, _, _, _, _, e, _ => by simp at e
  | i :: js, w0 :: ws, Γ, 0, j, w, nd, e1, e2, l => by
    simp at e1 e2
    subst e1 e2
    rw [putW, putW_out (List.nodup_cons.mp nd).1, List.getElem?_set_self l]
  | i :: js, w0 :: ws, Γ, k + 1, j, w, nd, e1, e2, l => by
    rw [putW]
    exact putW_at (List.nodup_cons.mp nd).2 (by simpa using e1) (by simpa using e2) (by simpa using l)
section
variable {P : Program} {w : World} {mg : Str → Option Value} {base : Heap} {nm qual : Str} {params : Arguments} {body : List Stmt} {scope : Scope} {dvs : List V} {kws : List (Str × V)} {f : Addr} {fd : FuncData} {N ps : List Str} {k : Nat} {sg : Sig} {g : GS}
abbrev cqOf (P : Program) (w : World) (K : PySem.W.Frag) (mg : Str → Option Value) (base : Heap) (cl : Cl) (N : List Str) (qual : Str) (scope : Scope) (f : Addr) (sg : Sig) (cdv : Value) (A : Around) (outer : List Env) (s : Shared) (H : Hp) (E : XK) : Cq :=
  ⟨cxOf (L2.CX P w) P w K mg base N qual scope f cdv A outer s H E, cl, fun c d _ H' => E c d H', exL N.length sg.io sg.os, exL N.length sg.io sg.os, sg.wr, sg.io, [], []⟩
theorem exit_ok (ok : SigOk sg N.length) {vs : List V} {d : D} {v : V} {w0 : W} {ρ' : En} (l1 : vs.length = sg.ws.length) (kp : Keep sg.io (L2.start N vs) σ') (r : Rel K cl B F0 [⟨w0, some v, d⟩] (exL N.length sg.io sg.os) ρ' σ' H) :
    S K cl B F0 H (⟨w0, some v, d⟩ :: mkT sg.os (sg.io.filterMap (vs[·]?)) (outsOf sg.io ρ')) := by
  have hlt : ∀ i ∈ sg.io, i < vs.length := fun i hi => by rw [l1]; exact ok.lt i hi
  obtain ⟨fl, fg⟩ := filterMap_all hlt
  have q := Rel.outs (js := sg.io) (ws := sg.os) (vs := sg.io.filterMap (vs[·]?)) (R := [⟨w0, some v, d⟩]) (Γ := exL N.length sg.io sg.os) ok.nd ok.lo.symm fl.symm (fun k j ek => by
    have hk : k < sg.io.length := (List.getElem?_eq_some_iff.mp ek).1
    have hv : k < (sg.io.filterMap (vs[·]?)).length := by rw [fl]; exact hk
    have ho : k < sg.os.length := by rw [ok.lo]; exact hk
    have e1 : (sg.io.filterMap (vs[·]?))[k]? = some (sg.io.filterMap (vs[·]?))[k] := List.getElem?_eq_getElem hv
    have e2 := fg k j _ ek e1
    have hj : j ∈ sg.io := List.mem_of_getElem? ek
    refine ⟨sg.os[k], _, List.getElem?_eq_getElem ho, e1, putW_at ok.nd ek (List.getElem?_eq_getElem ho) ?_, ?_⟩
    · rw [List.length_replicate]; exact Nat.lt_of_lt_of_le (ok.lt j hj) ok.le
    · rw [kp j hj]
      unfold L2.start
      rw [List.getElem?_append_left (by rw [List.length_map]; exact hlt j hj), List.getElem?_map, e2]; rfl) r
  exact q.perm List.perm_append_comm
theorem enter_ok (ok : SigOk sg N.length) {vs : List V} {ds : List D} (l1 : vs.length = sg.ws.length) (l2 : ds.length = sg.ws.length) (s : S K cl B F0 H (mkT sg.ws vs ds)) :
    Rel K cl B F0 [] (sg.ws ++ List.replicate (N.length - sg.ws.length) .u) (ds ++ List.replicate (N.length - ds.length) .non) (L2.start N vs) H := by
  refine ⟨?_, by unfold L2.start; simp [l1], by unfold L2.start; simp [l1, l2]⟩
  have q := S.startZ (ws := sg.ws) (vs := vs) (ds := ds) (N.length - sg.ws.length) (R := []) l1 l2 (by simpa using s)
  unfold L2.start
  rw [l1, l2]
  simpa using q
theorem fnD_of (F : FunD K nm qual params body scope dvs kws f fd) (Sc : FnScope N ps scope) (hps : ps.length = sg.ws.length) (ok : SigOk sg N.length)
    (hb : ∀ (cdv : Value) (A : Around) (outer : List Env) (s : Shared) (H : Hp) (E : XK), Room k (A.deeper (envOfC qual scope s.heap.objs.size f cdv)) →
      DSs (cqOf P w K mg base cl N qual scope f sg cdv A outer s H E) (sg.ws ++ List.replicate (N.length - sg.ws.length) .u) body g Γ') :
    FnD P w K mg base cl (k + 1) f fd ps sg (runF N.length sg.io g) := by
  refine F.ok Sc (fun vs H Q E h => ?_) fun cdv A outer s H vs Q E hr h => ?_
  · obtain ⟨ds, B, F0, l1, _⟩ := h
    rw [l1, hps]
  · obtain ⟨ds, B, F0, l1, l2, s1, h⟩ := h
    obtain ⟨t, p, ft⟩ := hb cdv A outer s H E hr
    refine ⟨t, p, ft B F0 [] _ (L2.start N vs) H _ (enter_ok ok l1 l2 s1) ?_⟩
    unfold runF at h
    revert h
    generalize g (ds ++ List.replicate (N.length - ds.length) .non) = rr
    intro h
    match rr, h with
    | .stk, h => exact h
    | .err c fs ρ', h => exact fun σ' kp H' dx r => h dx H' (exit_ok ok l1 kp r)
    | .ok (.nx, ρ'), h => exact h.elim
    | .ok (.bk, ρ'), h => exact h.elim
    | .ok (.ct, ρ'), h => exact h.elim
    | .ok (.rt d, ρ'), h => exact fun v σ' H' kp r => h v H' (exit_ok ok l1 kp r)
theorem fnD_ofP (F : FunD K nm qual params body scope dvs kws f fd) (Sc : FnScope N ps scope) (hps : ps.length = sg.ws.length) (ok : SigOk sg N.length) (lw : leW .s sg.wr = true)
    (hb : ∀ (cdv : Value) (A : Around) (outer : List Env) (s : Shared) (H : Hp) (E : XK), Room k (A.deeper (envOfC qual scope s.heap.objs.size f cdv)) →
      DSs (cqOf P w K mg base cl N qual scope f sg cdv A outer s H E) (sg.ws ++ List.replicate (N.length - sg.ws.length) .u) body g Γ') (le : leL Γ' (exL N.length sg.io sg.os) = true) :
    FnD P w K mg base cl (k + 1) f fd ps sg (runP N.length sg.io g) := by
  refine F.ok Sc (fun vs H Q E h => ?_) fun cdv A outer s H vs Q E hr h => ?_
  · obtain ⟨ds, B, F0, l1, _⟩ := h
    rw [l1, hps]
  · obtain ⟨ds, B, F0, l1, l2, s1, h⟩ := h
    obtain ⟨t, p, ft⟩ := hb cdv A outer s H E hr
    refine ⟨t, p, ft B F0 [] _ (L2.start N vs) H _ (enter_ok ok l1 l2 s1) ?_⟩
    unfold runP at h
    revert h
    generalize g (ds ++ List.replicate (N.length - ds.length) .non) = rr
    intro h
    match rr, h with
    | .stk, h => exact h
    | .err c fs ρ', h => exact fun σ' kp H' dx r => h dx H' (exit_ok ok l1 kp r)
    | .ok (.nx, ρ'), h => exact fun σ' H' kp r => h .non H' (exit_ok ok l1 kp ((r.weak le).mapS fun {Z} s => S.weak .s lw (S.addS s .non)))
    | .ok (.bk, ρ'), h => exact h.elim
    | .ok (.ct, ρ'), h => exact h.elim
    | .ok (.rt d, ρ'), h => exact fun v σ' H' kp r => h v H' (exit_ok ok l1 kp r)
/-- what leaves such a def is what is wanted of it -/
theorem takesOf {cdv : Value} {A : Around} {outer : List Env} {s : Shared} {E : XK} : Takes (cqOf P w K mg base cl N qual scope f sg cdv A outer s H E).X (cqOf P w K mg base cl N qual scope f sg cdv A outer s H E).xw := takes_of rfl rfl rfl rfl
theorem passOf {cdv : Value} {A : Around} {outer : List Env} {s : Shared} {E : XK} : PassesOwn (model (cqOf P w K mg base cl N qual scope f sg cdv A outer s H E).X.prog (cqOf P w K mg base cl N qual scope f sg cdv A outer s H E).X.w) (cqOf P w K mg base cl N qual scope f sg cdv A outer s H E).X.A (cqOf P w K mg base cl N qual scope f sg cdv A outer s H E).X.env (cqOf P w K mg base cl N qual scope f sg cdv A outer s H E).X.xe := PassesOwn.leaving
end

/-! ### fields, methods, instances -/
/-- a class of the program as the layer wants it -/
structure ClsD (K : PySem.W.Frag) (cl : Cl) (c : Nat) : Prop where
  cls : Cls K (cl.ad c)
  nd : (cl.lay c).Nodup
theorem lookup_at : ∀ {fs : List (Str × V)} {k : Nat} {f : Str} {v : V}, (fs.map (·.1)).Nodup → (fs.map (·.1))[k]? = some f → (fs.map (·.2))[k]? = some v → fs.lookup f = some v
  | [], _, _, _, _, e, _ => by simp at e
  | (g, u) :: fs, 0, f, v, nd, e, e2 => by
    simp at e e2
    subst e e2
    simp [List.lookup]
  | (g, u) :: fs, k + 1, f, v, nd, e, e2 => by
    have nd' := List.nodup_cons.mp (show (g :: fs.map (·.1)).Nodup from nd)
    have ih := lookup_at (fs := fs) (k := k) nd'.2 (by simpa using e) (by simpa using e2)
    have ne : f ≠ g := fun z => nd'.1 (z ▸ List.mem_of_getElem? (by simpa using e))
    have : (f == g) = false := by simpa using ne
    simp only [List.lookup, this]
    exact ih
theorem lookup_no : ∀ {fs : List (Str × V)} {f : Str}, f ∉ fs.map (·.1) → fs.lookup f = none
  | [], _, _ => rfl
  | (g, u) :: fs, f, h => by
    have h2 : f ≠ g ∧ f ∉ fs.map (·.1) := by simpa [List.mem_cons, not_or] using h
    have e : (f == g) = false := by simpa using h2.1
    simp only [List.lookup, e]
    exact lookup_no h2.2
def gFld (c k : Nat) (ga : GE) : GE := fun ρ => (ga ρ).bind fun p => match p.1 with
  | .ins c' fs => if c' = c then (match fs[k]? with
    | some d => .ok (d, p.2)
    | none => .stk) else .stk
  | _ => .stk
/-- e.f, e shared -/
theorem de_fld {ga : GE} {f : Str} {c k : Nat} (ha : DE C Γ e ga Γ1 .z) (cd : ClsD C.X.K C.cl c) (na : NoAttr C.X.K (C.cl.ad c) f) (hk : (C.cl.lay c)[k]? = some f) (hb : attributeBase e f C.X.env (eval e C.X.env) = eval e C.X.env := by rfl) :
    DE C Γ (.Attribute e f pos) (gFld c k ga) Γ1 .z := by
  obtain ⟨t, p, fa⟩ := ha
  refine ⟨_, pe_fld p hb, fun B F0 T R0 ρ σ H Q r h => fa B F0 T R0 ρ σ H _ r ?_⟩
  unfold gFld at h
  match e1 : ga ρ, h with
  | .err c fs ρ', h => exact h
  | .stk, h => exact h
  | .ok (d, ρ1), h =>
    intro v H1 r1
    have rp := S.rpv1 r1.s rfl
    match d, h, rp, r1 with
    | .ins c' ds, h, rp, r1 =>
      simp only [Res.bind_ok] at h
      by_cases hc : c' = c
      · subst hc
        rw [if_pos rfl] at h
        obtain ⟨p, dx, fs, rfl, hp, en, rl⟩ := rp.to_ins
        match e2 : ds[k]?, h with
        | none, h => exact h.elim
        | some d, h =>
          obtain ⟨v, ev, rv⟩ := rl.getD e2
          have hkl : k < fs.length := by
            have := (List.getElem?_eq_some_iff.mp ev).1
            simpa using this
          have ek : (fs.map (·.1))[k]? = some f := by rw [en, List.getElem?_take_of_lt hkl]; exact hk
          have nd : (fs.map (·.1)).Nodup := by rw [en]; exact List.Nodup.sublist (List.take_sublist _ _) cd.nd
          refine ⟨p, C.cl.ad c', dx, fs, v, rfl, hp, cd.cls, na, lookup_at nd ek ev, h v H1 (r1.mapS fun {Z} s => S.drop (S.swap (S.addz s fun F sb q => ?_)))⟩
          obtain ⟨p', dx', fs', e3, hp', en', rl'⟩ := q.to_ins
          cases e3
          have e4 := sb _ _ hp'
          rw [hp] at e4; cases e4
          obtain ⟨v', ev', rv'⟩ := rl'.getD e2
          rw [ev] at ev'; cases ev'
          exact rv'
      · rw [if_neg hc] at h
        exact h.elim
end Dv
/-! D8: methods, instances, fields stored. -/
namespace Dv
open PySem PySem.Spec PyProof.Rows L2
variable {K : PySem.W.Frag} {cl : Cl} {F H B F0 : Hp} {C : Cq} {Γ Γ1 Γ2 Γ3 Γ' : List W} {pos : Pos} {T R0 R : List Root} {σ σ' : L2.St} {a b c e o : Expr} {es : List Expr} {x y : V}

/-! ### a receiver -/
def DR (C : Cq) (Γ : List W) (e : Expr) (g : GE) (Γ1 : List W) (w : W) (m : Option Nat) : Prop := ∃ t, PE C.X e t ∧ ∀ (B F0 : Hp) (T R0 : List Root) (ρ : En) (σ : L2.St) (H : Hp) (Q : VK), RelC C B F0 (T ++ R0) Γ ρ σ H → (match g ρ with
      | .ok (d, ρ') => ∀ v H', (∀ j, m = some j → σ[j]? = some (some v)) → RelC C B F0 (⟨w, some v, d⟩ :: (T ++ R0)) Γ1 ρ' σ H' → Q v H'
      | .err c fs ρ' => ErrOk C B F0 R0 σ c fs ρ'
      | .stk => False) → t σ H Q
theorem dr_val {g : GE} {w : W} (h : DE C Γ e g Γ1 w) : DR C Γ e g Γ1 w none := by
  obtain ⟨t, p, f⟩ := h
  refine ⟨t, p, fun B F0 T R0 ρ σ H Q r h => f B F0 T R0 ρ σ H Q r ?_⟩
  match e1 : g ρ, h with
  | .err c fs ρ', h => exact h
  | .stk, h => exact h
  | .ok (d, ρ1), h => exact fun v H' r' => h v H' (fun j z => by cases z) r'
theorem dr_mov {i : Nat} {nm : Str} {w : W} (hN : C.X.N[i]? = some nm) (hv : Vis C.X.env.scope nm) (ew : Γ[i]? = some w) (f : w.fz = true) (hd : (nm == ("__debug__" : Str)) = false := by decide) (hcd : (nm == ("__classdict__" : Str)) = false := by decide) :
    DR C Γ (.Name nm pos) (gVar i) (Γ.set i .u) w (some i) := by
  refine ⟨_, pe_var hN hv hd hcd, fun B F0 T R0 ρ σ H Q r h => ?_⟩
  obtain ⟨v, ev, r2⟩ := r.move ew f
  exact ⟨v, ev, h v H (fun j z => by cases z; exact ev) r2⟩
/-- the receiver and the arguments together -/
theorem recv_args {g : GE} {ga : GA} {w : W} {ws : List W} {m : Option Nat} {ms : List (Option Nat)} {t : TE} {ta : TA}
    (f : ∀ (B F0 : Hp) (T R0 : List Root) (ρ : En) (σ : L2.St) (H : Hp) (Q : VK), RelC C B F0 (T ++ R0) Γ ρ σ H → (match g ρ with
      | .ok (d, ρ') => ∀ v H', (∀ j, m = some j → σ[j]? = some (some v)) → RelC C B F0 (⟨w, some v, d⟩ :: (T ++ R0)) Γ1 ρ' σ H' → Q v H'
      | .err c fs ρ' => ErrOk C B F0 R0 σ c fs ρ'
      | .stk => False) → t σ H Q)
    (fa : ∀ (B F0 : Hp) (T R0 : List Root) (ρ : En) (σ : L2.St) (H : Hp) (Q : List V → Hp → Prop), RelC C B F0 (T ++ R0) Γ1 ρ σ H → PostA C B F0 T R0 Γ2 ws ms σ Q (ga ρ) → ta σ H Q)
    {ρ : En} {Q : List V → Hp → Prop} (r : RelC C B F0 (T ++ R0) Γ ρ σ H) (h : PostA C B F0 T R0 Γ2 (w :: ws) (m :: ms) σ Q (gaCons g ga ρ))
    (P : V → Hp → Prop) (hP : ∀ v H' d ρ', g ρ = .ok (d, ρ') → RelC C B F0 (⟨w, some v, d⟩ :: (T ++ R0)) Γ1 ρ' σ H' → P v H') :
    t σ H fun x H1 => P x H1 ∧ ta σ H1 fun vs H2 => Q (x :: vs) H2 := by
  refine f B F0 T R0 ρ σ H _ r ?_
  unfold gaCons at h
  match e1 : g ρ, h with
  | .err c fs ρ', h => exact h
  | .stk, h => exact h
  | .ok (d, ρ1), h =>
    intro v H1 hm r1
    refine ⟨hP v H1 d ρ1 e1 r1, fa B F0 (⟨w, some v, d⟩ :: T) R0 ρ1 σ H1 _ r1 ?_⟩
    simp only [Res.bind_ok] at h
    match e2 : ga ρ1, h with
    | .err c fs ρ', h => exact h
    | .stk, h => exact h
    | .ok (ds, ρ2), h =>
      intro vs H2 l1 l2 lk r2
      refine h (v :: vs) H2 (by simp [l1]) (by simp [l2]) (fun k j ek => ?_) (r2.mapS fun {Z} s => ?_)
      · cases k with
        | zero =>
          simp at ek
          exact ⟨v, rfl, hm j ek⟩
        | succ k => exact lk k j (by simpa using ek)
      · refine s.perm ?_
        show ((mkT ws vs ds ++ (⟨w, some v, d⟩ :: (T ++ R0))) ++ Z).Perm (⟨w, some v, d⟩ :: (mkT ws vs ds ++ (T ++ R0)) ++ Z)
        exact (List.perm_middle).append_right _

section
variable {k : Nat} {f : Addr} {fd : FuncData} {ps : List Str} {sp : Sp} {X : Cx} {CX : CXT} {E : L2.St → XK} {ta : TE} {t : TA} {m nm : Str} {apos p : Pos} {cad : Addr}
def tMS (cad : Addr) (m : Str) (sp : Sp) (E : L2.St → XK) (ta : TE) (t : TA) : TE := fun σ H Q => ta σ H fun x H1 => (∃ a dx fs, x = .ref a ∧ H1 a = some (.ins cad dx fs) ∧ fs.lookup m = none) ∧ t σ H1 fun vs H2 => sp (x :: vs) H2 Q (E σ)
theorem pe_mS {pl : Sem Bool} (he : PE X o ta) (c : Cls X.K cad) (hm : Meth X.K cad m f) (F : FnOk X.prog X.w X.K X.mg X.base CX k f fd ps sp) (hr : Room k X.A) (hb : Binds X.K fd ps []) (hx : ∀ σ, PassesAt CX X σ (E σ)) (ha : PA X (e :: es) t)
    (hst : starEach (e :: es) X.env = (false, eval e X.env) :: starEach es X.env) (hpl : (backTo pos (starEach es X.env)).any (·.1) = false)
    (ht : eval (.Call (.Attribute o m apos) (e :: es) [] pos) X.env = (do
      let ov ← eval o X.env
      standAt apos.atName
      let (f, first) ← holding [ov] (getMethod ov m pl)
      callWith pos f first (backTo pos (starEach (e :: es) X.env)) (backToKw pos (keywordEach [] X.env)))) :
    PE X (.Call (.Attribute o m apos) (e :: es) [] pos) (tMS cad m sp E ta t) := by
  constructor
  intro pins s σ H Q I h
  refine PySem.W.methodCall_KW (pl := pl) (thn (he.run pins s σ H _ I h) fun u s1 ⟨x, H1, I1, rx, ⟨a, dx, fs, ex, ea, l⟩, q⟩ => ?_) ht
  subst ex
  cases rx
  refine getmeth_ok I1 ea c hm l (PySem.W.callWith_K (first := [.ref a]) (h₀ := X.base) I.ok.mod.kin hm.kp (thn (ha.run pos pins s1 σ H1 _ I1 q) fun us s2 ⟨vs, H2, I2, r, q2⟩ => ⟨I2.kIn, ?_⟩) hst hpl)
  exact run_fnS (us := .ref a :: us) (vs := .ref a :: vs) F hr hb (hx σ) I2 (.cons rfl r) q2
theorem pe_mS0 {pl : Sem Bool} (he : PE X o ta) (c : Cls X.K cad) (hm : Meth X.K cad m f) (F : FnOk X.prog X.w X.K X.mg X.base CX k f fd ps sp) (hr : Room k X.A) (hb : Binds X.K fd ps []) (hx : ∀ σ, PassesAt CX X σ (E σ))
    (ht : eval (.Call (.Attribute o m apos) [] [] pos) X.env = (do
      let ov ← eval o X.env
      standAt apos.atName
      let (f, first) ← holding [ov] (getMethod ov m pl)
      callWith pos f first (backTo pos (starEach [] X.env)) (backToKw pos (keywordEach [] X.env)))) :
    PE X (.Call (.Attribute o m apos) [] [] pos) (tMS cad m sp E ta tNil) := by
  constructor
  intro pins s σ H Q I h
  refine PySem.W.methodCall_KW (pl := pl) (thn (he.run pins s σ H _ I h) fun u s1 ⟨x, H1, I1, rx, ⟨a, dx, fs, ex, ea, l⟩, q⟩ => ?_) ht
  subst ex
  cases rx
  exact getmeth_ok I1 ea c hm l (PySem.W.callWith_K0 (first := [.ref a]) I1.kIn hm.kp (run_fnS (us := [.ref a]) (vs := [.ref a]) F hr hb (hx σ) I1 (.cons rfl .nil) q))
def tMkS (cad : Addr) (sp : Sp) (E : L2.St → XK) (t : TA) : TE := fun σ H Q => t σ H fun vs H1 => ∀ x dx, H1 x = none → H1 dx = none → dx ≠ x →
  sp (.ref x :: vs) (upd (upd H1 dx (.own x)) x (.ins cad dx [])) (fun v H2 => v = .non ∧ Q (.ref x) H2) (E σ)
theorem run_mkS {pins : List (Addr × Obj)} {s : Shared} {Q : VK} {us : List Value} {vs : List V} (M : Mk X.K cad f) (F : FnOk X.prog X.w X.K X.mg X.base CX k f fd ps sp) (hr : Room (k + 1) X.A) (hb : Binds X.K fd ps [])
    (hx : PassesAt CX X σ (E σ)) (I : Inv X pins σ H s) (r : Vals vs us)
    (h : ∀ x dx, H x = none → H dx = none → dx ≠ x → sp (.ref x :: vs) (upd (upd H dx (.own x)) x (.ins cad dx [])) (fun v H2 => v = .non ∧ Q (.ref x) H2) (E σ)) :
    wpAny (model X.prog X.w) X.A (call (.ref cad) us) (EP X pins σ Q) X.xe s := by
  have hq := h (s.heap.objs.size + 1) s.heap.objs.size (I.hok.fresh (Nat.le_succ _)) (I.hok.fresh (Nat.le_refl _)) (Nat.ne_of_lt (Nat.lt_succ_self _))
  have I2 := Inv.made (C := cad) I
  have r2 : Vals (V.ref (s.heap.objs.size + 1) :: vs) (Value.ref (s.heap.objs.size + 1) :: us) := .cons rfl r
  have hl : (Value.ref (s.heap.objs.size + 1) :: us).length = ps.length := by rw [← r2.length]; exact F.len _ _ _ _ hq
  have bt := hb { s with heap := (s.heap.push PySem.W.emptyDict).push (PySem.W.instObj cad s.heap.objs.size) } (Value.ref (s.heap.objs.size + 1) :: us) I2.kIn (by rw [List.append_nil]; exact hl)
  rw [List.append_nil] at bt
  refine wpAny_call (make_map (f := f) I.kIn M.makes M.init (beq_iff_eq.mp M.fn) (codeAny_mono (F.run _ X.stack _ _ ⟨Value.ref (s.heap.objs.size + 1) :: us, []⟩ _ _ _ (E σ) (hr.make cad us [])
    (I2.env0.make cad us []) bt r2 hq) fun r s' hq' => ?_))
  match r, hq' with
  | .error e, hq' => exact hx pins _ _ e s' I2 hq'
  | .ok (.ret u), hq' =>
    obtain ⟨v, H', I3, rv, ev, q3⟩ := I2.after hq'
    subst ev
    exact ⟨rv, ⟨V.ref (s.heap.objs.size + 1), H', I3, rfl, q3⟩⟩
  | .ok .next, hq' => exact hq'.elim
  | .ok .brk, hq' => exact hq'.elim
  | .ok .cont, hq' => exact hq'.elim
theorem pe_mkS (M : Mk X.K cad f) (F : FnOk X.prog X.w X.K X.mg X.base CX k f fd ps sp) (hr : Room (k + 1) X.A) (hg : Gl X nm) (hm : X.mg nm = some (.ref cad)) (hb : Binds X.K fd ps []) (hx : ∀ σ, PassesAt CX X σ (E σ))
    (ha : PA X (e :: es) t) (hdb : (nm == ("__debug__" : Str)) = false) (he : starEach (e :: es) X.env = (false, eval e X.env) :: starEach es X.env) (hpl : (backTo pos (starEach es X.env)).any (·.1) = false) :
    PE X (.Call (.Name nm p) (e :: es) [] pos) (tMkS cad sp E t) := by
  constructor
  intro pins s σ H Q I h
  refine wpAny_Call_Name_kw (ld_glob I hg hm (PySem.W.callWith_K (h₀ := X.base) I.ok.mod.kin M.kp (thn (ha.run pos pins s σ H _ I h) fun us s1 ⟨vs, H1, I1, r, q⟩ => ⟨I1.kIn, ?_⟩) he hpl) hdb)
  exact run_mkS M F hr hb (hx σ) I1 r q
end
section
variable {k : Nat} {f : Addr} {fd : FuncData} {ps : List Str} {sg : Sig} {G : GF} {m nm : Str} {apos p : Pos} {ga : GA} {g : GE} {w : W} {ws : List W} {mr : Option Nat} {ms : List (Option Nat)} {back : List Nat} {ci : Nat}
/-- what a receiver must be -/
def recvOk (ci : Nat) (G : GE) (g : GE) : Prop := True
/-- d is an instance of the class ci -/
def isI (ci : Nat) : D → Bool
  | .ins c _ => c == ci
  | _ => false
def gRecv (ci : Nat) (g : GE) : GE := fun ρ => (g ρ).bind fun p => if isI ci p.1 = true then .ok p else .stk
theorem Own.ins_at {w0 : W} {v : Option V} {c0 : Nat} {ds : List D} {A : FpS} (h : Own K cl F H w0 v (.ins c0 ds) A) (sb : Sub F H) (hw : w0.fz = true) : ∃ p dx fs, v = some (.ref p) ∧ H p = some (.ins (cl.ad c0) dx fs) ∧ fs.map (·.1) = (cl.lay c0).take fs.length := by
  cases h with
  | u => cases hw
  | c h => cases hw
  | s h => cases h
  | z h =>
    obtain ⟨p, dx, fs, rfl, hp, e, _⟩ := h.to_ins
    exact ⟨p, dx, fs, rfl, sb _ _ hp, e⟩
  | i h e _ _ _ _ => exact ⟨_, _, _, rfl, h, e⟩
theorem S.ins_at {w0 : W} {v : Option V} {c0 : Nat} {ds : List D} (h : S K cl B F0 H (⟨w0, v, .ins c0 ds⟩ :: R)) (hw : w0.fz = true) : ∃ p dx fs, v = some (.ref p) ∧ H p = some (.ins (cl.ad c0) dx fs) ∧ fs.map (·.1) = (cl.lay c0).take fs.length := by
  obtain ⟨F, A, r, sb, _⟩ := h
  cases r with
  | cons a b dj => exact a.ins_at sb hw
theorem dr_recv (h : DR C Γ o g Γ1 w mr) : DR C Γ o (gRecv ci g) Γ1 w mr := by
  obtain ⟨t, p, f⟩ := h
  refine ⟨t, p, fun B F0 T R0 ρ σ H Q r h => f B F0 T R0 ρ σ H Q r ?_⟩
  unfold gRecv at h
  match e1 : g ρ, h with
  | .err c fs ρ', h => exact h
  | .stk, h => exact h
  | .ok (d, ρ1), h =>
    simp only [Res.bind_ok] at h
    by_cases hd : isI ci d = true
    · rw [if_pos hd] at h; exact h
    · rw [if_neg hd] at h; exact h.elim
theorem recv_is {ρ ρ' : En} {d : D} {v : V} (e1 : gRecv ci g ρ = .ok (d, ρ')) (r : RelC C B F0 (⟨w, some v, d⟩ :: (T ++ R0)) Γ1 ρ' σ H) (hw : w.fz = true) (hno : m ∉ C.cl.lay ci) :
    ∃ a dx fs, v = .ref a ∧ H a = some (.ins (C.cl.ad ci) dx fs) ∧ fs.lookup m = none := by
  unfold gRecv at e1
  match e2 : g ρ, e1 with
  | .ok (d', ρ1), e1 =>
    simp only [Res.bind_ok] at e1
    by_cases hd : isI ci d' = true
    · rw [if_pos hd] at e1
      cases e1
      match d, hd, r with
      | .ins c0 ds, hd, r =>
        have hc : c0 = ci := by simpa [isI] using hd
        subst hc
        obtain ⟨p, dx, fs, ev, hp, en⟩ := S.ins_at r.s hw
        cases ev
        exact ⟨p, dx, fs, rfl, hp, lookup_no (fun z => hno (by rw [en] at z; exact List.mem_of_mem_take z))⟩
    · rw [if_neg hd] at e1; cases e1
/-- o.m(e, ..) -/
theorem de_meth {pl : Sem Bool} (ho : DR C Γ o (gRecv ci g) Γ1 w mr) (hw : w.fz = true) (cd : ClsD C.X.K C.cl ci) (hm : Meth C.X.K (C.cl.ad ci) m f) (hno : m ∉ C.cl.lay ci) (Fn : FnD C.X.prog C.X.w C.X.K C.X.mg C.X.base C.cl k f fd ps sg G) (hr : Room k C.X.A) (tk : Takes C.X C.xw)
    (hb : Binds C.X.K fd ps []) (ha : DA C Γ1 (e :: es) ga Γ2 ws ms) (hsg : sg.ws = w :: ws) (hB : Back sg (mr :: ms) back) (lge : (∀ ds c fs outs, G ds ≠ .err c fs outs) ∨ leL (putW back sg.os Γ2) C.ge = true)
    (hst : starEach (e :: es) C.X.env = (false, eval e C.X.env) :: starEach es C.X.env := by rfl) (hpl : (backTo pos (starEach es C.X.env)).any (·.1) = false := by rfl)
    (ht : eval (.Call (.Attribute o m apos) (e :: es) [] pos) C.X.env = (do
      let ov ← eval o C.X.env
      standAt apos.atName
      let (f, first) ← holding [ov] (getMethod ov m pl)
      callWith pos f first (backTo pos (starEach (e :: es) C.X.env)) (backToKw pos (keywordEach [] C.X.env))) := by rfl) :
    DE C Γ (.Call (.Attribute o m apos) (e :: es) [] pos) (gCall G back (gaCons (gRecv ci g) ga)) (putW back sg.os Γ2) sg.wr := by
  obtain ⟨t, p, fo⟩ := ho
  obtain ⟨ta, pa, fa⟩ := ha
  refine ⟨_, pe_mS p cd.cls hm Fn hr hb (fun σ => passAt tk σ) pa hst hpl ht, fun B F0 T R0 ρ σ H Q rr h => ?_⟩
  refine recv_args (Γ2 := Γ2) (ws := ws) (ms := ms) (Q := fun vs H2 => spD C.X.K C.cl sg G vs H2 Q (fun c d H' => C.xw c d σ H')) fo fa rr ?_ _ fun v H' d ρ' e1 r => recv_is e1 r hw hno
  unfold gCall at h
  match e1 : gaCons (gRecv ci g) ga ρ, h with
  | .err c fs ρ', h => exact h
  | .stk, h => exact h
  | .ok (ds, ρ2), h => exact fun vs H2 l1 l2 lk r2 => call_post hB (by rw [hsg]; exact l1) (by rw [hsg]; exact l2) lk (by rw [hsg]; exact r2) (fun c fs outs z => lge.elim (fun n => absurd z (n ds c fs outs)) id) h
theorem de_meth0 {pl : Sem Bool} (ho : DR C Γ o (gRecv ci g) Γ1 w mr) (hw : w.fz = true) (cd : ClsD C.X.K C.cl ci) (hm : Meth C.X.K (C.cl.ad ci) m f) (hno : m ∉ C.cl.lay ci) (Fn : FnD C.X.prog C.X.w C.X.K C.X.mg C.X.base C.cl k f fd ps sg G) (hr : Room k C.X.A) (tk : Takes C.X C.xw)
    (hb : Binds C.X.K fd ps []) (hsg : sg.ws = [w]) (hB : Back sg [mr] back) (lge : (∀ ds c fs outs, G ds ≠ .err c fs outs) ∨ leL (putW back sg.os Γ1) C.ge = true)
    (ht : eval (.Call (.Attribute o m apos) [] [] pos) C.X.env = (do
      let ov ← eval o C.X.env
      standAt apos.atName
      let (f, first) ← holding [ov] (getMethod ov m pl)
      callWith pos f first (backTo pos (starEach [] C.X.env)) (backToKw pos (keywordEach [] C.X.env))) := by rfl) :
    DE C Γ (.Call (.Attribute o m apos) [] [] pos) (gCall G back (gaCons (gRecv ci g) gaNil)) (putW back sg.os Γ1) sg.wr := by
  obtain ⟨t, p, fo⟩ := ho
  obtain ⟨ta, pa, fa⟩ := da_nil (C := C) (Γ := Γ1)
  refine ⟨_, pe_mS0 p cd.cls hm Fn hr hb (fun σ => passAt tk σ) ht, fun B F0 T R0 ρ σ H Q rr h => ?_⟩
  refine recv_args (Γ2 := Γ1) (ws := []) (ms := []) (ga := gaNil) (ta := tNil) (Q := fun vs H2 => spD C.X.K C.cl sg G vs H2 Q (fun c d H' => C.xw c d σ H')) fo (fun B F0 T R0 ρ σ H Q r h => h [] H rfl rfl (fun k j e => by simp at e) r) rr ?_ _ fun v H' d ρ' e1 r => recv_is e1 r hw hno
  unfold gCall at h
  match e1 : gaCons (gRecv ci g) gaNil ρ, h with
  | .err c fs ρ', h => exact h
  | .stk, h => exact h
  | .ok (ds, ρ2), h => exact fun vs H2 l1 l2 lk r2 => call_post hB (by rw [hsg]; exact l1) (by rw [hsg]; exact l2) lk (by rw [hsg]; exact r2) (fun c fs outs z => lge.elim (fun n => absurd z (n ds c fs outs)) id) h
/-- C(e, ..) -/
def gMake (G : GF) (ci : Nat) (ga : GA) : GE := fun ρ => (ga ρ).bind fun p => match G (.ins ci [] :: p.1) with
  | .ok (_, [d]) => .ok (d, p.2)
  | .err c fs [_] => .err c fs p.2
  | _ => .stk
theorem de_make {wI : W} (M : Mk C.X.K (C.cl.ad ci) f) (Fn : FnD C.X.prog C.X.w C.X.K C.X.mg C.X.base C.cl k f fd ps ⟨.t [] :: ws, .s, [wI], [0]⟩ G) (hn : ∀ ds d outs, G ds = .ok (d, outs) → d = .non) (hr : Room (k + 1) C.X.A) (tk : Takes C.X C.xw) (hg : Gl C.X nm) (hm : C.X.mg nm = some (.ref (C.cl.ad ci)))
    (hb : Binds C.X.K fd ps []) (ha : DA C Γ (e :: es) ga Γ' ws ms) (lge : (∀ ds c fs outs, G ds ≠ .err c fs outs) ∨ leL Γ' C.ge = true)
    (hdb : (nm == ("__debug__" : Str)) = false := by decide) (he : starEach (e :: es) C.X.env = (false, eval e C.X.env) :: starEach es C.X.env := by rfl) (hpl : (backTo pos (starEach es C.X.env)).any (·.1) = false := by rfl) :
    DE C Γ (.Call (.Name nm p) (e :: es) [] pos) (gMake G ci ga) Γ' wI := by
  obtain ⟨t, pa, fa⟩ := ha
  refine ⟨_, pe_mkS M Fn hr hg hm hb (fun σ => passAt tk σ) pa hdb he hpl, fun B F0 T R0 ρ σ H Q rr h => fa B F0 T R0 ρ σ H _ rr ?_⟩
  unfold gMake at h
  match e1 : ga ρ, h with
  | .err c fs ρ', h => exact h
  | .stk, h => exact h
  | .ok (ds, ρ2), h =>
    intro vs H2 l1 l2 lk r2 x dx nx ndx ne
    have s0 : S C.X.K C.cl B F0 H2 (mkT ws vs ds ++ ((T ++ R0) ++ zr Γ' σ ρ2)) := by have := r2.s; rwa [List.append_assoc] at this
    have n2 : upd H2 dx (.own x) x = none := by rw [upd_ne (Ne.symm ne)]; exact nx
    have s1 := S.closeI (ws := []) (fs := []) (ds := []) (S.rawNew (d := .non) (o := .ins (C.cl.ad ci) dx []) (S.alloc (o := .own x) s0 ndx) n2) rfl rfl rfl
    have s2 : S C.X.K C.cl B F0 (upd (upd H2 dx (.own x)) x (.ins (C.cl.ad ci) dx [])) (mkT (.t [] :: ws) (.ref x :: vs) (.ins ci [] :: ds) ++ ((T ++ R0) ++ zr Γ' σ ρ2)) := s1
    obtain ⟨B1, F1, sc, back1⟩ := S.call s2
    refine ⟨.ins ci [] :: ds, B1, F1, by simp [l1], by simp [l2], sc, ?_⟩
    simp only [Res.bind_ok] at h
    match e2 : G (.ins ci [] :: ds), h with
    | .stk, h => exact h
    | .ok (d0, []), h => exact h.elim
    | .ok (d0, _ :: _ :: _), h => exact h.elim
    | .ok (d0, [d]), h =>
      intro v H' s'
      have dn := hn _ _ _ e2
      subst dn
      have q := back1 H' _ s'
      have vn : v = .non := (S.rpv1 s' rfl).to_non
      refine ⟨vn, h (.ref x) H' ⟨?_, r2.l1, r2.l2⟩⟩
      have q2 := S.drop (by simpa [mkT] using q)
      simpa using q2
    | .err c fs [], h => exact h.elim
    | .err c fs (_ :: _ :: _), h => exact h.elim
    | .err c fs [d], h =>
      intro dx' H' s'
      have q := back1 H' _ s'
      have q2 := S.drop (S.swap (by simpa [mkT] using q))
      have r5 : RelC C B F0 (⟨.z, some (.ref dx'), .exc c fs⟩ :: R0) Γ' ρ2 σ H' := by
        refine Rel.mapS (R := ⟨.z, some (.ref dx'), .exc c fs⟩ :: (T ++ R0)) ⟨by simpa using q2, r2.l1, r2.l2⟩ fun {Z} s => ?_
        have s3 : S C.X.K C.cl B F0 H' (T ++ (⟨.z, some (.ref dx'), .exc c fs⟩ :: (R0 ++ Z))) := s.perm (by simp only [List.cons_append, List.append_assoc]; exact List.perm_middle.symm)
        exact S.dropL s3
      exact h H' dx' (r5.weak (lge.elim (fun n => absurd e2 (n _ _ _ _)) id))
end

/-! ### self.f = e -/
theorem putF_new : ∀ {fs : List (Str × V)} {f : Str} {v : V}, f ∉ fs.map (·.1) → putF f v fs = fs ++ [(f, v)]
  | [], _, _, _ => rfl
  | (g, u) :: fs, f, v, h => by
    have h2 : f ≠ g ∧ f ∉ fs.map (·.1) := by simpa [List.mem_cons, not_or] using h
    show (if g = f then (g, v) :: fs else (g, u) :: putF f v fs) = _
    rw [if_neg (Ne.symm h2.1), putF_new h2.2]; rfl
theorem putF_old : ∀ {fs : List (Str × V)} {f : Str} {v : V} {k : Nat}, (fs.map (·.1)).Nodup → (fs.map (·.1))[k]? = some f → putF f v fs = fs.set k (f, v)
  | [], _, _, _, _, e => by simp at e
  | (g, u) :: fs, f, v, 0, nd, e => by
    simp at e; subst e
    show (if g = g then _ else _) = _
    rw [if_pos rfl]; rfl
  | (g, u) :: fs, f, v, k + 1, nd, e => by
    have nd' := List.nodup_cons.mp (show (g :: fs.map (·.1)).Nodup from nd)
    have ne : g ≠ f := fun z => nd'.1 (z ▸ List.mem_of_getElem? (by simpa using e))
    show (if g = f then (g, v) :: fs else (g, u) :: putF f v fs) = _
    rw [if_neg ne, putF_old nd'.2 (by simpa using e)]; rfl
theorem mkT_snoc {w : W} {v : V} {d : D} : ∀ {ws : List W} {vs : List V} {ds : List D}, ws.length = vs.length → vs.length = ds.length → mkT (ws ++ [w]) (vs ++ [v]) (ds ++ [d]) = mkT ws vs ds ++ [⟨w, some v, d⟩]
  | [], [], [], _, _ => rfl
  | _ :: ws, _ :: vs, _ :: ds, a, b => by
    simp only [List.cons_append, mkT, mkT_snoc (ws := ws) (vs := vs) (ds := ds) (by simpa using a) (by simpa using b)]
theorem mkT_cut {w : W} {v : V} {d : D} : ∀ {ws : List W} {vs : List V} {ds : List D} {k : Nat}, ws.length = vs.length → vs.length = ds.length → k < vs.length →
    ∃ R1 x R2, mkT ws vs ds = R1 ++ x :: R2 ∧ mkT (ws.set k w) (vs.set k v) (ds.set k d) = R1 ++ ⟨w, some v, d⟩ :: R2
  | [], [], [], k, _, _, h => by simp at h
  | w0 :: ws, v0 :: vs, d0 :: ds, 0, _, _, _ => ⟨[], ⟨w0, some v0, d0⟩, mkT ws vs ds, rfl, rfl⟩
  | w0 :: ws, v0 :: vs, d0 :: ds, k + 1, a, b, h => by
    obtain ⟨R1, x, R2, e1, e2⟩ := mkT_cut (w := w) (v := v) (d := d) (ws := ws) (vs := vs) (ds := ds) (k := k) (by simpa using a) (by simpa using b) (by simpa using h)
    refine ⟨⟨w0, some v0, d0⟩ :: R1, x, R2, by simp [mkT, e1], ?_⟩
    simp only [List.set_cons_succ, mkT, e2, List.cons_append]
def sFldSet (i ci k : Nat) (g : GE) : GS := fun ρ => (g ρ).bind fun p => match p.2.getD i .non with
  | .ins c fs => if c = ci then (if k = fs.length then .ok (.nx, p.2.set i (.ins c (fs ++ [p.1]))) else if k < fs.length then .ok (.nx, p.2.set i (.ins c (fs.set k p.1))) else .stk) else .stk
  | _ => .stk
def fldW (k : Nat) (w : W) (ws : List W) : List W := if k = ws.length then ws ++ [w] else ws.set k w
theorem ds_fldset {i ci k : Nat} {nm f : Str} {g : GE} {w : W} {ws : List W} {p0 pos' : Pos} (hN : C.X.N[i]? = some nm) (hv : Vis C.X.env.scope nm) (he : DE C Γ e g Γ1 w) (ew : Γ1[i]? = some (.t ws)) (cd : ClsD C.X.K C.cl ci) (na : NoAttr C.X.K (C.cl.ad ci) f) (hk : (C.cl.lay ci)[k]? = some f) (hl : decide (ws.length < 900) = true)
    (hs : swapsWith e (some (.Attribute (.Name nm p0) f pos')) pos.line C.X.env = pure false := by rfl) (hd : (nm == ("__debug__" : Str)) = false := by decide) (hcd : (nm == ("__classdict__" : Str)) = false := by decide) :
    DS C Γ (.Assign [.Attribute (.Name nm p0) f pos'] e pos) (sFldSet i ci k g) (Γ1.set i (.t (fldW k w ws))) := by
  obtain ⟨t, p, fe⟩ := he
  refine ⟨_, ps_fld (pe_var hN hv hd hcd) p hs, fun B F0 R0 ρ σ H D r h => fe B F0 [] R0 ρ σ H _ r ?_⟩
  unfold sFldSet at h
  match e1 : g ρ, h with
  | .err c fs ρ', h => exact h σ .refl
  | .stk, h => exact h
  | .ok (d, ρ1), h =>
    intro y H1 r1
    obtain ⟨v, dI, ev, ed, r2⟩ := r1.out ew
    simp only [Res.bind_ok, getD_of ed] at h
    match dI, h, ed, r2 with
    | .ins c0 ds, h, ed, r2 =>
      dsimp only at h
      by_cases hc : c0 = ci
      · subst hc
        rw [if_pos rfl] at h
        obtain ⟨pa, dx, fs, rfl, hp, en, l1, l2, s3⟩ := S.openI r2.s
        have hws : ws.length < 900 := of_decide_eq_true hl
        have nd : (fs.map (·.1)).Nodup := by rw [en]; exact List.Nodup.sublist (List.take_sublist _ _) cd.nd
        refine ⟨_, ev, pa, C.cl.ad c0, dx, fs, rfl, hp, cd.cls, na, by omega, ?_⟩
        have e3 : σ.set i (some (.ref pa)) = σ := List.set_same ev
        by_cases hk1 : k = ds.length
        · rw [if_pos hk1] at h
          have hkf : k = fs.length := by omega
          have nf : f ∉ fs.map (·.1) := fun z => by
            obtain ⟨j, hj, ej⟩ := List.getElem_of_mem z
            rw [List.length_map] at hj
            have q1 : (fs.map (·.1))[j]? = some f := by rw [List.getElem?_eq_getElem (by rw [List.length_map]; exact hj), ej]
            rw [en, List.getElem?_take_of_lt hj] at q1
            have := (List.getElem?_inj (List.getElem?_eq_some_iff.mp q1).1 cd.nd).mp (q1.trans hk.symm)
            omega
          rw [putF_new nf]
          have s4 : S C.X.K C.cl B F0 (upd H1 pa (.ins (C.cl.ad c0) dx (fs ++ [(f, y)]))) (⟨.c (.ins (C.cl.ad c0) dx (fs ++ [(f, y)])), some (.ref pa), .non⟩ :: (mkT (ws ++ [w]) ((fs ++ [(f, y)]).map (·.2)) (ds ++ [d]) ++ (R0 ++ zr (Γ1.set i .u) σ ρ1))) := by
            rw [List.map_append]
            show S _ _ _ _ _ (_ :: (mkT (ws ++ [w]) (fs.map (·.2) ++ [y]) (ds ++ [d]) ++ _))
            rw [mkT_snoc (by rw [List.length_map]; exact l1) (by rw [List.length_map]; exact l2), List.append_assoc]
            exact S.rawSet s3
          have s5 := S.closeI s4 (by
            rw [List.map_append, en, List.length_append]
            show (C.cl.lay c0).take fs.length ++ [f] = (C.cl.lay c0).take (fs.length + 1)
            have hlt : fs.length < (C.cl.lay c0).length := by rw [← hkf]; exact (List.getElem?_eq_some_iff.mp hk).1
            rw [List.take_add_one, ← hkf, hk]; rfl) (by simp [l1]) (by simp [l2])
          have r6 : RelC C B F0 (⟨.t (ws ++ [w]), some (.ref pa), .ins c0 (ds ++ [d])⟩ :: R0) (Γ1.set i .u) ρ1 σ (upd H1 pa (.ins (C.cl.ad c0) dx (fs ++ [(f, y)]))) := ⟨s5, r2.l1, r2.l2⟩
          have r7 := Rel.into r6 i
          rw [e3, List.set_set] at r7
          have ew2 : fldW k w ws = ws ++ [w] := if_pos (by omega)
          rw [ew2] at h
          exact h σ _ .refl r7
        · rw [if_neg hk1] at h
          by_cases hk2 : k < ds.length
          · rw [if_pos hk2] at h
            have hkl : k < fs.length := by omega
            have ek : (fs.map (·.1))[k]? = some f := by rw [en, List.getElem?_take_of_lt hkl]; exact hk
            rw [putF_old nd ek]
            obtain ⟨R1, x0, R2, q1, q2⟩ := mkT_cut (w := w) (v := y) (d := d) (ws := ws) (vs := fs.map (·.2)) (ds := ds) (k := k) (by rw [List.length_map]; exact l1) (by rw [List.length_map]; exact l2) (by rw [List.length_map]; exact hkl)
            have s4 : S C.X.K C.cl B F0 (upd H1 pa (.ins (C.cl.ad c0) dx (fs.set k (f, y)))) (⟨.c (.ins (C.cl.ad c0) dx (fs.set k (f, y))), some (.ref pa), .non⟩ :: (mkT (ws.set k w) ((fs.set k (f, y)).map (·.2)) (ds.set k d) ++ (R0 ++ zr (Γ1.set i .u) σ ρ1))) := by
              rw [List.map_set, q2]
              have s3' := S.rawSet (o' := .ins (C.cl.ad c0) dx (fs.set k (f, y))) (d' := .non) s3
              rw [q1] at s3'
              have s6 := S.drop (s3'.perm (R' := x0 :: ⟨.c (.ins (C.cl.ad c0) dx (fs.set k (f, y))), some (.ref pa), .non⟩ :: (R1 ++ (R2 ++ (⟨w, some y, d⟩ :: R0 ++ zr (Γ1.set i .u) σ ρ1)))) (by
                rw [List.append_assoc, List.cons_append]
                exact (List.Perm.cons _ List.perm_middle).trans (List.Perm.swap _ _ _)))
              refine s6.perm (List.Perm.cons _ ?_)
              rw [List.append_assoc, List.cons_append]
              refine List.Perm.append_left _ ?_
              exact List.perm_middle
            have s5 := S.closeI s4 (by rw [List.map_set, List.length_set, en]; exact List.set_same (by rw [List.getElem?_take_of_lt hkl]; exact hk)) (by simp [l1]) (by simp [l2])
            have r6 : RelC C B F0 (⟨.t (ws.set k w), some (.ref pa), .ins c0 (ds.set k d)⟩ :: R0) (Γ1.set i .u) ρ1 σ (upd H1 pa (.ins (C.cl.ad c0) dx (fs.set k (f, y)))) := ⟨s5, r2.l1, r2.l2⟩
            have r7 := Rel.into r6 i
            rw [e3, List.set_set] at r7
            have ew2 : fldW k w ws = ws.set k w := if_neg (by omega)
            rw [ew2] at h
            exact h σ _ .refl r7
          · rw [if_neg hk2] at h; exact h.elim
      · rw [if_neg hc] at h
        exact h.elim
end Dv
/-! D9: what is walked, targets, comprehensions, while. -/
namespace Dv
open PySem PySem.Spec PyProof.Rows L2
variable {K : PySem.W.Frag} {cl : Cl} {F H B F0 : Hp} {C : Cq} {Γ Γ1 Γ2 Γ3 Γ' : List W} {pos : Pos} {T R0 R : List Root} {σ σ' : L2.St} {a b c e o tg it : Expr} {es : List Expr} {x y : V}

/-! ### slots that are not known may hold anything -/
theorem S.rez : ∀ {Γ : List W} {σ σ' : L2.St} {ρ ρ' : En} {R : List Root}, σ.length = Γ.length → σ'.length = Γ.length → ρ.length = Γ.length → ρ'.length = Γ.length →
    (∀ (i : Nat) (w : W), Γ[i]? = some w → w = W.u ∨ (σ'[i]? = σ[i]? ∧ ρ'[i]? = ρ[i]?)) → S K cl B F0 H (R ++ zr Γ σ ρ) → S K cl B F0 H (R ++ zr Γ σ' ρ')
  | [], _, _, _, _, R, _, _, _, _, _, h => by simpa [zr] using S.dropL (R := []) (by simpa [zr] using h)
  | w :: Γ, v :: σ, v' :: σ', d :: ρ, d' :: ρ', R, l1, l2, l3, l4, k, h => by
    have h0 := S.toFront (show S K cl B F0 H (R ++ ⟨w, v, d⟩ :: zr Γ σ ρ) from h)
    have h1 : S K cl B F0 H (⟨w, v', d'⟩ :: (R ++ zr Γ σ ρ)) := by
      rcases k 0 w rfl with e | ⟨e1, e2⟩
      · subst e; exact S.toU h0
      · simp at e1 e2
        subst e1 e2
        exact h0
    have h2 := S.rez (Γ := Γ) (σ := σ) (σ' := σ') (ρ := ρ) (ρ' := ρ') (R := ⟨w, v', d'⟩ :: R) (by simpa using l1) (by simpa using l2) (by simpa using l3) (by simpa using l4) (fun i w' e => by
      have := k (i + 1) w' (by simpa using e)
      simpa using this) h1
    exact S.toBack h2
theorem Rel.rez {ρ ρ' : En} (h : Rel K cl B F0 R Γ ρ σ H) (l1 : σ'.length = σ.length) (l2 : ρ'.length = ρ.length) (k : ∀ (i : Nat) (w : W), Γ[i]? = some w → w = .u ∨ (σ'[i]? = σ[i]? ∧ ρ'[i]? = ρ[i]?)) : Rel K cl B F0 R Γ ρ' σ' H :=
  ⟨S.rez h.l1.symm (l1.trans h.l1.symm) (h.l2.trans h.l1.symm) (l2.trans (h.l2.trans h.l1.symm)) k h.s, h.l1.trans l1.symm, l2.trans (h.l2.trans l1.symm)⟩

/-! ### what is walked -/
def iLst (g : GE) : GA := fun ρ => (g ρ).bind fun p => match p.1 with
  | .lst xs => .ok (xs, p.2)
  | _ => .stk
def iTup (g : GE) : GA := fun ρ => (g ρ).bind fun p => match p.1 with
  | .tup xs => .ok (xs, p.2)
  | _ => .stk
theorem sqL_inj {H : Hp} {p : Addr} {vs ws : List V} (h : H p = some (.lst vs)) (hk : K.lookup p = none) (q : SqL K H p ws) : ws = vs := by
  rcases q with (q | ⟨o, q⟩) | ⟨o, its, n, q, _⟩
  · rw [h] at q; cases q; rfl
  · rw [h] at q; cases q
  · rw [hk] at q; cases q
theorem wk_list {p : Addr} {ds : List D} : Wk K cl (Itl K p) [⟨.z, some (.ref p), .lst ds⟩] .z ds := by
  intro B F0 R H i s
  have s : S K cl B F0 H (⟨.z, some (.ref p), .lst ds⟩ :: R) := s
  obtain ⟨p', vs, e, hp, rl⟩ := (S.rpv1 s rfl).to_lst
  cases e
  refine ⟨fun e => ⟨vs, SqL.of hp, by rw [rl.length, e]; exact Nat.le_refl _⟩, fun d ed => ?_⟩
  obtain ⟨v, ev, rv⟩ := rl.getD ed
  refine ⟨⟨vs, v, SqL.of hp, ev⟩, fun x H' ⟨e1, yl⟩ => ?_⟩
  subst e1
  have ex := yl vs (SqL.of hp)
  rw [ev] at ex; cases ex
  refine S.addz s fun F sb q => ?_
  obtain ⟨p2, vs2, e2, hp2, rl2⟩ := q.to_lst
  cases e2
  have e3 := sb _ _ hp2
  rw [hp] at e3; cases e3
  obtain ⟨v2, ev2, rv2⟩ := rl2.getD ed
  rw [ev] at ev2; cases ev2
  exact rv2
theorem wk_tup {p : Addr} {ds : List D} : Wk K cl (Itt K p) [⟨.z, some (.ref p), .tup ds⟩] .z ds := by
  intro B F0 R H i s
  have s : S K cl B F0 H (⟨.z, some (.ref p), .tup ds⟩ :: R) := s
  obtain ⟨p', vs, e, hp, rl⟩ := (S.rpv1 s rfl).to_tup
  cases e
  refine ⟨fun e => ⟨vs, SqT.of hp, by rw [rl.length, e]; exact Nat.le_refl _⟩, fun d ed => ?_⟩
  obtain ⟨v, ev, rv⟩ := rl.getD ed
  refine ⟨⟨vs, v, SqT.of hp, ev⟩, fun x H' ⟨e1, yl⟩ => ?_⟩
  subst e1
  have ex := yl vs (SqT.of hp)
  rw [ev] at ex; cases ex
  refine S.addz s fun F sb q => ?_
  obtain ⟨p2, vs2, e2, hp2, rl2⟩ := q.to_tup
  cases e2
  have e3 := sb _ _ hp2
  rw [hp] at e3; cases e3
  obtain ⟨v2, ev2, rv2⟩ := rl2.getD ed
  rw [ev] at ev2; cases ev2
  exact rv2
theorem di_list {g : GE} (he : DE C Γ it g Γ1 .z) : DI C Γ tg it (iLst g) Γ1 .z := by
  obtain ⟨t, p, f⟩ := he
  refine ⟨_, pi_list p, fun B F0 T R0 ρ σ H Q r h => f B F0 T R0 ρ σ H _ r ?_⟩
  unfold iLst at h
  match e1 : g ρ, h with
  | .err c fs ρ', h => exact h
  | .stk, h => exact h
  | .ok (d, ρ1), h =>
    intro v H1 r1
    match d, h, r1 with
    | .lst ds, h, r1 =>
      obtain ⟨p', vs, e, hp, rl⟩ := (S.rpv1 r1.s rfl).to_lst
      subst e
      exact ⟨p', rfl, ⟨vs, SqL.of hp⟩, h _ H1 [⟨.z, some (.ref p'), .lst ds⟩] wk_list r1⟩
theorem di_tup {g : GE} (he : DE C Γ it g Γ1 .z) : DI C Γ tg it (iTup g) Γ1 .z := by
  obtain ⟨t, p, f⟩ := he
  refine ⟨_, pi_tup p, fun B F0 T R0 ρ σ H Q r h => f B F0 T R0 ρ σ H _ r ?_⟩
  unfold iTup at h
  match e1 : g ρ, h with
  | .err c fs ρ', h => exact h
  | .stk, h => exact h
  | .ok (d, ρ1), h =>
    intro v H1 r1
    match d, h, r1 with
    | .tup ds, h, r1 =>
      obtain ⟨p', vs, e, hp, rl⟩ := (S.rpv1 r1.s rfl).to_tup
      subst e
      exact ⟨p', rfl, ⟨vs, SqT.of hp⟩, h _ H1 [⟨.z, some (.ref p'), .tup ds⟩] wk_tup r1⟩
/-- lo, lo + 1, .. below hi -/
def rngD (lo hi : Int) : List D := (List.range (hi - lo).toNat).map fun k => .int (lo + (k : Nat))
def rngOk (i : Int) : Prop := -(2 ^ 62) ≤ i ∧ i < 2 ^ 62
open Classical in
noncomputable def iRg (ga : GA) : GA := fun ρ => (ga ρ).bind fun p => match p.1 with
  | [.int j] => if rngOk j then .ok (rngD 0 j, p.2) else .stk
  | [.int i, .int j] => if rngOk i ∧ rngOk j then .ok (rngD i j, p.2) else .stk
  | _ => .stk
theorem wk_range {lo hi : Int} : Wk K cl (Itr lo (hi - lo).toNat) [] .s (rngD lo hi) := by
  intro B F0 R H i s
  have len : (rngD lo hi).length = (hi - lo).toNat := by simp [rngD]
  refine ⟨fun e => ?_, fun d ed => ?_⟩
  · show (hi - lo).toNat ≤ i
    rw [e, len]; exact Nat.le_refl _
  · have hlt : i < (hi - lo).toNat := by rw [← len]; exact (List.getElem?_eq_some_iff.mp ed).1
    refine ⟨hlt, fun x H' ⟨e1, e2⟩ => ?_⟩
    subst e1 e2
    have e3 : d = .int (lo + (i : Nat)) := by
      unfold rngD at ed
      rw [List.getElem?_map, List.getElem?_range hlt] at ed
      simpa using ed.symm
    subst e3
    exact S.addS s (.int _)
theorem di_range1 {ga : GA} {w : W} {ms : List (Option Nat)} {p : Pos} (hg : Gl C.X "range") (hm : C.X.mg "range" = none) (ha : DA C Γ [a] ga Γ1 [w] ms) (hw : w.sv = true) (hs : starEach [a] C.X.env = [(false, eval a C.X.env)] := by rfl) :
    DI C Γ tg (.Call (.Name "range" p) [a] [] pos) (iRg ga) Γ1 .s := by
  obtain ⟨t, pa, f⟩ := ha
  refine ⟨_, pi_range1 hg hm pa hs, fun B F0 T R0 ρ σ H Q r h => f B F0 T R0 ρ σ H _ r ?_⟩
  unfold iRg at h
  match e1 : ga ρ, h with
  | .err c fs ρ', h => exact h
  | .stk, h => exact h
  | .ok (ds, ρ1), h =>
    intro vs H1 l1 l2 lk r1
    match vs, ds, l1, l2, h, r1 with
    | [v], [.int j], _, _, h, r1 =>
      have rp := (S.rpv1 r1.s hw).to_int
      subst rp
      simp only [Res.bind_ok] at h
      by_cases ok : rngOk j
      · rw [if_pos ok] at h
        have q := h (Itr 0 j.toNat) H1 [] (by have := wk_range (K := C.X.K) (cl := C.cl) (lo := 0) (hi := j); rwa [Int.sub_zero] at this) (r1.mapS fun {Z} s => S.drop s)
        exact ⟨j, rfl, ok.1, ok.2, q⟩
      · rw [if_neg ok] at h; exact h.elim
    | [v], [.non], _, _, h, r1 => exact h.elim
    | [v], [.bl _], _, _, h, r1 => exact h.elim
    | [v], [.str _], _, _, h, r1 => exact h.elim
    | [v], [.lst _], _, _, h, r1 => exact h.elim
    | [v], [.tup _], _, _, h, r1 => exact h.elim
    | [v], [.dic _ _], _, _, h, r1 => exact h.elim
    | [v], [.ins _ _], _, _, h, r1 => exact h.elim
    | [v], [.exc _ _], _, _, h, r1 => exact h.elim
    | [v], [.scr _], _, _, h, r1 => exact h.elim
theorem di_range2 {ga : GA} {w w2 : W} {ms : List (Option Nat)} {p : Pos} (hg : Gl C.X "range") (hm : C.X.mg "range" = none) (ha : DA C Γ [a, b] ga Γ1 [w, w2] ms) (hw : w.sv = true) (hw2 : w2.sv = true)
    (hs : starEach [a, b] C.X.env = [(false, eval a C.X.env), (false, eval b C.X.env)] := by rfl) (hs2 : starEach [b] C.X.env = [(false, eval b C.X.env)] := by rfl) :
    DI C Γ tg (.Call (.Name "range" p) [a, b] [] pos) (iRg ga) Γ1 .s := by
  obtain ⟨t, pa, f⟩ := ha
  refine ⟨_, pi_range2 hg hm pa hs hs2, fun B F0 T R0 ρ σ H Q r h => f B F0 T R0 ρ σ H _ r ?_⟩
  unfold iRg at h
  match e1 : ga ρ, h with
  | .err c fs ρ', h => exact h
  | .stk, h => exact h
  | .ok (ds, ρ1), h =>
    intro vs H1 l1 l2 lk r1
    match vs, ds, l1, l2 with
    | [v, v2], [d, d2], _, _ =>
      have r1 : RelC C B F0 (⟨w, some v, d⟩ :: ⟨w2, some v2, d2⟩ :: (T ++ R0)) Γ1 ρ1 σ H1 := r1
      have rp := S.rpv1 r1.s hw
      have rp2 := S.rpv1 (S.drop r1.s) hw2
      simp only [Res.bind_ok] at h
      split at h
      · rename_i i e
        simp at e
      · rename_i i j e
        simp at e
        obtain ⟨rfl, rfl⟩ := e
        have rp := rp.to_int
        have rp2 := rp2.to_int
        subst rp rp2
        split at h
        · rename_i ok
          exact ⟨i, j, rfl, ⟨ok.1.1, ok.1.2, ok.2.1, ok.2.2⟩, h _ H1 [] wk_range (r1.mapS fun {Z} s => S.drop (S.drop s))⟩
        · exact h.elim
      · exact h.elim
/-- the items with their places -/
def enumD (ds : List D) : List D := (List.range ds.length).zipWith (fun (i : Nat) d => .tup [.int (i : Nat), d]) ds
def iEn (g : GA) : GA := fun ρ => (g ρ).bind fun p => match p.1 with
  | [.lst xs] => .ok (enumD xs, p.2)
  | _ => .stk
theorem enumD_at {ds : List D} {i : Nat} {d : D} (h : (enumD ds)[i]? = some d) : ∃ x, ds[i]? = some x ∧ d = .tup [.int (i : Nat), x] := by
  unfold enumD at h
  rw [List.getElem?_zipWith] at h
  cases e1 : (List.range ds.length)[i]? with
  | none => rw [e1] at h; simp at h
  | some k =>
    cases e2 : ds[i]? with
    | none => rw [e1, e2] at h; simp at h
    | some x =>
      rw [e1, e2] at h
      have hk : k = i := by
        have hi : i < ds.length := (List.getElem?_eq_some_iff.mp e2).1
        rw [List.getElem?_range hi] at e1
        simpa using e1.symm
      subst hk
      simp at h
      exact ⟨x, rfl, h.symm⟩
theorem enumD_len {ds : List D} : (enumD ds).length = ds.length := by simp [enumD]
theorem wk_enum {p : Addr} {ds : List D} (hk : K.lookup p = none ∨ True) : Wk K cl (Ite K p) [⟨.z, some (.ref p), .lst ds⟩] (.t [.s, .z]) (enumD ds) := by
  intro B F0 R H i s
  have s : S K cl B F0 H (⟨.z, some (.ref p), .lst ds⟩ :: R) := s
  obtain ⟨p', vs, e, hp, rl⟩ := (S.rpv1 s rfl).to_lst
  cases e
  refine ⟨fun e => ⟨vs, SqL.of hp, by rw [rl.length, e, enumD_len]; exact Nat.le_refl _⟩, fun d ed => ?_⟩
  obtain ⟨xd, ex, rfl⟩ := enumD_at ed
  obtain ⟨v, ev, rv⟩ := rl.getD ex
  refine ⟨⟨vs, v, SqL.of hp, ev⟩, fun x H' ⟨Tp, y, e1, nT, e2, yl⟩ => ?_⟩
  subst e1 e2
  have ey := yl vs (SqL.of hp)
  rw [ev] at ey; cases ey
  have s2 : S K cl B F0 H (⟨.z, some v, xd⟩ :: ⟨.z, some (.ref p), .lst ds⟩ :: R) := S.addz s fun F sb q => by
    obtain ⟨p2, vs2, e2, hp2, rl2⟩ := q.to_lst
    cases e2
    have e3 := sb _ _ hp2
    rw [hp] at e3; cases e3
    obtain ⟨v2, ev2, rv2⟩ := rl2.getD ex
    rw [ev] at ev2; cases ev2
    exact rv2
  exact S.newT (ws := [.s, .z]) (vs := [.int (i : Nat), v]) (ds := [.int (i : Nat), xd]) (S.addS s2 (.int _)) rfl rfl nT
theorem di_enum {g : GA} {ms : List (Option Nat)} {p tpos : Pos} {elts : List Expr} {kk : Nat} (hg : Gl C.X "enumerate") (hm : C.X.mg "enumerate" = none) (ha : DA C Γ [a] g Γ1 [.z] ms) (hs : starEach [a] C.X.env = [(false, eval a C.X.env)] := by rfl) :
    DI C Γ (.Tuple elts kk tpos) (.Call (.Name "enumerate" p) [a] [] pos) (iEn g) Γ1 (.t [.s, .z]) := by
  obtain ⟨t, pa, f⟩ := ha
  refine ⟨_, pi_enum hg hm pa hs, fun B F0 T R0 ρ σ H Q r h => f B F0 T R0 ρ σ H _ r ?_⟩
  unfold iEn at h
  match e1 : g ρ, h with
  | .err c fs ρ', h => exact h
  | .stk, h => exact h
  | .ok (ds, ρ1), h =>
    intro vs H1 l1 l2 lk r1
    match vs, ds, l1, l2 with
    | [v], [d], _, _ =>
      have r1 : RelC C B F0 (⟨.z, some v, d⟩ :: (T ++ R0)) Γ1 ρ1 σ H1 := r1
      match d, h, r1 with
      | .lst xs, h, r1 =>
        obtain ⟨p', vs, e, hp, rl⟩ := (S.rpv1 r1.s rfl).to_lst
        subst e
        exact ⟨p', vs, rfl, SqL.of hp, h _ H1 [⟨.z, some (.ref p'), .lst xs⟩] (wk_enum (.inr trivial)) r1⟩
def zipD (xs ys : List D) : List D := xs.zipWith (fun a b => .tup [a, b]) ys
def iZp (g : GA) : GA := fun ρ => (g ρ).bind fun p => match p.1 with
  | [.lst xs, .lst ys] => .ok (zipD xs ys, p.2)
  | _ => .stk
theorem wk_zip {p q : Addr} {xs ys : List D} : Wk K cl (Itz K p q) [⟨.z, some (.ref p), .lst xs⟩, ⟨.z, some (.ref q), .lst ys⟩] (.t [.z, .z]) (zipD xs ys) := by
  intro B F0 R H i s
  have s : S K cl B F0 H (⟨.z, some (.ref p), .lst xs⟩ :: ⟨.z, some (.ref q), .lst ys⟩ :: R) := s
  obtain ⟨p', vs, e, hp, rl⟩ := (S.rpv1 s rfl).to_lst
  cases e
  obtain ⟨q', us, e, hq, rl2⟩ := (S.rpv1 (S.drop s) rfl).to_lst
  cases e
  refine ⟨fun e => ⟨vs, us, SqL.of hp, SqL.of hq, ?_⟩, fun d ed => ?_⟩
  · have : i = min xs.length ys.length := by rw [e]; simp [zipD]
    rw [rl.length, rl2.length]
    omega
  · unfold zipD at ed
    rw [List.getElem?_zipWith] at ed
    cases ex : xs[i]? with
    | none => rw [ex] at ed; simp at ed
    | some xd =>
      cases ey : ys[i]? with
      | none => rw [ex, ey] at ed; simp at ed
      | some yd =>
        rw [ex, ey] at ed
        simp at ed
        subst ed
        obtain ⟨v, ev, rv⟩ := rl.getD ex
        obtain ⟨u, eu, ru⟩ := rl2.getD ey
        refine ⟨⟨vs, us, v, u, SqL.of hp, SqL.of hq, ev, eu⟩, fun x H' ⟨Tp, x1, y1, e1, nT, e2, yl1, yl2⟩ => ?_⟩
        subst e1 e2
        have q1 := yl1 vs (SqL.of hp)
        rw [ev] at q1; cases q1
        have q2 := yl2 us (SqL.of hq)
        rw [eu] at q2; cases q2
        have s2 : S K cl B F0 H (⟨.z, some v, xd⟩ :: ⟨.z, some (.ref p), .lst xs⟩ :: ⟨.z, some (.ref q), .lst ys⟩ :: R) := S.addz s fun F sb z => by
          obtain ⟨p2, vs2, e2, hp2, rl2⟩ := z.to_lst
          cases e2
          have e3 := sb _ _ hp2
          rw [hp] at e3; cases e3
          obtain ⟨v2, ev2, rv2⟩ := rl2.getD ex
          rw [ev] at ev2; cases ev2
          exact rv2
        have s3 : S K cl B F0 H (⟨.z, some (.ref q), .lst ys⟩ :: ⟨.z, some v, xd⟩ :: ⟨.z, some (.ref p), .lst xs⟩ :: R) := s2.perm ((List.Perm.cons _ (List.Perm.swap _ _ _)).trans (List.Perm.swap _ _ _))
        have s4 := S.addz (v' := u) (d' := yd) s3 fun F sb z => by
          obtain ⟨p2, vs2, e2, hp2, rl2⟩ := z.to_lst
          cases e2
          have e3 := sb _ _ hp2
          rw [hq] at e3; cases e3
          obtain ⟨v2, ev2, rv2⟩ := rl2.getD ey
          rw [eu] at ev2; cases ev2
          exact rv2
        have s5 : S K cl B F0 H (mkT [.z, .z] [v, u] [xd, yd] ++ (⟨.z, some (.ref p), .lst xs⟩ :: ⟨.z, some (.ref q), .lst ys⟩ :: R)) := s4.perm (by
          refine (List.Perm.cons _ (List.Perm.swap _ _ _)).trans ((List.Perm.swap _ _ _).trans ?_)
          refine List.Perm.cons _ (List.Perm.cons _ (List.Perm.swap _ _ _))) 
        exact S.newT s5 rfl rfl nT
theorem di_zip {g : GA} {ms : List (Option Nat)} {p tpos : Pos} {elts : List Expr} {kk : Nat} (hg : Gl C.X "zip") (hm : C.X.mg "zip" = none) (ha : DA C Γ [a, b] g Γ1 [.z, .z] ms)
    (hs : starEach [a, b] C.X.env = (false, eval a C.X.env) :: starEach [b] C.X.env := by rfl) (hpl : (backTo pos (starEach [b] C.X.env)).any (·.1) = false := by rfl) :
    DI C Γ (.Tuple elts kk tpos) (.Call (.Name "zip" p) [a, b] [] pos) (iZp g) Γ1 (.t [.z, .z]) := by
  obtain ⟨t, pa, f⟩ := ha
  refine ⟨_, pi_zip hg hm pa hs hpl, fun B F0 T R0 ρ σ H Q r h => f B F0 T R0 ρ σ H _ r ?_⟩
  unfold iZp at h
  match e1 : g ρ, h with
  | .err c fs ρ', h => exact h
  | .stk, h => exact h
  | .ok (ds, ρ1), h =>
    intro vs H1 l1 l2 lk r1
    match vs, ds, l1, l2 with
    | [v, v2], [d, d2], _, _ =>
      have r1 : RelC C B F0 (⟨.z, some v, d⟩ :: ⟨.z, some v2, d2⟩ :: (T ++ R0)) Γ1 ρ1 σ H1 := r1
      simp only [Res.bind_ok] at h
      split at h
      · rename_i xs ys e
        simp at e
        obtain ⟨rfl, rfl⟩ := e
        obtain ⟨p', vs, e, hp, rl⟩ := (S.rpv1 r1.s rfl).to_lst
        subst e
        obtain ⟨q', us, e, hq, rl2⟩ := (S.rpv1 (S.drop r1.s) rfl).to_lst
        subst e
        exact ⟨p', q', vs, us, rfl, SqL.of hp, SqL.of hq, h _ H1 [⟨.z, some (.ref p'), .lst xs⟩, ⟨.z, some (.ref q'), .lst ys⟩] wk_zip r1⟩
      · exact h.elim
end Dv
/-! D10: tuple targets, pure pieces, comprehensions. -/
namespace Dv
open PySem PySem.Spec PyProof.Rows L2
variable {K : PySem.W.Frag} {cl : Cl} {F H B F0 : Hp} {C : Cq} {Γ Γ1 Γ2 Γ3 Γ4 Γ' ΓL : List W} {pos : Pos} {T R0 R : List Root} {σ σ' : L2.St} {a b c e o tg it : Expr} {es : List Expr} {x y : V}

/-- lists of the program and of a law stay below this -/
abbrev SZ : Nat := 65536
theorem SZ_le : SZ ≤ sizeLine := by unfold SZ sizeLine; decide

/-! ### pure pieces: the slots stay -/
class Pu (g : GE) : Prop where
  pu : ∀ ρ d ρ', g ρ = .ok (d, ρ') → ρ' = ρ
class PuA (g : GA) : Prop where
  pu : ∀ ρ d ρ', g ρ = .ok (d, ρ') → ρ' = ρ
class PuT (g : GT) : Prop where
  pu : ∀ ρ d ρ', g ρ = .ok (d, ρ') → ρ' = ρ
theorem Res.bind_ok_of {α β : Type} {x : Res α} {f : α → Res β} {b : β} (h : x.bind f = .ok b) : ∃ a, x = .ok a ∧ f a = .ok b := by
  cases x with
  | ok a => exact ⟨a, rfl, h⟩
  | err c fs ρ => cases h
  | stk => cases h
instance {i : Nat} : Pu (gVar i) := ⟨fun ρ d ρ' h => by unfold gVar at h; cases h; rfl⟩
instance {d : D} : Pu (gC d) := ⟨fun ρ d ρ' h => by unfold gC at h; cases h; rfl⟩
instance {f : D → D → Option D} {ga gb : GE} [Pu ga] [Pu gb] : Pu (gOp f ga gb) := ⟨fun ρ d ρ' h => by
  unfold gOp at h
  obtain ⟨p, e1, h⟩ := Res.bind_ok_of h
  obtain ⟨q, e2, h⟩ := Res.bind_ok_of h
  have k1 := Pu.pu _ _ _ e1
  have k2 := Pu.pu _ _ _ e2
  split at h
  · cases h; rw [k2, k1]
  · cases h⟩
instance {g : GE} [Pu g] : PuT (tVal g) := ⟨fun ρ d ρ' h => by
  unfold tVal tBool at h
  obtain ⟨p, e1, h⟩ := Res.bind_ok_of h
  have k1 := Pu.pu _ _ _ e1
  split at h
  · cases h; exact k1
  · cases h⟩
instance {g : GT} [PuT g] : PuT (tNot g) := ⟨fun ρ d ρ' h => by
  unfold tNot at h
  obtain ⟨p, e1, h⟩ := Res.bind_ok_of h
  have k1 := PuT.pu _ _ _ e1
  cases h; exact k1⟩
instance {ga gb : GT} [PuT ga] [PuT gb] : PuT (tAnd ga gb) := ⟨fun ρ d ρ' h => by
  unfold tAnd at h
  obtain ⟨p, e1, h⟩ := Res.bind_ok_of h
  have k1 := PuT.pu _ _ _ e1
  split at h
  · exact (PuT.pu _ _ _ h).trans k1
  · cases h; exact k1⟩
instance {ga gb : GT} [PuT ga] [PuT gb] : PuT (tOr ga gb) := ⟨fun ρ d ρ' h => by
  unfold tOr at h
  obtain ⟨p, e1, h⟩ := Res.bind_ok_of h
  have k1 := PuT.pu _ _ _ e1
  split at h
  · cases h; exact k1
  · exact (PuT.pu _ _ _ h).trans k1⟩
instance {ga gb : GE} [Pu ga] [Pu gb] : Pu (gAnd ga gb) := ⟨fun ρ d ρ' h => by
  unfold gAnd at h
  obtain ⟨p, e1, h⟩ := Res.bind_ok_of h
  have k1 := Pu.pu _ _ _ e1
  split at h
  · exact (Pu.pu _ _ _ h).trans k1
  · cases h; exact k1
  · cases h⟩
instance {ga gb : GE} [Pu ga] [Pu gb] : Pu (gOr ga gb) := ⟨fun ρ d ρ' h => by
  unfold gOr at h
  obtain ⟨p, e1, h⟩ := Res.bind_ok_of h
  have k1 := Pu.pu _ _ _ e1
  split at h
  · exact (Pu.pu _ _ _ h).trans k1
  · cases h; exact k1
  · cases h⟩
instance {ga : GE} [Pu ga] : Pu (gNot ga) := ⟨fun ρ d ρ' h => by
  unfold gNot at h
  obtain ⟨p, e1, h⟩ := Res.bind_ok_of h
  have k1 := Pu.pu _ _ _ e1
  split at h
  · cases h; exact k1
  · cases h⟩
instance {gt : GT} {ga gb : GE} [PuT gt] [Pu ga] [Pu gb] : Pu (gIf gt ga gb) := ⟨fun ρ d ρ' h => by
  unfold gIf at h
  obtain ⟨p, e1, h⟩ := Res.bind_ok_of h
  have k1 := PuT.pu _ _ _ e1
  split at h
  · exact (Pu.pu _ _ _ h).trans k1
  · exact (Pu.pu _ _ _ h).trans k1⟩
instance : PuA gaNil := ⟨fun ρ d ρ' h => by unfold gaNil at h; cases h; rfl⟩
instance {g : GE} {ga : GA} [Pu g] [PuA ga] : PuA (gaCons g ga) := ⟨fun ρ d ρ' h => by
  unfold gaCons at h
  obtain ⟨p, e1, h⟩ := Res.bind_ok_of h
  obtain ⟨q, e2, h⟩ := Res.bind_ok_of h
  have k1 := Pu.pu _ _ _ e1
  have k2 := PuA.pu _ _ _ e2
  cases h; exact k2.trans k1⟩
instance {ga : GA} [PuA ga] : Pu (gTup ga) := ⟨fun ρ d ρ' h => by
  unfold gTup at h
  obtain ⟨p, e1, h⟩ := Res.bind_ok_of h
  have k1 := PuA.pu _ _ _ e1
  cases h; exact k1⟩
instance {ga : GA} [PuA ga] : Pu (gLst ga) := ⟨fun ρ d ρ' h => by
  unfold gLst at h
  obtain ⟨p, e1, h⟩ := Res.bind_ok_of h
  have k1 := PuA.pu _ _ _ e1
  cases h; exact k1⟩
instance {f : List D → Option D} {ga : GA} [PuA ga] : Pu (gBi f ga) := ⟨fun ρ d ρ' h => by
  unfold gBi at h
  obtain ⟨p, e1, h⟩ := Res.bind_ok_of h
  have k1 := PuA.pu _ _ _ e1
  split at h
  · cases h; exact k1
  · cases h⟩
instance {G : GF} {ga : GA} [PuA ga] : Pu (gCall G [] ga) := ⟨fun ρ d ρ' h => by
  unfold gCall at h
  obtain ⟨p, e1, h⟩ := Res.bind_ok_of h
  have k1 := PuA.pu _ _ _ e1
  split at h
  · split at h
    · cases h; exact k1
    · cases h
  · split at h
    · cases h
    · cases h
  · cases h⟩
instance {G : GF} {ci : Nat} {ga : GA} [PuA ga] : Pu (gMake G ci ga) := ⟨fun ρ d ρ' h => by
  unfold gMake at h
  obtain ⟨p, e1, h⟩ := Res.bind_ok_of h
  have k1 := PuA.pu _ _ _ e1
  split at h
  · cases h; exact k1
  · cases h
  · cases h⟩
instance {c k : Nat} {ga : GE} [Pu ga] : Pu (gFld c k ga) := ⟨fun ρ d ρ' h => by
  unfold gFld at h
  obtain ⟨p, e1, h⟩ := Res.bind_ok_of h
  have k1 := Pu.pu _ _ _ e1
  split at h
  · split at h
    · split at h
      · cases h; exact k1
      · cases h
    · cases h
  · cases h⟩
instance {ci : Nat} {g : GE} [Pu g] : Pu (gRecv ci g) := ⟨fun ρ d ρ' h => by
  unfold gRecv at h
  obtain ⟨p, e1, h⟩ := Res.bind_ok_of h
  have k1 := Pu.pu _ _ _ e1
  split at h
  · cases h; exact k1
  · cases h⟩

/-! ### targets -/
/-- a target touches no slot but vs -/
def PKeep (vs : List Nat) (p : D → En → Option En) : Prop := ∀ d ρ ρ', p d ρ = some ρ' → ρ'.length = ρ.length ∧ ∀ i, i ∉ vs → ρ'[i]? = ρ[i]?
theorem pk_name {vs : List Nat} {i : Nat} (h : i ∈ vs) : PKeep vs (pName i) := fun d ρ ρ' e => by
  unfold pName at e; cases e
  exact ⟨by simp, fun j hj => List.getElem?_set_ne fun z : i = j => hj (z ▸ h)⟩
def psNil : List D → En → Option En := fun ds ρ => match ds with
  | [] => some ρ
  | _ => none
def psCons (p : D → En → Option En) (q : List D → En → Option En) : List D → En → Option En := fun ds ρ => match ds with
  | d :: r => (match p d ρ with
    | some ρ' => q r ρ'
    | none => none)
  | [] => none
def pTup (q : List D → En → Option En) : D → En → Option En := fun d ρ => match d with
  | .tup ds => q ds ρ
  | _ => none
def PKeeps (vs : List Nat) (p : List D → En → Option En) : Prop := ∀ d ρ ρ', p d ρ = some ρ' → ρ'.length = ρ.length ∧ ∀ i, i ∉ vs → ρ'[i]? = ρ[i]?
theorem pks_nil {vs : List Nat} : PKeeps vs psNil := fun d ρ ρ' e => by
  unfold psNil at e
  split at e
  · cases e; exact ⟨rfl, fun _ _ => rfl⟩
  · cases e
theorem pks_cons {vs : List Nat} {p : D → En → Option En} {q : List D → En → Option En} (h1 : PKeep vs p) (h2 : PKeeps vs q) : PKeeps vs (psCons p q) := fun d ρ ρ' e => by
  unfold psCons at e
  split at e
  · split at e
    · rename_i e1
      obtain ⟨a1, a2⟩ := h1 _ _ _ e1
      obtain ⟨b1, b2⟩ := h2 _ _ _ e
      exact ⟨b1.trans a1, fun i hi => (b2 i hi).trans (a2 i hi)⟩
    · cases e
  · cases e
theorem pk_tup {vs : List Nat} {q : List D → En → Option En} (h : PKeeps vs q) : PKeep vs (pTup q) := fun d ρ ρ' e => by
  unfold pTup at e
  split at e
  · exact h _ _ _ e
  · cases e
/-- targets take values that are owned as ws -/
def DGs (C : Cq) (ws : List W) (Γ : List W) (tgs : List Expr) (p : List D → En → Option En) (Γ' : List W) : Prop := ∃ t, PGs C.X tgs t ∧ ∀ (B F0 : Hp) (R0 : List Root) (vs : List V) (ds : List D) (ρ : En) (σ : L2.St) (H : Hp) (Q : L2.St → Hp → Prop),
  vs.length = ws.length → ds.length = ws.length → RelC C B F0 (mkT ws vs ds ++ R0) Γ ρ σ H → PostG C B F0 R0 Γ' σ Q (p ds ρ) → t vs σ H Q
theorem dgs_nil : DGs C [] Γ [] psNil Γ := ⟨_, pgs_nil, fun B F0 R0 vs ds ρ σ H Q l1 l2 r h => by
  cases vs with
  | cons => simp at l1
  | nil =>
    cases ds with
    | cons => simp at l2
    | nil => exact ⟨rfl, h σ H .refl r⟩⟩
theorem PostG.keep {Q : L2.St → Hp → Prop} {o : Option En} (k : Keep C.io σ σ') (h : PostG C B F0 R0 Γ' σ Q o) : PostG C B F0 R0 Γ' σ' Q o := by
  match o, h with
  | some _, h => exact fun s H z => h s H (k.trans z)
  | none, h => exact h
theorem dgs_cons {w : W} {ws : List W} {p : D → En → Option En} {q : List D → En → Option En} (h1 : DG C w Γ e p Γ1) (h2 : DGs C ws Γ1 es q Γ2)
    (hs : (assignEach (e :: es) C.X.env).map (·.2) = assign e C.X.env :: (assignEach es C.X.env).map (·.2) := by rfl) : DGs C (w :: ws) Γ (e :: es) (psCons p q) Γ2 := by
  obtain ⟨t, pt, f⟩ := h1
  obtain ⟨u, pu, fu⟩ := h2
  refine ⟨_, pgs_cons pt pu hs, fun B F0 R0 vs ds ρ σ H Q l1 l2 r h => ?_⟩
  match vs, ds, l1, l2, r, h with
  | v :: vs, d :: ds, l1, l2, r, h =>
    refine ⟨v, vs, rfl, f B F0 (mkT ws vs ds ++ R0) v d ρ σ H _ r ?_⟩
    unfold psCons at h
    dsimp only at h
    match e1 : p d ρ, h with
    | none, h => exact h.elim
    | some ρ1, h =>
      exact fun σ1 H1 k r1 => fu B F0 R0 vs ds ρ1 σ1 H1 Q (by simpa using l1) (by simpa using l2) r1 (PostG.keep k h)
/-- (a, b, ..) of a tuple of our own -/
theorem dg_tupT {ws : List W} {q : List D → En → Option En} {k : Nat} (hc : C.X.calm = true) (h : DGs C ws Γ es q Γ1) (hn : (assignEach es C.X.env).length = ws.length := by rfl) (hst : (assignEach es C.X.env).findIdx? (·.1) = none := by rfl) :
    DG C (.t ws) Γ (.Tuple es k pos) (pTup q) Γ1 := by
  obtain ⟨t, pt, f⟩ := h
  refine ⟨_, pg_tup hc pt hn hst, fun B F0 R0 v d ρ σ H Q r h => ?_⟩
  unfold pTup at h
  match d, h, r with
  | .tup ds, h, r =>
    obtain ⟨p, vs, ev, hp, l1, l2, s⟩ := S.openT r.s
    cases ev
    refine ⟨p, vs, rfl, SqT.of hp, l1.symm, f B F0 R0 vs ds ρ σ H Q l1.symm (l1.trans l2).symm ⟨?_, r.l1, r.l2⟩ h⟩
    rw [List.append_assoc]
    exact S.drop s
/-- the items of a shared tuple, shared -/
theorem S.itemsT {p : Addr} {ds : List D} (h : S K cl B F0 H (⟨.z, some (.ref p), .tup ds⟩ :: R)) : ∃ vs, H p = some (.tup vs) ∧ vs.length = ds.length ∧ S K cl B F0 H (mkT (List.replicate ds.length .z) vs ds ++ R) := by
  obtain ⟨F, A, r, h1, h2, h⟩ := h
  cases r with
  | cons a b dj =>
    cases a with
    | z q =>
      obtain ⟨p', vs, e, hp, rl⟩ := q.to_tup
      cases e
      refine ⟨vs, h1 _ _ hp, rl.length, F, _, OwnR.append (A := fun _ => False) ?_ b fun _ z => z.elim, h1, fun a z => h2 a (z.elim False.elim .inr), h⟩
      have go : ∀ {vs : List V} {ds : List D}, RpL K cl F vs ds → OwnR K cl F H (mkT (List.replicate ds.length .z) vs ds) (fun _ => False) := by
        intro vs
        induction vs with
        | nil => intro ds rl; cases rl; exact .nil
        | cons v vs ih =>
          intro ds rl
          cases rl with
          | cons a b =>
            have q : OwnR K cl F H (⟨W.z, some v, _⟩ :: mkT (List.replicate _ .z) vs _) (fun x => False ∨ False) := .cons (.z a) (ih b) fun _ z => z.elim
            rw [show (fun _ : Addr => False ∨ False) = fun _ => False from fpEq fun _ => by simp] at q
            exact q
      exact go rl
theorem S.itemsL {p : Addr} {ds : List D} (h : S K cl B F0 H (⟨.z, some (.ref p), .lst ds⟩ :: R)) : ∃ vs, H p = some (.lst vs) ∧ vs.length = ds.length ∧ S K cl B F0 H (mkT (List.replicate ds.length .z) vs ds ++ R) := by
  obtain ⟨F, A, r, h1, h2, h⟩ := h
  cases r with
  | cons a b dj =>
    cases a with
    | z q =>
      obtain ⟨p', vs, e, hp, rl⟩ := q.to_lst
      cases e
      refine ⟨vs, h1 _ _ hp, rl.length, F, _, OwnR.append (A := fun _ => False) ?_ b fun _ z => z.elim, h1, fun a z => h2 a (z.elim False.elim .inr), h⟩
      have go : ∀ {vs : List V} {ds : List D}, RpL K cl F vs ds → OwnR K cl F H (mkT (List.replicate ds.length .z) vs ds) (fun _ => False) := by
        intro vs
        induction vs with
        | nil => intro ds rl; cases rl; exact .nil
        | cons v vs ih =>
          intro ds rl
          cases rl with
          | cons a b =>
            have q : OwnR K cl F H (⟨W.z, some v, _⟩ :: mkT (List.replicate _ .z) vs _) (fun x => False ∨ False) := .cons (.z a) (ih b) fun _ z => z.elim
            rw [show (fun _ : Addr => False ∨ False) = fun _ => False from fpEq fun _ => by simp] at q
            exact q
      exact go rl
def pTupN (n : Nat) (q : List D → En → Option En) : D → En → Option En := fun d ρ => match d with
  | .tup ds => if ds.length = n then q ds ρ else none
  | _ => none
theorem pk_tupN {vs : List Nat} {n : Nat} {q : List D → En → Option En} (h : PKeeps vs q) : PKeep vs (pTupN n q) := fun d ρ ρ' e => by
  unfold pTupN at e
  split at e
  · split at e
    · exact h _ _ _ e
    · cases e
  · cases e
/-- (a, b, ..) of a shared tuple -/
theorem dg_tupZ {n : Nat} {q : List D → En → Option En} {k : Nat} (hc : C.X.calm = true) (h : DGs C (List.replicate n .z) Γ es q Γ1) (hn : (assignEach es C.X.env).length = n := by rfl) (hst : (assignEach es C.X.env).findIdx? (·.1) = none := by rfl) :
    DG C .z Γ (.Tuple es k pos) (pTupN n q) Γ1 := by
  obtain ⟨t, pt, f⟩ := h
  refine ⟨_, pg_tup hc pt hn hst, fun B F0 R0 v d ρ σ H Q r h => ?_⟩
  unfold pTupN at h
  match d, h, r with
  | .tup ds, h, r =>
    dsimp only at h
    by_cases hl : ds.length = n
    · rw [if_pos hl] at h
      obtain ⟨p, us, e, hp, rl⟩ := (S.rpv1 r.s rfl).to_tup
      subst e
      obtain ⟨vs, hp2, l1, s⟩ := S.itemsT r.s
      rw [hp] at hp2; cases hp2
      refine ⟨p, us, rfl, SqT.of hp, l1.trans hl, f B F0 R0 us ds ρ σ H Q (by simp [l1, hl]) (by simp [hl]) ⟨?_, r.l1, r.l2⟩ h⟩
      rw [hl] at s
      rw [List.append_assoc]
      exact s
    · rw [if_neg hl] at h; exact h.elim

/-! ### an item behind a list of our own -/
theorem mkR_snoc {w : W} {v : V} {d : D} : ∀ {vs : List V} {ds : List D}, vs.length = ds.length → mkR w (vs ++ [v]) (ds ++ [d]) = mkR w vs ds ++ [⟨w, some v, d⟩]
  | [], [], _ => rfl
  | _ :: vs, _ :: ds, e => by
    have := mkR_snoc (w := w) (v := v) (d := d) (vs := vs) (ds := ds) (by simpa using e)
    unfold mkR at this ⊢
    simp only [List.cons_append, List.zipWith_cons_cons, this]
theorem S.snoc {w : W} {v l : V} {d : D} {ds : List D} (h : S K cl B F0 H (⟨w, some v, d⟩ :: ⟨.o w, some l, .lst ds⟩ :: R)) :
    ∃ p vs, l = .ref p ∧ H p = some (.lst vs) ∧ vs.length = ds.length ∧ S K cl B F0 (upd H p (.lst (vs ++ [v]))) (⟨.o w, some (.ref p), .lst (ds ++ [d])⟩ :: R) := by
  obtain ⟨p, vs, ev, hp, len, s⟩ := S.openL (S.swap h)
  cases ev
  refine ⟨p, vs, rfl, hp, len, ?_⟩
  refine S.closeL (d := .non) (vs := vs ++ [v]) (ds := ds ++ [d]) ?_ (by simp [len])
  rw [mkR_snoc len, List.append_assoc]
  exact S.rawSet s

/-! ### comprehensions -/
def isU : Option W → Bool
  | some .u => true
  | _ => false
theorem isU_eq {o : Option W} (h : isU o = true) : o = some .u := by
  match o, h with
  | some .u, _ => rfl
/-- the block of a comprehension -/
abbrev Cq.blk (C : Cq) (io : List Nat) (s : Shared) (H : Hp) (scope : Scope) (cenv : Env) (fp : List Addr) : Cq := ⟨C.X.blk s H scope cenv fp, C.cl, fun _ _ _ _ => False, List.replicate C.X.N.length .u, [], .u, io, [], []⟩
theorem takes_no {X : Cx} : Takes X (fun _ _ _ _ => False) := fun _ _ ⟨_, _, _, _, _, _, _, _, _, _, _, _, _, _, _, _, w⟩ => w.elim

def PostB (K : PySem.W.Frag) (cl : Cl) (B F0 : Hp) (T R0 : List Root) (Γ' : List W) (w : W) (σ : L2.St) (Q : VK) : Res (D × En) → Prop
  | .ok (d, ρ') => ∀ v H', Rel K cl B F0 (⟨w, some v, d⟩ :: (T ++ R0)) Γ' ρ' σ H' → Q v H'
  | _ => False
def tBE (K : PySem.W.Frag) (cl : Cl) (Γ : List W) (g : GE) (Γ' : List W) (w : W) : TE := fun σ H Q => ∃ (B F0 : Hp) (T R0 : List Root) (ρ : En), Rel K cl B F0 (T ++ R0) Γ ρ σ H ∧ PostB K cl B F0 T R0 Γ' w σ Q (g ρ)
theorem DE.canon {g : GE} {w : W} (h : DE C Γ e g Γ' w) : PE C.X e (tBE C.X.K C.cl Γ g Γ' w) := by
  obtain ⟨t, p, f⟩ := h
  refine ⟨fun pins s σ H Q I ⟨B, F0, T, R0, ρ, r, q⟩ => p.run pins s σ H Q I (f B F0 T R0 ρ σ H Q r ?_)⟩
  match e1 : g ρ, q with
  | .ok (d, ρ'), q => exact q
  | .err _ _ _, q => exact q.elim
  | .stk, q => exact q.elim
/-- tests of a clause -/
def DTs (C : Cq) (Γ : List W) (ifs : List Expr) (g : GT) (Γ' : List W) : Prop := ∃ t, PTs C.X ifs t ∧ ∀ (B F0 : Hp) (T R0 : List Root) (ρ : En) (σ : L2.St) (H : Hp) (Q : Bool → Hp → Prop),
  RelC C B F0 (T ++ R0) Γ ρ σ H → PostT C B F0 T R0 Γ' σ Q (g ρ) → t σ H Q
def tYesD : GT := fun ρ => .ok (true, ρ)
instance : PuT tYesD := ⟨fun ρ d ρ' h => by unfold tYesD at h; cases h; rfl⟩
theorem dts_nil : DTs C Γ [] tYesD Γ := ⟨_, pts_nil, fun B F0 T R0 ρ σ H Q r h => h H r⟩
theorem dts_one {g : GT} (h : DT C Γ e g Γ') : DTs C Γ [e] g Γ' := by
  obtain ⟨t, p, f⟩ := h
  exact ⟨t, pts_one p, f⟩
def PostBT (K : PySem.W.Frag) (cl : Cl) (B F0 : Hp) (T R0 : List Root) (Γ' : List W) (σ : L2.St) (Q : Bool → Hp → Prop) : Res (Bool × En) → Prop
  | .ok (d, ρ') => ∀ H', Rel K cl B F0 (T ++ R0) Γ' ρ' σ H' → Q d H'
  | _ => False
def tBT (K : PySem.W.Frag) (cl : Cl) (Γ : List W) (g : GT) (Γ' : List W) : TT := fun σ H Q => ∃ (B F0 : Hp) (T R0 : List Root) (ρ : En), Rel K cl B F0 (T ++ R0) Γ ρ σ H ∧ PostBT K cl B F0 T R0 Γ' σ Q (g ρ)
theorem DTs.canon {g : GT} {ifs : List Expr} (h : DTs C Γ ifs g Γ') : PTs C.X ifs (tBT C.X.K C.cl Γ g Γ') := by
  obtain ⟨t, p, f⟩ := h
  refine ⟨fun pins s σ H Q I ⟨B, F0, T, R0, ρ, r, q⟩ => p.run pins s σ H Q I (f B F0 T R0 ρ σ H Q r ?_)⟩
  match e1 : g ρ, q with
  | .ok (d, ρ'), q => exact q
  | .err _ _ _, q => exact q.elim
  | .stk, q => exact q.elim
def PostBG (K : PySem.W.Frag) (cl : Cl) (io : List Nat) (B F0 : Hp) (R0 : List Root) (Γ' : List W) (σ : L2.St) (Q : L2.St → Hp → Prop) : Option En → Prop
  | some ρ' => ∀ σ' H', Keep io σ σ' → Rel K cl B F0 R0 Γ' ρ' σ' H' → Q σ' H'
  | none => False
def tBG (K : PySem.W.Frag) (cl : Cl) (io : List Nat) (w : W) (Γ : List W) (p : D → En → Option En) (Γ' : List W) : TG := fun v σ H Q => ∃ (B F0 : Hp) (R0 : List Root) (d : D) (ρ : En), Rel K cl B F0 (⟨w, some v, d⟩ :: R0) Γ ρ σ H ∧ PostBG K cl io B F0 R0 Γ' σ Q (p d ρ)
theorem DG.canon {w : W} {p : D → En → Option En} (h : DG C w Γ tg p Γ') : PG C.X tg (tBG C.X.K C.cl C.io w Γ p Γ') := by
  obtain ⟨t, pt, f⟩ := h
  refine ⟨fun pins s σ H v u Q I rv ⟨B, F0, R0, d, ρ, r, q⟩ => pt.run pins s σ H v u Q I rv (f B F0 R0 v d ρ σ H Q r ?_)⟩
  match e1 : p d ρ, q with
  | some ρ', q => exact q
  | none, q => exact q.elim

def lcF (p : D → En → Option En) (gt : GT) (ge : GE) (ρ : En) (x : D) : Option (Option D) := match p x ρ with
  | none => none
  | some ρ1 => match gt ρ1 with
    | .ok (true, ρ2) => (match ge ρ2 with
      | .ok (d, _) => some (some d)
      | _ => none)
    | .ok (false, _) => some none
    | _ => none
def lcM (f : D → Option (Option D)) : List D → Option (List D)
  | [] => some []
  | x :: xs => match f x with
    | none => none
    | some o => match lcM f xs with
      | none => none
      | some ds => some (o.toList ++ ds)
def gLc (gi : GA) (p : D → En → Option En) (gt : GT) (ge : GE) : GE := fun ρ => (gi ρ).bind fun r => if r.1.length ≤ SZ then (match lcM (lcF p gt ge r.2) r.1 with
  | some ds => .ok (.lst ds, r.2)
  | none => .stk) else .stk
instance {gi : GA} {p : D → En → Option En} {gt : GT} {ge : GE} [PuA gi] : Pu (gLc gi p gt ge) := ⟨fun ρ d ρ' h => by
  unfold gLc at h
  obtain ⟨q, e1, h⟩ := Res.bind_ok_of h
  have k1 := PuA.pu _ _ _ e1
  split at h
  · split at h
    · cases h; exact k1
    · cases h
  · cases h⟩
theorem wipe_at {σ : L2.St} : ∀ {vs : List Nat} {i : Nat}, i ∉ vs → (wipe σ vs)[i]? = σ[i]?
  | [], _, _ => rfl
  | v :: vs, i, h => by
    simp only [List.mem_cons, not_or] at h
    unfold wipe
    rw [List.getElem?_set_ne (Ne.symm h.1), wipe_at h.2]
theorem wipe_in {σ : L2.St} : ∀ {vs : List Nat} {i : Nat}, i ∈ vs → i < σ.length → (wipe σ vs)[i]? = some none
  | [], _, h, _ => by simp at h
  | v :: vs, i, h, l => by
    unfold wipe
    by_cases e : v = i
    · subst e
      rw [List.getElem?_set_self (by rw [wipe_length]; exact l)]
    · rw [List.getElem?_set_ne e]
      exact wipe_in (by simpa [Ne.symm e] using h) l
theorem wipe_eq {σ σ2 : L2.St} {vs io : List Nat} (len : σ2.length = σ.length) (hio : ∀ i, i < σ.length → i ∈ vs ∨ i ∈ io) (k : Keep io (wipe σ vs) σ2) : wipe σ2 vs = wipe σ vs := by
  apply List.ext_getElem?
  intro i
  by_cases hi : i ∈ vs
  · by_cases l : i < σ.length
    · rw [wipe_in hi l, wipe_in hi (by rw [len]; exact l)]
    · rw [List.getElem?_eq_none (by rw [wipe_length]; omega), List.getElem?_eq_none (by rw [wipe_length]; omega)]
  · rw [wipe_at hi]
    by_cases l : i < σ.length
    · rcases hio i l with z | z
      · exact absurd z hi
      · exact k i z
    · rw [List.getElem?_eq_none (by rw [len]; omega), List.getElem?_eq_none (by rw [wipe_length]; omega)]
theorem Rel.wiped {ρ : En} {vs : List Nat} (h : Rel K cl B F0 R Γ ρ σ H) (hu : ∀ i ∈ vs, Γ[i]? = some .u) : Rel K cl B F0 R Γ ρ (wipe σ vs) H :=
  h.rez (wipe_length _ _) rfl fun i w e => by
    by_cases hi : i ∈ vs
    · rw [hu i hi] at e; cases e; exact .inl rfl
    · exact .inr ⟨wipe_at hi, rfl⟩
theorem Rel.unwiped {ρ ρ2 : En} {vs io : List Nat} {σ2 : L2.St} (h : Rel K cl B F0 R Γ ρ2 σ2 H) (hu : ∀ i ∈ vs, Γ[i]? = some .u) (ls : σ2.length = σ.length) (lr : ρ2.length = ρ.length) (k : Keep io (wipe σ vs) σ2) (hio : ∀ i, i < σ.length → i ∈ vs ∨ i ∈ io) (kr : ∀ i, i ∉ vs → ρ2[i]? = ρ[i]?) : Rel K cl B F0 R Γ ρ σ H :=
  h.rez ls.symm lr.symm fun i w e => by
    by_cases hi : i ∈ vs
    · rw [hu i hi] at e; cases e; exact .inl rfl
    · refine .inr ⟨?_, (kr i hi).symm⟩
      by_cases l : i < σ.length
      · rcases hio i l with z | z
        · exact absurd z hi
        · rw [k i z, wipe_at hi]
      · rw [List.getElem?_eq_none (by omega), List.getElem?_eq_none (by omega)]
section
variable {elt iter : Expr} {ifs : List Expr} {scope : Scope} {own : List (Str × Nat)} {gi : GA} {p : D → En → Option En} {gt : GT} {ge : GE} {wx we : W} {io : List Nat}
/-- the loop of a comprehension, by values -/
theorem lc_go [PuT gt] [Pu ge] {wi : TI} {n : Nat} (fi : ∀ (B F0 : Hp) (T R0 : List Root) (ρ : En) (σ : L2.St) (H : Hp) (Q : It → Hp → Prop), RelC C B F0 (T ++ R0) Γ ρ σ H → PostI C B F0 T R0 Γ1 wx σ Q (gi ρ) → wi σ H Q)
    (l1 : leL Γ1 ΓL = true) (hn : ΓL.length = n) (hu : ∀ i ∈ own.map (·.2), ΓL[i]? = some .u) (hio : ∀ i, i < n → i ∈ own.map (·.2) ∨ i ∈ io) (l4 : leL Γ4 ΓL = true) (l3 : leL Γ3 ΓL = true) (pk : PKeep (own.map (·.2)) p)
    (r : RelC C B F0 (T ++ R0) Γ ρ σ H) {Q : VK} (h : PostE C B F0 T R0 ΓL (.o we) σ Q (gLc gi p gt ge ρ)) :
    tLc wi (tBG C.X.K C.cl io wx ΓL p Γ2) (tBT C.X.K C.cl Γ2 gt Γ3) (tBE C.X.K C.cl Γ3 ge Γ4 we) (own.map (·.2)) σ H Q := by
  refine fi B F0 T R0 ρ σ H _ r ?_
  unfold gLc at h
  match e1 : gi ρ, h with
  | .err c fs ρ', h => exact h
  | .stk, h => exact h
  | .ok (ds, ρ1), h =>
    intro J H1 T' wk r1 Dd nD
    simp only [Res.bind_ok] at h
    by_cases hsz : ds.length ≤ SZ
    · rw [if_pos hsz] at h
      match e2 : lcM (lcF p gt ge ρ1) ds, h with
      | none, h => exact h.elim
      | some full, h =>
        have len : σ.length = n := by rw [← hn, ← leL_len l1]; exact r1.l1.symm
        refine ⟨fun i m H => m = ds.length - i ∧ i ≤ ds.length ∧ ∃ acc rest, acc.length ≤ i ∧ lcM (lcF p gt ge ρ1) (ds.drop i) = some rest ∧ acc ++ rest = full ∧
          RelC C B F0 (⟨.o we, some (.ref Dd), .lst acc⟩ :: (T' ++ (T ++ R0))) ΓL ρ1 σ H, ⟨ds.length, by simp, Nat.zero_le _, [], full, Nat.le_refl _, by simpa using e2, rfl, ?_⟩, ?_⟩
        · have r2 := r1.weak l1
          refine r2.mapS fun {Z} s => ?_
          exact S.newL (vs := []) (ds := []) s rfl nD
        · rintro i m H2 ⟨rfl, hi, acc, rest, ha, er, ef, r2⟩
          have r2' : RelC C B F0 (T' ++ (⟨.o we, some (.ref Dd), .lst acc⟩ :: (T ++ R0))) ΓL ρ1 σ H2 := r2.perm List.perm_middle.symm
          by_cases hlt : i < ds.length
          · have ed : ds.drop i = ds[i] :: ds.drop (i + 1) := List.drop_eq_getElem_cons hlt
            rw [ed] at er
            unfold lcM at er
            match ef1 : lcF p gt ge ρ1 ds[i], er with
            | none, er => cases er
            | some ov, er =>
              dsimp only at er
              match em : lcM (lcF p gt ge ρ1) (ds.drop (i + 1)), er with
              | none, er => cases er
              | some rest', er =>
                cases er
                have r3 := r2'.wiped hu
                have wi1 := wk B F0 (⟨.o we, some (.ref Dd), .lst acc⟩ :: (T ++ R0) ++ zr ΓL (wipe σ (own.map (·.2))) ρ1) H2 i (by have := r3.s; rwa [List.append_assoc] at this)
                obtain ⟨go, yl⟩ := wi1.2 ds[i] (List.getElem?_eq_getElem hlt)
                refine .inr ⟨go, fun H' => ∃ acc' , acc'.length ≤ i + 1 ∧ acc' ++ rest' = full ∧ RelC C B F0 (⟨.o we, some (.ref Dd), .lst acc'⟩ :: (T' ++ (T ++ R0))) ΓL ρ1 σ H',
                  fun H' ⟨acc', a1, a2, a3⟩ => ⟨ds.length - (i + 1), by omega, rfl, hlt, acc', rest', a1, em, a2, a3⟩, fun x H3 y => ?_⟩
                have s3 := yl x H3 y
                have r4 : RelC C B F0 (⟨wx, some x, ds[i]⟩ :: (T' ++ (⟨.o we, some (.ref Dd), .lst acc⟩ :: (T ++ R0)))) ΓL ρ1 (wipe σ (own.map (·.2))) H3 := ⟨by simpa using s3, r3.l1, r3.l2⟩
                refine ⟨B, F0, _, _, ρ1, r4, ?_⟩
                unfold lcF at ef1
                match ep : p ds[i] ρ1, ef1 with
                | none, ef1 => cases ef1
                | some ρ2, ef1 =>
                  intro σ2 H4 k4 r5
                  dsimp only at ef1
                  have ls2 : σ2.length = σ.length := by rw [← r5.l2, (pk _ _ _ ep).1, r3.l2, wipe_length]
                  refine ⟨wipe_eq ls2 (fun i hi => hio i (by omega)) k4, B, F0, _, [], ρ2, by simpa using r5, ?_⟩
                  match et : gt ρ2, ef1 with
                  | .err _ _ _, ef1 => cases ef1
                  | .stk, ef1 => cases ef1
                  | .ok (false, ρ3), ef1 =>
                    cases ef1
                    have := PuT.pu _ _ _ et
                    subst this
                    intro H5 r6
                    rw [if_neg (by simp)]
                    refine ⟨acc, by omega, by simpa using ef, ?_⟩
                    have r7 := Rel.unwiped (r6.weak l3) hu ls2 (pk _ _ _ ep).1 k4 (fun i hi => hio i (by omega)) (pk _ _ _ ep).2
                    exact r7.perm (by simp only [List.append_nil]; exact List.perm_middle)
                  | .ok (true, ρ3), ef1 =>
                    have ef2 : (match ge ρ3 with
                      | .ok (d, _) => some (some d)
                      | _ => none) = some ov := ef1
                    have := PuT.pu _ _ _ et
                    subst this
                    intro H5 r6
                    rw [if_pos rfl]
                    refine ⟨B, F0, _, [], ρ3, r6, ?_⟩
                    match eg : ge ρ3, ef2 with
                    | .err _ _ _, ef2 => cases ef2
                    | .stk, ef2 => cases ef2
                    | .ok (d, ρ4), ef2 =>
                      cases ef2
                      have := Pu.pu _ _ _ eg
                      subst this
                      intro v H6 r7
                      have r8 := Rel.unwiped (r7.weak l4) hu ls2 (pk _ _ _ ep).1 k4 (fun i hi => hio i (by omega)) (pk _ _ _ ep).2
                      have r9 : RelC C B F0 (⟨we, some v, d⟩ :: ⟨.o we, some (.ref Dd), .lst acc⟩ :: (T' ++ (T ++ R0))) ΓL ρ1 σ H6 := r8.perm (by simp only [List.append_nil]; exact List.Perm.cons _ List.perm_middle)
                      obtain ⟨pp, vs, ev, hp, lv, s9⟩ := S.snoc r9.s
                      cases ev
                      refine ⟨vs, hp, ?_, acc ++ [d], by simp; omega, by simpa using ef, ⟨s9, r9.l1, r9.l2⟩⟩
                      have := SZ_le
                      omega
          · have e : i = ds.length := by omega
            subst e
            have wi1 := wk B F0 (⟨.o we, some (.ref Dd), .lst acc⟩ :: (T ++ R0) ++ zr ΓL σ ρ1) H2 ds.length (by have := r2'.s; rwa [List.append_assoc] at this)
            refine .inl ⟨wi1.1 rfl, ?_⟩
            rw [List.drop_of_length_le (Nat.le_refl _)] at er
            cases er
            rw [List.append_nil] at ef
            subst ef
            exact h _ H2 (r2'.mapS fun {Z} s => S.dropL (R := T') (by simpa using s))
    · rw [if_neg hsz] at h; exact h.elim
theorem de_lc [PuT gt] [Pu ge] (hc : C.X.calm = true) (hN : C.X.N.Nodup) (ok : BlkOk C.X.N C.X.env.scope scope own) (hi : DI C Γ tg iter gi Γ1 wx) (l1 : leL Γ1 ΓL = true) (hu : (own.all fun q => isU (ΓL[q.2]?)) = true)
    (hio : ((List.range ΓL.length).all fun i => (own.map (·.2)).contains i || io.contains i) = true)
    (hg : ∀ (s : Shared) (H : Hp) (cA : Addr) (cl : List (Str × Addr)) (fp : List Addr), DG (C.blk io s H scope (compEnvC scope cl cA C.X.env) fp) wx ΓL tg p Γ2)
    (ht : ∀ (s : Shared) (H : Hp) (cA : Addr) (cl : List (Str × Addr)) (fp : List Addr), DTs (C.blk io s H scope (compEnvC scope cl cA C.X.env) fp) Γ2 ifs gt Γ3)
    (he : ∀ (s : Shared) (H : Hp) (cA : Addr) (cl : List (Str × Addr)) (fp : List Addr), DE (C.blk io s H scope (compEnvC scope cl cA C.X.env) fp) Γ3 elt ge Γ4 we)
    (l4 : leL Γ4 ΓL = true) (l3 : leL Γ3 ΓL = true) (pk : PKeep (own.map (·.2)) p) (hs : ∀ x, foldedSetIterable iter C.X.env x = pure x := by intro _; rfl) :
    DE C Γ (.ListComp elt [⟨tg, iter, ifs, 0⟩] scope pos) (gLc gi p gt ge) ΓL (.o we) := by
  obtain ⟨wi, pi, fi⟩ := hi
  refine ⟨_, pe_lc (g := tBG C.X.K C.cl io wx ΓL p Γ2) (tt := tBT C.X.K C.cl Γ2 gt Γ3) (te := tBE C.X.K C.cl Γ3 ge Γ4 we) hc hN pi ok (fun s H cA cl fp => (hg s H cA cl fp).canon) (fun s H cA cl fp => (ht s H cA cl fp).canon) (fun s H cA cl fp => (he s H cA cl fp).canon) hs, fun B F0 T R0 ρ σ H Q r h => ?_⟩
  refine lc_go (n := ΓL.length) fi l1 rfl (fun i hi => ?_) (fun i hi => ?_) l4 l3 pk r h
  · obtain ⟨q, hq, rfl⟩ := List.mem_map.mp hi
    exact isU_eq (List.all_eq_true.mp hu q hq)
  · have := List.all_eq_true.mp hio i (List.mem_range.mpr hi)
    simpa using this
/-- y = [..] on one line -/
theorem ds_setlc [PuT gt] [Pu ge] {i : Nat} {yn : Str} {py spos : Pos} (hc : C.X.calm = true) (hN : C.X.N.Nodup) (hy : C.X.N[i]? = some yn) (hyl : C.X.env.scope.names.lookup yn = some .local)
    (hsw : swapsWith (.ListComp elt [⟨tg, iter, ifs, 0⟩] scope pos) (some (.Name yn py)) spos.line C.X.env = pure true) (ok : BlkOk C.X.N C.X.env.scope scope own) (hi : DI C Γ tg iter gi Γ1 wx) (l1 : leL Γ1 ΓL = true) (hu : (own.all fun q => isU (ΓL[q.2]?)) = true)
    (hio : ((List.range ΓL.length).all fun i => (own.map (·.2)).contains i || io.contains i) = true)
    (hg : ∀ (s : Shared) (H : Hp) (cA : Addr) (cl : List (Str × Addr)) (fp : List Addr), DG (C.blk io s H scope (compEnvC scope cl cA C.X.env) fp) wx ΓL tg p Γ2)
    (ht : ∀ (s : Shared) (H : Hp) (cA : Addr) (cl : List (Str × Addr)) (fp : List Addr), DTs (C.blk io s H scope (compEnvC scope cl cA C.X.env) fp) Γ2 ifs gt Γ3)
    (he : ∀ (s : Shared) (H : Hp) (cA : Addr) (cl : List (Str × Addr)) (fp : List Addr), DE (C.blk io s H scope (compEnvC scope cl cA C.X.env) fp) Γ3 elt ge Γ4 we)
    (l4 : leL Γ4 ΓL = true) (l3 : leL Γ3 ΓL = true) (pk : PKeep (own.map (·.2)) p) (hio2 : C.io.contains i = false := by rfl) (hs : ∀ x, foldedSetIterable iter C.X.env x = pure x := by intro _; rfl) :
    DS C Γ (.Assign [.Name yn py] (.ListComp elt [⟨tg, iter, ifs, 0⟩] scope pos) spos) (sAsg (gLc gi p gt ge) (pName i)) (ΓL.set i (.o we)) := by
  obtain ⟨wi, pi, fi⟩ := hi
  refine ⟨_, ps_setLc (g := tBG C.X.K C.cl io wx ΓL p Γ2) (tt := tBT C.X.K C.cl Γ2 gt Γ3) (te := tBE C.X.K C.cl Γ3 ge Γ4 we) hc hN hy hyl hsw pi ok (fun s H cA cl fp => (hg s H cA cl fp).canon) (fun s H cA cl fp => (ht s H cA cl fp).canon) (fun s H cA cl fp => (he s H cA cl fp).canon) hs, fun B F0 R0 ρ σ H D r h => ?_⟩
  refine lc_go (n := ΓL.length) (T := []) (R0 := R0) (σ := σ) fi l1 rfl (fun i hi => ?_) (fun i hi => ?_) l4 l3 pk r ?_
  · obtain ⟨q, hq, rfl⟩ := List.mem_map.mp hi
    exact isU_eq (List.all_eq_true.mp hu q hq)
  · have := List.all_eq_true.mp hio i (List.mem_range.mpr hi)
    simpa using this
  · unfold sAsg at h
    match e1 : gLc gi p gt ge ρ, h with
    | .ok (d, ρ'), h => exact fun v H' q => h (σ.set i (some v)) H' (Keep.set (notIn hio2)) (Rel.into q i)
    | .err c fs ρ', h => exact h σ .refl
    | .stk, h => exact h
end
end Dv
/-! D11: lending, reading, operators, built-ins. -/
namespace Dv
open PySem PySem.Spec PyProof.Rows L2
variable {K : PySem.W.Frag} {cl : Cl} {F H B F0 : Hp} {C : Cq} {Γ Γ1 Γ2 Γ3 Γ4 Γ' ΓL : List W} {pos : Pos} {T R0 R : List Root} {σ σ' : L2.St} {a b c e o tg it : Expr} {es : List Expr} {x y : V}

/-! ### everything is lent while an expression is evaluated -/
def zOf (w : W) : W := if w.fz = true then .z else .u
theorem S.zsZ : ∀ {Γ : List W} {σ : L2.St} {ρ : En} {R : List Root}, S K cl B F0 H (zs ((zr Γ σ ρ).filter fun x => x.w.fz) ++ R) → S K cl B F0 H (zr (Γ.map zOf) σ ρ ++ R)
  | [], _, _, R, h => by simpa [zr, zs] using h
  | _ :: _, [], _, R, h => by simpa [zr, zs] using h
  | _ :: _, _ :: _, [], R, h => by simpa [zr, zs] using h
  | w :: Γ, v :: σ, d :: ρ, R, h => by
    by_cases f : w.fz = true
    · have e : (zr (w :: Γ) (v :: σ) (d :: ρ)).filter (fun x => x.w.fz) = ⟨w, v, d⟩ :: (zr Γ σ ρ).filter fun x => x.w.fz := by
        simp [zr, f]
      rw [e] at h
      have h1 : S K cl B F0 H (zs ((zr Γ σ ρ).filter fun x => x.w.fz) ++ (⟨.z, v, d⟩ :: R)) := h.perm (by exact List.perm_middle.symm)
      have h2 := S.zsZ h1
      have ez : zOf w = .z := by unfold zOf; rw [if_pos f]
      show S K cl B F0 H (⟨zOf w, v, d⟩ :: (zr (Γ.map zOf) σ ρ ++ R))
      rw [ez]
      exact S.toFront h2
    · have e : (zr (w :: Γ) (v :: σ) (d :: ρ)).filter (fun x => x.w.fz) = (zr Γ σ ρ).filter fun x => x.w.fz := by
        simp [zr, f]
      rw [e] at h
      have ez : zOf w = .u := by unfold zOf; rw [if_neg f]
      show S K cl B F0 H (⟨zOf w, v, d⟩ :: (zr (Γ.map zOf) σ ρ ++ R))
      rw [ez]
      exact S.addU (S.zsZ h)
theorem S.lendZ {σ : L2.St} {ρ : En} (h : S K cl B F0 H (R ++ zr Γ σ ρ)) : ∃ B1 F1, S K cl B1 F1 H (zr (Γ.map zOf) σ ρ) ∧ ∀ H' R', (∀ x ∈ R', x.w.cw = true) → S K cl B1 F1 H' R' → S K cl B F0 H' (R' ++ (R ++ zr Γ σ ρ)) := by
  have p : ((zr Γ σ ρ).filter (fun x => x.w.fz) ++ (zr Γ σ ρ).filter (fun x => !x.w.fz)).Perm (zr Γ σ ρ) := List.filter_append_perm _ _
  have h1 : S K cl B F0 H ((zr Γ σ ρ).filter (fun x => x.w.fz) ++ ([] ++ ((zr Γ σ ρ).filter (fun x => !x.w.fz) ++ R))) := h.perm (by
    refine List.perm_append_comm.trans ?_
    rw [List.nil_append, ← List.append_assoc]
    exact p.symm.append_right R)
  obtain ⟨B1, F1, s1, bk⟩ := S.lend h1 fun x hx => (List.mem_filter.mp hx).2
  refine ⟨B1, F1, by simpa using S.zsZ (R := []) (by simpa using s1), fun H' R' hc s' => (bk H' R' hc s').perm (List.Perm.append_left _ ?_)⟩
  rw [← List.append_assoc]
  exact (p.append_right R).trans List.perm_append_comm
def gLend (g : GE) : GE := fun ρ => match g ρ with
  | .ok p => .ok p
  | _ => .stk
def tLend (g : GT) : GT := fun ρ => match g ρ with
  | .ok p => .ok p
  | _ => .stk
instance {g : GE} [Pu g] : Pu (gLend g) := ⟨fun ρ d ρ' h => by
  unfold gLend at h
  split at h
  · rename_i e; cases h; exact Pu.pu _ _ _ e
  · cases h⟩
instance {g : GT} [PuT g] : PuT (tLend g) := ⟨fun ρ d ρ' h => by
  unfold tLend at h
  split at h
  · rename_i e; cases h; exact PuT.pu _ _ _ e
  · cases h⟩
theorem de_lend {g : GE} {w : W} [Pu g] (h : DE C (Γ.map zOf) e g Γ' w) (hw : w.cw = true) : DE C Γ e (gLend g) Γ w := by
  obtain ⟨t, p, f⟩ := h
  refine ⟨t, p, fun B F0 T R0 ρ σ H Q r h => ?_⟩
  obtain ⟨B1, F1, s1, bk⟩ := S.lendZ r.s
  refine f B1 F1 [] [] ρ σ H Q ⟨by simpa using s1, by simpa using r.l1, r.l2⟩ ?_
  unfold gLend at h
  match e1 : g ρ, h with
  | .err _ _ _, h => exact h.elim
  | .stk, h => exact h
  | .ok (d, ρ'), h2 =>
    have := Pu.pu _ _ _ e1
    subst this
    intro v H' q
    refine h2 v H' ⟨?_, r.l1, r.l2⟩
    have q2 : S C.X.K C.cl B1 F1 H' [⟨w, some v, d⟩] := S.dropL (R := zr Γ' σ ρ') (q.s.perm List.perm_append_comm)
    have q3 := bk H' _ (fun x hx => by simp at hx; subst hx; exact hw) q2
    simpa using q3
theorem dt_lend {g : GT} [PuT g] (h : DT C (Γ.map zOf) e g Γ') : DT C Γ e (tLend g) Γ := by
  obtain ⟨t, p, f⟩ := h
  refine ⟨t, p, fun B F0 T R0 ρ σ H Q r h => ?_⟩
  obtain ⟨B1, F1, s1, bk⟩ := S.lendZ r.s
  refine f B1 F1 [] [] ρ σ H Q ⟨by simpa using s1, by simpa using r.l1, r.l2⟩ ?_
  unfold tLend at h
  match e1 : g ρ, h with
  | .err _ _ _, h => exact h.elim
  | .stk, h => exact h
  | .ok (d, ρ'), h2 =>
    have := PuT.pu _ _ _ e1
    subst this
    intro H' q
    refine h2 H' ⟨?_, r.l1, r.l2⟩
    have q2 : S C.X.K C.cl B1 F1 H' [] := S.dropL (R := zr Γ' σ ρ') (by simpa using q.s)
    have q3 := bk H' _ (fun x hx => by simp at hx) q2
    simpa using q3

/-! ### scalars for certain -/
def isSc : D → Bool
  | .non => true
  | .bl _ => true
  | .int _ => true
  | .str _ => true
  | _ => false
def gSc (g : GE) : GE := fun ρ => (g ρ).bind fun p => if isSc p.1 = true then .ok p else .stk
instance {g : GE} [Pu g] : Pu (gSc g) := ⟨fun ρ d ρ' h => by
  unfold gSc at h
  obtain ⟨p, e1, h⟩ := Res.bind_ok_of h
  split at h
  · cases h; exact Pu.pu _ _ _ e1
  · cases h⟩
theorem Rp.to_sc {d : D} (h : Rp K cl F x d) (f : isSc d = true) : Sc x d := by
  cases h with
  | sc h => exact h
  | _ => cases f
theorem de_sc {g : GE} {w : W} (h : DE C Γ e g Γ' w) (hw : w.sv = true) : DE C Γ e (gSc g) Γ' .s := by
  obtain ⟨t, p, f⟩ := h
  refine ⟨t, p, fun B F0 T R0 ρ σ H Q r h => f B F0 T R0 ρ σ H Q r ?_⟩
  unfold gSc at h
  match e1 : g ρ, h with
  | .err _ _ _, h => exact h
  | .stk, h => exact h
  | .ok (d, ρ'), h =>
    simp only [Res.bind_ok] at h
    by_cases hs : isSc d = true
    · rw [if_pos hs] at h
      exact fun v H' q => h v H' (q.mapS fun {Z} s => S.addS (S.drop s) ((S.rpv1 s hw).to_sc hs))
    · rw [if_neg hs] at h; exact h.elim

/-! ### subscripts -/
def fIx : D → D → Option D
  | .lst xs, .int i => atI xs i
  | .tup xs, .int i => atI xs i
  | .scr ns, .int i => (atI ns i).map D.int
  | _, _ => none
theorem atI_rp {vs : List V} {ds : List D} {i : Int} {d : D} (l : vs.length = ds.length) (r : RpL K cl F vs ds) (e : atI ds i = some d) : ∃ v, atI vs i = some v ∧ Rp K cl F v d ∧ ∃ j : Nat, ds[j]? = some d ∧ vs[j]? = some v := by
  unfold atI at e ⊢
  rw [l]
  cases e1 : ixN ds.length i with
  | none => rw [e1] at e; cases e
  | some j =>
    rw [e1] at e
    have e : ds[j]? = some d := e
    obtain ⟨v, ev, rv⟩ := r.getD e
    exact ⟨v, ev, rv, j, e, ev⟩
theorem RpL.at2 {vs : List V} {ds : List D} {j : Nat} {v : V} {d : D} (r : RpL K cl F vs ds) (e : ds[j]? = some d) (ev : vs[j]? = some v) : Rp K cl F v d := by
  obtain ⟨v', ev', rv⟩ := r.getD e
  rw [ev] at ev'; cases ev'
  exact rv
theorem atI_map {α β : Type} {f : α → β} {xs : List α} {i : Int} : atI (xs.map f) i = (atI xs i).map f := by
  unfold atI
  rw [List.length_map]
  cases ixN xs.length i with
  | none => rfl
  | some j => simp
theorem d2_ix {wa wb : W} (ha : wa.sv = true) (hb : wb.sv = true) : D2 K cl (rIx K) wa wb fIx .z := by
  intro B F0 R H x y dx dy Q s d e h
  have r1 := S.rpv1 s hb
  have s2 := S.drop s
  have r2 := S.rpv1 s2 ha
  have s3 : S K cl B F0 H (⟨.z, some x, dx⟩ :: R) := S.weak wa (by cases wa <;> first | rfl | (cases ha)) s2
  match dx, dy, e, r1, r2, s3 with
  | .lst ds, .int i, e, r1, r2, s3 =>
    cases r1.to_int
    obtain ⟨p, vs, rfl, hp, rl⟩ := r2.to_lst
    obtain ⟨v, ev, rv, j, ej, evj⟩ := atI_rp rl.length rl e
    refine .inl ⟨p, vs, i, v, rfl, rfl, SqL.of hp, ev, h v H (S.drop (S.swap (S.addz s3 fun F sb q => ?_)))⟩
    obtain ⟨p', vs', e3, hp', rl'⟩ := q.to_lst
    cases e3
    have e4 := sb _ _ hp'
    rw [hp] at e4; cases e4
    exact rl'.at2 ej evj
  | .tup ds, .int i, e, r1, r2, s3 =>
    cases r1.to_int
    obtain ⟨p, vs, rfl, hp, rl⟩ := r2.to_tup
    obtain ⟨v, ev, rv, j, ej, evj⟩ := atI_rp rl.length rl e
    refine .inr (.inl ⟨p, vs, i, v, rfl, rfl, SqT.of hp, ev, h v H (S.drop (S.swap (S.addz s3 fun F sb q => ?_)))⟩)
    obtain ⟨p', vs', e3, hp', rl'⟩ := q.to_tup
    cases e3
    have e4 := sb _ _ hp'
    rw [hp] at e4; cases e4
    exact rl'.at2 ej evj
  | .scr ns, .int i, e, r1, r2, s3 =>
    cases r1.to_int
    cases r2 with
    | sc h => cases h
    | @scr p _ hq =>
      have e : (atI ns i).map D.int = some d := e
      cases en : atI ns i with
      | none => rw [en] at e; cases e
      | some n =>
        rw [en] at e; cases e
        exact .inl ⟨p, ns.map V.int, i, .int n, rfl, rfl, hq, by rw [atI_map, en]; rfl, h _ H (S.addz s3 (fun _ _ _ => .sc (.int n)) |> S.swap |> S.drop)⟩
theorem de_ix {r : R2} {ga gb : GE} {wa wb w : W} {f : D → D → Option D} (ho : IxR C.X r) (hd : D2 C.X.K C.cl r wa wb f w) (ha : DE C Γ a ga Γ1 wa) (hb : DE C Γ1 b gb Γ2 wb) (hs : PlainIx b := by intro _ _; rfl) :
    DE C Γ (.Subscript a b pos) (gOp f ga gb) Γ2 w := by
  obtain ⟨ta, pa, fa⟩ := ha
  obtain ⟨tb, pb, fb⟩ := hb
  exact ⟨_, pe_ix ho pa pb hs, de_bin hd fa fb⟩

/-! ### slices -/
def DO (C : Cq) (Γ : List W) (e : Option Expr) (g : En → Res (Option Int × En)) (Γ' : List W) : Prop := ∃ t, PO C.X e t ∧ ∀ (B F0 : Hp) (T R0 : List Root) (ρ : En) (σ : L2.St) (H : Hp) (Q : Option Int → Hp → Prop),
  RelC C B F0 (T ++ R0) Γ ρ σ H → (match g ρ with
    | .ok (o, ρ') => ∀ H', RelC C B F0 (T ++ R0) Γ' ρ' σ H' → Q o H'
    | .err c fs ρ' => ErrOk C B F0 R0 σ c fs ρ'
    | .stk => False) → t σ H Q
def oNone : En → Res (Option Int × En) := fun ρ => .ok (none, ρ)
def oSome (g : GE) : En → Res (Option Int × En) := fun ρ => (g ρ).bind fun p => match p.1 with
  | .int i => .ok (some i, p.2)
  | _ => .stk
theorem do_none : DO C Γ none oNone Γ := ⟨_, po_none, fun B F0 T R0 ρ σ H Q r h => h H r⟩
theorem do_some {g : GE} {w : W} (he : DE C Γ e g Γ' w) (hw : w.sv = true) : DO C Γ (some e) (oSome g) Γ' := by
  obtain ⟨t, p, f⟩ := he
  refine ⟨_, po_some p, fun B F0 T R0 ρ σ H Q r h => f B F0 T R0 ρ σ H _ r ?_⟩
  unfold oSome at h
  match e1 : g ρ, h with
  | .err _ _ _, h => exact h
  | .stk, h => exact h
  | .ok (d, ρ'), h =>
    intro v H' q
    have rp := S.rpv1 q.s hw
    match d, h, rp, q with
    | .int i, h, rp, q => exact ⟨i, rp.to_int, h H' (q.mapS fun {Z} s => S.drop s)⟩
class PuO (g : En → Res (Option Int × En)) : Prop where
  pu : ∀ ρ d ρ', g ρ = .ok (d, ρ') → ρ' = ρ
instance : PuO oNone := ⟨fun ρ d ρ' h => by unfold oNone at h; cases h; rfl⟩
instance {g : GE} [Pu g] : PuO (oSome g) := ⟨fun ρ d ρ' h => by
  unfold oSome at h
  obtain ⟨p, e1, h⟩ := Res.bind_ok_of h
  split at h
  · cases h; exact Pu.pu _ _ _ e1
  · cases h⟩
def cutD {α : Type} (xs : List α) (lo hi : Option Int) : List α := (xs.drop (HT.sIx xs.length 0 lo)).take (HT.sIx xs.length xs.length hi - HT.sIx xs.length 0 lo)
/-- what a slice gives -/
def fSl (lo hi : Option Int) : D → Option D
  | .lst xs => some (.lst (cutD xs lo hi))
  | .scr ns => some (.lst ((cutD ns lo hi).map D.int))
  | _ => none
def gSl (f : Option Int → Option Int → D → Option D) (g : GE) (gl gh : En → Res (Option Int × En)) : GE := fun ρ => (g ρ).bind fun p => (gl p.2).bind fun q => (gh q.2).bind fun r => match f q.1 r.1 p.1 with
  | some d => .ok (d, r.2)
  | none => .stk
instance {f : Option Int → Option Int → D → Option D} {g : GE} {gl gh : En → Res (Option Int × En)} [Pu g] [PuO gl] [PuO gh] : Pu (gSl f g gl gh) := ⟨fun ρ d ρ' h => by
  unfold gSl at h
  obtain ⟨p, e1, h⟩ := Res.bind_ok_of h
  obtain ⟨q, e2, h⟩ := Res.bind_ok_of h
  obtain ⟨r, e3, h⟩ := Res.bind_ok_of h
  have k1 := Pu.pu _ _ _ e1
  have k2 := PuO.pu _ _ _ e2
  have k3 := PuO.pu _ _ _ e3
  split at h
  · cases h; rw [k3, k2, k1]
  · cases h⟩
def DSl (K : PySem.W.Frag) (cl : Cl) (r : V → Option Int → Option Int → Hp → VK → Prop) (wa : W) (f : Option Int → Option Int → D → Option D) (w : W) : Prop := ∀ (B F0 : Hp) (R : List Root) (H : Hp) (x : V) (dx : D) (lo hi : Option Int) (Q : VK),
  S K cl B F0 H (⟨wa, some x, dx⟩ :: R) → ∀ d, f lo hi dx = some d → (∀ v H', S K cl B F0 H' (⟨w, some v, d⟩ :: R) → Q v H') → r x lo hi H Q
theorem de_slice {r : V → Option Int → Option Int → Hp → VK → Prop} {f : Option Int → Option Int → D → Option D} {g : GE} {gl gh : En → Res (Option Int × En)} {wa w : W} {lo hi : Option Expr} {p2 : Pos} (hr : SlR C.X r) (hd : DSl C.X.K C.cl r wa f w) (he : DE C Γ e g Γ1 wa) (hl : DO C Γ1 lo gl Γ2) (hh : DO C Γ2 hi gh Γ3) :
    DE C Γ (.Subscript e (.Slice lo hi none p2) pos) (gSl f g gl gh) Γ3 w := by
  obtain ⟨t, p, fe⟩ := he
  obtain ⟨tl, pl, fl⟩ := hl
  obtain ⟨th, ph, fh⟩ := hh
  refine ⟨_, pe_slice hr p pl ph, fun B F0 T R0 ρ σ H Q r h => fe B F0 T R0 ρ σ H _ r ?_⟩
  unfold gSl at h
  match e1 : g ρ, h with
  | .err _ _ _, h => exact h
  | .stk, h => exact h
  | .ok (d, ρ1), h =>
    intro v H1 r1
    refine fl B F0 (⟨wa, some v, d⟩ :: T) R0 ρ1 σ H1 _ r1 ?_
    simp only [Res.bind_ok] at h
    match e2 : gl ρ1, h with
    | .err _ _ _, h => exact h
    | .stk, h => exact h
    | .ok (o1, ρ2), h =>
      intro H2 r2
      refine fh B F0 (⟨wa, some v, d⟩ :: T) R0 ρ2 σ H2 _ r2 ?_
      simp only [Res.bind_ok] at h
      match e3 : gh ρ2, h with
      | .err _ _ _, h => exact h
      | .stk, h => exact h
      | .ok (o2, ρ3), h =>
        intro H3 r3
        simp only [Res.bind_ok] at h
        match e4 : f o1 o2 d, h with
        | none, h => exact h.elim
        | some d', h => exact hd B F0 _ H3 v d o1 o2 Q r3.s d' e4 fun v' H4 s => h v' H4 ⟨s, r3.l1, r3.l2⟩
theorem RpL.cut {vs : List V} {ds : List D} (r : RpL K cl F vs ds) (lo hi : Option Int) : RpL K cl F (cutV vs lo hi) (cutD ds lo hi) := by
  unfold cutV cutD
  rw [r.length]
  exact (r.drop _).take _
theorem OwnR.zs {vs : List V} {ds : List D} : RpL K cl F vs ds → OwnR K cl F H (mkR .z vs ds) (fun _ => False) := by
  revert ds
  induction vs with
  | nil => intro ds rl; cases rl; exact .nil
  | cons v vs ih =>
    intro ds rl
    cases rl with
    | cons a b =>
      have q : OwnR K cl F H (⟨W.z, some v, _⟩ :: mkR .z vs _) (fun x => False ∨ False) := .cons (.z a) (ih b) fun _ z => z.elim
      rw [show (fun _ : Addr => False ∨ False) = fun _ => False from fpEq fun _ => by simp] at q
      exact q
/-- a new list of things that are shared already -/
theorem S.newZ {v : V} {d : D} {p : Addr} {vs : List V} {ds : List D} (h : S K cl B F0 H (⟨.z, some v, d⟩ :: R)) (f : ∀ F, Sub F H → Rp K cl F v d → RpL K cl F vs ds) (l : vs.length = ds.length) (n : H p = none) : S K cl B F0 (upd H p (.lst vs)) (⟨.o .z, some (.ref p), .lst ds⟩ :: ⟨.z, some v, d⟩ :: R) := by
  refine S.newL ?_ l n
  obtain ⟨F, A, r, h1, h2, h⟩ := h
  cases r with
  | cons a b dj =>
    cases a with
    | z q =>
      have q2 := f F h1 q
      refine ⟨F, _, OwnR.append (A := fun _ => False) (OwnR.zs q2) (.cons (.z q) b dj) fun _ z => z.elim, h1, fun a z => h2 a (z.elim False.elim id), h⟩
theorem RpL.ints : ∀ {ns : List Int}, RpL K cl F (ns.map V.int) (ns.map D.int)
  | [] => .nil
  | n :: ns => .cons (.sc (.int n)) RpL.ints
theorem RpL.toInts {vs : List V} : ∀ {ns : List Int}, RpL K cl F vs (ns.map D.int) → vs = ns.map V.int := by
  induction vs with
  | nil => intro ns h; cases ns with
    | nil => rfl
    | cons => cases h
  | cons v vs ih =>
    intro ns h
    cases ns with
    | nil => cases h
    | cons n ns =>
      cases h with
      | cons a b => rw [a.to_int, ih b]; rfl
theorem cut_map {α β : Type} {f : α → β} {xs : List α} {lo hi : Option Int} : cutD (xs.map f) lo hi = (cutD xs lo hi).map f := by
  unfold cutD
  simp [List.map_take, List.map_drop]
theorem sv_z {w : W} (h : w.sv = true) : leW w .z = true := by cases w <;> first | rfl | (cases h)
theorem dsl_list {wa : W} (ha : wa.sv = true) : DSl K cl (rSlL K) wa fSl (.o .z) := by
  intro B F0 R H x dx lo hi Q s d e h
  have s3 : S K cl B F0 H (⟨.z, some x, dx⟩ :: R) := S.weak wa (sv_z ha) s
  have r2 := S.rpv1 s3 rfl
  match dx, e, r2, s3 with
  | .lst ds, e, r2, s3 =>
    have e : some (D.lst (cutD ds lo hi)) = some d := e
    cases e
    obtain ⟨p, vs, rfl, hp, rl⟩ := r2.to_lst
    refine ⟨p, vs, rfl, SqL.of hp, fun q nq => h _ _ (S.drop (S.swap (S.newZ s3 (fun F sb z => ?_) (rl.cut lo hi).length nq)))⟩
    obtain ⟨p', vs', e3, hp', rl'⟩ := z.to_lst
    cases e3
    have e4 := sb _ _ hp'
    rw [hp] at e4; cases e4
    exact rl'.cut lo hi
  | .scr ns, e, r2, s3 =>
    have e : some (D.lst ((cutD ns lo hi).map D.int)) = some d := e
    cases e
    cases r2 with
    | sc h => cases h
    | @scr p _ hq =>
      refine ⟨p, ns.map V.int, rfl, hq, fun q nq => h _ _ (S.drop (S.swap (S.newZ s3 (fun F sb z => ?_) ?_ nq)))⟩
      · show RpL K cl F (cutD (ns.map V.int) lo hi) _
        rw [cut_map]; exact RpL.ints
      · show (cutD (ns.map V.int) lo hi).length = _
        rw [cut_map]; simp

/-! ### + and * of lists -/
def fCat : D → D → Option D
  | .lst xs, .lst ys => if xs.length + ys.length ≤ SZ then some (.lst (xs ++ ys)) else none
  | _, _ => none
theorem d2_cat {wa wb : W} (ha : wa.sv = true) (hb : wb.sv = true) : D2 K cl rCat wa wb fCat (.o .z) := by
  intro B F0 R H x y dx dy Q s d e h
  have s2 : S K cl B F0 H (⟨.z, some y, dy⟩ :: ⟨wa, some x, dx⟩ :: R) := S.weak wb (sv_z hb) s
  have s3 : S K cl B F0 H (⟨.z, some x, dx⟩ :: ⟨.z, some y, dy⟩ :: R) := S.weak wa (sv_z ha) (S.swap s2)
  have r1 := S.rpv1 s3 rfl
  have r2 := S.rpv1 (S.drop s3) rfl
  match dx, dy, e, r1, r2, s3 with
  | .lst xs, .lst ys, e, r1, r2, s3 =>
    have e : (if xs.length + ys.length ≤ SZ then some (D.lst (xs ++ ys)) else none) = some d := e
    by_cases hl : xs.length + ys.length ≤ SZ
    · rw [if_pos hl] at e; cases e
      obtain ⟨p, vs, rfl, hp, rl⟩ := r1.to_lst
      obtain ⟨q, us, rfl, hq, rl2⟩ := r2.to_lst
      refine ⟨p, q, vs, us, rfl, rfl, hp, hq, by have := SZ_le; rw [rl.length, rl2.length]; omega, fun n nn => h _ _ ?_⟩
      have s4 : S K cl B F0 H (mkR .z vs xs ++ (mkR .z us ys ++ R)) := by
        have i1 := S.itemsL s3
        obtain ⟨vs', hv, l1, i1⟩ := i1
        rw [hp] at hv; cases hv
        have i2 : S K cl B F0 H (⟨.z, some (.ref q), .lst ys⟩ :: (mkT (List.replicate xs.length .z) vs xs ++ R)) := S.toFront i1
        obtain ⟨us', hu, l2, i2⟩ := S.itemsL i2
        rw [hq] at hu; cases hu
        rw [mkT_rep rl2.length, mkT_rep rl.length] at i2
        refine i2.perm ?_
        rw [← List.append_assoc, ← List.append_assoc]
        exact List.perm_append_comm.append_right R
      have s5 : S K cl B F0 H (mkR .z (vs ++ us) (xs ++ ys) ++ R) := by
        have e : mkR .z (vs ++ us) (xs ++ ys) = mkR .z vs xs ++ mkR .z us ys := by
          unfold mkR
          exact List.zipWith_append rl.length
        rw [e, List.append_assoc]; exact s4
      exact S.newL s5 (by rw [List.length_append, List.length_append, rl.length, rl2.length]) nn
    · rw [if_neg hl] at e; cases e
def fRep : D → D → Option D
  | .lst xs, .int k => if k < 100000 ∧ xs.length * k.toNat ≤ SZ ∧ -100000 < k then some (.lst (List.replicate k.toNat xs).flatten) else none
  | _, _ => none
theorem RpL.rep {vs : List V} {ds : List D} (r : RpL K cl F vs ds) : ∀ n, RpL K cl F (List.replicate n vs).flatten (List.replicate n ds).flatten
  | 0 => .nil
  | n + 1 => by
    rw [List.replicate_succ, List.replicate_succ, List.flatten_cons, List.flatten_cons]
    exact RpL.append r (RpL.rep r n)
end Dv
/-! D12: truth, built-ins, equality, isinstance, chains. -/
namespace Dv
open PySem PySem.Spec PyProof.Rows L2
variable {K : PySem.W.Frag} {cl : Cl} {F H B F0 : Hp} {C : Cq} {Γ Γ1 Γ2 Γ3 Γ4 Γ' ΓL : List W} {pos : Pos} {T R0 R : List Root} {σ σ' : L2.St} {a b c e o tg it : Expr} {es : List Expr} {x y : V}

theorem d2_rep {wa wb : W} (ha : wa.sv = true) (hb : wb.sv = true) : D2 K cl rRep wa wb fRep (.o .z) := by
  intro B F0 R H x y dx dy Q s d e h
  have r1 := S.rpv1 s hb
  have s3 : S K cl B F0 H (⟨.z, some x, dx⟩ :: R) := S.weak wa (sv_z ha) (S.drop s)
  have r2 := S.rpv1 s3 rfl
  match dx, dy, e, r1, r2, s3 with
  | .lst xs, .int k, e, r1, r2, s3 =>
    have e : (if k < 100000 ∧ xs.length * k.toNat ≤ SZ ∧ -100000 < k then some (D.lst (List.replicate k.toNat xs).flatten) else none) = some d := e
    by_cases hl : k < 100000 ∧ xs.length * k.toNat ≤ SZ ∧ -100000 < k
    · rw [if_pos hl] at e; cases e
      cases r1.to_int
      obtain ⟨p, vs, rfl, hp, rl⟩ := r2.to_lst
      refine ⟨p, k, vs, rfl, rfl, hp, by omega, by omega, by have := SZ_le; rw [rl.length]; omega, fun n nn => h _ _ (S.drop (S.swap (S.newZ s3 (fun F sb q => ?_) (rl.rep _).length nn)))⟩
      obtain ⟨p', vs', e3, hp', rl'⟩ := q.to_lst
      cases e3
      have e4 := sb _ _ hp'
      rw [hp] at e4; cases e4
      exact rl'.rep _
    · rw [if_neg hl] at e; cases e

/-! ### truth -/
def fTru : D → Option Bool
  | .non => some false
  | .bl b => some b
  | .int i => some (decide (i ≠ 0))
  | .str y => if y.length ≤ SZ then some (decide (y.length ≠ 0)) else none
  | .lst xs => some (!xs.isEmpty)
  | .tup xs => some (!xs.isEmpty)
  | _ => none
def tTru (g : GE) : GT := fun ρ => (g ρ).bind fun p => match fTru p.1 with
  | some b => .ok (b, p.2)
  | none => .stk
instance {g : GE} [Pu g] : PuT (tTru g) := ⟨fun ρ d ρ' h => by
  unfold tTru at h
  obtain ⟨p, e1, h⟩ := Res.bind_ok_of h
  split at h
  · cases h; exact Pu.pu _ _ _ e1
  · cases h⟩
theorem isEmpty_len {α β : Type} {xs : List α} {ys : List β} (h : xs.length = ys.length) : xs.isEmpty = ys.isEmpty := by
  cases xs <;> cases ys <;> simp_all
theorem Rp.tru {d : D} {k : Bool} (h : Rp K cl H x d) (e : fTru d = some k) : TruV K x H k := by
  cases h with
  | sc h =>
    cases h with
    | non => cases e; exact rfl
    | bl b => cases e; exact rfl
    | int i =>
      cases e
      show decide (i ≠ 0) = (i != 0)
      simp [bne, BEq.beq]
    | str y =>
      have e : (if y.length ≤ SZ then some (decide (y.length ≠ 0)) else none) = some k := e
      by_cases hl : y.length ≤ SZ
      · rw [if_pos hl] at e; cases e
        refine ⟨Nat.le_trans hl SZ_le, ?_⟩
        simp [bne, BEq.beq]
      · rw [if_neg hl] at e; cases e
  | lst hp rl => cases e; exact .inl ⟨_, SqL.of hp, by rw [isEmpty_len rl.length]⟩
  | tup hp rl => cases e; exact .inr (.inl ⟨_, SqT.of hp, by rw [isEmpty_len rl.length]⟩)
  | _ => cases e
theorem dt_tru {g : GE} {w : W} (he : DE C Γ e g Γ1 w) (hw : w.sv = true := by rfl) (hi : ∀ whole, isTrue e C.X.env whole = (do let v ← whole; standAt e.pos; holding [v] (truthy v)) := by intro _; rfl) : DT C Γ e (tTru g) Γ1 := by
  obtain ⟨t, p, f⟩ := he
  refine ⟨_, pt_truth p hi, fun B F0 T R0 ρ σ H Q r h => f B F0 T R0 ρ σ H _ r ?_⟩
  unfold tTru at h
  match e1 : g ρ, h with
  | .err _ _ _, h => exact h
  | .stk, h => exact h
  | .ok (d, ρ'), h =>
    intro v H' q
    simp only [Res.bind_ok] at h
    match e2 : fTru d, h with
    | none, h => exact h.elim
    | some k, h => exact ⟨k, (S.rpv1 q.s hw).tru e2, h H' (q.mapS fun {Z} s => S.drop s)⟩

/-! ### built-ins -/
def fLen : List D → Option D
  | [.lst xs] => some (.int (xs.length : Nat))
  | [.tup xs] => some (.int (xs.length : Nat))
  | [.scr xs] => some (.int (xs.length : Nat))
  | _ => none
theorem db_len {w : W} (hw : w.sv = true) : DB K cl (fun xs H Q => ∃ x n, xs = [x] ∧ LenV K x H n ∧ Q (.int n) H) [w] fLen .s := by
  intro B F0 R H vs ds Q l1 l2 s d e h
  match vs, ds, l1, l2 with
  | [v], [dv], _, _ =>
    have s : S K cl B F0 H (⟨w, some v, dv⟩ :: R) := s
    have rp := S.rpv1 s hw
    match dv, e, rp with
    | .lst xs, e, rp =>
      cases e
      obtain ⟨p, us, rfl, hp, rl⟩ := rp.to_lst
      exact ⟨_, xs.length, rfl, .inl ⟨us, SqL.of hp, rl.length.symm⟩, h _ _ (S.addS (S.drop s) (.int _))⟩
    | .tup xs, e, rp =>
      cases e
      obtain ⟨p, us, rfl, hp, rl⟩ := rp.to_tup
      exact ⟨_, xs.length, rfl, .inr ⟨us, SqT.of hp, rl.length.symm⟩, h _ _ (S.addS (S.drop s) (.int _))⟩
    | .scr xs, e, rp =>
      cases e
      cases rp with
      | sc h => cases h
      | scr hq => exact ⟨_, xs.length, rfl, .inl ⟨_, hq, by simp⟩, h _ _ (S.addS (S.drop s) (.int _))⟩
/-- ints of a list -/
def intsOf : List D → Option (List Int)
  | [] => some []
  | .int i :: xs => (intsOf xs).map fun is => i :: is
  | _ => none
theorem intsOf_eq : ∀ {xs : List D} {is : List Int}, intsOf xs = some is → xs = is.map D.int
  | [], is, h => by cases h; rfl
  | .int i :: xs, is, h => by
    have h : (intsOf xs).map (fun is => i :: is) = some is := h
    cases e : intsOf xs with
    | none => rw [e] at h; cases h
    | some js => rw [e] at h; cases h; rw [intsOf_eq e]; rfl
@[simp] theorem intsOf_map (is : List Int) : intsOf (is.map D.int) = some is := by
  induction is with
  | nil => rfl
  | cons i is ih =>
    show (intsOf (is.map D.int)).map (fun is => i :: is) = _
    rw [ih]; rfl
def intList : D → Option (List Int)
  | .lst xs => intsOf xs
  | .scr ns => some ns
  | _ => none
theorem Rp.ints {d : D} {ns : List Int} (h : Rp K cl F x d) (e : intList d = some ns) : ∃ p, x = .ref p ∧ SqL K F p (ns.map V.int) := by
  cases h with
  | sc h => cases h <;> cases e
  | lst hp rl =>
    have := intsOf_eq e
    subst this
    rw [rl.toInts] at hp
    exact ⟨_, rfl, SqL.of hp⟩
  | scr hq => cases e; exact ⟨_, rfl, hq⟩
  | _ => cases e
def fSum : List D → Option D
  | [d] => (intList d).map fun ns => .int ns.sum
  | _ => none
theorem db_sum {w : W} (hw : w.sv = true) : DB K cl (rSum K) [w] fSum .s := by
  intro B F0 R H vs ds Q l1 l2 s d e h
  match vs, ds, l1, l2 with
  | [v], [dv], _, _ =>
    have s : S K cl B F0 H (⟨w, some v, dv⟩ :: R) := s
    have rp := S.rpv1 s hw
    have e : (intList dv).map (fun ns => D.int ns.sum) = some d := e
    cases e1 : intList dv with
    | none => rw [e1] at e; cases e
    | some ns =>
      rw [e1] at e; cases e
      obtain ⟨p, rfl, hq⟩ := rp.ints e1
      exact ⟨p, ns, rfl, hq, h _ _ (S.addS (S.drop s) (.int _))⟩
def maxI : List Int → Int
  | [] => 0
  | [i] => i
  | i :: is => max i (maxI is)
def minI : List Int → Int
  | [] => 0
  | [i] => i
  | i :: is => min i (minI is)
theorem maxI_ge : ∀ {is : List Int} {j : Int}, j ∈ is → j ≤ maxI is
  | [], _, h => by simp at h
  | [i], j, h => by simp at h; subst h; exact Int.le_refl _
  | i :: k :: is, j, h => by
    show j ≤ max i (maxI (k :: is))
    rcases List.mem_cons.mp h with rfl | h
    · exact Int.le_max_left _ _
    · exact Int.le_trans (maxI_ge h) (Int.le_max_right _ _)
theorem minI_le : ∀ {is : List Int} {j : Int}, j ∈ is → minI is ≤ j
  | [], _, h => by simp at h
  | [i], j, h => by simp at h; subst h; exact Int.le_refl _
  | i :: k :: is, j, h => by
    show min i (minI (k :: is)) ≤ j
    rcases List.mem_cons.mp h with rfl | h
    · exact Int.min_le_left _ _
    · exact Int.le_trans (Int.min_le_right _ _) (minI_le h)
theorem maxI_mem : ∀ {is : List Int}, is ≠ [] → maxI is ∈ is
  | [], h => (h rfl).elim
  | [i], _ => by simp [maxI]
  | i :: k :: is, _ => by
    show max i (maxI (k :: is)) ∈ _
    rcases Int.le_total i (maxI (k :: is)) with h | h
    · rw [Int.max_eq_right h]; exact List.mem_cons_of_mem _ (maxI_mem (by simp))
    · rw [Int.max_eq_left h]; exact List.mem_cons_self
theorem minI_mem : ∀ {is : List Int}, is ≠ [] → minI is ∈ is
  | [], h => (h rfl).elim
  | [i], _ => by simp [minI]
  | i :: k :: is, _ => by
    show min i (minI (k :: is)) ∈ _
    rcases Int.le_total i (minI (k :: is)) with h | h
    · rw [Int.min_eq_left h]; exact List.mem_cons_self
    · rw [Int.min_eq_right h]; exact List.mem_cons_of_mem _ (minI_mem (by simp))
def fMax1 : List D → Option D
  | [d] => (intList d).bind fun ns => if ns = [] then none else some (.int (maxI ns))
  | _ => none
def fMin1 : List D → Option D
  | [d] => (intList d).bind fun ns => if ns = [] then none else some (.int (minI ns))
  | _ => none
theorem db_max1 {w : W} (hw : w.sv = true) : DB K cl (rMax K) [w] fMax1 .s := by
  intro B F0 R H vs ds Q l1 l2 s d e h
  match vs, ds, l1, l2 with
  | [v], [dv], _, _ =>
    have s : S K cl B F0 H (⟨w, some v, dv⟩ :: R) := s
    have rp := S.rpv1 s hw
    have e : (intList dv).bind (fun ns => if ns = [] then none else some (D.int (maxI ns))) = some d := e
    cases e1 : intList dv with
    | none => rw [e1] at e; cases e
    | some ns =>
      rw [e1] at e
      have e : (if ns = [] then none else some (D.int (maxI ns))) = some d := e
      by_cases hn : ns = []
      · rw [if_pos hn] at e; cases e
      · rw [if_neg hn] at e; cases e
        obtain ⟨p, rfl, hq⟩ := rp.ints e1
        refine ⟨p, ns, rfl, hq, List.length_pos_iff.mpr hn, fun m hm hg => ?_⟩
        have : m = maxI ns := Int.le_antisymm (maxI_ge hm) (hg _ (maxI_mem hn))
        subst this
        exact h _ _ (S.addS (S.drop s) (.int _))
theorem db_min1 {w : W} (hw : w.sv = true) : DB K cl (rMin K) [w] fMin1 .s := by
  intro B F0 R H vs ds Q l1 l2 s d e h
  match vs, ds, l1, l2 with
  | [v], [dv], _, _ =>
    have s : S K cl B F0 H (⟨w, some v, dv⟩ :: R) := s
    have rp := S.rpv1 s hw
    have e : (intList dv).bind (fun ns => if ns = [] then none else some (D.int (minI ns))) = some d := e
    cases e1 : intList dv with
    | none => rw [e1] at e; cases e
    | some ns =>
      rw [e1] at e
      have e : (if ns = [] then none else some (D.int (minI ns))) = some d := e
      by_cases hn : ns = []
      · rw [if_pos hn] at e; cases e
      · rw [if_neg hn] at e; cases e
        obtain ⟨p, rfl, hq⟩ := rp.ints e1
        refine ⟨p, ns, rfl, hq, List.length_pos_iff.mpr hn, fun m hm hg => ?_⟩
        have : m = minI ns := Int.le_antisymm (hg _ (minI_mem hn)) (minI_le hm)
        subst this
        exact h _ _ (S.addS (S.drop s) (.int _))
def fMax2 : List D → Option D
  | [.int i, .int j] => some (.int (max i j))
  | _ => none
def fMin2 : List D → Option D
  | [.int i, .int j] => some (.int (min i j))
  | _ => none
theorem two_ints {w w2 : W} {v v2 : V} {i j : Int} (hw : w.sv = true) (hw2 : w2.sv = true) (s : S K cl B F0 H (⟨w, some v, .int i⟩ :: ⟨w2, some v2, .int j⟩ :: R)) : v = .int i ∧ v2 = .int j :=
  ⟨(S.rpv1 s hw).to_int, (S.rpv1 (S.drop s) hw2).to_int⟩
theorem db_max2 {w w2 : W} (hw : w.sv = true) (hw2 : w2.sv = true) : DB K cl (fun xs H Q => ∃ i j, xs = [.int i, .int j] ∧ Q (.int (if j > i then j else i)) H) [w, w2] fMax2 .s := by
  intro B F0 R H vs ds Q l1 l2 s d e h
  match vs, ds, l1, l2 with
  | [v, v2], [d1, d2], _, _ =>
    have s : S K cl B F0 H (⟨w, some v, d1⟩ :: ⟨w2, some v2, d2⟩ :: R) := s
    match d1, d2, e, s with
    | .int i, .int j, e, s =>
      cases e
      obtain ⟨rfl, rfl⟩ := two_ints hw hw2 s
      refine ⟨i, j, rfl, ?_⟩
      have : (if j > i then j else i) = max i j := by split <;> omega
      rw [this]
      exact h _ _ (S.addS (S.drop (S.drop s)) (.int _))
theorem db_min2 {w w2 : W} (hw : w.sv = true) (hw2 : w2.sv = true) : DB K cl (fun xs H Q => ∃ i j, xs = [.int i, .int j] ∧ Q (.int (if j < i then j else i)) H) [w, w2] fMin2 .s := by
  intro B F0 R H vs ds Q l1 l2 s d e h
  match vs, ds, l1, l2 with
  | [v, v2], [d1, d2], _, _ =>
    have s : S K cl B F0 H (⟨w, some v, d1⟩ :: ⟨w2, some v2, d2⟩ :: R) := s
    match d1, d2, e, s with
    | .int i, .int j, e, s =>
      cases e
      obtain ⟨rfl, rfl⟩ := two_ints hw hw2 s
      refine ⟨i, j, rfl, ?_⟩
      have : (if j < i then j else i) = min i j := by split <;> omega
      rw [this]
      exact h _ _ (S.addS (S.drop (S.drop s)) (.int _))
def fInt : List D → Option D
  | [.int i] => some (.int i)
  | [.bl k] => some (.int (if k then 1 else 0))
  | _ => none
theorem db_int {w : W} (hw : w.sv = true) : DB K cl (fun xs H Q => (∃ i, xs = [.int i] ∧ Q (.int i) H) ∨ ∃ k, xs = [.bl k] ∧ Q (.int (if k then 1 else 0)) H) [w] fInt .s := by
  intro B F0 R H vs ds Q l1 l2 s d e h
  match vs, ds, l1, l2 with
  | [v], [dv], _, _ =>
    have s : S K cl B F0 H (⟨w, some v, dv⟩ :: R) := s
    have rp := S.rpv1 s hw
    match dv, e, rp with
    | .int i, e, rp => cases e; cases rp.to_int; exact .inl ⟨i, rfl, h _ _ (S.addS (S.drop s) (.int _))⟩
    | .bl i, e, rp => cases e; cases rp.to_bl; exact .inr ⟨i, rfl, h _ _ (S.addS (S.drop s) (.int _))⟩
def fBool : List D → Option D
  | [.int i] => some (.bl (decide (i ≠ 0)))
  | [.bl k] => some (.bl k)
  | _ => none
theorem db_bool {w : W} (hw : w.sv = true) : DB K cl (fun xs H Q => (∃ i, xs = [.int i] ∧ Q (.bl (i != 0)) H) ∨ ∃ k, xs = [.bl k] ∧ Q (.bl k) H) [w] fBool .s := by
  intro B F0 R H vs ds Q l1 l2 s d e h
  match vs, ds, l1, l2 with
  | [v], [dv], _, _ =>
    have s : S K cl B F0 H (⟨w, some v, dv⟩ :: R) := s
    have rp := S.rpv1 s hw
    match dv, e, rp with
    | .int i, e, rp =>
      cases e; cases rp.to_int
      refine .inl ⟨i, rfl, ?_⟩
      have : (i != 0) = decide (i ≠ 0) := by simp [bne, BEq.beq]
      rw [this]
      exact h _ _ (S.addS (S.drop s) (.bl _))
    | .bl i, e, rp => cases e; cases rp.to_bl; exact .inr ⟨i, rfl, h _ _ (S.addS (S.drop s) (.bl _))⟩
def fAbs : List D → Option D
  | [.int i] => some (.int (if i < 0 then -i else i))
  | _ => none
theorem db_abs {w : W} (hw : w.sv = true) : DB K cl (fun xs H Q => ∃ i, xs = [.int i] ∧ Q (.int (if i < 0 then -i else i)) H) [w] fAbs .s := by
  intro B F0 R H vs ds Q l1 l2 s d e h
  match vs, ds, l1, l2 with
  | [v], [dv], _, _ =>
    have s : S K cl B F0 H (⟨w, some v, dv⟩ :: R) := s
    have rp := S.rpv1 s hw
    match dv, e, rp with
    | .int i, e, rp => cases e; cases rp.to_int; exact ⟨i, rfl, h _ _ (S.addS (S.drop s) (.int _))⟩
/-- list(x) -/
def fList : List D → Option D
  | [.lst xs] => some (.lst xs)
  | [.tup xs] => some (.lst xs)
  | [.scr ns] => some (.lst (ns.map D.int))
  | _ => none
theorem db_list {w : W} (hw : w.sv = true) : DB K cl (fun xs H Q => ∃ p ys, xs = [.ref p] ∧ (SqL K H p ys ∨ SqT K H p ys) ∧ ∀ l, H l = none → Q (.ref l) (upd H l (.lst ys))) [w] fList (.o .z) := by
  intro B F0 R H vs ds Q l1 l2 s d e h
  match vs, ds, l1, l2 with
  | [v], [dv], _, _ =>
    have s : S K cl B F0 H (⟨.z, some v, dv⟩ :: R) := S.weak w (sv_z hw) s
    have rp := S.rpv1 s rfl
    match dv, e, rp, s with
    | .lst xs, e, rp, s =>
      cases e
      obtain ⟨p, us, rfl, hp, rl⟩ := rp.to_lst
      refine ⟨p, us, rfl, .inl (SqL.of hp), fun l nl => h _ _ (S.drop (S.swap (S.newZ s (fun F sb z => ?_) rl.length nl)))⟩
      obtain ⟨p', vs', e3, hp', rl'⟩ := z.to_lst
      cases e3
      have e4 := sb _ _ hp'
      rw [hp] at e4; cases e4
      exact rl'
    | .tup xs, e, rp, s =>
      cases e
      obtain ⟨p, us, rfl, hp, rl⟩ := rp.to_tup
      refine ⟨p, us, rfl, .inr (SqT.of hp), fun l nl => h _ _ (S.drop (S.swap (S.newZ s (fun F sb z => ?_) rl.length nl)))⟩
      obtain ⟨p', vs', e3, hp', rl'⟩ := z.to_tup
      cases e3
      have e4 := sb _ _ hp'
      rw [hp] at e4; cases e4
      exact rl'
    | .scr ns, e, rp, s =>
      cases e
      cases rp with
      | sc h => cases h
      | scr hq => exact ⟨_, _, rfl, .inl hq, fun l nl => h _ _ (S.drop (S.swap (S.newZ s (fun F sb z => RpL.ints) (by simp) nl)))⟩
/-- tuple(x) -/
def fTuple : List D → Option D
  | [.lst xs] => some (.tup xs)
  | [.tup xs] => some (.tup xs)
  | _ => none
theorem fzL_rep : ∀ n, fzL (List.replicate n .z) = true
  | 0 => rfl
  | n + 1 => by rw [List.replicate_succ]; show (true && _) = true; rw [fzL_rep n]; rfl
theorem db_tuple {w : W} (hw : w.sv = true) : DB K cl (fun xs H Q => ∃ p ys, xs = [.ref p] ∧ ((SqL K H p ys ∧ ∀ l, H l = none → Q (.ref l) (upd H l (.tup ys))) ∨ (SqT K H p ys ∧ Q (.ref p) H))) [w] fTuple .z := by
  intro B F0 R H vs ds Q l1 l2 s d e h
  match vs, ds, l1, l2 with
  | [v], [dv], _, _ =>
    have s : S K cl B F0 H (⟨.z, some v, dv⟩ :: R) := S.weak w (sv_z hw) s
    have rp := S.rpv1 s rfl
    match dv, e, rp, s with
    | .lst xs, e, rp, s =>
      cases e
      obtain ⟨p, us, rfl, hp, rl⟩ := rp.to_lst
      refine ⟨p, us, rfl, .inl ⟨SqL.of hp, fun l nl => h _ _ ?_⟩⟩
      obtain ⟨us', hu, l1, s⟩ := S.itemsL s
      rw [hp] at hu; cases hu
      exact S.frz (S.newT s (by simp [l1]) l1 nl) (fzL_rep _)
    | .tup xs, e, rp, s =>
      cases e
      obtain ⟨p, us, rfl, hp, rl⟩ := rp.to_tup
      exact ⟨p, us, rfl, .inr ⟨SqT.of hp, h _ _ s⟩⟩

/-! ### equality of data -/
mutual
def D.py : D → PyData
  | .non => .none
  | .bl b => .bool b
  | .int i => .int i
  | .str x => .str x
  | .lst xs => .list (pyL xs)
  | .tup xs => .tuple (pyL xs)
  | .scr ns => .list (ns.map PyData.int)
  | _ => .dict []
def pyL : List D → List PyData
  | [] => []
  | x :: xs => D.py x :: pyL xs
end
theorem dp_ints : ∀ {ns : List Int}, DpAll K H (ns.map V.int) (ns.map PyData.int)
  | [] => .nil
  | _ :: _ => .cons (.int _) dp_ints
mutual
theorem Rp.dp : ∀ {d : D} {v : V}, Rp K cl H v d → d.py.canLay0 = true → Dp K H v d.py
  | _, _, .sc .non, _ => .non
  | _, _, .sc (.bl _), _ => .bl _
  | _, _, .sc (.int _), _ => .int _
  | _, _, .sc (.str _), _ => .str _
  | _, _, .lst hp rl, h => by
    rw [D.py] at h ⊢
    exact .lst (SqL.of hp) (RpL.dp rl (by rw [PyData.canLay0] at h; exact h))
  | _, _, .tup hp rl, h => by
    rw [D.py] at h ⊢
    exact .tup (SqT.of hp) (RpL.dp rl (by rw [PyData.canLay0] at h; exact h))
  | _, _, .scr hq, h => by
    rw [D.py] at h ⊢
    exact .lst hq dp_ints
  | _, _, .dk _ _ _, h => by simp [D.py, PyData.canLay0] at h
  | _, _, .dt _ _ _, h => by simp [D.py, PyData.canLay0] at h
  | _, _, .ins _ _ _, h => by simp [D.py, PyData.canLay0] at h
  | _, _, .xd _ _ _, h => by simp [D.py, PyData.canLay0] at h
theorem RpL.dp : ∀ {ds : List D} {vs : List V}, RpL K cl H vs ds → PyData.canLayAll0 (pyL ds) = true → DpAll K H vs (pyL ds)
  | _, _, .nil, _ => by rw [pyL]; exact .nil
  | _, _, .cons a b, h => by
    rw [pyL] at h ⊢
    rw [PyData.canLayAll0, Bool.and_eq_true] at h
    exact .cons (Rp.dp a h.1) (RpL.dp b h.2)
end
def fEq : D → D → Option D := fun a b => if SeqAt.shaped a.py = true ∧ SeqAt.shaped b.py = true then some (.bl (PyData.eqv a.py b.py)) else none
def fNe : D → D → Option D := fun a b => if SeqAt.shaped a.py = true ∧ SeqAt.shaped b.py = true then some (.bl (!PyData.eqv a.py b.py)) else none
theorem d2_eq {wa wb : W} (ha : wa.sv = true) (hb : wb.sv = true) : D2 K cl (rEqD K) wa wb fEq .s := by
  intro B F0 R H x y dx dy Q s d e h
  have r1 := S.rpv1 s hb
  have r2 := S.rpv1 (S.drop s) ha
  unfold fEq at e
  by_cases hs : SeqAt.shaped dx.py = true ∧ SeqAt.shaped dy.py = true
  · rw [if_pos hs] at e; cases e
    exact ⟨_, _, r2.dp (SeqAt.canLay_of_shaped hs.1), r1.dp (SeqAt.canLay_of_shaped hs.2), hs.1, hs.2, h _ _ (S.addS (S.drop (S.drop s)) (.bl _))⟩
  · rw [if_neg hs] at e; cases e
theorem d2_ne {wa wb : W} (ha : wa.sv = true) (hb : wb.sv = true) : D2 K cl (rNeD K) wa wb fNe .s := by
  intro B F0 R H x y dx dy Q s d e h
  have r1 := S.rpv1 s hb
  have r2 := S.rpv1 (S.drop s) ha
  unfold fNe at e
  by_cases hs : SeqAt.shaped dx.py = true ∧ SeqAt.shaped dy.py = true
  · rw [if_pos hs] at e; cases e
    exact ⟨_, _, r2.dp (SeqAt.canLay_of_shaped hs.1), r1.dp (SeqAt.canLay_of_shaped hs.2), hs.1, hs.2, h _ _ (S.addS (S.drop (S.drop s)) (.bl _))⟩
  · rw [if_neg hs] at e; cases e
/-- is None, is not None -/
def isNon : D → Bool
  | .non => true
  | _ => false
theorem Rp.isNon {d : D} (h : Rp K cl F x d) : decide (x = .non) = isNon d := by
  cases h with
  | sc h => cases h <;> simp [Dv.isNon]
  | _ => simp [Dv.isNon]
def fIsN : D → D → Option D
  | x, .non => some (.bl (isNon x))
  | _, _ => none
def fNotN : D → D → Option D
  | x, .non => some (.bl (!isNon x))
  | _, _ => none
theorem d2_isN {wa : W} (ha : wa.sv = true) : D2 K cl (fun x y H Q => y = .non ∧ Q (.bl (decide (x = .non))) H) wa .s fIsN .s := by
  intro B F0 R H x y dx dy Q s d e h
  have r1 := S.rpv1 s rfl
  have r2 := S.rpv1 (S.drop s) ha
  cases dy with
  | non =>
    unfold fIsN at e
    cases e
    refine ⟨r1.to_non, ?_⟩
    rw [r2.isNon]
    exact h _ _ (S.addS (S.drop (S.drop s)) (.bl _))
  | _ => unfold fIsN at e; cases e
theorem d2_notN {wa : W} (ha : wa.sv = true) : D2 K cl (fun x y H Q => y = .non ∧ Q (.bl (!decide (x = .non))) H) wa .s fNotN .s := by
  intro B F0 R H x y dx dy Q s d e h
  have r1 := S.rpv1 s rfl
  have r2 := S.rpv1 (S.drop s) ha
  cases dy with
  | non =>
    unfold fNotN at e
    cases e
    refine ⟨r1.to_non, ?_⟩
    rw [r2.isNon]
    exact h _ _ (S.addS (S.drop (S.drop s)) (.bl _))
  | _ => unfold fNotN at e; cases e

/-! ### * // % ** -/
def CMulA (i j : Int) : Prop := CMul i j ∨ CMulW i j
instance {i j : Int} : Decidable (CMul i j) := by unfold CMul; infer_instance
instance {i j : Int} : Decidable (CMulW i j) := by unfold CMulW; infer_instance
instance {i j : Int} : Decidable (CMulA i j) := by unfold CMulA; infer_instance
instance {i j : Int} : Decidable (CDivW i j) := by unfold CDivW; infer_instance
instance {i j : Int} : Decidable (CPow i j) := by unfold CPow; infer_instance
theorem op_mulA {X : Cx} : OpR X (binaryOp .Mult) (rI CMulA fun i j => .int (i * j)) := opI fun _ _ _ _ _ _ _ hc q => mul_int q (hc.elim CMul.ok CMulW.ok)
abbrev fAdd : D → D → Option D := fI fun i j => .int (i + j)
abbrev fSub : D → D → Option D := fI fun i j => .int (i - j)
noncomputable abbrev fMul : D → D → Option D := fIC CMulA fun i j => .int (i * j)
noncomputable abbrev fDiv : D → D → Option D := fIC CDivW fun i j => .int (i / j)
noncomputable abbrev fMod : D → D → Option D := fIC (fun _ j => 0 < j) fun i j => .int (i % j)
noncomputable abbrev fPow : D → D → Option D := fIC CPow fun i j => .int (i ^ j.toNat)
abbrev fLt : D → D → Option D := fI fun i j => .bl (decide (i < j))
abbrev fLe : D → D → Option D := fI fun i j => .bl (decide (i ≤ j))
abbrev fGt : D → D → Option D := fI fun i j => .bl (decide (j < i))
abbrev fGe : D → D → Option D := fI fun i j => .bl (decide (j ≤ i))
section
variable {wa wb : W}
theorem d2_add (ha : wa.sv = true) (hb : wb.sv = true) : D2 K cl (rI0 fun i j => .int (i + j)) wa wb fAdd .s := d2_I ha hb fun _ _ => .int _
theorem d2_sub (ha : wa.sv = true) (hb : wb.sv = true) : D2 K cl (rI0 fun i j => .int (i - j)) wa wb fSub .s := d2_I ha hb fun _ _ => .int _
theorem d2_mul (ha : wa.sv = true) (hb : wb.sv = true) : D2 K cl (rI CMulA fun i j => .int (i * j)) wa wb fMul .s := d2_IC ha hb (fun _ _ h => h) fun _ _ _ => .int _
theorem d2_div (ha : wa.sv = true) (hb : wb.sv = true) : D2 K cl (rI CDivW fun i j => .int (i / j)) wa wb fDiv .s := d2_IC ha hb (fun _ _ h => h) fun _ _ _ => .int _
theorem d2_mod (ha : wa.sv = true) (hb : wb.sv = true) : D2 K cl (rI (fun _ j => 0 < j) fun i j => .int (i % j)) wa wb fMod .s := d2_IC ha hb (fun _ _ h => h) fun _ _ _ => .int _
theorem d2_pow (ha : wa.sv = true) (hb : wb.sv = true) : D2 K cl (rI CPow fun i j => .int (i ^ j.toNat)) wa wb fPow .s := d2_IC ha hb (fun _ _ h => h) fun _ _ _ => .int _
theorem d2_lt (ha : wa.sv = true) (hb : wb.sv = true) : D2 K cl (rI0 fun i j => .bl (decide (i < j))) wa wb fLt .s := d2_I ha hb fun _ _ => .bl _
theorem d2_le (ha : wa.sv = true) (hb : wb.sv = true) : D2 K cl (rI0 fun i j => .bl (decide (i ≤ j))) wa wb fLe .s := d2_I ha hb fun _ _ => .bl _
theorem d2_gt (ha : wa.sv = true) (hb : wb.sv = true) : D2 K cl (rI0 fun i j => .bl (decide (j < i))) wa wb fGt .s := d2_I ha hb fun _ _ => .bl _
theorem d2_ge (ha : wa.sv = true) (hb : wb.sv = true) : D2 K cl (rI0 fun i j => .bl (decide (j ≤ i))) wa wb fGe .s := d2_I ha hb fun _ _ => .bl _
end
/-! ### chains -/
theorem S.dupsv {w : W} {v : V} {d : D} (hw : w.sv = true) (h : S K cl B F0 H (⟨w, some v, d⟩ :: R)) : S K cl B F0 H (⟨w, some v, d⟩ :: ⟨w, some v, d⟩ :: R) := by
  cases w with
  | s => exact S.dups h
  | z => exact S.dupz h
  | _ => cases hw
theorem chain_core {r r' : R2} {ta tb tc : TE} {ga gb gc : GE} {wa wb wc w w' : W} {f f' : D → D → Option D} (hd : D2 C.X.K C.cl r wa wb f w) (hd' : D2 C.X.K C.cl r' wb wc f' .s) (hw : w.sv = true) (hb : wb.sv = true)
    (fa : ∀ (B F0 : Hp) (T R0 : List Root) (ρ : En) (σ : L2.St) (H : Hp) (Q : VK), RelC C B F0 (T ++ R0) Γ ρ σ H → PostE C B F0 T R0 Γ1 wa σ Q (ga ρ) → ta σ H Q)
    (fb : ∀ (B F0 : Hp) (T R0 : List Root) (ρ : En) (σ : L2.St) (H : Hp) (Q : VK), RelC C B F0 (T ++ R0) Γ1 ρ σ H → PostE C B F0 T R0 Γ2 wb σ Q (gb ρ) → tb σ H Q)
    (fc : ∀ (B F0 : Hp) (T R0 : List Root) (ρ : En) (σ : L2.St) (H : Hp) (Q : VK), RelC C B F0 (T ++ R0) Γ2 ρ σ H → PostE C B F0 T R0 Γ3 wc σ Q (gc ρ) → tc σ H Q)
    (l : leL Γ2 Γ3 = true)
    (B F0 : Hp) (T R0 : List Root) (ρ : En) (σ : L2.St) (H : Hp) (Q : VK) (rr : RelC C B F0 (T ++ R0) Γ ρ σ H) (h : PostE C B F0 T R0 Γ3 .s σ Q (gCh f f' ga gb gc ρ)) : tChain r r' ta tb tc σ H Q := by
  refine fa B F0 T R0 ρ σ H _ rr ?_
  unfold gCh at h
  match e1 : ga ρ, h with
  | .err c fs ρ', h => exact h
  | .stk, h => exact h
  | .ok (dx, ρ1), h =>
    intro x H1 r1
    refine fb B F0 (⟨wa, some x, dx⟩ :: T) R0 ρ1 σ H1 _ r1 ?_
    simp only [Res.bind_ok] at h
    match e2 : gb ρ1, h with
    | .err c fs ρ', h => exact h
    | .stk, h => exact h
    | .ok (dy, ρ2), h =>
      intro y H2 r2
      simp only [Res.bind_ok] at h
      have s2 : S C.X.K C.cl B F0 H2 (⟨wb, some y, dy⟩ :: ⟨wa, some x, dx⟩ :: (⟨wb, some y, dy⟩ :: ((T ++ R0) ++ zr Γ2 σ ρ2))) := (S.dupsv hb r2.s).perm (by
        refine List.Perm.cons _ ?_
        exact List.Perm.swap _ _ _)
      match e3 : f dx dy, h with
      | none, h => exact h.elim
      | some (.bl true), h =>
        refine hd B F0 _ H2 x y dx dy _ s2 _ e3 fun v H3 s3 => ⟨true, (S.rpv1 s3 hw).to_bl, ?_⟩
        rw [if_pos rfl]
        have r3 : RelC C B F0 ((⟨wb, some y, dy⟩ :: T) ++ R0) Γ2 ρ2 σ H3 := ⟨S.drop s3, r2.l1, r2.l2⟩
        refine fc B F0 (⟨wb, some y, dy⟩ :: T) R0 ρ2 σ H3 _ r3 ?_
        dsimp only at h
        match e4 : gc ρ2, h with
        | .err c fs ρ', h => exact h
        | .stk, h => exact h
        | .ok (dz, ρ3), h =>
          intro z H4 r4
          simp only [Res.bind_ok] at h
          match e5 : f' dy dz, h with
          | none, h => exact h.elim
          | some d, h => exact hd' B F0 _ H4 y z dy dz Q r4.s d e5 fun v H5 s => h v H5 ⟨s, r4.l1, r4.l2⟩
      | some (.bl false), h =>
        refine hd B F0 _ H2 x y dx dy _ s2 _ e3 fun v H3 s3 => ⟨false, (S.rpv1 s3 hw).to_bl, ?_⟩
        rw [if_neg (by simp)]
        have r3 : RelC C B F0 (T ++ R0) Γ2 ρ2 σ H3 := ⟨S.drop (S.drop s3), r2.l1, r2.l2⟩
        exact h _ H3 ((r3.weak l).mapS fun {Z} s => S.addS s (.bl false))
theorem de_chain {op op' : CmpOp} {r r' : R2} {ga gb gc : GE} {wa wb wc w : W} {f f' : D → D → Option D} (ho : OpR C.X (compareOp op) r) (ho' : OpR C.X (compareOp op') r') (hd : D2 C.X.K C.cl r wa wb f w) (hd' : D2 C.X.K C.cl r' wb wc f' .s) (ha : DE C Γ a ga Γ1 wa) (hb : DE C Γ1 b gb Γ2 wb) (hc : DE C Γ2 c gc Γ3 wc)
    (l : leL Γ2 Γ3 = true) (hw : w.sv = true := by rfl) (hwb : wb.sv = true := by rfl) (hm : lastMarks [op, op'] [b, c] = false := by with_unfolding_all rfl) : DE C Γ (.Compare a [op, op'] [b, c] pos) (gCh f f' ga gb gc) Γ3 .s := by
  obtain ⟨ta, pa, fa⟩ := ha
  obtain ⟨tb, pb, fb⟩ := hb
  obtain ⟨tc, pc, fc⟩ := hc
  exact ⟨_, pe_chain ho ho' pa pb pc hm, chain_core (w' := .s) hd hd' hw hwb fa fb fc l⟩
theorem dt_chain {op op' : CmpOp} {r r' : R2} {ga gb gc : GE} {wa wb wc w : W} {f f' : D → D → Option D} (ho : OpR C.X (compareOp op) r) (ho' : OpR C.X (compareOp op') r') (hd : D2 C.X.K C.cl r wa wb f w) (hd' : D2 C.X.K C.cl r' wb wc f' .s) (ha : DE C Γ a ga Γ1 wa) (hb : DE C Γ1 b gb Γ2 wb) (hc : DE C Γ2 c gc Γ3 wc)
    (l : leL Γ2 Γ3 = true) (hw : w.sv = true := by rfl) (hwb : wb.sv = true := by rfl) (hm : lastMarks [op, op'] [b, c] = false := by with_unfolding_all rfl) : DT C Γ (.Compare a [op, op'] [b, c] pos) (tVal (gCh f f' ga gb gc)) Γ3 := by
  obtain ⟨ta, pa, fa⟩ := ha
  obtain ⟨tb, pb, fb⟩ := hb
  obtain ⟨tc, pc, fc⟩ := hc
  exact dt_of (w := .s) (t := tChain r r' ta tb tc) (pt_chain ho ho' pa pb pc hm) rfl (fun _ _ _ h => h) (chain_core (w' := .s) hd hd' hw hwb fa fb fc l)
instance {f f' : D → D → Option D} {ga gb gc : GE} [Pu ga] [Pu gb] [Pu gc] : Pu (gCh f f' ga gb gc) := ⟨fun ρ d ρ' h => by
  unfold gCh at h
  obtain ⟨p, e1, h⟩ := Res.bind_ok_of h
  obtain ⟨q, e2, h⟩ := Res.bind_ok_of h
  have k1 := Pu.pu _ _ _ e1
  have k2 := Pu.pu _ _ _ e2
  split at h
  · obtain ⟨r, e3, h⟩ := Res.bind_ok_of h
    have k3 := Pu.pu _ _ _ e3
    split at h
    · cases h; rw [k3, k2, k1]
    · cases h
  · cases h; rw [k2, k1]
  · cases h⟩
end Dv
/-! D13: places, changes in place, isinstance, while. -/
namespace Dv
open PySem PySem.Spec PyProof.Rows L2
variable {K : PySem.W.Frag} {cl : Cl} {F H B F0 : Hp} {C : Cq} {Γ Γ1 Γ2 Γ3 Γ4 Γ' ΓL : List W} {pos : Pos} {T R0 R : List Root} {σ σ' : L2.St} {a b c e o ix tg it : Expr} {es : List Expr} {x y : V}

/-! ### places -/
/-- e is a place within slot i: what stands there, owned as w, and how the slot looks when it is changed -/
def DPl (C : Cq) (Γ : List W) (e : Expr) (i : Nat) (wi w : W) (g : En → Res (D × (D → D))) : Prop := ∃ t, PE C.X e t ∧ ∀ (B F0 : Hp) (T R0 : List Root) (ρ : En) (σ : L2.St) (H : Hp) (Q : VK),
  RelC C B F0 (T ++ R0) Γ ρ σ H → (match g ρ with
    | .ok (d, put) => ∀ v Z H1, RelC C B F0 (⟨w, some v, d⟩ :: (Z ++ (T ++ R0))) (Γ.set i .u) ρ σ H1 →
        (∀ H' d' ρ' Γ' Y, RelC C B F0 (⟨w, some v, d'⟩ :: (Z ++ Y)) Γ' ρ' σ H' → RelC C B F0 Y (Γ'.set i wi) (ρ'.set i (put d')) σ H') → Q v H1
    | _ => False) → t σ H Q
def plVar (i : Nat) : En → Res (D × (D → D)) := fun ρ => .ok (ρ.getD i .non, id)
theorem Rel.gone {w : W} {i : Nat} {ρ : En} (h : Rel K cl B F0 R Γ ρ σ H) (e : Γ[i]? = some (.o w) ∨ ∃ ws, Γ[i]? = some (.t ws)) : ∃ v, σ[i]? = some (some v) := by
  rcases e with e | ⟨ws, e⟩
  · obtain ⟨v, d, e1, e2, r⟩ := h.out e
    obtain ⟨F, A, r, _⟩ := r.s
    cases r with
    | cons a b dj =>
      cases a with
      | l => exact ⟨_, e1⟩
      | dk => exact ⟨_, e1⟩
      | dt => exact ⟨_, e1⟩
  · obtain ⟨v, d, e1, e2, r⟩ := h.out e
    obtain ⟨F, A, r, _⟩ := r.s
    cases r with
    | cons a b dj =>
      cases a with
      | t => exact ⟨_, e1⟩
      | i => exact ⟨_, e1⟩
def isOT : W → Bool
  | .o _ => true
  | .t _ => true
  | _ => false
theorem pl_var {i : Nat} {nm : Str} {w : W} (hN : C.X.N[i]? = some nm) (hv : Vis C.X.env.scope nm) (ew : Γ[i]? = some w) (hw : isOT w = true) (hd : (nm == ("__debug__" : Str)) = false := by decide) (hcd : (nm == ("__classdict__" : Str)) = false := by decide) :
    DPl C Γ (.Name nm pos) i w w (plVar i) := by
  refine ⟨_, pe_var hN hv hd hcd, fun B F0 T R0 ρ σ H Q r h => ?_⟩
  obtain ⟨v, d, e1, e2, r2⟩ := r.out ew
  have : ∃ v', v = some v' := by
    have := r.gone (i := i) (w := match w with | .o w => w | _ => .u) (by
      match w, hw with
      | .o w, _ => exact .inl ew
      | .t ws, _ => exact .inr ⟨ws, ew⟩)
    rw [e1] at this
    obtain ⟨v', e⟩ := this
    exact ⟨v', by simpa using e⟩
  obtain ⟨v', rfl⟩ := this
  refine ⟨v', e1, h v' [] H ?_ fun H' d' ρ' Γ' Y q => ?_⟩
  · show RelC C B F0 (⟨w, some v', ρ.getD i .non⟩ :: ([] ++ (T ++ R0))) _ _ _ _
    rw [getD_of e2]; exact r2
  · have q2 := Rel.into (R := Y) (by simpa using q) i
    rw [List.set_same e1] at q2
    exact q2
def plFld (c k : Nat) (g : En → Res (D × (D → D))) : En → Res (D × (D → D)) := fun ρ => (g ρ).bind fun p => match p.1 with
  | .ins c' fs => if c' = c then (match fs[k]? with
    | some d => .ok (d, fun d' => p.2 (.ins c (fs.set k d')))
    | none => .stk) else .stk
  | _ => .stk
theorem mkT_at {w : W} {v : V} {d : D} : ∀ {ws : List W} {vs : List V} {ds : List D} {k : Nat}, ws.length = vs.length → vs.length = ds.length → ws[k]? = some w → vs[k]? = some v → ds[k]? = some d →
    ∃ R1 R2, mkT ws vs ds = R1 ++ ⟨w, some v, d⟩ :: R2 ∧ ∀ d', mkT ws vs (ds.set k d') = R1 ++ ⟨w, some v, d'⟩ :: R2
  | [], _, _, _, _, _, h, _, _ => by simp at h
  | _ :: _, [], _, _, h, _, _, _, _ => by simp at h
  | _ :: _, _ :: _, [], _, _, h, _, _, _ => by simp at h
  | w0 :: ws, v0 :: vs, d0 :: ds, 0, _, _, e1, e2, e3 => by
    simp at e1 e2 e3
    subst e1 e2 e3
    exact ⟨[], mkT ws vs ds, rfl, fun _ => rfl⟩
  | w0 :: ws, v0 :: vs, d0 :: ds, k + 1, a, b, e1, e2, e3 => by
    obtain ⟨R1, R2, q1, q2⟩ := mkT_at (w := w) (v := v) (d := d) (ws := ws) (vs := vs) (ds := ds) (k := k) (by simpa using a) (by simpa using b) (by simpa using e1) (by simpa using e2) (by simpa using e3)
    refine ⟨⟨w0, some v0, d0⟩ :: R1, R2, by simp [mkT, q1], fun d' => ?_⟩
    simp only [List.set_cons_succ, mkT, q2, List.cons_append]
theorem mkR_at {w : W} {v : V} {d : D} : ∀ {vs : List V} {ds : List D} {k : Nat}, vs.length = ds.length → vs[k]? = some v → ds[k]? = some d →
    ∃ R1 R2, mkR w vs ds = R1 ++ ⟨w, some v, d⟩ :: R2 ∧ ∀ v' d', mkR w (vs.set k v') (ds.set k d') = R1 ++ ⟨w, some v', d'⟩ :: R2
  | [], _, _, _, h, _ => by simp at h
  | _ :: _, [], _, h, _, _ => by simp at h
  | v0 :: vs, d0 :: ds, 0, _, e2, e3 => by
    simp at e2 e3
    subst e2 e3
    exact ⟨[], mkR w vs ds, by simp [mkR], fun _ _ => by simp [mkR]⟩
  | v0 :: vs, d0 :: ds, k + 1, b, e2, e3 => by
    obtain ⟨R1, R2, q1, q2⟩ := mkR_at (w := w) (v := v) (d := d) (vs := vs) (ds := ds) (k := k) (by simpa using b) (by simpa using e2) (by simpa using e3)
    refine ⟨⟨w, some v0, d0⟩ :: R1, R2, ?_, fun v' d' => ?_⟩
    · unfold mkR at q1 ⊢; simp [q1]
    · have := q2 v' d'
      unfold mkR at this ⊢
      simp [this]
/-- place.f -/
theorem pl_fld {i ci k : Nat} {wi w : W} {ws : List W} {f : Str} {g : En → Res (D × (D → D))} (hp : DPl C Γ e i wi (.t ws) g) (ew : ws[k]? = some w) (cd : ClsD C.X.K C.cl ci) (na : NoAttr C.X.K (C.cl.ad ci) f) (hk : (C.cl.lay ci)[k]? = some f) (hb : attributeBase e f C.X.env (eval e C.X.env) = eval e C.X.env := by rfl) :
    DPl C Γ (.Attribute e f pos) i wi w (plFld ci k g) := by
  obtain ⟨t, p, fe⟩ := hp
  refine ⟨_, pe_fld p hb, fun B F0 T R0 ρ σ H Q r h => fe B F0 T R0 ρ σ H _ r ?_⟩
  unfold plFld at h
  match e1 : g ρ, h with
  | .err _ _ _, h => exact h
  | .stk, h => exact h
  | .ok (d, put), h =>
    simp only [Res.bind_ok] at h
    match d, h with
    | .ins c' ds, h =>
      dsimp only at h
      by_cases hc : c' = ci
      · subst hc
        rw [if_pos rfl] at h
        match e2 : ds[k]?, h with
        | none, h => exact h.elim
        | some d, h =>
          intro v Z H0 r1 bk
          obtain ⟨pa, dx, fs, ev, hpa, en, l1, l2, s3⟩ := S.openI r1.s
          cases ev
          have hkl : k < ds.length := (List.getElem?_eq_some_iff.mp e2).1
          have hkf : k < fs.length := by omega
          obtain ⟨v, evv⟩ : ∃ v, (fs.map (·.2))[k]? = some v := ⟨_, List.getElem?_eq_getElem (by rw [List.length_map]; exact hkf)⟩
          have ek : (fs.map (·.1))[k]? = some f := by rw [en, List.getElem?_take_of_lt hkf]; exact hk
          have nd : (fs.map (·.1)).Nodup := by rw [en]; exact List.Nodup.sublist (List.take_sublist _ _) cd.nd
          obtain ⟨R1, R2, q1, q2⟩ := mkT_at (w := w) (v := v) (d := d) (ws := ws) (vs := fs.map (·.2)) (ds := ds) (k := k) (by rw [List.length_map]; exact l1) (by rw [List.length_map]; exact l2) ew evv e2
          refine ⟨pa, C.cl.ad c', dx, fs, v, rfl, hpa, cd.cls, na, lookup_at nd ek evv, h v (⟨.c (.ins (C.cl.ad c') dx fs), some (.ref pa), .non⟩ :: (R1 ++ R2 ++ Z)) H0 ⟨?_, r1.l1, r1.l2⟩ fun H' d' ρ' Γ' Y q => ?_⟩
          · rw [q1] at s3
            have s4 : S C.X.K C.cl B F0 H0 (⟨.c (.ins (C.cl.ad c') dx fs), some (.ref pa), .non⟩ :: ((R1 ++ ⟨w, some v, d⟩ :: R2) ++ (Z ++ (T ++ R0) ++ zr (Γ.set i .u) σ ρ))) := s3
            refine s4.perm ?_
            simp only [List.append_assoc, List.cons_append]
            exact (List.Perm.cons _ List.perm_middle).trans (List.Perm.swap _ _ _)
          · refine bk H' (.ins c' (ds.set k d')) ρ' Γ' Y ⟨?_, q.l1, q.l2⟩
            refine S.closeI (d := .non) (fs := fs) (dx := dx) ?_ en l1 (by rw [List.length_set]; exact l2)
            rw [q2]
            show S _ _ _ _ _ (_ :: (_ ++ ((Z ++ Y) ++ zr Γ' σ ρ')))
            refine q.s.perm ?_
            simp only [List.append_assoc, List.cons_append]
            refine (List.Perm.swap _ _ _).trans (List.Perm.cons _ ?_)
            exact List.perm_middle.symm
      · rw [if_neg hc] at h; exact h.elim
def plIx (g : En → Res (D × (D → D))) (gi : GE) : En → Res (D × (D → D)) := fun ρ => (g ρ).bind fun p => match p.1 with
  | .lst xs => (match gi ρ with
    | .ok (.int j, _) => (match ixN xs.length j with
      | some k => (match xs[k]? with
        | some d => .ok (d, fun d' => p.2 (.lst (xs.set k d')))
        | none => .stk)
      | none => .stk)
    | _ => .stk)
  | _ => .stk
/-- place[ix] -/
theorem pl_ix {i : Nat} {wi w wx : W} {g : En → Res (D × (D → D))} {gi : GE} [Pu gi] (hp : DPl C Γ e i wi (.o w) g) (hi : DE C (Γ.set i .u) ix gi Γ' wx) (hw : wx.sv = true) (l : leL Γ' (Γ.set i .u) = true) (hs : PlainIx ix := by intro _ _; rfl) :
    DPl C Γ (.Subscript e ix pos) i wi w (plIx g gi) := by
  obtain ⟨t, p, fe⟩ := hp
  obtain ⟨u, pu, fi⟩ := hi
  refine ⟨_, pe_ix ix_list p pu hs, fun B F0 T R0 ρ σ H Q r h => fe B F0 T R0 ρ σ H _ r ?_⟩
  unfold plIx at h
  match e1 : g ρ, h with
  | .err _ _ _, h => exact h
  | .stk, h => exact h
  | .ok (d, put), h =>
    simp only [Res.bind_ok] at h
    match d, h with
    | .lst xs, h =>
      dsimp only at h
      intro v Z H0 r1 bk
      refine fi B F0 (⟨.o w, some v, .lst xs⟩ :: (Z ++ T)) R0 ρ σ H0 _ (by simpa using r1) ?_
      match e2 : gi ρ, h with
      | .err _ _ _, h => exact h.elim
      | .stk, h => exact h.elim
      | .ok (.int j, ρ1), h2 =>
        have := Pu.pu _ _ _ e2
        subst this
        dsimp only at h2
        intro y H1 r2
        have ry := (S.rpv1 r2.s hw).to_int
        subst ry
        match e3 : ixN xs.length j, h2 with
        | none, h2 => exact h2.elim
        | some k, h2 =>
          dsimp only at h2
          match e4 : xs[k]?, h2 with
          | none, h2 => exact h2.elim
          | some d, h2 =>
            have r3 : RelC C B F0 (⟨.o w, some v, .lst xs⟩ :: (Z ++ (T ++ R0))) (Γ.set i .u) ρ1 σ H1 := ((r2.weak l).mapS fun {Z} s => S.drop s).perm (by simp)
            obtain ⟨pa, vs, ev, hpa, len, s3⟩ := S.openL r3.s
            cases ev
            have hk : k < vs.length := by rw [len]; exact (List.getElem?_eq_some_iff.mp e4).1
            have evv : vs[k]? = some vs[k] := List.getElem?_eq_getElem hk
            obtain ⟨R1, R2, q1, q2⟩ := mkR_at (w := w) (v := vs[k]) (d := d) len evv e4
            refine ⟨pa, vs, j, vs[k], rfl, rfl, SqL.of hpa, by unfold atI; rw [len, e3]; exact evv, h2 vs[k] (⟨.c (.lst vs), some (.ref pa), .non⟩ :: (R1 ++ R2 ++ Z)) H1 ⟨?_, r3.l1, r3.l2⟩ fun H' d' ρ' Γ' Y q => ?_⟩
            · rw [q1] at s3
              have s4 : S C.X.K C.cl B F0 H1 (⟨.c (.lst vs), some (.ref pa), .non⟩ :: ((R1 ++ ⟨w, some vs[k], d⟩ :: R2) ++ (Z ++ (T ++ R0) ++ zr (Γ.set i .u) σ ρ1))) := s3
              refine s4.perm ?_
              simp only [List.append_assoc, List.cons_append]
              exact (List.Perm.cons _ List.perm_middle).trans (List.Perm.swap _ _ _)
            · refine bk H' (.lst (xs.set k d')) ρ' Γ' Y ⟨?_, q.l1, q.l2⟩
              refine S.closeL (d := .non) (vs := vs) (ds := xs.set k d') ?_ (by rw [List.length_set]; exact len)
              have := q2 vs[k] d'
              rw [List.set_same evv] at this
              rw [this]
              show S _ _ _ _ _ (_ :: (_ ++ ((Z ++ Y) ++ zr Γ' σ ρ')))
              refine q.s.perm ?_
              simp only [List.append_assoc, List.cons_append]
              refine (List.Perm.swap _ _ _).trans (List.Perm.cons _ ?_)
              exact List.perm_middle.symm
      | .ok (.non, _), h => exact h.elim
      | .ok (.bl _, _), h => exact h.elim
      | .ok (.str _, _), h => exact h.elim
      | .ok (.lst _, _), h => exact h.elim
      | .ok (.tup _, _), h => exact h.elim
      | .ok (.dic _ _, _), h => exact h.elim
      | .ok (.ins _ _, _), h => exact h.elim
      | .ok (.exc _ _, _), h => exact h.elim
      | .ok (.scr _, _), h => exact h.elim
/-- nothing changed, nothing changes -/
class PlId (i : Nat) (g : En → Res (D × (D → D))) : Prop where
  pid : ∀ ρ d put, g ρ = .ok (d, put) → put d = ρ.getD i .non
instance {i : Nat} : PlId i (plVar i) := ⟨fun ρ d put h => by unfold plVar at h; cases h; rfl⟩
instance {i c k : Nat} {g : En → Res (D × (D → D))} [PlId i g] : PlId i (plFld c k g) := ⟨fun ρ d put h => by
  unfold plFld at h
  obtain ⟨⟨d0, put0⟩, e1, h⟩ := Res.bind_ok_of h
  have k1 := PlId.pid (i := i) _ _ _ e1
  dsimp only at h
  split at h
  · split at h
    · rename_i hc
      subst hc
      split at h
      · rename_i e2
        cases h
        dsimp only
        rw [List.set_same e2]; exact k1
      · cases h
    · cases h
  · cases h⟩
instance {i : Nat} {g : En → Res (D × (D → D))} {gi : GE} [PlId i g] : PlId i (plIx g gi) := ⟨fun ρ d put h => by
  unfold plIx at h
  obtain ⟨⟨d0, put0⟩, e1, h⟩ := Res.bind_ok_of h
  have k1 := PlId.pid (i := i) _ _ _ e1
  dsimp only at h
  split at h
  · split at h
    · split at h
      · split at h
        · rename_i e2
          cases h
          dsimp only
          rw [List.set_same e2]; exact k1
        · cases h
      · cases h
    · cases h
  · cases h⟩
/-- what stands at a place, read: a copy of what is shared or a scalar -/
def gPl (g : En → Res (D × (D → D))) : GE := fun ρ => match g ρ with
  | .ok p => .ok (p.1, ρ)
  | _ => .stk
instance {g : En → Res (D × (D → D))} : Pu (gPl g) := ⟨fun ρ d ρ' h => by
  unfold gPl at h
  split at h
  · cases h; rfl
  · cases h⟩
theorem de_pl {i : Nat} {wi w : W} {g : En → Res (D × (D → D))} [PlId i g] (hp : DPl C Γ e i wi w g) (ew : Γ[i]? = some wi) (hw : w.sv = true) : DE C Γ e (gPl g) Γ w := by
  obtain ⟨t, p, fe⟩ := hp
  refine ⟨t, p, fun B F0 T R0 ρ σ H Q r h => fe B F0 T R0 ρ σ H Q r ?_⟩
  unfold gPl at h
  match e1 : g ρ, h with
  | .err _ _ _, h => exact h
  | .stk, h => exact h
  | .ok (d, put), h =>
    intro v Z H1 r1 bk
    have a2 := PlId.pid (i := i) _ _ _ e1
    obtain ⟨v0, d0, b1, b2, _⟩ := r.out ew
    have q : RelC C B F0 (⟨w, some v, d⟩ :: (Z ++ (⟨w, some v, d⟩ :: (T ++ R0)))) (Γ.set i .u) ρ σ H1 := (r1.mapS (R' := ⟨w, some v, d⟩ :: ⟨w, some v, d⟩ :: (Z ++ (T ++ R0))) fun {Z} s => S.dupsv hw s).perm (List.Perm.cons _ List.perm_middle.symm)
    have q2 := bk H1 d ρ (Γ.set i .u) (⟨w, some v, d⟩ :: (T ++ R0)) q
    rw [List.set_set, List.set_same ew, a2, getD_of b2, List.set_same b2] at q2
    exact h v H1 q2

/-! ### changes in place -/
/-- an item set -/
theorem S.setL {w : W} {v l : V} {d : D} {ds : List D} {k : Nat} (h : S K cl B F0 H (⟨w, some v, d⟩ :: ⟨.o w, some l, .lst ds⟩ :: R)) (hk : k < ds.length) :
    ∃ p vs, l = .ref p ∧ H p = some (.lst vs) ∧ vs.length = ds.length ∧ S K cl B F0 (upd H p (.lst (vs.set k v))) (⟨.o w, some (.ref p), .lst (ds.set k d)⟩ :: R) := by
  obtain ⟨p, vs, ev, hp, len, s⟩ := S.openL (S.swap h)
  cases ev
  refine ⟨p, vs, rfl, hp, len, ?_⟩
  have evv : vs[k]? = some vs[k] := List.getElem?_eq_getElem _
  have ed : ds[k]? = some ds[k] := List.getElem?_eq_getElem hk
  obtain ⟨R1, R2, q1, q2⟩ := mkR_at (w := w) len evv ed
  refine S.closeL (d := .non) (vs := vs.set k v) (ds := ds.set k d) ?_ (by simp [len])
  rw [q2]
  have s1 := S.rawSet (o' := .lst (vs.set k v)) (d' := .non) s
  rw [q1] at s1
  have s2 := S.drop (s1.perm (R' := ⟨w, some vs[k], ds[k]⟩ :: ⟨.c (.lst (vs.set k v)), some (.ref p), .non⟩ :: (R1 ++ (R2 ++ (⟨w, some v, d⟩ :: R)))) (by
    rw [List.append_assoc, List.cons_append]
    exact (List.Perm.cons _ List.perm_middle).trans (List.Perm.swap _ _ _)))
  refine s2.perm (List.Perm.cons _ ?_)
  rw [List.append_assoc, List.cons_append]
  exact List.Perm.append_left _ List.perm_middle
def sApp (i : Nat) (g : En → Res (D × (D → D))) (ge : GE) : GS := fun ρ => match g ρ with
  | .ok (.lst xs, put) => (ge ρ).bind fun q => if xs.length < SZ then .ok (.nx, q.2.set i (put (.lst (xs ++ [q.1])))) else .stk
  | _ => .stk
/-- place.append(e) -/
theorem ds_append {i : Nat} {wi we w2 : W} {g : En → Res (D × (D → D))} {ge : GE} {apos cpos : Pos} (hp : DPl C Γ o i wi (.o we) g) (he : DE C (Γ.set i .u) e ge Γ2 w2) (lw : leW w2 we = true)
    (hs : swapsWith (.Call (.Attribute o "append" apos) [e] [] cpos) none pos.line C.X.env = pure false := by rfl)
    (hbase : attributeBase o "append" C.X.env (eval o C.X.env) = eval o C.X.env := by rfl)
    (hfew : ((backTo cpos (starEach [e] C.X.env)).all (fun x => !x.1) && (backToKw cpos (keywordEach [] C.X.env)).all (fun x => x.1.isSome)
      && decide ([e].length + ([] : List Keyword).length + (if ([] : List Keyword).isEmpty then 0 else 1) < 30)) = true := by rfl)
    (hline : (apos.endLine == cpos.line) = true := by rfl) (hst : starEach [e] C.X.env = (false, eval e C.X.env) :: starEach [] C.X.env := by rfl) :
    DS C Γ (.Expr (.Call (.Attribute o "append" apos) [e] [] cpos) pos) (sApp i g ge) (Γ2.set i wi) := by
  obtain ⟨t, p, fo⟩ := hp
  obtain ⟨u, pu, fe⟩ := he
  refine ⟨_, ps_expr (pe_bm PySem.F.plainAttrs_list PySem.F.slot_list_append PySem.F.type_list_append mt_append p (pa_cons pu pa_nil hst) hbase hfew hline hst) hs, fun B F0 R0 ρ σ H D r h => fo B F0 [] R0 ρ σ H _ r ?_⟩
  unfold sApp at h
  match e1 : g ρ, h with
  | .err _ _ _, h => exact h
  | .stk, h => exact h
  | .ok (dl, put), h =>
    match dl, h with
    | .lst xs, h =>
      intro v Z H1 r1 bk
      dsimp only at h
      obtain ⟨pa, vs, ev, hpa, len, _⟩ := S.openL r1.s
      cases ev
      refine ⟨.inl ⟨rfl, vs, SqL.of hpa⟩, ?_⟩
      refine fe B F0 (⟨.o we, some (.ref pa), .lst xs⟩ :: Z) R0 ρ σ H1 _ (by simpa using r1) ?_
      match e2 : ge ρ, h with
      | .err c fs ρ', h => exact h σ .refl
      | .stk, h => exact h
      | .ok (d, ρ1), h =>
        intro y H2 r2
        simp only [Res.bind_ok] at h
        by_cases hl : xs.length < SZ
        · rw [if_pos hl] at h
          have r3 : RelC C B F0 (⟨we, some y, d⟩ :: ⟨.o we, some (.ref pa), .lst xs⟩ :: (Z ++ R0)) Γ2 ρ1 σ H2 := (r2.mapS (R' := ⟨we, some y, d⟩ :: (⟨.o we, some (.ref pa), .lst xs⟩ :: (Z ++ R0))) fun {Z} s => S.weak w2 lw (by simpa using s))
          obtain ⟨p', vs', ev', hp', len', s4⟩ := S.snoc r3.s
          cases ev'
          refine ⟨pa, vs', y, rfl, rfl, hp', by have := SZ_le; omega, ?_⟩
          have r4 : RelC C B F0 (⟨.o we, some (.ref pa), .lst (xs ++ [d])⟩ :: (Z ++ R0)) Γ2 ρ1 σ (upd H2 pa (.lst (vs' ++ [y]))) := ⟨s4, r3.l1, r3.l2⟩
          exact h σ _ .refl (bk _ _ _ _ R0 r4)
        · rw [if_neg hl] at h; exact h.elim
    | .non, h => exact h.elim
    | .bl _, h => exact h.elim
    | .int _, h => exact h.elim
    | .str _, h => exact h.elim
    | .tup _, h => exact h.elim
    | .dic _ _, h => exact h.elim
    | .ins _ _, h => exact h.elim
    | .exc _ _, h => exact h.elim
    | .scr _, h => exact h.elim
end Dv
/-! D14: items set, augmented assignments, isinstance, while. -/
namespace Dv
open PySem PySem.Spec PyProof.Rows L2
variable {K : PySem.W.Frag} {cl : Cl} {F H B F0 : Hp} {C : Cq} {Γ Γ1 Γ2 Γ3 Γ4 Γ' ΓL : List W} {pos : Pos} {T R0 R : List Root} {σ σ' : L2.St} {a b c e o ix tg it : Expr} {es : List Expr} {x y : V}

def sSetIx (i : Nat) (ge : GE) (g : En → Res (D × (D → D))) (gi : GE) : GS := fun ρ => (ge ρ).bind fun q => match g q.2 with
  | .ok (.lst xs, put) => (match gi q.2 with
    | .ok (.int j, _) => (match ixN xs.length j with
      | some k => .ok (.nx, q.2.set i (put (.lst (xs.set k q.1))))
      | none => .stk)
    | _ => .stk)
  | _ => .stk
/-- place[ix] = e -/
theorem ds_setix {i : Nat} {wi we w2 wx : W} {g : En → Res (D × (D → D))} {ge gi : GE} [Pu gi] {tpos : Pos} (he : DE C Γ e ge Γ1 w2) (lw : leW w2 we = true) (hp : DPl C Γ1 o i wi (.o we) g) (hi : DE C (Γ1.set i .u) ix gi Γ2 wx) (hw : wx.sv = true) (l : leL Γ2 (Γ1.set i .u) = true)
    (hs : swapsWithSole [.Subscript o ix tpos] e pos.line C.X.env = pure false := by rfl) (hsw : swappedStores [.Subscript o ix tpos] e C.X.env = pure none := by rfl)
    (h1 : (assignEach [.Subscript o ix tpos] C.X.env).map (·.2) = [assign (.Subscript o ix tpos) C.X.env] := by rfl)
    (ha : ∀ v, assign (.Subscript o ix tpos) C.X.env v = (do
      let ov ← holding [v] (eval o C.X.env)
      let iv ← holding [v, ov] (eval ix C.X.env)
      standAt tpos
      holding [v, ov, iv] (setItem ov iv v)
      release [v, ov, iv] []) := by intro _; rfl) :
    DS C Γ (.Assign [.Subscript o ix tpos] e pos) (sSetIx i ge g gi) (Γ1.set i wi) := by
  obtain ⟨t, p, fe⟩ := he
  obtain ⟨to, po, fo⟩ := hp
  obtain ⟨u, pu, fi⟩ := hi
  refine ⟨_, ps_asg p (pg_sub po pu set_list ha) hs hsw h1, fun B F0 R0 ρ σ H D r h => fe B F0 [] R0 ρ σ H _ r ?_⟩
  unfold sSetIx at h
  match e1 : ge ρ, h with
  | .err c fs ρ', h => exact h σ .refl
  | .stk, h => exact h
  | .ok (d, ρ1), h =>
    intro y H1 r1
    have r1 : RelC C B F0 (⟨we, some y, d⟩ :: R0) Γ1 ρ1 σ H1 := r1.mapS fun {Z} s => S.weak w2 lw s
    simp only [Res.bind_ok] at h
    refine fo B F0 [⟨we, some y, d⟩] R0 ρ1 σ H1 _ r1 ?_
    match e2 : g ρ1, h with
    | .err _ _ _, h => exact h
    | .stk, h => exact h
    | .ok (dl, put), h =>
      cases dl with
      | lst xs =>
        intro v Z H2 r2 bk
        dsimp only at h
        refine fi B F0 (⟨.o we, some v, .lst xs⟩ :: (Z ++ [⟨we, some y, d⟩])) R0 ρ1 σ H2 _ (by simpa using r2) ?_
        match e3 : gi ρ1, h with
        | .err _ _ _, h => exact h.elim
        | .stk, h => exact h.elim
        | .ok (dj, ρ2), h2 =>
          have := Pu.pu _ _ _ e3
          subst this
          cases dj with
          | int j =>
            dsimp only at h2
            intro z H3 r3
            have rz := (S.rpv1 r3.s hw).to_int
            subst rz
            match e4 : ixN xs.length j, h2 with
            | none, h2 => exact h2.elim
            | some k, h2 =>
              have r4 : RelC C B F0 (⟨we, some y, d⟩ :: ⟨.o we, some v, .lst xs⟩ :: (Z ++ R0)) (Γ1.set i .u) ρ2 σ H3 := ((r3.weak l).mapS fun {Z} s => S.drop s).perm (by
                simp only [List.append_assoc, List.cons_append, List.nil_append]
                exact (List.Perm.cons _ List.perm_middle).trans (List.Perm.swap _ _ _))
              have hk : k < xs.length := (ixN_seq e4).2.1
              obtain ⟨pa, vs, ev, hpa, len, s5⟩ := S.setL r4.s hk
              subst ev
              refine ⟨pa, vs, j, k, rfl, rfl, hpa, by rw [len]; exact e4, ?_⟩
              have r5 : RelC C B F0 (⟨.o we, some (.ref pa), .lst (xs.set k d)⟩ :: (Z ++ R0)) (Γ1.set i .u) ρ2 σ (upd H3 pa (.lst (vs.set k y))) := ⟨s5, r4.l1, r4.l2⟩
              have q := bk _ _ _ _ R0 r5
              rw [List.set_set] at q
              exact h2 σ _ .refl q
          | _ => exact h2.elim
      | _ => exact h.elim

/-! ### op= -/
theorem get_list {X : Cx} : PGet X (rIxL X.K) := by
  intro pins s σ H o i ov iv Q I rx ry h
  obtain ⟨p, xs, i, z, rfl, rfl, hq, he, q⟩ := h
  cases rx
  obtain ⟨t, rfl⟩ := ry
  obtain ⟨its, r, pl, hz⟩ := I.list hq
  obtain ⟨j, h1, h2, h3, h4, h5⟩ := atI_get he
  obtain ⟨w, ew, rw'⟩ := r.get h2
  have hl := r.length
  have hn := line63
  have fin : EP X pins σ Q w s := ⟨z, H, I, rw', q⟩
  by_cases h0 : 0 ≤ i
  · have hj : i.toNat = j := by
      rw [seqIndex_of h0 h5] at h1
      exact Option.some.inj h1
    exact wpAny_getItem_list pl.isList h0 (by omega) (by rw [hj]; simpa using ew) fin
  · have hj : (i + (its.toArray.size : Int)).toNat = j := by
      rw [seqIndex_neg (by omega) h4] at h1
      rw [List.size_toArray, ← hl]
      exact Option.some.inj h1
    exact wpAny_getItem_list_neg pl.isList (by omega) (by rw [List.size_toArray] <;> omega) (by omega) (by rw [hj]; simpa using ew) fin
def sAug (i : Nat) (f : Int → Int → Int) (ge : GE) : GS := fun ρ => (ge ρ).bind fun q => match ρ.getD i .non, q.1 with
  | .int a, .int b => .ok (.nx, q.2.set i (.int (f a b)))
  | _, _ => .stk
/-- name op= e, of ints -/
theorem ds_aug {i : Nat} {nm : Str} {op : Operator} {f : Int → Int → Int} {ge : GE} {w w2 : W} {pos' : Pos} (hN : C.X.N.Nodup) (hi : C.X.N[i]? = some nm) (hx : Loc C.X.env.scope nm) (ho : PIp C.X op (ipI f)) (ew : Γ[i]? = some w) (hw : w.sv = true) (he : DE C Γ e ge Γ1 w2) (hw2 : w2.sv = true) (hio : C.io.contains i = false := by rfl)
    (hf : C.X.fn nm = true ∨ C.X.env.scope.names.lookup nm = some .local := by first | exact .inl rfl | exact .inr rfl) :
    DS C Γ (.AugAssign (.Name nm pos') op e pos) (sAug i f ge) (Γ1.set i .s) := by
  obtain ⟨t, p, fe⟩ := he
  refine ⟨_, ps_aug hN hi hx p ho hf, fun B F0 R0 ρ σ H D r h => ?_⟩
  obtain ⟨v, ev, r2⟩ := r.get ew hw
  refine ⟨v, ev, ?_⟩
  have rv := S.rpv1 r2.s hw
  refine fe B F0 [] R0 ρ σ H _ r ?_
  unfold sAug at h
  match e1 : ge ρ, h with
  | .err c fs ρ', h => exact h σ .refl
  | .stk, h => exact h
  | .ok (d, ρ1), h =>
    intro y H1 r1
    simp only [Res.bind_ok] at h
    have ry := S.rpv1 r1.s hw2
    generalize ρ.getD i .non = d0 at h rv
    cases d0 with
    | int a =>
      cases d with
      | int b =>
        refine ⟨a, b, rv.to_int, ry.to_int, ?_⟩
        have r3 : RelC C B F0 (⟨.s, some (.int (f a b)), .int (f a b)⟩ :: R0) Γ1 ρ1 σ H1 := r1.mapS fun {Z} s => S.addS (S.drop s) (.int _)
        exact h (σ.set i (some (.int (f a b)))) H1 (Keep.set (notIn hio)) (r3.into i)
      | _ => exact h.elim
    | _ => exact h.elim
def sAugIx (i : Nat) (f : Int → Int → Int) (g : En → Res (D × (D → D))) (gi ge : GE) : GS := fun ρ => match g ρ with
  | .ok (.lst xs, put) => (match gi ρ with
    | .ok (.int j, _) => (match ixN xs.length j with
      | some k => (match xs[k]? with
        | some (.int a) => (ge ρ).bind fun q => (match q.1 with
          | .int b => .ok (.nx, q.2.set i (put (.lst (xs.set k (.int (f a b))))))
          | _ => .stk)
        | _ => .stk)
      | none => .stk)
    | _ => .stk)
  | _ => .stk
theorem S.itemL {w : W} {l : V} {d : D} {ds : List D} {k : Nat} (h : S K cl B F0 H (⟨.o w, some l, .lst ds⟩ :: R)) (ek : ds[k]? = some d) (hw : w.sv = true) :
    ∃ p vs v, l = .ref p ∧ H p = some (.lst vs) ∧ vs.length = ds.length ∧ vs[k]? = some v ∧ Rp K cl H v d := by
  obtain ⟨p, vs, ev, hp, len, s⟩ := S.openL h
  cases ev
  have hk : k < vs.length := by rw [len]; exact (List.getElem?_eq_some_iff.mp ek).1
  have evv : vs[k]? = some vs[k] := List.getElem?_eq_getElem hk
  obtain ⟨R1, R2, q1, q2⟩ := mkR_at (w := w) len evv ek
  rw [q1] at s
  have s2 : S K cl B F0 H (⟨w, some vs[k], d⟩ :: ⟨.c (.lst vs), some (.ref p), .non⟩ :: (R1 ++ (R2 ++ R))) := s.perm (by
    rw [List.append_assoc, List.cons_append]
    exact (List.Perm.cons _ List.perm_middle).trans (List.Perm.swap _ _ _))
  exact ⟨p, vs, vs[k], rfl, hp, len, evv, S.rpv1 s2 hw⟩
/-- place[ix] op= e, of ints -/
theorem ds_augix {i : Nat} {wi we w2 wx : W} {op : Operator} {f : Int → Int → Int} {g : En → Res (D × (D → D))} {ge gi : GE} [Pu gi] {tpos : Pos} (ho : PIp C.X op (ipI f)) (hp : DPl C Γ o i wi (.o we) g) (hi : DE C (Γ.set i .u) ix gi Γ1 wx) (hwe : we.sv = true) (hw : wx.sv = true) (l : leL Γ1 (Γ.set i .u) = true)
    (he : DE C (Γ.set i .u) e ge Γ2 w2) (hw2 : w2.sv = true) (lse : leW .s we = true)
    (ha : ∀ ov iv new, augStore ix ov iv new = (do holding [new, ov, iv] (setItem ov iv new); release [new, ov, iv] []; pure .next) := by intros; rfl) :
    DS C Γ (.AugAssign (.Subscript o ix tpos) op e pos) (sAugIx i f g gi ge) (Γ2.set i wi) := by
  obtain ⟨t, p, fo⟩ := hp
  obtain ⟨u, pu, fi⟩ := hi
  obtain ⟨te, pe, fe⟩ := he
  refine ⟨_, ps_augS p pu get_list pe ho set_list ha, fun B F0 R0 ρ σ H D r h => fo B F0 [] R0 ρ σ H _ r ?_⟩
  unfold sAugIx at h
  match e1 : g ρ, h with
  | .err _ _ _, h => exact h
  | .stk, h => exact h
  | .ok (dl, put), h =>
    cases dl with
    | lst xs =>
      intro v Z H1 r1 bk
      dsimp only at h
      refine fi B F0 (⟨.o we, some v, .lst xs⟩ :: Z) R0 ρ σ H1 _ (by simpa using r1) ?_
      match e3 : gi ρ, h with
      | .err _ _ _, h => exact h.elim
      | .stk, h => exact h.elim
      | .ok (dj, ρ2), h2 =>
        have := Pu.pu _ _ _ e3
        subst this
        cases dj with
        | int j =>
          dsimp only at h2
          intro z H2 r2
          have rz := (S.rpv1 r2.s hw).to_int
          subst rz
          match e4 : ixN xs.length j, h2 with
          | none, h2 => exact h2.elim
          | some k, h2 =>
            dsimp only at h2
            match e5 : xs[k]?, h2 with
            | none, h2 => exact h2.elim
            | some d, h2 =>
              cases d with
              | int a =>
                dsimp only at h2
                have r3 : RelC C B F0 (⟨.o we, some v, .lst xs⟩ :: (Z ++ R0)) (Γ.set i .u) ρ2 σ H2 := ((r2.weak l).mapS fun {Z} s => S.drop s)
                obtain ⟨pa, vs, x, ev, hpa, len, ex, rx⟩ := S.itemL r3.s e5 hwe
                subst ev
                have rx := rx.to_int
                subst rx
                refine ⟨pa, vs, j, .int a, rfl, rfl, SqL.of hpa, by unfold atI; rw [len, e4]; exact ex, ?_⟩
                refine fe B F0 (⟨.o we, some (.ref pa), .lst xs⟩ :: Z) R0 ρ2 σ H2 _ r3 ?_
                match e6 : ge ρ2, h2 with
                | .err c fs ρ', h2 => exact h2 σ .refl
                | .stk, h2 => exact h2
                | .ok (db, ρ3), h2 =>
                  simp only [Res.bind_ok] at h2
                  cases db with
                  | int b =>
                    intro y H4 r4
                    refine ⟨a, b, rfl, (S.rpv1 r4.s hw2).to_int, ?_⟩
                    have r5 : RelC C B F0 (⟨we, some (.int (f a b)), .int (f a b)⟩ :: ⟨.o we, some (.ref pa), .lst xs⟩ :: (Z ++ R0)) Γ2 ρ3 σ H4 := r4.mapS fun {Z} s => S.weak .s lse (S.addS (S.drop s) (.int _))
                    have hk : k < xs.length := (ixN_seq e4).2.1
                    obtain ⟨pa', vs', ev', hpa', len', s5⟩ := S.setL r5.s hk
                    cases ev'
                    refine ⟨pa, vs', j, k, rfl, rfl, hpa', by rw [len']; exact e4, ?_⟩
                    have r6 : RelC C B F0 (⟨.o we, some (.ref pa), .lst (xs.set k (.int (f a b)))⟩ :: (Z ++ R0)) Γ2 ρ3 σ (upd H4 pa (.lst (vs'.set k (.int (f a b))))) := ⟨s5, r5.l1, r5.l2⟩
                    exact h2 σ _ .refl (bk _ _ _ _ R0 r6)
                  | _ => exact h2.elim
              | _ => exact h2.elim
        | _ => exact h2.elim
    | _ => exact h.elim

/-! ### isinstance -/
/-- what isinstance asks of an own class -/
structure InD (K : PySem.W.Frag) (cl : Cl) (c : Nat) : Prop where
  ck : Cls K (cl.ad c)
  ha : PySem.W.findIn K (.ref (cl.ad c)) "__class__" = some (some (.builtin "object.__class__"))
  hn : PySem.W.specialIn K (.builtin "object.__class__") "__get__" = some (some (.builtin "getset_descriptor.__get__"))
  htk : PySem.W.takesIn K (.builtin "object.__class__") = some true
  hm : PySem.W.mroIn K (cl.ad c) (.type "object") = some true
/-- the name of a built-in value's type -/
def tyNm : D → Option String
  | .non => some "NoneType"
  | .bl _ => some "bool"
  | .int _ => some "int"
  | .str _ => some "str"
  | .lst _ => some "list"
  | .scr _ => some "list"
  | .tup _ => some "tuple"
  | .dic _ _ => some "dict"
  | _ => none
theorem Rp.tyx {d : D} {n : String} (h : Rp K cl H x d) (e : tyNm d = some n) : TyX K H x (.type n) := by
  cases h with
  | sc h =>
    cases h with
    | non => cases e; exact .base .non
    | bl b => cases e; exact .base (.bl b)
    | int b => cases e; exact .base (.int b)
    | str b => cases e; exact .base (.str b)
  | lst h _ => cases e; exact .base (.lst h)
  | tup h _ => cases e; exact .base (.tup h)
  | dk h _ _ => cases e; exact .base (.dK h)
  | dt h _ _ => cases e; exact .base (.dT h)
  | scr h =>
    cases e
    rcases h with (h | ⟨o, h⟩) | ⟨o, its, n, h, h2⟩
    · exact .base (.lst h)
    · exact .base (.frz h)
    · exact .kList h h2.1
  | _ => cases e
/-- isinstance(d, a built-in type): known instances of own classes are none -/
def isB (kn : List Nat) (T : String) : D → Option Bool
  | .ins c _ => if kn.contains c = true then some false else none
  | d => (tyNm d).bind fun n => kitB n T
/-- isinstance(d, the own class ci) -/
def isO (kn : List Nat) (ci : Nat) : D → Option Bool
  | .ins c _ => if kn.contains c = true then some (c == ci) else none
  | d => (tyNm d).map fun _ => false
def gIsi (f : D → Option Bool) (g : GE) : GE := fun ρ => (g ρ).bind fun p => match f p.1 with
  | some k => .ok (.bl k, p.2)
  | none => .stk
instance {f : D → Option Bool} {g : GE} [Pu g] : Pu (gIsi f g) := ⟨fun ρ d ρ' h => by
  unfold gIsi at h
  obtain ⟨p, e1, h⟩ := Res.bind_ok_of h
  split at h
  · cases h; exact Pu.pu _ _ _ e1
  · cases h⟩
/-- f answers isinstance(.., u) -/
def IsAns (K : PySem.W.Frag) (cl : Cl) (u : Value) (f : D → Option Bool) : Prop := ∀ (H : Hp) (x : V) (d : D) (k : Bool), Rp K cl H x d → f d = some k → ∃ t, TyX K H x t ∧ PySem.W.kitOne K t u = some k
theorem Rp.tyI {c : Nat} {ds : List D} (h : Rp K cl H x (.ins c ds)) (I : InD K cl c) : TyX K H x (.ref (cl.ad c)) := by
  obtain ⟨p, dx, fs, rfl, hp, _⟩ := h.to_ins
  exact .base (.ins hp I.ck I.ha I.hn I.htk I.hm)
theorem isAns_B {kn : List Nat} {T : String} (h : ∀ c ∈ kn, InD K cl c ∧ PySem.W.kitOne K (.ref (cl.ad c)) (.type T) = some false) : IsAns K cl (.type T) (isB kn T) := by
  intro H x d k r e
  have go : ∀ {n : String}, tyNm d = some n → (tyNm d).bind (fun n => kitB n T) = some k → ∃ t, TyX K H x t ∧ PySem.W.kitOne K t (.type T) = some k := fun {n} h1 h2 => by
    rw [h1] at h2
    exact ⟨_, r.tyx h1, kit_ty h2⟩
  cases d with
  | ins c ds =>
    have e : (if kn.contains c = true then some false else none) = some k := e
    by_cases hc : kn.contains c = true
    · rw [if_pos hc] at e; cases e
      have hm : c ∈ kn := by simpa using hc
      exact ⟨_, r.tyI (h c hm).1, (h c hm).2⟩
    · rw [if_neg hc] at e; cases e
  | exc c ds => cases e
  | _ => exact go rfl e
theorem isAns_O {kn : List Nat} {ci : Nat} (h : ∀ c ∈ kn, InD K cl c ∧ PySem.W.kitOne K (.ref (cl.ad c)) (.ref (cl.ad ci)) = some (c == ci)) (hb : ∀ n ∈ ["NoneType", "bool", "int", "str", "list", "tuple", "dict"], PySem.W.kitOne K (.type n) (.ref (cl.ad ci)) = some false) : IsAns K cl (.ref (cl.ad ci)) (isO kn ci) := by
  intro H x d k r e
  have go : ∀ {n : String}, tyNm d = some n → n ∈ ["NoneType", "bool", "int", "str", "list", "tuple", "dict"] → (tyNm d).map (fun _ => false) = some k → ∃ t, TyX K H x t ∧ PySem.W.kitOne K t (.ref (cl.ad ci)) = some k := fun {n} h1 h2 h3 => by
    rw [h1] at h3
    cases h3
    exact ⟨_, r.tyx h1, hb _ h2⟩
  cases d with
  | ins c ds =>
    have e : (if kn.contains c = true then some (c == ci) else none) = some k := e
    by_cases hc : kn.contains c = true
    · rw [if_pos hc] at e; cases e
      have hm : c ∈ kn := by simpa using hc
      exact ⟨_, r.tyI (h c hm).1, (h c hm).2⟩
    · rw [if_neg hc] at e; cases e
  | exc c ds => cases e
  | _ => exact go rfl (by simp) e
/-- isinstance(a, b), b a name of a class -/
theorem de_isi {p : Pos} {u : Value} {cv : V} {f : D → Option Bool} {g : GE} {w : W} (hg : Gl C.X "isinstance") (hm : C.X.mg "isinstance" = none) (hv : bootBuiltins "isinstance" = some (.builtin "isinstance")) (hd : IsAns C.X.K C.cl u f) (ck : ClsV cv u) (ha : DE C Γ a g Γ1 w) (hw : w.sv = true) (hb : PE C.X b (tC cv))
    (he : starEach [a, b] C.X.env = (false, eval a C.X.env) :: starEach [b] C.X.env := by rfl) (he2 : starEach [b] C.X.env = (false, eval b C.X.env) :: starEach [] C.X.env := by rfl) (hpl : (backTo pos (starEach [b] C.X.env)).any (·.1) = false := by rfl) :
    DE C Γ (.Call (.Name "isinstance" p) [a, b] [] pos) (gIsi f g) Γ1 .s := by
  obtain ⟨t, pa, fa⟩ := ha
  refine ⟨_, pe_callB call_isi hg hm hv (pa_cons pa (pa_cons hb pa_nil he2) he) (by decide) (by decide) he hpl, fun B F0 T R0 ρ σ H Q r h => fa B F0 T R0 ρ σ H _ r ?_⟩
  unfold gIsi at h
  match e1 : g ρ, h with
  | .err c fs ρ', h => exact h
  | .stk, h => exact h
  | .ok (d, ρ1), h =>
    intro v H1 r1
    simp only [Res.bind_ok] at h
    match e2 : f d, h with
    | none, h => exact h.elim
    | some k, h =>
      obtain ⟨t, ty, ko⟩ := hd H1 v d k (S.rpv1 r1.s hw) e2
      exact ⟨v, cv, t, u, k, rfl, ck, ty, ko, h _ H1 (r1.mapS fun {Z} s => S.addS (S.drop s) (.bl k))⟩

/-! ### while -/
def whileN (gt : GT) (gb : GS) : Nat → En → Res (Fl × En)
  | 0, _ => .stk
  | n + 1, ρ => (gt ρ).bind fun p => if p.1 = true then (match gb p.2 with
    | .ok (.nx, ρ') => whileN gt gb n ρ'
    | .ok (.ct, ρ') => whileN gt gb n ρ'
    | .ok (.bk, ρ') => .ok (.nx, ρ')
    | .ok (.rt d, ρ') => .ok (.rt d, ρ')
    | .err c fs ρ' => .err c fs ρ'
    | .stk => .stk) else .ok (.nx, p.2)
open Classical in
/-- what some fuel gives -/
noncomputable def sWhile (gt : GT) (gb : GS) : GS := fun ρ => if h : ∃ n, whileN gt gb n ρ ≠ .stk then whileN gt gb (Classical.choose h) ρ else .stk
theorem whileN_mono {gt : GT} {gb : GS} : ∀ {n m : Nat} {ρ : En}, n ≤ m → whileN gt gb n ρ ≠ .stk → whileN gt gb m ρ = whileN gt gb n ρ
  | 0, _, _, _, h => (h rfl).elim
  | n + 1, 0, _, l, _ => by omega
  | n + 1, m + 1, ρ, l, h => by
    unfold whileN at h ⊢
    match e1 : gt ρ, h with
    | .err c fs ρ', h => rfl
    | .stk, h => rfl
    | .ok (false, ρ1), h => rfl
    | .ok (true, ρ1), h =>
      simp only [Res.bind_ok, if_pos] at h ⊢
      match e2 : gb ρ1, h with
      | .ok (.nx, ρ'), h => exact whileN_mono (n := n) (m := m) (by omega) h
      | .ok (.ct, ρ'), h => exact whileN_mono (n := n) (m := m) (by omega) h
      | .ok (.bk, ρ'), h => rfl
      | .ok (.rt d, ρ'), h => rfl
      | .err c fs ρ', h => rfl
      | .stk, h => rfl
theorem sWhile_of {gt : GT} {gb : GS} {n : Nat} {ρ : En} (h : whileN gt gb n ρ ≠ .stk) : sWhile gt gb ρ = whileN gt gb n ρ := by
  have hx : ∃ n, whileN gt gb n ρ ≠ .stk := ⟨n, h⟩
  unfold sWhile
  rw [dif_pos hx]
  have h2 := Classical.choose_spec hx
  rcases Nat.le_total n (Classical.choose hx) with l | l
  · exact whileN_mono l h
  · exact (whileN_mono l h2).symm
theorem ds_while {body : List Stmt} {gt : GT} {gb : GS} {Γi : List W} (hp : PassesOwn (model C.X.prog C.X.w) C.X.A C.X.env C.X.xe) (l : leL Γ Γi = true) (hc : DT C Γi c gt Γ1) (hb : DSs { C with gb := Γ1, gc := Γi } Γ1 body gb Γi) :
    DS C Γ (.While c body [] pos) (sWhile gt gb) Γ1 := by
  obtain ⟨t, p, fc⟩ := hc
  obtain ⟨tb, pb, fb⟩ := hb
  refine ⟨_, ps_while hp p pb, fun B F0 R0 ρ σ H D r h => ?_⟩
  unfold sWhile at h
  by_cases hx : ∃ n, whileN gt gb n ρ ≠ .stk
  · rw [dif_pos hx] at h
    revert h
    generalize Classical.choose hx = n
    intro h
    refine ⟨fun m σ2 H2 => Keep C.io σ σ2 ∧ ∃ ρ2, RelC C B F0 R0 Γi ρ2 σ2 H2 ∧ PostS C B F0 R0 Γ1 σ D (whileN gt gb m ρ2), ⟨n, .refl, ρ, r.weak l, h⟩, ?_⟩
    rintro m σ2 H2 ⟨k, ρ2, r2, h2⟩
    cases m with
    | zero => exact h2.elim
    | succ m =>
      unfold whileN at h2
      refine fc B F0 [] R0 ρ2 σ2 H2 _ r2 ?_
      match e1 : gt ρ2, h2 with
      | .err c fs ρ', h2 => exact h2 σ2 k
      | .stk, h2 => exact h2
      | .ok (false, ρ3), h2 =>
        intro H3 r3
        simp only [Res.bind_ok] at h2
        rw [if_neg (by simp)]
        exact h2 σ2 H3 k r3
      | .ok (true, ρ3), h2 =>
        intro H3 r3
        simp only [Res.bind_ok, if_pos] at h2
        rw [if_pos rfl]
        refine ⟨fun σ4 H4 => Keep C.io σ σ4 ∧ ∃ ρ4, RelC C B F0 R0 Γi ρ4 σ4 H4 ∧ PostS C B F0 R0 Γ1 σ D (whileN gt gb m ρ4), fun σ4 H4 h4 => ⟨m, by omega, h4⟩, ?_⟩
        refine fb B F0 R0 ρ3 σ2 H3 _ r3 ?_
        match e2 : gb ρ3, h2 with
        | .ok (.nx, ρ5), h2 => exact fun σ5 H5 k5 r5 => ⟨k.trans k5, ρ5, r5, h2⟩
        | .ok (.ct, ρ5), h2 => exact fun σ5 H5 k5 r5 => ⟨k.trans k5, ρ5, r5, h2⟩
        | .ok (.bk, ρ5), h2 => exact fun σ5 H5 k5 r5 => h2 σ5 H5 (k.trans k5) r5
        | .ok (.rt d, ρ5), h2 => exact fun v σ5 H5 k5 r5 => h2 v σ5 H5 (k.trans k5) r5
        | .err c fs ρ5, h2 => exact fun σ5 k5 => h2 σ5 (k.trans k5)
        | .stk, h2 => exact h2
  · rw [dif_neg hx] at h; exact h.elim
end Dv
/-! D15: instances made, the names of a block, the head's facts, the end. -/
namespace Dv
open PySem PySem.Spec PyProof.Rows L2
variable {cl : Cl} {F H B F0 : Hp} {C : Cq} {Γ Γ1 Γ2 Γ3 Γ4 Γ' ΓL : List W} {pos : Pos} {T R0 R : List Root} {σ σ' : L2.St} {a b c e o ix tg it : Expr} {es : List Expr} {x y : V}

/-- a def that comes to its end -/
def runI (n : Nat) (io : List Nat) (g : GS) : GF := fun ds => match g (ds ++ List.replicate (n - ds.length) .non) with
  | .ok (.nx, ρ) => .ok (.non, outsOf io ρ)
  | .err c fs ρ => .err c fs (outsOf io ρ)
  | _ => .stk
theorem runI_non {n : Nat} {io : List Nat} {g : GS} : ∀ ds d outs, runI n io g ds = .ok (d, outs) → d = .non := fun ds d outs h => by
  unfold runI at h
  split at h
  · cases h; rfl
  · cases h
  · cases h
section
variable {K : PySem.W.Frag} {P : Program} {w : World} {mg : Str → Option Value} {base : Heap} {nm qual : Str} {params : Arguments} {body : List Stmt} {scope : Scope} {dvs : List V} {kws : List (Str × V)} {f : Addr} {fd : FuncData} {N ps : List Str} {k : Nat} {sg : Sig} {g : GS}
theorem fnD_ofI (F : FunD K nm qual params body scope dvs kws f fd) (Sc : FnScope N ps scope) (hps : ps.length = sg.ws.length) (ok : SigOk sg N.length) (lw : leW .s sg.wr = true)
    (hb : ∀ (cdv : Value) (A : Around) (outer : List Env) (s : Shared) (H : Hp) (E : XK), Room k (A.deeper (envOfC qual scope s.heap.objs.size f cdv)) →
      DSs (cqOf P w K mg base cl N qual scope f sg cdv A outer s H E) (sg.ws ++ List.replicate (N.length - sg.ws.length) .u) body g Γ') (le : leL Γ' (exL N.length sg.io sg.os) = true) :
    FnD P w K mg base cl (k + 1) f fd ps sg (runI N.length sg.io g) := by
  refine F.ok Sc (fun vs H Q E h => ?_) fun cdv A outer s H vs Q E hr h => ?_
  · obtain ⟨ds, B, F0, l1, _⟩ := h
    rw [l1, hps]
  · obtain ⟨ds, B, F0, l1, l2, s1, h⟩ := h
    obtain ⟨t, p, ft⟩ := hb cdv A outer s H E hr
    refine ⟨t, p, ft B F0 [] _ (L2.start N vs) H _ (enter_ok ok l1 l2 s1) ?_⟩
    unfold runI at h
    revert h
    generalize g (ds ++ List.replicate (N.length - ds.length) .non) = rr
    intro h
    match rr, h with
    | .stk, h => exact h
    | .err c fs ρ', h => exact fun σ' kp H' dx r => h dx H' (exit_ok ok l1 kp r)
    | .ok (.nx, ρ'), h => exact fun σ' H' kp r => h .non H' (exit_ok ok l1 kp ((r.weak le).mapS fun {Z} s => S.weak .s lw (S.addS s .non)))
    | .ok (.bk, ρ'), h => exact h.elim
    | .ok (.ct, ρ'), h => exact h.elim
    | .ok (.rt d, ρ'), h => exact h.elim
end

/-! ### the names of a block -/
def blkB (N : List Str) (sc scope : Scope) (own : List (Str × Nat)) : Bool :=
  (scope.names.all fun y => scope.names.lookup y.1 == some y.2) && (own.all fun p => N[p.2]? == some p.1) && (scope.names.all fun y => y.2 != .free || (sc.names.lookup y.1 == some .cell || sc.names.lookup y.1 == some .free)) &&
  (scope.names.all fun y => !(y.2 == .local || y.2 == .cell) || ((own.map (·.1)).contains y.1 || !N.contains y.1))
theorem blk_ok {N : List Str} {sc scope : Scope} {own : List (Str × Nat)} (h1 : scope.kind = .function) (h : blkB N sc scope own = true) : BlkOk N sc scope own := by
  unfold blkB at h
  simp only [Bool.and_eq_true] at h
  obtain ⟨⟨⟨a, b⟩, c⟩, d⟩ := h
  refine ⟨h1, fun y hy => ?_, fun p hp => ?_, fun y hy e => ?_, fun y hy e => ?_⟩
  · exact eq_of_beq (List.all_eq_true.mp a y hy)
  · exact eq_of_beq (List.all_eq_true.mp b p hp)
  · have q := List.all_eq_true.mp c y hy
    rw [e] at q
    rcases (Bool.or_eq_true _ _).mp q with q | q
    · cases q
    · rcases (Bool.or_eq_true _ _).mp q with q | q
      · exact .inl (eq_of_beq q)
      · exact .inr (eq_of_beq q)
  · have q := List.all_eq_true.mp d y hy
    rcases (Bool.or_eq_true _ _).mp q with q | q
    · have : (y.2 == .local || y.2 == .cell) = true := by
        rcases e with e | e <;> rw [e] <;> rfl
      rw [this] at q; cases q
    · rcases (Bool.or_eq_true _ _).mp q with q | q
      · exact .inl (by simpa using q)
      · exact .inr (by simpa using q)

/-! ### the head's facts, with some of one's own -/
def obsX (n : Nat) (fa : List He.Fa) (fn : List He.DefD) (xb : PySem.W.Frag → Bool) (g : Addr → Option Obj) : He.AlD × Bool := (He.obsDG n fa fn g, xb (He.frG g (He.asD g n)))
def hookX (n : Nat) (fa : List He.Fa) (fn : List He.DefD) (xb : PySem.W.Frag → Bool) : PySem.W.Hook where
  α := He.AlD × Bool
  obs := fun s => obsX n fa fn xb s.heap.get?
  val := fun _ => (He.valD fn, true)
  says := fun _ h => ∃ K : PySem.W.Frag, K.In h ∧ He.SaysD fa fn K ∧ xb K = true
  of := fun _ _ e => ⟨_, He.frG_in, congrArg Prod.fst e, congrArg Prod.snd e⟩
  keeps := fun _ _ _ ⟨K, hK, c⟩ k => ⟨K, PySem.W.Frag.In.keeps hK k, c⟩
theorem obsX_eq {n : Nat} {fa : List He.Fa} {fn : List He.DefD} {xb : PySem.W.Frag → Bool} {g : Addr → Option Obj} {s : Shared} (h : ∀ a, g a = s.heap.get? a) : obsX n fa fn xb g = (hookX n fa fn xb).obs s := by
  have e : g = s.heap.get? := funext h
  rw [e] <;> rfl
def inDB (K : PySem.W.Frag) (x : Str) : Bool := He.eqO (PySem.W.findIn K (.ref (He.ga K x)) "__class__") (some (some (.builtin "object.__class__"))) && He.eqO (PySem.W.specialIn K (.builtin "object.__class__") "__get__") (some (some (.builtin "getset_descriptor.__get__"))) &&
  decide (PySem.W.takesIn K (.builtin "object.__class__") = some true) && decide (PySem.W.mroIn K (He.ga K x) (.type "object") = some true)
theorem inD_ok {K : PySem.W.Frag} {x : Str} {c : Nat} (e : cl.ad c = He.ga K x) (ck : Cls K (He.ga K x)) (h : inDB K x = true) : InD K cl c := by
  unfold inDB at h
  simp only [Bool.and_eq_true, decide_eq_true_eq] at h
  obtain ⟨⟨⟨a, b⟩, c⟩, d⟩ := h
  constructor
  · rw [e]; exact ck
  · rw [e]; exact He.eqO_ok a
  · exact He.eqO_ok b
  · exact c
  · rw [e]; exact d
def bNms : List String := ["NoneType", "bool", "int", "str", "list", "tuple", "dict"]
/-- isinstance with the own classes cs and the built-in types -/
def isiB (K : PySem.W.Frag) (cs : List Str) : Bool := cs.all fun x => inDB K x && (bNms.all fun n => decide (PySem.W.kitOne K (.ref (He.ga K x)) (.type n) = some false) && decide (PySem.W.kitOne K (.type n) (.ref (He.ga K x)) = some false)) &&
  cs.all fun y => decide (PySem.W.kitOne K (.ref (He.ga K x)) (.ref (He.ga K y)) = some (x == y))
theorem isiB_in {K : PySem.W.Frag} {cs : List Str} (h : isiB K cs = true) {x : Str} (hx : x ∈ cs) : inDB K x = true := by
  have q := List.all_eq_true.mp h x hx
  simp only [Bool.and_eq_true] at q
  exact q.1.1
theorem isiB_b {K : PySem.W.Frag} {cs : List Str} (h : isiB K cs = true) {x : Str} (hx : x ∈ cs) {n : String} (hn : n ∈ bNms) : PySem.W.kitOne K (.ref (He.ga K x)) (.type n) = some false ∧ PySem.W.kitOne K (.type n) (.ref (He.ga K x)) = some false := by
  have q := List.all_eq_true.mp h x hx
  simp only [Bool.and_eq_true] at q
  have q2 := List.all_eq_true.mp q.1.2 n hn
  simp only [Bool.and_eq_true, decide_eq_true_eq] at q2
  exact q2
theorem isiB_o {K : PySem.W.Frag} {cs : List Str} (h : isiB K cs = true) {x y : Str} (hx : x ∈ cs) (hy : y ∈ cs) : PySem.W.kitOne K (.ref (He.ga K x)) (.ref (He.ga K y)) = some (x == y) := by
  have q := List.all_eq_true.mp h x hx
  simp only [Bool.and_eq_true] at q
  have q2 := List.all_eq_true.mp q.2 y hy
  exact of_decide_eq_true q2

/-! ### the end -/
theorem sv_law {K : PySem.W.Frag} {sg : Sig} {G : GF} {a : Addr} {ns : List Int} (hs : sg = ⟨[.z], .s, [], []⟩) (hq : SqL K H a (ns.map V.int)) (h : G [.scr ns] = .ok (.bl true, [])) : spD K cl sg G [.ref a] H (fun v _ => v = .bl true) fun _ _ _ => False := by
  subst hs
  refine ⟨[.scr ns], fun _ => none, H, rfl, rfl, ⟨H, _, .cons (.z (.scr hq)) .nil fun _ z => z.elim, .refl, fun a z => ?_, fun a o e => (by cases e), .refl, fun a o e => .inl e⟩, ?_⟩
  · rcases z with z | z <;> exact z.elim
  · rw [h]
    exact fun v H' s => (S.rpv1 s rfl).to_bl
end Dv
/-! D16: dict displays, moved names. -/
namespace Dv
open PySem PySem.Spec PyProof.Rows L2
variable {K : PySem.W.Frag} {cl : Cl} {F H B F0 : Hp} {C : Cq} {Γ Γ1 Γ2 Γ3 Γ4 Γ' ΓL : List W} {pos : Pos} {T R0 R : List Root} {σ σ' : L2.St} {a b c e o ix tg it : Expr} {es : List Expr} {x y : V}

theorem S.closeD {w : W} {p : Addr} {d : D} {kvs : List (Key × V)} {ks : List Ky} {ds : List D} {R : List Root} (h : S K cl B F0 H (⟨.c (.dK kvs), some (.ref p), d⟩ :: (mkR w (kvs.map (·.2)) ds ++ R))) (ek : ks = kvs.map fun q => Ky.k q.1) (e : kvs.length = ds.length) :
    S K cl B F0 H (⟨.o w, some (.ref p), .dic ks ds⟩ :: R) := by
  obtain ⟨F, A, r, h1, h2, h⟩ := h
  cases r with
  | @cons _ _ A1 B1 a b dj =>
    cases a with
    | c q =>
      obtain ⟨A2, B2, x, y, dj2, rfl⟩ := b.split
      refine ⟨F, _, .cons (.dk q ek e x fun z => dj p rfl (.inl z)) y fun a z => ?_, h1, fun a z => h2 a ?_, h⟩
      · rcases z with z | z
        · exact fun y => dj a z (.inr y)
        · exact dj2 a z
      · rcases z with (z | z) | z
        · exact .inl z
        · exact .inr (.inl z)
        · exact .inr (.inr z)
def gDic0 : GE := fun ρ => .ok (.dic [] [], ρ)
instance : Pu gDic0 := ⟨fun ρ d ρ' h => by unfold gDic0 at h; cases h; rfl⟩
theorem de_dic0 {w : W} : DE C Γ (.Dict [] [] pos) gDic0 Γ (.o w) :=
  ⟨_, pe_dnewK, fun B F0 T R0 ρ σ H Q r h p n => h _ _ (r.mapS fun {Z} s => S.closeD (kvs := []) (ds := []) (d := .non) (S.rawNew s n) rfl rfl)⟩
def keyD : D → Option Key
  | .int i => some (.inl i)
  | .str x => some (.inr x)
  | _ => none
theorem Rp.key {d : D} {k : Key} (h : Rp K cl F x d) (e : keyD d = some k) : x = kV k := by
  cases d with
  | int i => cases e; exact h.to_int
  | str i => cases e; exact h.to_str
  | _ => cases e
def gDic1 (gk gv : GE) : GE := fun ρ => (gk ρ).bind fun p => (gv p.2).bind fun q => match keyD p.1 with
  | some k => .ok (.dic [.k k] [q.1], q.2)
  | none => .stk
instance {gk gv : GE} [Pu gk] [Pu gv] : Pu (gDic1 gk gv) := ⟨fun ρ d ρ' h => by
  unfold gDic1 at h
  obtain ⟨p, e1, h⟩ := Res.bind_ok_of h
  obtain ⟨q, e2, h⟩ := Res.bind_ok_of h
  split at h
  · cases h; exact (Pu.pu _ _ _ e2).trans (Pu.pu _ _ _ e1)
  · cases h⟩
theorem de_dic1 {gk gv : GE} {wk w : W} (hk : DE C Γ a gk Γ1 wk) (hw : wk.sv = true) (hv : DE C Γ1 b gv Γ2 w) : DE C Γ (.Dict [some a] [b] pos) (gDic1 gk gv) Γ2 (.o w) := by
  obtain ⟨tk, pk, fk⟩ := hk
  obtain ⟨tv, pv, fv⟩ := hv
  refine ⟨_, pe_disp (pps_cons pk pv pps_nil) rfl rfl (by simp) (by simp), fun B F0 T R0 ρ σ H Q r h p n => ?_⟩
  have r1 : RelC C B F0 ((⟨.c (.dK []), some (.ref p), .non⟩ :: T) ++ R0) Γ ρ σ (upd H p (.dK [])) := r.mapS fun {Z} s => S.rawNew s n
  refine fk B F0 _ R0 ρ σ _ _ r1 ?_
  unfold gDic1 at h
  match e1 : gk ρ, h with
  | .err _ _ _, h => exact h
  | .stk, h => exact h
  | .ok (dk, ρ1), h =>
    intro x H1 r2
    refine fv B F0 (⟨wk, some x, dk⟩ :: ⟨.c (.dK []), some (.ref p), .non⟩ :: T) R0 ρ1 σ H1 _ r2 ?_
    simp only [Res.bind_ok] at h
    match e2 : gv ρ1, h with
    | .err _ _ _, h => exact h
    | .stk, h => exact h
    | .ok (d, ρ2), h =>
      intro y H2 r3
      simp only [Res.bind_ok] at h
      match e3 : keyD dk, h with
      | none, h => exact h.elim
      | some k, h =>
        have s3 : S C.X.K C.cl B F0 H2 (⟨wk, some x, dk⟩ :: ⟨.c (.dK []), some (.ref p), .non⟩ :: ⟨w, some y, d⟩ :: ((T ++ R0) ++ zr Γ2 σ ρ2)) := r3.s.perm ((List.Perm.swap _ _ _).trans (List.Perm.cons _ (List.Perm.swap _ _ _)))
        have ex := (S.rpv1 s3 hw).key e3
        subst ex
        have s4 := S.drop s3
        refine ⟨(S.raw (d' := .non) s4).1, [(k, y)], rfl, by simp, h _ _ ⟨?_, r3.l1, r3.l2⟩⟩
        exact S.closeD (kvs := [(k, y)]) (ds := [d]) (d := .non) (w := w) (S.rawSet s4) rfl rfl
/-- return x, x a list of our own that goes to the caller -/
theorem de_mov1 {i : Nat} {nm : Str} {w : W} (hN : C.X.N[i]? = some nm) (hv : Vis C.X.env.scope nm) (e : Γ[i]? = some w) (f : w.fz = true) (hd : (nm == ("__debug__" : Str)) = false := by decide) (hcd : (nm == ("__classdict__" : Str)) = false := by decide) : DE C Γ (.Name nm pos) (gVar i) (Γ.set i .u) w := de_mov hN hv e f hd hcd
theorem bk0 {ws : List W} {wr : W} {ms : List (Option Nat)} : Back ⟨ws, wr, [], []⟩ ms [] := ⟨rfl, rfl, fun k i h => by simp at h⟩
end Dv
namespace Dv
open PySem PySem.Spec PyProof.Rows L2
section
variable {P : Program} {w : World} {K : PySem.W.Frag} {mg : Str → Option Value} {base : Heap} {N : List Str} {qual : Str} {scope : Scope} {f : Addr} {cdv : Value} {A : Around} {outer : List Env} {s : Shared} {H : Hp} {E : XK}
theorem takesX : Takes (cxOf (L2.CX P w) P w K mg base N qual scope f cdv A outer s H E) (fun c d _ H' => E c d H') := takes_of rfl rfl rfl rfl
theorem passX : PassesOwn (model (cxOf (L2.CX P w) P w K mg base N qual scope f cdv A outer s H E).prog (cxOf (L2.CX P w) P w K mg base N qual scope f cdv A outer s H E).w) (cxOf (L2.CX P w) P w K mg base N qual scope f cdv A outer s H E).A (cxOf (L2.CX P w) P w K mg base N qual scope f cdv A outer s H E).env (cxOf (L2.CX P w) P w K mg base N qual scope f cdv A outer s H E).xe := PassesOwn.leaving
end
theorem notInS {l : List Str} {m : Str} (h : l.contains m = false) : m ∉ l := fun z => by
  have : l.contains m = true := by simpa using z
  rw [this] at h; cases h
section
variable {C : Cq} {Γ : List W} {pos : Pos} {e o : Expr} {es : List Expr} {k : Nat} {f : Addr} {fd : FuncData} {ps : List Str} {G : GF} {nm m : Str} {p apos : Pos} {ga : GA} {g : GE} {ws : List W} {w wr : W} {ms : List (Option Nat)} {ci : Nat}
/-- calls that change nothing of the caller's -/
theorem de_callP (Fn : FnD C.X.prog C.X.w C.X.K C.X.mg C.X.base C.cl k f fd ps ⟨ws, wr, [], []⟩ G) (hr : Room k C.X.A) (tk : Takes C.X C.xw) (hg : Gl C.X nm) (hm : C.X.mg nm = some (.ref f)) (hk : PySem.W.keepIn C.X.K (.ref f) = true) (hb : Binds C.X.K fd ps [])
    (ha : DA C Γ (e :: es) ga Γ ws ms) (lge : leL Γ C.ge = true)
    (hdb : (nm == ("__debug__" : Str)) = false := by decide) (he : starEach (e :: es) C.X.env = (false, eval e C.X.env) :: starEach es C.X.env := by rfl) (hpl : (backTo pos (starEach es C.X.env)).any (·.1) = false := by rfl) :
    DE C Γ (.Call (.Name nm p) (e :: es) [] pos) (gCall G [] ga) Γ wr :=
  de_call (sg := ⟨ws, wr, [], []⟩) (back := []) Fn hr tk hg hm hk hb ha bk0 (.inr lge) hdb he hpl
theorem de_methP {pl : Sem Bool} (ho : DE C Γ o g Γ w) (hw : w.fz = true) (cd : ClsD C.X.K C.cl ci) (hm : Meth C.X.K (C.cl.ad ci) m f) (hno : (C.cl.lay ci).contains m = false) (Fn : FnD C.X.prog C.X.w C.X.K C.X.mg C.X.base C.cl k f fd ps ⟨w :: ws, wr, [], []⟩ G) (hr : Room k C.X.A) (tk : Takes C.X C.xw)
    (hb : Binds C.X.K fd ps []) (ha : DA C Γ (e :: es) ga Γ ws ms) (lge : leL Γ C.ge = true)
    (hst : starEach (e :: es) C.X.env = (false, eval e C.X.env) :: starEach es C.X.env := by rfl) (hpl : (backTo pos (starEach es C.X.env)).any (·.1) = false := by rfl)
    (ht : eval (.Call (.Attribute o m apos) (e :: es) [] pos) C.X.env = (do
      let ov ← eval o C.X.env
      standAt apos.atName
      let (f, first) ← holding [ov] (getMethod ov m pl)
      callWith pos f first (backTo pos (starEach (e :: es) C.X.env)) (backToKw pos (keywordEach [] C.X.env))) := by rfl) :
    DE C Γ (.Call (.Attribute o m apos) (e :: es) [] pos) (gCall G [] (gaCons (gRecv ci g) ga)) Γ wr :=
  de_meth (sg := ⟨w :: ws, wr, [], []⟩) (back := []) (dr_recv (dr_val ho)) hw cd hm (notInS hno) Fn hr tk hb ha rfl bk0 (.inr lge) hst hpl ht
theorem de_methP0 {pl : Sem Bool} (ho : DE C Γ o g Γ w) (hw : w.fz = true) (cd : ClsD C.X.K C.cl ci) (hm : Meth C.X.K (C.cl.ad ci) m f) (hno : (C.cl.lay ci).contains m = false) (Fn : FnD C.X.prog C.X.w C.X.K C.X.mg C.X.base C.cl k f fd ps ⟨[w], wr, [], []⟩ G) (hr : Room k C.X.A) (tk : Takes C.X C.xw)
    (hb : Binds C.X.K fd ps []) (lge : leL Γ C.ge = true)
    (ht : eval (.Call (.Attribute o m apos) [] [] pos) C.X.env = (do
      let ov ← eval o C.X.env
      standAt apos.atName
      let (f, first) ← holding [ov] (getMethod ov m pl)
      callWith pos f first (backTo pos (starEach [] C.X.env)) (backToKw pos (keywordEach [] C.X.env))) := by rfl) :
    DE C Γ (.Call (.Attribute o m apos) [] [] pos) (gCall G [] (gaCons (gRecv ci g) gaNil)) Γ wr :=
  de_meth0 (sg := ⟨[w], wr, [], []⟩) (back := []) (dr_recv (dr_val ho)) hw cd hm (notInS hno) Fn hr tk hb rfl bk0 (.inr lge) ht
end
end Dv
namespace Dv
instance {g : GE} [Pu g] : PuA (iLst g) := ⟨fun ρ d ρ' h => by
  unfold iLst at h
  obtain ⟨p, e1, h⟩ := Res.bind_ok_of h
  split at h
  · cases h; exact Pu.pu _ _ _ e1
  · cases h⟩
instance {g : GE} [Pu g] : PuA (iTup g) := ⟨fun ρ d ρ' h => by
  unfold iTup at h
  obtain ⟨p, e1, h⟩ := Res.bind_ok_of h
  split at h
  · cases h; exact Pu.pu _ _ _ e1
  · cases h⟩
instance {g : GA} [PuA g] : PuA (iRg g) := ⟨fun ρ d ρ' h => by
  unfold iRg at h
  obtain ⟨p, e1, h⟩ := Res.bind_ok_of h
  split at h
  · split at h
    · cases h; exact PuA.pu _ _ _ e1
    · cases h
  · split at h
    · cases h; exact PuA.pu _ _ _ e1
    · cases h
  · cases h⟩
instance {g : GA} [PuA g] : PuA (iEn g) := ⟨fun ρ d ρ' h => by
  unfold iEn at h
  obtain ⟨p, e1, h⟩ := Res.bind_ok_of h
  split at h
  · cases h; exact PuA.pu _ _ _ e1
  · cases h⟩
instance {g : GA} [PuA g] : PuA (iZp g) := ⟨fun ρ d ρ' h => by
  unfold iZp at h
  obtain ⟨p, e1, h⟩ := Res.bind_ok_of h
  split at h
  · cases h; exact PuA.pu _ _ _ e1
  · cases h⟩
end Dv
namespace Dv
open PySem PySem.Spec PyProof.Rows L2
/-- what a def lets out, whatever the world -/
def CXe (P : Program) : CXT := fun outer H s E u s' => ∃ w, L2.CX P w outer H s E u s'
theorem fn_cx {P : Program} {w : World} {K : PySem.W.Frag} {mg : Str → Option Value} {base : Heap} {k : Nat} {f : Addr} {fd : FuncData} {ps : List Str} {sp : Sp} (F : FnOk P w K mg base (L2.CX P w) k f fd ps sp) : FnOk P w K mg base (CXe P) k f fd ps sp :=
  ⟨F.len, fun A outer s H args us vs Q E hr he hb hv hs => codeAny_mono (F.run A outer s H args us vs Q E hr he hb hv hs) fun r s' h => match r, h with
    | .ok (.ret _), h => h
    | .ok .next, h => h
    | .ok .brk, h => h
    | .ok .cont, h => h
    | .error _, h => ⟨w, h⟩⟩
theorem cx_no {P : Program} {outer : List Env} {H : Hp} {s : Shared} {e : Value} {s' : Shared} (h : CXe P outer H s (fun _ _ _ => False) e s') : False := by
  obtain ⟨w, a, B, H', cls, d, _, _, _, _, _, _, _, z⟩ := h
  exact z
end Dv
/-! D17: the combinators by equations; lists. -/
namespace Dv
/-- what stands in a slot -/
def nth : En → Nat → D
  | [], _ => .non
  | d :: _, 0 => d
  | _ :: ρ, n + 1 => nth ρ n
@[simp] theorem nth_zero (d : D) (ρ : En) : nth (d :: ρ) 0 = d := by cases ρ <;> rfl
@[simp] theorem nth_succ (d : D) (ρ : En) (n : Nat) : nth (d :: ρ) (n + 1) = nth ρ n := by cases ρ <;> rfl
theorem nth_eq (ρ : En) (i : Nat) : ρ.getD i .non = nth ρ i := by
  induction ρ generalizing i with
  | nil => rfl
  | cons d ρ ih =>
    cases i with
    | zero => rfl
    | succ i => rw [nth_succ, ← ih]; rfl
@[simp] theorem gVar_ap (i : Nat) (ρ : En) : gVar i ρ = .ok (nth ρ i, ρ) := by rw [← nth_eq]; cases ρ <;> rfl
@[simp] theorem gC_ap (d : D) (ρ : En) : gC d ρ = .ok (d, ρ) := by cases ρ <;> rfl
@[simp] theorem gaNil_ap (ρ : En) : gaNil ρ = .ok ([], ρ) := by cases ρ <;> rfl
@[simp] theorem gaCons_ap (g : GE) (ga : GA) (ρ : En) : gaCons g ga ρ = (g ρ).bind fun p => (ga p.2).bind fun q => .ok (p.1 :: q.1, q.2) := by cases ρ <;> rfl
@[simp] theorem gBi_ap (f : List D → Option D) (ga : GA) (ρ : En) : gBi f ga ρ = (ga ρ).bind fun p => match f p.1 with
  | some d => .ok (d, p.2)
  | none => .stk := by cases ρ <;> rfl
@[simp] theorem gOp_ap (f : D → D → Option D) (ga gb : GE) (ρ : En) : gOp f ga gb ρ = (ga ρ).bind fun p => (gb p.2).bind fun q => match f p.1 q.1 with
  | some d => .ok (d, q.2)
  | none => .stk := by cases ρ <;> rfl
@[simp] theorem gCall_ap (G : GF) (back : List Nat) (ga : GA) (ρ : En) : gCall G back ga ρ = (ga ρ).bind fun p => match G p.1 with
  | .ok (d, outs) => if outs.length = back.length then .ok (d, puts back outs p.2) else .stk
  | .err c fs outs => if outs.length = back.length then .err c fs (puts back outs p.2) else .stk
  | .stk => .stk := by cases ρ <;> rfl
@[simp] theorem gIsi_ap (f : D → Option Bool) (g : GE) (ρ : En) : gIsi f g ρ = (g ρ).bind fun p => match f p.1 with
  | some k => .ok (.bl k, p.2)
  | none => .stk := by cases ρ <;> rfl
@[simp] theorem sSeq_ap (a b : GS) (ρ : En) : sSeq a b ρ = match a ρ with
  | .ok (.nx, ρ') => b ρ'
  | r => r := by cases ρ <;> rfl
@[simp] theorem sNil_ap (ρ : En) : sNil ρ = .ok (.nx, ρ) := by cases ρ <;> rfl
@[simp] theorem sIf_ap (c : GT) (a b : GS) (ρ : En) : sIf c a b ρ = (c ρ).bind fun r => if r.1 = true then a r.2 else b r.2 := by cases ρ <;> rfl
@[simp] theorem sRet_ap (g : GE) (ρ : En) : sRet g ρ = (g ρ).bind fun r => .ok (.rt r.1, r.2) := by cases ρ <;> rfl
@[simp] theorem sAsg_ap (g : GE) (p : D → En → Option En) (ρ : En) : sAsg g p ρ = (g ρ).bind fun r => match p r.1 r.2 with
  | some ρ' => .ok (.nx, ρ')
  | none => .stk := by cases ρ <;> rfl
@[simp] theorem pName_ap (i : Nat) (d : D) (ρ : En) : pName i d ρ = some (ρ.set i d) := by cases ρ <;> rfl
@[simp] theorem tVal_ap (g : GE) (ρ : En) : tVal g ρ = (g ρ).bind fun p => match p.1 with
  | .bl k => .ok (k, p.2)
  | _ => .stk := by cases ρ <;> rfl
@[simp] theorem tTru_ap (g : GE) (ρ : En) : tTru g ρ = (g ρ).bind fun p => match fTru p.1 with
  | some b => .ok (b, p.2)
  | none => .stk := by cases ρ <;> rfl
@[simp] theorem tNot_ap (g : GT) (ρ : En) : tNot g ρ = (g ρ).bind fun p => .ok (!p.1, p.2) := by cases ρ <;> rfl
@[simp] theorem tAnd_ap (ga gb : GT) (ρ : En) : tAnd ga gb ρ = (ga ρ).bind fun p => if p.1 = true then gb p.2 else .ok (false, p.2) := by cases ρ <;> rfl
@[simp] theorem tOr_ap (ga gb : GT) (ρ : En) : tOr ga gb ρ = (ga ρ).bind fun p => if p.1 = true then .ok (true, p.2) else gb p.2 := by cases ρ <;> rfl
@[simp] theorem gAnd_ap (ga gb : GE) (ρ : En) : gAnd ga gb ρ = (ga ρ).bind fun p => match p.1 with
  | .bl true => gb p.2
  | .bl false => .ok (.bl false, p.2)
  | _ => .stk := by cases ρ <;> rfl
@[simp] theorem gOr_ap (ga gb : GE) (ρ : En) : gOr ga gb ρ = (ga ρ).bind fun p => match p.1 with
  | .bl false => gb p.2
  | .bl true => .ok (.bl true, p.2)
  | _ => .stk := by cases ρ <;> rfl
@[simp] theorem gNot_ap (ga : GE) (ρ : En) : gNot ga ρ = (ga ρ).bind fun p => match p.1 with
  | .bl k => .ok (.bl (!k), p.2)
  | _ => .stk := by cases ρ <;> rfl
@[simp] theorem gIf_ap (gt : GT) (ga gb : GE) (ρ : En) : gIf gt ga gb ρ = (gt ρ).bind fun p => if p.1 = true then ga p.2 else gb p.2 := by cases ρ <;> rfl
@[simp] theorem gTup_ap (ga : GA) (ρ : En) : gTup ga ρ = (ga ρ).bind fun p => .ok (.tup p.1, p.2) := by cases ρ <;> rfl
@[simp] theorem gLst_ap (ga : GA) (ρ : En) : gLst ga ρ = (ga ρ).bind fun p => .ok (.lst p.1, p.2) := by cases ρ <;> rfl
@[simp] theorem gFld_ap (c k : Nat) (ga : GE) (ρ : En) : gFld c k ga ρ = (ga ρ).bind fun p => match p.1 with
  | .ins c' fs => if c' = c then (match fs[k]? with
    | some d => .ok (d, p.2)
    | none => .stk) else .stk
  | _ => .stk := by cases ρ <;> rfl
@[simp] theorem gRecv_ap (ci : Nat) (g : GE) (ρ : En) : gRecv ci g ρ = (g ρ).bind fun p => if isI ci p.1 = true then .ok p else .stk := by cases ρ <;> rfl
@[simp] theorem gLend_ap (g : GE) (ρ : En) : gLend g ρ = match g ρ with
  | .ok p => .ok p
  | _ => .stk := by cases ρ <;> rfl
@[simp] theorem gSc_ap (g : GE) (ρ : En) : gSc g ρ = (g ρ).bind fun p => if isSc p.1 = true then .ok p else .stk := by cases ρ <;> rfl
@[simp] theorem gUn_ap (f : D → Option D) (g : GE) (ρ : En) : gUn f g ρ = (g ρ).bind fun p => match f p.1 with
  | some d => .ok (d, p.2)
  | none => .stk := by cases ρ <;> rfl
@[simp] theorem fI_ii (g : Int → Int → D) (i j : Int) : fI g (.int i) (.int j) = some (g i j) := rfl
open Classical in
@[simp] theorem fIC_ii (P : Int → Int → Prop) (g : Int → Int → D) (i j : Int) : fIC P g (.int i) (.int j) = if P i j then some (g i j) else none := rfl
@[simp] theorem puts_nil (ds : List D) (ρ : En) : puts [] ds ρ = ρ := by cases ds <;> rfl
@[simp] theorem outsOf_nil (ρ : En) : outsOf [] ρ = [] := rfl
@[simp] theorem isI_ins (c c' : Nat) (fs : List D) : isI c (.ins c' fs) = (c' == c) := rfl
theorem runF_ap (n : Nat) (io : List Nat) (g : GS) (ds : List D) : runF n io g ds = match g (ds ++ List.replicate (n - ds.length) .non) with
  | .ok (.rt d, ρ) => .ok (d, outsOf io ρ)
  | .ok _ => .stk
  | .err c fs ρ => .err c fs (outsOf io ρ)
  | .stk => .stk := by cases ds <;> rfl
@[simp] theorem isSc_int (i : Int) : isSc (.int i) = true := rfl
@[simp] theorem isSc_bl (i : Bool) : isSc (.bl i) = true := rfl
@[simp] theorem isSc_str (i : PySem.Str) : isSc (.str i) = true := rfl
@[simp] theorem isSc_non : isSc .non = true := rfl
end Dv

namespace Dv
open PySem PySem.Spec PyProof.Rows L2
@[simp] theorem sApp_ap (i : Nat) (g : En → Res (D × (D → D))) (ge : GE) (ρ : En) : sApp i g ge ρ = match g ρ with
  | .ok (.lst xs, put) => (ge ρ).bind fun q => if xs.length < SZ then .ok (.nx, q.2.set i (put (.lst (xs ++ [q.1])))) else .stk
  | _ => .stk := by cases ρ <;> rfl
@[simp] theorem plVar_ap (i : Nat) (ρ : En) : plVar i ρ = .ok (nth ρ i, id) := by rw [← nth_eq]; cases ρ <;> rfl
@[simp] theorem sAug_ap (i : Nat) (f : Int → Int → Int) (ge : GE) (ρ : En) : sAug i f ge ρ = (ge ρ).bind fun q => match nth ρ i, q.1 with
  | .int a, .int b => .ok (.nx, q.2.set i (.int (f a b)))
  | _, _ => .stk := by rw [← nth_eq]; cases ρ <;> rfl
@[simp] theorem sFor_ap (g : GA) (p : D → En → Option En) (body : GS) (ρ : En) : sFor g p body ρ = (g ρ).bind fun r => forL p body r.1 r.2 := by cases ρ <;> rfl
@[simp] theorem sExp_ap (g : GE) (ρ : En) : sExp g ρ = (g ρ).bind fun r => .ok (.nx, r.2) := by cases ρ <;> rfl
@[simp] theorem sBrk_ap (ρ : En) : sBrk ρ = .ok (.bk, ρ) := by cases ρ <;> rfl
@[simp] theorem sCont_ap (ρ : En) : sCont ρ = .ok (.ct, ρ) := by cases ρ <;> rfl
@[simp] theorem sPass_ap (ρ : En) : sPass ρ = .ok (.nx, ρ) := by cases ρ <;> rfl
@[simp] theorem sNo_ap (ρ : En) : sNo ρ = .stk := by cases ρ <;> rfl
@[simp] theorem pTup_ap (q : List D → En → Option En) (ds : List D) (ρ : En) : pTup q (.tup ds) ρ = q ds ρ := by cases ρ <;> rfl
@[simp] theorem psNil_ap (ρ : En) : psNil [] ρ = some ρ := by cases ρ <;> rfl
@[simp] theorem psCons_ap (p : D → En → Option En) (q : List D → En → Option En) (d : D) (r : List D) (ρ : En) : psCons p q (d :: r) ρ = match p d ρ with
  | some ρ' => q r ρ'
  | none => none := by cases ρ <;> rfl
@[simp] theorem iLst_ap (g : GE) (ρ : En) : iLst g ρ = (g ρ).bind fun p => match p.1 with
  | .lst xs => .ok (xs, p.2)
  | _ => .stk := by cases ρ <;> rfl
@[simp] theorem iTup_ap (g : GE) (ρ : En) : iTup g ρ = (g ρ).bind fun p => match p.1 with
  | .tup xs => .ok (xs, p.2)
  | _ => .stk := by cases ρ <;> rfl
open Classical in
@[simp] theorem iRg_ap (ga : GA) (ρ : En) : iRg ga ρ = (ga ρ).bind fun p => match p.1 with
  | [.int j] => if rngOk j then .ok (rngD 0 j, p.2) else .stk
  | [.int i, .int j] => if rngOk i ∧ rngOk j then .ok (rngD i j, p.2) else .stk
  | _ => .stk := by cases ρ <;> rfl
@[simp] theorem iEn_ap (g : GA) (ρ : En) : iEn g ρ = (g ρ).bind fun p => match p.1 with
  | [.lst xs] => .ok (enumD xs, p.2)
  | _ => .stk := by cases ρ <;> rfl
@[simp] theorem iZp_ap (g : GA) (ρ : En) : iZp g ρ = (g ρ).bind fun p => match p.1 with
  | [.lst xs, .lst ys] => .ok (zipD xs ys, p.2)
  | _ => .stk := by cases ρ <;> rfl
@[simp] theorem gSl_ap (f : Option Int → Option Int → D → Option D) (g : GE) (gl gh : En → Res (Option Int × En)) (ρ : En) : gSl f g gl gh ρ = (g ρ).bind fun p => (gl p.2).bind fun q => (gh q.2).bind fun r => match f q.1 r.1 p.1 with
  | some d => .ok (d, r.2)
  | none => .stk := by cases ρ <;> rfl
@[simp] theorem oNone_ap (ρ : En) : oNone ρ = .ok (none, ρ) := by cases ρ <;> rfl
@[simp] theorem oSome_ap (g : GE) (ρ : En) : oSome g ρ = (g ρ).bind fun p => match p.1 with
  | .int i => .ok (some i, p.2)
  | _ => .stk := by cases ρ <;> rfl
@[simp] theorem gLc_ap (gi : GA) (p : D → En → Option En) (gt : GT) (ge : GE) (ρ : En) : gLc gi p gt ge ρ = (gi ρ).bind fun r => if r.1.length ≤ SZ then (match lcM (lcF p gt ge r.2) r.1 with
  | some ds => .ok (.lst ds, r.2)
  | none => .stk) else .stk := by cases ρ <;> rfl
@[simp] theorem gPl_ap (g : En → Res (D × (D → D))) (ρ : En) : gPl g ρ = match g ρ with
  | .ok p => .ok (p.1, ρ)
  | _ => .stk := by cases ρ <;> rfl
@[simp] theorem gCh_ap (f f' : D → D → Option D) (ga gb gc : GE) (ρ : En) : gCh f f' ga gb gc ρ = (ga ρ).bind fun p => (gb p.2).bind fun q => match f p.1 q.1 with
  | some (.bl true) => (gc q.2).bind fun r => (match f' q.1 r.1 with
    | some d => .ok (d, r.2)
    | none => .stk)
  | some (.bl false) => .ok (.bl false, q.2)
  | _ => .stk := by cases ρ <;> rfl
@[simp] theorem gMake_ap (G : GF) (ci : Nat) (ga : GA) (ρ : En) : gMake G ci ga ρ = (ga ρ).bind fun p => match G (.ins ci [] :: p.1) with
  | .ok (_, [d]) => .ok (d, p.2)
  | .err c fs [_] => .err c fs p.2
  | _ => .stk := by cases ρ <;> rfl
@[simp] theorem sFldSet_ap (i ci k : Nat) (g : GE) (ρ : En) : sFldSet i ci k g ρ = (g ρ).bind fun p => match nth p.2 i with
  | .ins c fs => if c = ci then (if k = fs.length then .ok (.nx, p.2.set i (.ins c (fs ++ [p.1]))) else if k < fs.length then .ok (.nx, p.2.set i (.ins c (fs.set k p.1))) else .stk) else .stk
  | _ => .stk := by simp only [← nth_eq]; cases ρ <;> rfl
@[simp] theorem tYesD_ap (ρ : En) : tYesD ρ = .ok (true, ρ) := by cases ρ <;> rfl
@[simp] theorem tLend_ap (g : GT) (ρ : En) : tLend g ρ = match g ρ with
  | .ok p => .ok p
  | _ => .stk := by cases ρ <;> rfl
@[simp] theorem gDic0_ap (ρ : En) : gDic0 ρ = .ok (.dic [] [], ρ) := by cases ρ <;> rfl
@[simp] theorem gDic1_ap (gk gv : GE) (ρ : En) : gDic1 gk gv ρ = (gk ρ).bind fun p => (gv p.2).bind fun q => match keyD p.1 with
  | some k => .ok (.dic [.k k] [q.1], q.2)
  | none => .stk := by cases ρ <;> rfl
theorem runI_ap (n : Nat) (io : List Nat) (g : GS) (ds : List D) : runI n io g ds = match g (ds ++ List.replicate (n - ds.length) .non) with
  | .ok (.nx, ρ) => .ok (.non, outsOf io ρ)
  | .err c fs ρ => .err c fs (outsOf io ρ)
  | _ => .stk := by cases ds <;> rfl
theorem runP_ap (n : Nat) (io : List Nat) (g : GS) (ds : List D) : runP n io g ds = match g (ds ++ List.replicate (n - ds.length) .non) with
  | .ok (.rt d, ρ) => .ok (d, outsOf io ρ)
  | .ok (.nx, ρ) => .ok (.non, outsOf io ρ)
  | .ok _ => .stk
  | .err c fs ρ => .err c fs (outsOf io ρ)
  | .stk => .stk := by cases ds <;> rfl
@[simp] theorem fLen_lst (xs : List D) : fLen [.lst xs] = some (.int (xs.length : Nat)) := rfl
@[simp] theorem fLen_tup (xs : List D) : fLen [.tup xs] = some (.int (xs.length : Nat)) := rfl
@[simp] theorem fLen_scr (xs : List Int) : fLen [.scr xs] = some (.int (xs.length : Nat)) := rfl
@[simp] theorem fInt_int (i : Int) : fInt [.int i] = some (.int i) := rfl
@[simp] theorem fList_lst (xs : List D) : fList [.lst xs] = some (.lst xs) := rfl
@[simp] theorem fList_tup (xs : List D) : fList [.tup xs] = some (.lst xs) := rfl
@[simp] theorem fTuple_lst (xs : List D) : fTuple [.lst xs] = some (.tup xs) := rfl
@[simp] theorem fMax2_ii (i j : Int) : fMax2 [.int i, .int j] = some (.int (max i j)) := rfl
@[simp] theorem fTru_bl (b : Bool) : fTru (.bl b) = some b := rfl
@[simp] theorem fTru_int (i : Int) : fTru (.int i) = some (decide (i ≠ 0)) := rfl
@[simp] theorem fTru_lst (xs : List D) : fTru (.lst xs) = some (!xs.isEmpty) := rfl
@[simp] theorem fNeg_int (i : Int) : fNeg (.int i) = some (.int (-i)) := rfl
@[simp] theorem fSum_ints (ns : List Int) : fSum [.lst (ns.map D.int)] = some (.int ns.sum) := by
  show (intList (.lst (ns.map D.int))).map _ = _
  simp [intList]
@[simp] theorem fIx_lst (xs : List D) (i : Int) : fIx (.lst xs) (.int i) = atI xs i := rfl
@[simp] theorem fIx_tup (xs : List D) (i : Int) : fIx (.tup xs) (.int i) = atI xs i := rfl
@[simp] theorem fIx_scr (xs : List Int) (i : Int) : fIx (.scr xs) (.int i) = (atI xs i).map D.int := rfl
@[simp] theorem fCat_ll (xs ys : List D) : fCat (.lst xs) (.lst ys) = if xs.length + ys.length ≤ SZ then some (.lst (xs ++ ys)) else none := rfl
@[simp] theorem fRep_li (xs : List D) (k : Int) : fRep (.lst xs) (.int k) = if k < 100000 ∧ xs.length * k.toNat ≤ SZ ∧ -100000 < k then some (.lst (List.replicate k.toNat xs).flatten) else none := rfl
@[simp] theorem fSl_lst (xs : List D) (lo hi : Option Int) : fSl lo hi (.lst xs) = some (.lst (cutD xs lo hi)) := rfl
@[simp] theorem fSl_scr (xs : List Int) (lo hi : Option Int) : fSl lo hi (.scr xs) = some (.lst ((cutD xs lo hi).map D.int)) := rfl
@[simp] theorem fIsN_non (d : D) : fIsN d .non = some (.bl (isNon d)) := by cases d <;> rfl
@[simp] theorem fNotN_non (d : D) : fNotN d .non = some (.bl (!isNon d)) := by cases d <;> rfl
@[simp] theorem isNon_int (i : Int) : isNon (.int i) = false := rfl
@[simp] theorem isNon_non : isNon .non = true := rfl
@[simp] theorem fEq_ii (i j : Int) : fEq (.int i) (.int j) = some (.bl (decide (i = j))) := by
  unfold fEq
  have h : ∀ k : Int, SeqAt.shaped (D.int k).py = true := fun k => by simp [D.py, SeqAt.shaped, PyData.canLay0, PyData.depth]
  rw [if_pos ⟨h i, h j⟩]
  simp [D.py, PyData.eqv, BEq.beq]
@[simp] theorem fNe_ii (i j : Int) : fNe (.int i) (.int j) = some (.bl (!decide (i = j))) := by
  unfold fNe
  have h : ∀ k : Int, SeqAt.shaped (D.int k).py = true := fun k => by simp [D.py, SeqAt.shaped, PyData.canLay0, PyData.depth]
  rw [if_pos ⟨h i, h j⟩]
  simp [D.py, PyData.eqv, BEq.beq]
@[simp] theorem fNe_bb (i j : Bool) : fNe (.bl i) (.bl j) = some (.bl (!decide (i = j))) := by
  unfold fNe
  have h : ∀ k : Bool, SeqAt.shaped (D.bl k).py = true := fun k => by simp [D.py, SeqAt.shaped, PyData.canLay0, PyData.depth]
  rw [if_pos ⟨h i, h j⟩]
  simp [D.py, PyData.eqv, BEq.beq]
@[simp] theorem fEq_bb (i j : Bool) : fEq (.bl i) (.bl j) = some (.bl (decide (i = j))) := by
  unfold fEq
  have h : ∀ k : Bool, SeqAt.shaped (D.bl k).py = true := fun k => by simp [D.py, SeqAt.shaped, PyData.canLay0, PyData.depth]
  rw [if_pos ⟨h i, h j⟩]
  simp [D.py, PyData.eqv, BEq.beq]

/-! ### lists -/
theorem atI_ok {α : Type} {xs : List α} {j : Nat} {v : α} (h : xs[j]? = some v) : atI xs (j : Int) = some v := atI_nat h
theorem atI_mapI {α : Type} (xs : List Int) (f : Int → α) (j : Nat) (h : j < xs.length) : atI (xs.map f) (j : Int) = some (f xs[j]) := atI_nat (by simp [h])
/-- a comprehension without tests -/
theorem lcM_map {f : D → Option (Option D)} {h : D → D} : ∀ {xs : List D}, (∀ x ∈ xs, f x = some (some (h x))) → lcM f xs = some (xs.map h)
  | [], _ => rfl
  | x :: xs, k => by
    unfold lcM
    rw [k x List.mem_cons_self, lcM_map fun y hy => k y (List.mem_cons_of_mem _ hy)]
    rfl
theorem lcM_mapOf {α : Type} {f : D → Option (Option D)} {g : α → D} {h : α → D} : ∀ {xs : List α}, (∀ x ∈ xs, f (g x) = some (some (h x))) → lcM f (xs.map g) = some (xs.map h)
  | [], _ => rfl
  | x :: xs, k => by
    rw [List.map_cons]
    unfold lcM
    rw [k x List.mem_cons_self, lcM_mapOf fun y hy => k y (List.mem_cons_of_mem _ hy)]
    rfl
theorem lcM_filOf {α : Type} {f : D → Option (Option D)} {g : α → D} {p : α → Bool} {h : α → D} : ∀ {xs : List α}, (∀ x ∈ xs, f (g x) = some (if p x = true then some (h x) else none)) → lcM f (xs.map g) = some ((xs.filter p).map h)
  | [], _ => rfl
  | x :: xs, k => by
    rw [List.map_cons]
    unfold lcM
    rw [k x List.mem_cons_self, lcM_filOf fun y hy => k y (List.mem_cons_of_mem _ hy)]
    by_cases hp : p x = true
    · simp [hp]
    · simp [hp]
/-- items with their places, from n on -/
def enumF : Nat → List D → List D
  | _, [] => []
  | n, x :: xs => .tup [.int (n : Nat), x] :: enumF (n + 1) xs
theorem enumF_at : ∀ {xs : List D} {n i : Nat}, (enumF n xs)[i]? = (xs[i]?).map fun x => D.tup [.int ((n + i : Nat) : Int), x]
  | [], _, _ => by simp [enumF]
  | x :: xs, n, 0 => by simp [enumF]
  | x :: xs, n, i + 1 => by
    simp only [enumF, List.getElem?_cons_succ]
    rw [enumF_at]
    have : n + 1 + i = n + (i + 1) := by omega
    rw [this]
theorem enumD_F (xs : List D) : enumD xs = enumF 0 xs := by
  apply List.ext_getElem?
  intro i
  rw [enumF_at]
  unfold enumD
  rw [List.getElem?_zipWith]
  by_cases h : i < xs.length
  · simp [h]
  · simp [Nat.not_lt.mp h]
theorem rngD_map (n : Nat) : rngD 0 (n : Int) = (List.range n).map fun k => D.int ((k : Nat) : Int) := by
  unfold rngD
  simp
theorem cut_from {α : Type} (xs : List α) (k : Nat) (h : k ≤ xs.length) : cutD xs (some (k : Int)) none = xs.drop k := by
  unfold cutD
  rw [HT.sIx_nat, HT.sIx_none, Nat.min_eq_left h]
  exact List.take_of_length_le (by simp)
theorem cut_to {α : Type} (xs : List α) (k : Nat) (h : k ≤ xs.length) : cutD xs none (some (k : Int)) = xs.take k := by
  unfold cutD
  rw [HT.sIx_nat, HT.sIx_none, Nat.min_eq_left h]
  simp
theorem cut_both {α : Type} (xs : List α) (a b : Nat) (h : a ≤ b) (h2 : b ≤ xs.length) : cutD xs (some (a : Int)) (some (b : Int)) = (xs.drop a).take (b - a) := by
  unfold cutD
  rw [HT.sIx_nat, HT.sIx_nat, Nat.min_eq_left h2, Nat.min_eq_left (show a ≤ xs.length by omega)]
/-! ### what the operators ask -/
theorem mulL {i j : Int} (h1 : -18446744073709551616 < i) (h2 : i < 18446744073709551616) : CMulA i j := .inl (.inl ⟨by show -(2 ^ 64 : Int) < i; omega, by show i < (2 ^ 64 : Int); omega⟩)
theorem mulR {i j : Int} (h1 : -18446744073709551616 < j) (h2 : j < 18446744073709551616) : CMulA i j := .inl (.inr ⟨by show -(2 ^ 64 : Int) < j; omega, by show j < (2 ^ 64 : Int); omega⟩)
theorem mulW {i j : Int} (a b : Nat) (h1 : i.natAbs < 2 ^ a) (h2 : j.natAbs < 2 ^ b) (ha : 0 < a := by decide) (hb : 0 < b := by decide) (h : a + b ≤ 1000000 := by decide) : CMulA i j := .inr (wide_mul h1 h2 ha hb h)
theorem divS {i j : Int} (h1 : 0 < j) (h2 : j < 18446744073709551616) : CDivW i j :=
  have e : (2 : Nat) ^ 64 = 18446744073709551616 := by decide
  wide_div (b := 64) h1 (by rw [e]; omega) (by decide) (by decide)
theorem divW {i j : Int} (b : Nat) (h1 : 0 < j) (h2 : j.natAbs < 2 ^ b) (h0 : 0 < b := by decide) (h9 : b ≤ 9000 := by decide) : CDivW i j := wide_div h1 h2 h0 h9
end Dv
namespace Dv
theorem forL_nx {p : D → En → Option En} {body : GS} {x : D} {xs : List D} {ρ ρ1 ρ' : En} (h1 : p x ρ = some ρ1) (h2 : body ρ1 = .ok (.nx, ρ')) : forL p body (x :: xs) ρ = forL p body xs ρ' := by
  conv => lhs; unfold forL
  rw [h1]; simp only [h2]
theorem forL_bk {p : D → En → Option En} {body : GS} {x : D} {xs : List D} {ρ ρ1 ρ' : En} (h1 : p x ρ = some ρ1) (h2 : body ρ1 = .ok (.bk, ρ')) : forL p body (x :: xs) ρ = .ok (.nx, ρ') := by
  conv => lhs; unfold forL
  rw [h1]; simp only [h2]
theorem forL_rt {p : D → En → Option En} {body : GS} {x d : D} {xs : List D} {ρ ρ1 ρ' : En} (h1 : p x ρ = some ρ1) (h2 : body ρ1 = .ok (.rt d, ρ')) : forL p body (x :: xs) ρ = .ok (.rt d, ρ') := by
  conv => lhs; unfold forL
  rw [h1]; simp only [h2]
theorem forL_nil {p : D → En → Option En} {body : GS} {ρ : En} : forL p body [] ρ = .ok (.nx, ρ) := rfl
end Dv
/-! D18: == and != of the same data, dicts within. -/
namespace Dv
open PySem PySem.Spec PyProof.Rows L2
section
variable {P : Program} {w : World}
open SeqAt MeetsSeq MeetsSeq2 MeetsSeq3 SeqRoads2 AutoSeq1 in
/-- two tuples of equal items are not unequal -/
theorem tupNe_meets (p q : Addr) (us ws : Array Value) (k k2 : Nat) (d1 d2 : Option Addr) (t1 t2 : Array (Option Value)) (hz : us.size = ws.size) :
    MeetsIn P w (Builtin.«tuple.__ne__» ⟨[.ref p, .ref q], []⟩)
      (fun A R s => s.heap.get? p = some ⟨.type "tuple", d1, .seq us k, t1⟩ ∧ s.heap.get? q = some ⟨.type "tuple", d2, .seq ws k2, t2⟩ ∧
        (∀ z ∈ us.toList.zip ws.toList, EqP P w A.in1 s z.1 z.2 true) ∧ R (.ok (.ret (.bool false))) s) := .of_wp fun A R s hyp => by
  obtain ⟨h1, h2, h3, h4, h5⟩ := s
  obtain ⟨gp, gq, eqs, fin⟩ := hyp
  have sub := AutoSeq1.sub_tuple_tuple
  wp_walk using PySem.AutoSeq1.wpAny_loadPart' gp, PySem.AutoSeq1.wpAny_loadPart' gq
  refine wpAny_forIn_list _ (fun (left : List (Value × Value)) (st : Option Fin × Unit) s' => st.1 = none ∧ s' = ⟨h1, h2, h3, h4, h5⟩ ∧ ∀ z ∈ left, EqP P w A.in1 ⟨h1, h2, h3, h4, h5⟩ z.1 z.2 true) _ ?turnA ?finA (us.toList.zip ws.toList) _ ?hA
  case turnA =>
    rintro ⟨u, v⟩ left st s' ⟨n0, rfl, todo⟩
    refine wpAny_bind (todo (u, v) List.mem_cons_self _ _ ?_)
    wp_walk
    exact ⟨rfl, rfl, fun z hz => todo z (List.mem_cons_of_mem _ hz)⟩
  case finA =>
    rintro ⟨st1, st2⟩ s' ⟨n0, rfl, _⟩
    simp only at n0
    subst n0
    wp_walk
    exact ⟨_, rfl, by simpa [Builtin.Tuple.tupleCompareSizes, bne, hz] using fin⟩
  case hA => exact ⟨rfl, rfl, eqs⟩

theorem tupNe_run {A : Around} {s : Shared} {p q : Addr} {us ws : Array Value} (hp : IsTup s.heap p us) (hq : IsTup s.heap q ws) (hz : us.size = ws.size) (hu : A.units < cLine) (he : ∀ z ∈ us.toList.zip ws.toList, SeqAt.EqP P w A.in1 s z.1 z.2 true)
    (E Q : Value → Shared → Prop) (h : Q (.bool false) s) : wpAny (model P w) A (richCompare .NotEq (.ref p) (.ref q)) Q E s := by
  obtain ⟨⟨c1, d1, t1, l1⟩, g1, e1, n1, f1⟩ := id hp
  obtain ⟨⟨c2, d2, t2, l2⟩, g2, e2, n2, f2⟩ := id hq
  simp only at e1 f1 e2 f2
  subst e1 f1 e2 f2
  have ty1 : s.TypeIs (.ref p) "tuple" := ⟨_, g1, rfl⟩
  have ty2 : s.TypeIs (.ref q) "tuple" := ⟨_, g2, rfl⟩
  exact wpAny_richCompare_same_room (op := .NotEq) ty1 ty2 F.slot_tuple_ne (call_meetsIn F.slot_tuple_ne ty1 F.entry_tuple_ne (F.args_tuple_ne_2 _ _) (tupNe_meets p q us ws n1 n2 d1 d2 l1 l2 hz)
    ⟨g1, g2, he, show Value.bool false ≠ Value.notImplemented ∧ Q (.bool false) s from ⟨(fun x => nomatch x), h⟩⟩) hu
open PySem.W in
theorem dicNe_run {κ : Type} [DecidableEq κ] {knd : KeyKind P w κ} {A : Around} {s : Shared} {a b : Addr} {ka kb : List (κ × Value)} (ha : (a == sysModules) = false) (hb : (b == sysModules) = false)
    (da : s.heap.DictOf knd a ka) (db : s.heap.DictOf knd b kb) (hl : ka.length = kb.length) (hu : A.units < cLine) (hits : KeqHitsP P w A.in1 s kb ka true) (E Q : Value → Shared → Prop) (h : Q (.bool false) s) : wpAny (model P w) A (richCompare .NotEq (.ref a) (.ref b)) Q E s := by
  have pairs : ∀ (nm : String) (Q' : Bool → Shared → Prop) (E' : Value → Shared → Prop), Q' true s → wpAny (model P w) A.in1 (Builtin.Dict.samePairs nm a b) Q' E' s := fun nm Q' E' hq => samePairsP ha hb da db (fun _ => hits) (by rw [hl]; simpa using hq)
  have slots : ∀ (Q' : Value × Value → Shared → Prop) (E' : Value → Shared → Prop), Q' (.ref a, .ref b) s → wpAny (model P w) A.in1 (Builtin.Dict.dictSlotArgs "__ne__" ⟨[.ref a, .ref b], []⟩) Q' E' s := fun Q' E' hq => by
    unfold Builtin.Dict.dictSlotArgs
    exact wpAny_bind (wpAny_notOrdered_dict da.typeIs (by
      show wpAny _ _ (pure (Value.ref a, Value.ref b)) _ _ s
      exact wpAny_pure hq))
  refine wpAny_richCompare_same_room (op := .NotEq) da.typeIs db.typeIs F.slot_dict_ne (wpAny_call_entry F.slot_dict_ne da.typeIs F.entry_dict_ne (wpAny_bind (slots _ _ (wpAny_bind (wpAny_isInstance (T := "dict") db.typeIs F.sub_dict_dict ?_)))) (F.args_dict_ne_2 _ _)) hu
  simp only [Bool.not_true, Bool.false_eq_true, if_false]
  exact wpAny_bind (wpAny_pure (wpAny_bind (wpAny_pure (wpAny_bind (pairs _ _ _ (wpAny_pure ⟨_, rfl, (fun z => nomatch z), by simpa using h⟩))))))
end
/-! ### data with small dicts -/
/-- a dict of at most one pair, its value a scalar -/
def smDic : D → Bool
  | .dic [] [] => true
  | .dic [.k _] [d] => isSc d
  | _ => false
/-- .. or a tuple of scalars and such dicts -/
def smD : D → Bool
  | .tup ds => ds.all fun d => isSc d || smDic d
  | d => smDic d
section
variable {X : Cx} {cl : Cl} {pins : List (Addr × Obj)} {σ : L2.St} {H : Hp} {s : Shared}
theorem Rp.sc_same {x y : V} {d : D} (h : Rp X.K cl H x d) (h' : Rp X.K cl H y d) (f : isSc d = true) : x = y ∧ flatB x = true := by
  have a := h.to_sc f
  have b := h'.to_sc f
  cases a <;> cases b <;> exact ⟨rfl, rfl⟩
theorem smDic_at (I : L2.Inv X pins σ H s) {x : V} {u : Value} {d : D} (h : Rp X.K cl H x d) (f : smDic d = true) (rx : RelV x u) : ∃ p vs, u = .ref p ∧ (p == sysModules) = false ∧ s.heap.DictOf (mixKind X.prog X.w) p vs ∧
    ((vs = [] ∧ d = .dic [] []) ∨ ∃ k v z dv, vs = [(k, z)] ∧ d = .dic [.k k] [dv] ∧ isSc dv = true ∧ Rp X.K cl H v dv ∧ RelV v z) := by
  cases h with
  | @dk p kvs ks ds e1 e2 e3 =>
    cases (show u = Value.ref p from rx)
    obtain ⟨_, sm, vs, r, da⟩ := (show ObjOk X.prog X.w H s.heap p (.dK kvs) from I.hok p _ e1)
    refine ⟨p, vs, rfl, sm, da, ?_⟩
    match kvs, ks, ds, e2, e3, f, r with
    | [], [], [], _, _, _, r => cases r; exact .inl ⟨rfl, rfl⟩
    | [(k, v)], [k'], [dv], e2, e3, f, r =>
      simp at e2
      subst e2
      cases r with
      | @cons _ q _ qs h1 h2 =>
        cases h2
        obtain ⟨k1, z⟩ := q
        obtain ⟨h3, h4⟩ := h1
        cases e3 with
        | cons a b =>
          have h3 : k = k1 := h3
          subst h3
          exact .inr ⟨k, v, z, dv, rfl, rfl, f, a, h4⟩
  | @dt p kvs ks ds e1 e2 e3 =>
    cases (show u = Value.ref p from rx)
    match kvs, ks, ds, e2, e3, f with
    | [(k, v)], [k'], [dv], e2, e3, f => simp at e2; subst e2; simp [smDic] at f
    | [], [], [], _, _, f =>
      obtain ⟨_, sm, xs, r, da⟩ := (show ObjOk X.prog X.w H s.heap p (.dT []) from I.hok p _ e1)
      cases r
      obtain ⟨o, es, ep, g1, g2, g3, g4, _, _⟩ := da
      have ee : es = #[] := by
        have : es.toList = [] := by simpa using g4
        exact Array.toList_eq_nil_iff.mp this
      subst ee
      exact ⟨p, [], rfl, sm, ⟨o, _, ep, g1, g2, g3, (fun e he => by simp at he), .nil, List.nodup_nil⟩, .inl ⟨rfl, rfl⟩⟩
  | sc h => cases h <;> simp [smDic] at f
  | _ => simp [smDic] at f
theorem smHits (I : L2.Inv X pins σ H s) {A : Around} {vs vs' : List (Key × Value)} {d : D} (e : (vs = [] ∧ d = .dic [] []) ∨ ∃ k v z dv, vs = [(k, z)] ∧ d = .dic [.k k] [dv] ∧ isSc dv = true ∧ Rp X.K cl H v dv ∧ RelV v z)
    (e' : (vs' = [] ∧ d = .dic [] []) ∨ ∃ k v z dv, vs' = [(k, z)] ∧ d = .dic [.k k] [dv] ∧ isSc dv = true ∧ Rp X.K cl H v dv ∧ RelV v z) : vs.length = vs'.length ∧ PySem.W.KeqHitsP X.prog X.w A s vs' vs true := by
  rcases e with ⟨rfl, ed⟩ | ⟨k, v, z, dv, rfl, ed, f, r, rz⟩
  · rcases e' with ⟨rfl, ed'⟩ | ⟨k', v', z', dv', rfl, ed', f', r', rz'⟩
    · exact ⟨rfl, .nil⟩
    · rw [ed] at ed'; cases ed'
  · rcases e' with ⟨rfl, ed'⟩ | ⟨k', v', z', dv', rfl, ed', f', r', rz'⟩
    · rw [ed] at ed'; cases ed'
    · rw [ed] at ed'
      cases ed'
      obtain ⟨q1, q2⟩ := Rp.sc_same r r' f
      subst q1
      refine ⟨rfl, ?_⟩
      show PySem.W.KeqHitsP X.prog X.w A s [(k, z')] ((k, z) :: []) (true && true)
      exact .hit (y := z') (by simp [valueAt]) (eqAt_same rz rz' q2).eqP .nil
/-- the same scalar or small dict -/
theorem smItem (I : L2.Inv X pins σ H s) {A : Around} (hu : A.units + 1 < cLine) {x y : V} {u w : Value} {d : D} (h : Rp X.K cl H x d) (h' : Rp X.K cl H y d) (rx : RelV x u) (ry : RelV y w) (f : (isSc d || smDic d) = true) : SeqAt.EqP X.prog X.w A s u w true := by
  rcases (Bool.or_eq_true _ _).mp f with f | f
  · obtain ⟨e, q⟩ := Rp.sc_same h h' f
    subst e
    exact (eqAt_same rx ry q).eqP
  · obtain ⟨p, vs, rfl, sm, da, e⟩ := smDic_at I h f rx
    obtain ⟨p', vs', rfl, sm', da', e'⟩ := smDic_at I h' f ry
    by_cases ne : p = p'
    · subst ne; exact (SeqAt.EqAt.same _).eqP
    · obtain ⟨hl, hits⟩ := smHits I (A := A.in1) e e'
      refine SeqAt.eqP_refs ne fun E Q hq => PySem.W.rcP_dicts sm sm' da da' (by omega) (fun _ => hits) E Q ?_
      rw [hl]; simpa using hq
def rSame (K : PySem.W.Frag) (cl : Cl) : R2 := fun x y H Q => ∃ d, smD d = true ∧ Rp K cl H x d ∧ Rp K cl H y d ∧ Q (.bl false) H
/-- a != b of the same data, small dicts within -/
theorem op_neSame (hu : X.A.units + 64 < cLine) : OpR X (compareOp .NotEq) (rSame X.K cl) := by
  intro pins s σ H x y u w Q I rx ry h
  obtain ⟨d, f, h1, h2, q⟩ := h
  have fin : EP X pins σ Q (.bool false) s := ⟨.bl false, H, I, rfl, q⟩
  by_cases ft : ∃ ds, d = .tup ds
  · obtain ⟨ds, rfl⟩ := ft
    have f : (ds.all fun d => isSc d || smDic d) = true := f
    obtain ⟨p, vs, rfl, hp, rl⟩ := h1.to_tup
    obtain ⟨p', vs', rfl, hp', rl'⟩ := h2.to_tup
    cases (show u = Value.ref p from rx)
    cases (show w = Value.ref p' from ry)
    obtain ⟨its, rv, it, _⟩ := I.tuple (SqT.of hp)
    obtain ⟨its', rv', it', _⟩ := I.tuple (SqT.of hp')
    refine tupNe_run it it' ?_ (by omega) (fun z hz => ?_) _ _ fin
    · simp only [List.size_toArray]; rw [← rv.length, ← rv'.length, rl.length, rl'.length]
    · obtain ⟨i, hi, ei⟩ := List.getElem_of_mem hz
      simp only [List.getElem_zip] at ei
      have li : i < its.length := by simp at hi; omega
      have li' : i < its'.length := by simp at hi; omega
      have e1 : z.1 = its[i] := by rw [← ei]
      have e2 : z.2 = its'[i] := by rw [← ei]
      rw [e1, e2]
      have lv : i < vs.length := by rw [rv.length]; exact li
      have lv' : i < vs'.length := by rw [rv'.length]; exact li'
      obtain ⟨dd, ed, r1⟩ := rl.get (List.getElem?_eq_getElem lv)
      have r2 : Rp X.K cl H vs'[i] dd := by
        obtain ⟨v2, ev2, r2⟩ := rl'.getD ed
        rw [List.getElem?_eq_getElem lv'] at ev2
        cases ev2; exact r2
      obtain ⟨u1, eu1, ru1⟩ := rv.get (List.getElem?_eq_getElem lv)
      obtain ⟨u2, eu2, ru2⟩ := rv'.get (List.getElem?_eq_getElem lv')
      rw [List.getElem?_eq_getElem li] at eu1
      rw [List.getElem?_eq_getElem li'] at eu2
      cases eu1; cases eu2
      exact smItem I (A := X.A.in1) (by show X.A.units + 1 + 1 < cLine; omega) r1 r2 ru1 ru2 (List.all_eq_true.mp f dd (List.mem_of_getElem? ed))
  · have f : smDic d = true := by
      cases d with
      | tup ds => exact absurd ⟨ds, rfl⟩ ft
      | _ => exact f
    obtain ⟨p, vs, rfl, sm, da, e⟩ := smDic_at I h1 f rx
    obtain ⟨p', vs', rfl, sm', da', e'⟩ := smDic_at I h2 f ry
    obtain ⟨hl, hits⟩ := smHits I (A := X.A.in1) e e'
    exact dicNe_run sm sm' da da' hl (by omega) hits _ _ fin
open Classical in
noncomputable def fNeV : D → D → Option D := fun a b => if SeqAt.shaped a.py = true ∧ SeqAt.shaped b.py = true then some (.bl (!PyData.eqv a.py b.py)) else if a = b ∧ smD a = true then some (.bl false) else none
theorem op_neX (hu : X.A.units + 64 < cLine) : OpR X (compareOp .NotEq) (fun x y H Q => rNeD X.K x y H Q ∨ rSame X.K cl x y H Q) := (op_neD hu).or (op_neSame hu)
end
theorem d2_neX {K : PySem.W.Frag} {cl : Cl} {wa wb : W} (ha : wa.sv = true) (hb : wb.sv = true) : D2 K cl (fun x y H Q => rNeD K x y H Q ∨ rSame K cl x y H Q) wa wb fNeV .s := by
  intro B F0 R H x y dx dy Q s d e h
  have r1 := S.rpv1 s hb
  have r2 := S.rpv1 (S.drop s) ha
  unfold fNeV at e
  by_cases hs : SeqAt.shaped dx.py = true ∧ SeqAt.shaped dy.py = true
  · rw [if_pos hs] at e; cases e
    exact .inl ⟨_, _, r2.dp (SeqAt.canLay_of_shaped hs.1), r1.dp (SeqAt.canLay_of_shaped hs.2), hs.1, hs.2, h _ _ (S.addS (S.drop (S.drop s)) (.bl _))⟩
  · rw [if_neg hs] at e
    by_cases hq : dx = dy ∧ smD dx = true
    · rw [if_pos hq] at e; cases e
      obtain ⟨rfl, hq⟩ := hq
      exact .inr ⟨_, hq, r2, r1, h _ _ (S.addS (S.drop (S.drop s)) (.bl _))⟩
    · rw [if_neg hq] at e; cases e
@[simp] theorem fNeV_same {a : D} (h : (SeqAt.shaped a.py = true ∧ PyData.eqv a.py a.py = true) ∨ smD a = true) : fNeV a a = some (.bl false) := by
  unfold fNeV
  by_cases hs : SeqAt.shaped a.py = true ∧ SeqAt.shaped a.py = true
  · rw [if_pos hs, SeqAt.eqv_refl _ (SeqAt.canLay_of_shaped hs.1)]; rfl
  · rw [if_neg hs]
    rcases h with h | h
    · exact absurd ⟨h.1, h.1⟩ hs
    · rw [if_pos ⟨rfl, h⟩]
end Dv
namespace Dv.Lw
open PySem PySem.Spec PyProof.Rows L2 Dv
def top (i : Nat) : Stmt := PySem.Challenge.pw_pairorder_k41_shortages_judged.main.body.getD i (.Pass ⟨0, 0, 0, 0⟩)
abbrev knL : List Nat := [0, 5]
def clK (K : PySem.W.Frag) : Cl := ⟨fun c => match c with
  | 0 => He.ga K "Amounts"
  | 5 => He.ga K "Table"
  | _ => 0, fun c => match c with
  | 0 => ["stock_list", "wish_list"]
  | 5 => ["grid"]
  | _ => []⟩
abbrev dd__law_cell : He.DefD := ⟨("_law_cell", none), "_law_cell", "_law_cell", defArgs (top 31), defBody (top 31), defScope (top 31), [], []⟩
abbrev dd__law_mixed : He.DefD := ⟨("_law_mixed", none), "_law_mixed", "_law_mixed", defArgs (top 32), defBody (top 32), defScope (top 32), [], []⟩
abbrev dd__law_draws : He.DefD := ⟨("_law_draws", none), "_law_draws", "_law_draws", defArgs (top 33), defBody (top 33), defScope (top 33), [], []⟩
abbrev dd__law_grid : He.DefD := ⟨("_law_grid", none), "_law_grid", "_law_grid", defArgs (top 34), defBody (top 34), defScope (top 34), [], []⟩
abbrev dd__law_amounts : He.DefD := ⟨("_law_amounts", none), "_law_amounts", "_law_amounts", defArgs (top 37), defBody (top 37), defScope (top 37), [], []⟩
abbrev dd__law_copy : He.DefD := ⟨("_law_copy", none), "_law_copy", "_law_copy", defArgs (top 36), defBody (top 36), defScope (top 36), [], []⟩
abbrev dd_width_of : He.DefD := ⟨("width_of", none), "width_of", "width_of", defArgs (top 26), defBody (top 26), defScope (top 26), [], []⟩
abbrev dd_is_integer : He.DefD := ⟨("is_integer", none), "is_integer", "is_integer", defArgs (top 9), defBody (top 9), defScope (top 9), [], []⟩
abbrev dd_is_entry : He.DefD := ⟨("is_entry", none), "is_entry", "is_entry", defArgs (top 24), defBody (top 24), defScope (top 24), [], []⟩
abbrev dd_is_row : He.DefD := ⟨("is_row", none), "is_row", "is_row", defArgs (top 25), defBody (top 25), defScope (top 25), [], []⟩
abbrev dd_Table_init_ : He.DefD := ⟨("Table", some "__init__"), "__init__", "Table.__init__", defArgs (inClass (top 29) 0), defBody (inClass (top 29) 0), defScope (inClass (top 29) 0), [], []⟩
abbrev dd_check_list : He.DefD := ⟨("check_list", none), "check_list", "check_list", defArgs (top 14), defBody (top 14), defScope (top 14), [], []⟩
abbrev dd_Amounts_init_ : He.DefD := ⟨("Amounts", some "__init__"), "__init__", "Amounts.__init__", defArgs (inClass (top 15) 0), defBody (inClass (top 15) 0), defScope (inClass (top 15) 0), [], []⟩
abbrev dd__law_spoiled : He.DefD := ⟨("_law_spoiled", none), "_law_spoiled", "_law_spoiled", defArgs (top 41), defBody (top 41), defScope (top 41), [], []⟩
abbrev dd__law_value : He.DefD := ⟨("_law_value", none), "_law_value", "_law_value", defArgs (top 42), defBody (top 42), defScope (top 42), [], []⟩
abbrev dd__law_is_list_of : He.DefD := ⟨("_law_is_list_of", none), "_law_is_list_of", "_law_is_list_of", defArgs (top 39), defBody (top 39), defScope (top 39), [], []⟩
abbrev dd__law_holds_more : He.DefD := ⟨("_law_holds_more", none), "_law_holds_more", "_law_holds_more", defArgs (top 38), defBody (top 38), defScope (top 38), [], []⟩
abbrev dd__law_judged : He.DefD := ⟨("_law_judged", none), "_law_judged", "_law_judged", defArgs (top 40), defBody (top 40), defScope (top 40), [], []⟩
abbrev dd_Table_stocks : He.DefD := ⟨("Table", some "stocks"), "stocks", "Table.stocks", defArgs (inClass (top 29) 10), defBody (inClass (top 29) 10), defScope (inClass (top 29) 10), [], []⟩
abbrev dd_Table_wishes : He.DefD := ⟨("Table", some "wishes"), "wishes", "Table.wishes", defArgs (inClass (top 29) 11), defBody (inClass (top 29) 11), defScope (inClass (top 29) 11), [], []⟩
abbrev dd_Amounts_fits_size : He.DefD := ⟨("Amounts", some "fits_size"), "fits_size", "Amounts.fits_size", defArgs (inClass (top 15) 10), defBody (inClass (top 15) 10), defScope (inClass (top 15) 10), [], []⟩
abbrev dd_check_size : He.DefD := ⟨("check_size", none), "check_size", "check_size", defArgs (top 16), defBody (top 16), defScope (top 16), [], []⟩
abbrev dd_Table_rows : He.DefD := ⟨("Table", some "rows"), "rows", "Table.rows", defArgs (inClass (top 29) 12), defBody (inClass (top 29) 12), defScope (inClass (top 29) 12), [], []⟩
abbrev dd_Amounts_over : He.DefD := ⟨("Amounts", some "over"), "over", "Amounts.over", defArgs (inClass (top 15) 9), defBody (inClass (top 15) 9), defScope (inClass (top 15) 9), [], []⟩
abbrev dd_is_between : He.DefD := ⟨("is_between", none), "is_between", "is_between", defArgs (top 10), defBody (top 10), defScope (top 10), [], []⟩
abbrev dd_is_line_list : He.DefD := ⟨("is_line_list", none), "is_line_list", "is_line_list", defArgs (top 19), defBody (top 19), defScope (top 19), [], []⟩
abbrev dd_Amounts_stocks : He.DefD := ⟨("Amounts", some "stocks"), "stocks", "Amounts.stocks", defArgs (inClass (top 15) 7), defBody (inClass (top 15) 7), defScope (inClass (top 15) 7), [], []⟩
abbrev dd_Amounts_wishes : He.DefD := ⟨("Amounts", some "wishes"), "wishes", "Amounts.wishes", defArgs (inClass (top 15) 8), defBody (inClass (top 15) 8), defScope (inClass (top 15) 8), [], []⟩
abbrev dd_holds_more : He.DefD := ⟨("holds_more", none), "holds_more", "holds_more", defArgs (top 20), defBody (top 20), defScope (top 20), [], []⟩
abbrev dd_turned_grid : He.DefD := ⟨("turned_grid", none), "turned_grid", "turned_grid", defArgs (top 18), defBody (top 18), defScope (top 18), [], []⟩
abbrev dd_is_shortage : He.DefD := ⟨("is_shortage", none), "is_shortage", "is_shortage", defArgs (top 21), defBody (top 21), defScope (top 21), [], []⟩
abbrev dd_law : He.DefD := ⟨("law", none), "law", "law", defArgs (top 43), defBody (top 43), defScope (top 43), [], []⟩
def fnl : List He.DefD := [dd__law_cell, dd__law_mixed, dd__law_draws, dd__law_grid, dd__law_amounts, dd__law_copy, dd_width_of, dd_is_integer, dd_is_entry, dd_is_row, dd_Table_init_, dd_check_list, dd_Amounts_init_, dd__law_spoiled, dd__law_value, dd__law_is_list_of, dd__law_holds_more, dd__law_judged, dd_Table_stocks, dd_Table_wishes, dd_Amounts_fits_size, dd_check_size, dd_Table_rows, dd_Amounts_over, dd_is_between, dd_is_line_list, dd_Amounts_stocks, dd_Amounts_wishes, dd_holds_more, dd_turned_grid, dd_is_shortage, dd_law]
def fal : List He.Fa := ([.free "len", .free "int", .glo "_law_cell", .free "enumerate", .glo "_law_mixed", .glo "_law_draws", .free "range", .free "max", .free "sum", .free "list", .free "isinstance", .int "MOST" 8, .free "bool", .glo "is_integer", .glo "is_entry", .glo "width_of", .glo "is_row", .noat "Table" "grid", .int "LARGEST" 8, .glo "check_list", .noat "Amounts" "stock_list", .noat "Amounts" "wish_list", .free "tuple", .glo "_law_spoiled", .glo "_law_is_list_of", .glo "_law_holds_more", .meth "Table" "stocks", .meth "Table" "wishes", .meth "Amounts" "fits_size", .glo "is_between"] : List He.Fa) ++ ([.glo "check_size", .free "str", .meth "Table" "rows", .meth "Amounts" "over", .glo "is_line_list", .meth "Amounts" "stocks", .meth "Amounts" "wishes", .glo "holds_more", .glo "turned_grid", .glo "_law_grid", .glo "_law_amounts", .glo "_law_copy", .mkr "Table", .glo "Table", .mkr "Amounts", .glo "Amounts", .glo "_law_value", .glo "_law_judged", .glo "is_shortage", .cls "Amounts", .cls "Table", .glo "law"] : List He.Fa)
def xbl (K : PySem.W.Frag) : Bool := isiB K ["Amounts", "Table"]
def Says (K : PySem.W.Frag) : Prop := He.SaysD fal fnl K ∧ xbl K = true
section
variable {P : Program} {w : World} {K : PySem.W.Frag} {h : Heap} {mg : Str → Option Value} {base : Heap}
theorem cd_Amounts (X : K.In h) (G : h.Ns mainGlobals mg) (c : Says K) : ClsD K (clK K) 0 := ⟨He.cls_ok (c.1.fact 49 (f := .cls "Amounts") rfl), (show (["stock_list", "wish_list"] : List Str).Nodup by decide +kernel)⟩
theorem ind_Amounts (X : K.In h) (G : h.Ns mainGlobals mg) (c : Says K) : InD K (clK K) 0 := inD_ok rfl (He.cls_ok (c.1.fact 49 (f := .cls "Amounts") rfl)) (isiB_in c.2 (by decide))
theorem cd_Table (X : K.In h) (G : h.Ns mainGlobals mg) (c : Says K) : ClsD K (clK K) 5 := ⟨He.cls_ok (c.1.fact 50 (f := .cls "Table") rfl), (show (["grid"] : List Str).Nodup by decide +kernel)⟩
theorem ind_Table (X : K.In h) (G : h.Ns mainGlobals mg) (c : Says K) : InD K (clK K) 5 := inD_ok rfl (He.cls_ok (c.1.fact 50 (f := .cls "Table") rfl)) (isiB_in c.2 (by decide))
theorem ansB_bool (X : K.In h) (G : h.Ns mainGlobals mg) (c : Says K) : IsAns K (clK K) (.type "bool") (isB knL "bool") := isAns_B fun q hq => by
  simp only [List.mem_cons, List.not_mem_nil, or_false] at hq
  rcases hq with rfl | rfl
  all_goals first
    | exact ⟨ind_Amounts X G c, (isiB_b c.2 (x := "Amounts") (by decide) (by decide)).1⟩
    | exact ⟨ind_Table X G c, (isiB_b c.2 (x := "Table") (by decide) (by decide)).1⟩

theorem ansB_int (X : K.In h) (G : h.Ns mainGlobals mg) (c : Says K) : IsAns K (clK K) (.type "int") (isB knL "int") := isAns_B fun q hq => by
  simp only [List.mem_cons, List.not_mem_nil, or_false] at hq
  rcases hq with rfl | rfl
  all_goals first
    | exact ⟨ind_Amounts X G c, (isiB_b c.2 (x := "Amounts") (by decide) (by decide)).1⟩
    | exact ⟨ind_Table X G c, (isiB_b c.2 (x := "Table") (by decide) (by decide)).1⟩

theorem ansB_list (X : K.In h) (G : h.Ns mainGlobals mg) (c : Says K) : IsAns K (clK K) (.type "list") (isB knL "list") := isAns_B fun q hq => by
  simp only [List.mem_cons, List.not_mem_nil, or_false] at hq
  rcases hq with rfl | rfl
  all_goals first
    | exact ⟨ind_Amounts X G c, (isiB_b c.2 (x := "Amounts") (by decide) (by decide)).1⟩
    | exact ⟨ind_Table X G c, (isiB_b c.2 (x := "Table") (by decide) (by decide)).1⟩

theorem ansB_str (X : K.In h) (G : h.Ns mainGlobals mg) (c : Says K) : IsAns K (clK K) (.type "str") (isB knL "str") := isAns_B fun q hq => by
  simp only [List.mem_cons, List.not_mem_nil, or_false] at hq
  rcases hq with rfl | rfl
  all_goals first
    | exact ⟨ind_Amounts X G c, (isiB_b c.2 (x := "Amounts") (by decide) (by decide)).1⟩
    | exact ⟨ind_Table X G c, (isiB_b c.2 (x := "Table") (by decide) (by decide)).1⟩

theorem ansB_tuple (X : K.In h) (G : h.Ns mainGlobals mg) (c : Says K) : IsAns K (clK K) (.type "tuple") (isB knL "tuple") := isAns_B fun q hq => by
  simp only [List.mem_cons, List.not_mem_nil, or_false] at hq
  rcases hq with rfl | rfl
  all_goals first
    | exact ⟨ind_Amounts X G c, (isiB_b c.2 (x := "Amounts") (by decide) (by decide)).1⟩
    | exact ⟨ind_Table X G c, (isiB_b c.2 (x := "Table") (by decide) (by decide)).1⟩

abbrev st__law_cell : Stmt := top 31
noncomputable def S__law_cell : GS := (sSeq (sIf (tVal (gOp fLt (gVar 1) (gBi fLen (gaCons (gVar 0) gaNil)))) (sRet (gBi fInt (gaCons (gOp fIx (gVar 0) (gVar 1)) gaNil))) sNil) (sRet (gC (.int 0))))
noncomputable def F__law_cell : GF := runF 2 [] S__law_cell
theorem sc__law_cell : FnScope ["_law_script", "_law_k"] ["_law_script", "_law_k"] (defScope st__law_cell) := ⟨rfl, rfl, rfl, by decide +kernel, rfl, by decide +kernel, by decide +kernel⟩
theorem ok__law_cell (X : K.In h) (G : h.Ns mainGlobals mg) (c : Says K) : ∃ fd, FnD P w K mg base (clK K) 1 (He.fAd K ("_law_cell", none)) fd ["_law_script", "_law_k"] ⟨[.z, .z], .s, [], []⟩ F__law_cell ∧ Binds K fd ["_law_script", "_law_k"] [] ∧ PySem.W.keepIn K (.ref (He.fAd K ("_law_cell", none))) = true := by
  obtain ⟨fd, FF⟩ := c.1.def_ 0 (d := dd__law_cell) rfl
  refine ⟨fd, fnD_of (k := 0) (N := ["_law_script", "_law_k"]) (g := S__law_cell) (sg := ⟨[.z, .z], .s, [], []⟩) (Γ' := [.u, .u]) FF sc__law_cell rfl ⟨by decide, by decide, rfl, by decide⟩ (fun cdv A outer s H E hr => ?_), FF.bindsN fun _ _ _ _ _ _ us hl => match us, hl with | [_, _], _ => rfl, FF.kp⟩
  exact (dss_cons (Γ1 := [.z, .z]) (ds_if (Γ2 := [.z, .z]) (dt_cmp op_lt (d2_lt (by rfl) (by rfl)) (de_var (i := 1) (w := .z) (by rfl) (by first | exact .inl rfl | exact .inr (.inl rfl) | exact .inr (.inr rfl)) (by rfl) (by rfl)) (de_bi call_len (db_len (by rfl)) (by rfl) (He.free_ok X G (c.1.fact 0 (f := .free "len") (by rfl))) boot_len (da_cons (de_var (i := 0) (w := .z) (by rfl) (by first | exact .inl rfl | exact .inr (.inl rfl) | exact .inr (.inr rfl)) (by rfl) (by rfl)) da_nil)))
      (dss_one (ds_ret (de_ty call_int1 (db_int (by rfl)) (by rfl) (He.free_ok X G (c.1.fact 1 (f := .free "int") (by rfl))) boot_int (da_cons (de_ix ix_seq (d2_ix (by rfl) (by rfl)) (de_var (i := 0) (w := .z) (by rfl) (by first | exact .inl rfl | exact .inr (.inl rfl) | exact .inr (.inr rfl)) (by rfl) (by rfl)) (de_var (i := 1) (w := .z) (by rfl) (by first | exact .inl rfl | exact .inr (.inl rfl) | exact .inr (.inr rfl)) (by rfl) (by rfl))) da_nil)) (by rfl) (by rfl)))
      dss_nil)
      (dss_one (ds_ret de_int (by rfl) (by rfl))))
abbrev st__law_mixed : Stmt := top 32
noncomputable def S__law_mixed : GS := (sSeq (sAsg (gOp fMod (gBi fInt (gaCons (gOp fMul (gOp fAdd (gOp fAdd (gVar 0) (gOp fMul (gC (.int 7919)) (gVar 1))) (gC (.int 1))) (gC (.int 48271))) gaNil)) (gC (.int 2147483647))) (pName 2)) (sSeq (sAsg (gOp fMod (gBi fInt (gaCons (gOp fMul (gVar 2) (gOp fAdd (gOp fDiv (gVar 2) (gC (.int 1009))) (gC (.int 69621)))) gaNil)) (gC (.int 2147483647))) (pName 2)) (sRet (gOp fMod (gBi fInt (gaCons (gOp fMul (gVar 2) (gOp fAdd (gOp fDiv (gVar 2) (gC (.int 2003))) (gC (.int 40692)))) gaNil)) (gC (.int 2147483399))))))
noncomputable def F__law_mixed : GF := runF 3 [] S__law_mixed
theorem sc__law_mixed : FnScope ["_law_cell_here", "_law_k", "_law_number"] ["_law_cell_here", "_law_k"] (defScope st__law_mixed) := ⟨rfl, rfl, rfl, by decide +kernel, rfl, by decide +kernel, by decide +kernel⟩
theorem ok__law_mixed (X : K.In h) (G : h.Ns mainGlobals mg) (c : Says K) : ∃ fd, FnD P w K mg base (clK K) 1 (He.fAd K ("_law_mixed", none)) fd ["_law_cell_here", "_law_k"] ⟨[.z, .z], .s, [], []⟩ F__law_mixed ∧ Binds K fd ["_law_cell_here", "_law_k"] [] ∧ PySem.W.keepIn K (.ref (He.fAd K ("_law_mixed", none))) = true := by
  obtain ⟨fd, FF⟩ := c.1.def_ 1 (d := dd__law_mixed) rfl
  refine ⟨fd, fnD_of (k := 0) (N := ["_law_cell_here", "_law_k", "_law_number"]) (g := S__law_mixed) (sg := ⟨[.z, .z], .s, [], []⟩) (Γ' := [.u, .u, .u]) FF sc__law_mixed rfl ⟨by decide, by decide, rfl, by decide⟩ (fun cdv A outer s H E hr => ?_), FF.bindsN fun _ _ _ _ _ _ us hl => match us, hl with | [_, _], _ => rfl, FF.kp⟩
  exact (dss_cons (Γ1 := [.z, .z, .s]) (ds_set (i := 2) (Γ1 := [.z, .z, .u]) (w := .s) sc__law_mixed.nd (by rfl) (by first | exact .inl rfl | exact .inr rfl) (de_op op_mod (d2_mod (by rfl) (by rfl)) (de_ty call_int1 (db_int (by rfl)) (by rfl) (He.free_ok X G (c.1.fact 1 (f := .free "int") (by rfl))) boot_int (da_cons (de_op op_mulA (d2_mul (by rfl) (by rfl)) (de_op op_add (d2_add (by rfl) (by rfl)) (de_op op_add (d2_add (by rfl) (by rfl)) (de_var (i := 0) (w := .z) (by rfl) (by first | exact .inl rfl | exact .inr (.inl rfl) | exact .inr (.inr rfl)) (by rfl) (by rfl)) (de_op op_mulA (d2_mul (by rfl) (by rfl)) de_int (de_var (i := 1) (w := .z) (by rfl) (by first | exact .inl rfl | exact .inr (.inl rfl) | exact .inr (.inr rfl)) (by rfl) (by rfl)))) de_int) de_int) da_nil)) de_int))
      (dss_cons (Γ1 := [.z, .z, .s]) (ds_set (i := 2) (Γ1 := [.z, .z, .s]) (w := .s) sc__law_mixed.nd (by rfl) (by first | exact .inl rfl | exact .inr rfl) (de_op op_mod (d2_mod (by rfl) (by rfl)) (de_ty call_int1 (db_int (by rfl)) (by rfl) (He.free_ok X G (c.1.fact 1 (f := .free "int") (by rfl))) boot_int (da_cons (de_op op_mulA (d2_mul (by rfl) (by rfl)) (de_var (i := 2) (w := .s) (by rfl) (by first | exact .inl rfl | exact .inr (.inl rfl) | exact .inr (.inr rfl)) (by rfl) (by rfl)) (de_op op_add (d2_add (by rfl) (by rfl)) (de_op op_fdivW (d2_div (by rfl) (by rfl)) (de_var (i := 2) (w := .s) (by rfl) (by first | exact .inl rfl | exact .inr (.inl rfl) | exact .inr (.inr rfl)) (by rfl) (by rfl)) de_int) de_int)) da_nil)) de_int))
      (dss_one (ds_ret (de_op op_mod (d2_mod (by rfl) (by rfl)) (de_ty call_int1 (db_int (by rfl)) (by rfl) (He.free_ok X G (c.1.fact 1 (f := .free "int") (by rfl))) boot_int (da_cons (de_op op_mulA (d2_mul (by rfl) (by rfl)) (de_var (i := 2) (w := .s) (by rfl) (by first | exact .inl rfl | exact .inr (.inl rfl) | exact .inr (.inr rfl)) (by rfl) (by rfl)) (de_op op_add (d2_add (by rfl) (by rfl)) (de_op op_fdivW (d2_div (by rfl) (by rfl)) (de_var (i := 2) (w := .s) (by rfl) (by first | exact .inl rfl | exact .inr (.inl rfl) | exact .inr (.inr rfl)) (by rfl) (by rfl)) de_int) de_int)) da_nil)) de_int) (by rfl) (by rfl)))))
abbrev st__law_draws : Stmt := top 33
noncomputable def B__law_draws_0 : GS := (sIf (tAnd (tVal (gOp fGe (gVar 3) (gOp fPow (gC (.int 10)) (gC (.int 18))))) (tVal (gOp fGt (gVar 4) (gC (.int 0))))) (sSeq (sApp 5 (plVar 5) (gOp fMod (gBi fInt (gaCons (gVar 4) gaNil)) (gVar 7))) (sAsg (gOp fDiv (gVar 4) (gVar 7)) (pName 4))) (sSeq (sAsg (gOp fDiv (gCall F__law_mixed [] (gaCons (gVar 3) (gaCons (gOp fAdd (gOp fMul (gC (.int 1009)) (gVar 1)) (gVar 6)) gaNil))) (gC (.int 16))) (pName 8)) (sSeq (sIf (tVal (gOp fGt (gVar 7) (gOp fPow (gC (.int 10)) (gC (.int 8))))) (sSeq (sAsg (gOp fMul (gVar 8) (gOp fAdd (gOp fPow (gC (.int 10)) (gC (.int 22))) (gC (.int 9)))) (pName 8)) (sAug 8 (fun i j => i + j) (gOp fDiv (gCall F__law_mixed [] (gaCons (gOp fAdd (gVar 3) (gC (.int 1))) (gaCons (gOp fAdd (gOp fMul (gC (.int 1009)) (gVar 1)) (gVar 6)) gaNil))) (gC (.int 16))))) sNil) (sApp 5 (plVar 5) (gOp fMod (gBi fInt (gaCons (gVar 8) gaNil)) (gVar 7))))))
noncomputable def S__law_draws : GS := (sSeq (sAsg (gCall F__law_cell [] (gaCons (gVar 0) (gaCons (gVar 1) gaNil))) (pName 3)) (sSeq (sAsg (gVar 3) (pName 4)) (sSeq (sAsg (gLst gaNil) (pName 5)) (sSeq (sFor (iEn (gaCons (gVar 2) gaNil)) (pTup (psCons (pName 6) (psCons (pName 7) psNil))) B__law_draws_0) (sRet (gVar 5))))))
noncomputable def F__law_draws : GF := runF 9 [] S__law_draws
theorem sc__law_draws : FnScope ["_law_script", "_law_spot", "_law_sizes", "_law_cell_here", "_law_left", "_law_drawn", "_law_k", "_law_size", "_law_number"] ["_law_script", "_law_spot", "_law_sizes"] (defScope st__law_draws) := ⟨rfl, rfl, rfl, by decide +kernel, rfl, by decide +kernel, by decide +kernel⟩
theorem ok__law_draws (X : K.In h) (G : h.Ns mainGlobals mg) (c : Says K) : ∃ fd, FnD P w K mg base (clK K) 2 (He.fAd K ("_law_draws", none)) fd ["_law_script", "_law_spot", "_law_sizes"] ⟨[.z, .z, .z], (.o .s), [], []⟩ F__law_draws ∧ Binds K fd ["_law_script", "_law_spot", "_law_sizes"] [] ∧ PySem.W.keepIn K (.ref (He.fAd K ("_law_draws", none))) = true := by
  obtain ⟨fd__law_cell, fo__law_cell, fb__law_cell, fk__law_cell⟩ := ok__law_cell (P := P) (w := w) (base := base) X G c
  obtain ⟨fd__law_mixed, fo__law_mixed, fb__law_mixed, fk__law_mixed⟩ := ok__law_mixed (P := P) (w := w) (base := base) X G c
  obtain ⟨fd, FF⟩ := c.1.def_ 2 (d := dd__law_draws) rfl
  refine ⟨fd, fnD_of (k := 1) (N := ["_law_script", "_law_spot", "_law_sizes", "_law_cell_here", "_law_left", "_law_drawn", "_law_k", "_law_size", "_law_number"]) (g := S__law_draws) (sg := ⟨[.z, .z, .z], (.o .s), [], []⟩) (Γ' := [.u, .u, .u, .u, .u, .u, .u, .u, .u]) FF sc__law_draws rfl ⟨by decide, by decide, rfl, by decide⟩ (fun cdv A outer s H E hr => ?_), FF.bindsN fun _ _ _ _ _ _ us hl => match us, hl with | [_, _, _], _ => rfl, FF.kp⟩
  exact (dss_cons (Γ1 := [.z, .z, .z, .s, .u, .u, .u, .u, .u]) (ds_set (i := 3) (Γ1 := [.z, .z, .z, .u, .u, .u, .u, .u, .u]) (w := .s) sc__law_draws.nd (by rfl) (by first | exact .inl rfl | exact .inr rfl) (de_callP fo__law_cell (hr.mono (by decide)) takesX (by rfl) (He.glo_ok X G (c.1.fact 2 (f := .glo "_law_cell") (by rfl))) fk__law_cell fb__law_cell (da_cons (de_var (i := 0) (w := .z) (by rfl) (by first | exact .inl rfl | exact .inr (.inl rfl) | exact .inr (.inr rfl)) (by rfl) (by rfl)) (da_cons (de_var (i := 1) (w := .z) (by rfl) (by first | exact .inl rfl | exact .inr (.inl rfl) | exact .inr (.inr rfl)) (by rfl) (by rfl)) da_nil)) (by rfl)))
      (dss_cons (Γ1 := [.z, .z, .z, .s, .s, .u, .u, .u, .u]) (ds_set (i := 4) (Γ1 := [.z, .z, .z, .s, .u, .u, .u, .u, .u]) (w := .s) sc__law_draws.nd (by rfl) (by first | exact .inl rfl | exact .inr rfl) (de_var (i := 3) (w := .s) (by rfl) (by first | exact .inl rfl | exact .inr (.inl rfl) | exact .inr (.inr rfl)) (by rfl) (by rfl)))
      (dss_cons (Γ1 := [.z, .z, .z, .s, .s, .o .s, .u, .u, .u]) (ds_set (i := 5) (Γ1 := [.z, .z, .z, .s, .s, .u, .u, .u, .u]) (w := (.o .s)) sc__law_draws.nd (by rfl) (by first | exact .inl rfl | exact .inr rfl) (de_lst (w := .s) da_nil (by rfl) (by rfl)))
      (dss_cons (Γ1 := [.z, .z, .z, .s, .s, .o .s, .u, .u, .u]) (ds_for (Γ1 := [.z, .z, .z, .s, .s, .o .s, .u, .u, .u]) (Γi := [.z, .z, .z, .s, .s, .o .s, .u, .u, .u]) (w := (.t [.s, .z])) (Γ2 := [.z, .z, .z, .s, .s, .o .s, .s, .z, .u]) passX (by rfl) (di_enum (by rfl) (He.free_ok X G (c.1.fact 3 (f := .free "enumerate") (by rfl))) (da_cons (de_var (i := 2) (w := .z) (by rfl) (by first | exact .inl rfl | exact .inr (.inl rfl) | exact .inr (.inr rfl)) (by rfl) (by rfl)) da_nil)) (by rfl) (dg_tupT (by rfl) (dgs_cons (dg_name (i := 6) sc__law_draws.nd (by rfl) (by first | exact .inl rfl | exact .inr rfl)) (dgs_cons (dg_name (i := 7) sc__law_draws.nd (by rfl) (by first | exact .inl rfl | exact .inr rfl)) dgs_nil)))
      (dss_one (ds_weak (Γ1 := [.z, .z, .z, .s, .s, .o .s, .s, .z, .u]) (ds_if (Γ2 := [.z, .z, .z, .s, .s, .o .s, .s, .z, .u]) (de_weakT (dt_and (dt_cmp op_ge (d2_ge (by rfl) (by rfl)) (de_var (i := 3) (w := .s) (by rfl) (by first | exact .inl rfl | exact .inr (.inl rfl) | exact .inr (.inr rfl)) (by rfl) (by rfl)) (de_op op_pow (d2_pow (by rfl) (by rfl)) de_int de_int)) (dt_and1 (dt_cmp op_gt (d2_gt (by rfl) (by rfl)) (de_var (i := 4) (w := .s) (by rfl) (by first | exact .inl rfl | exact .inr (.inl rfl) | exact .inr (.inr rfl)) (by rfl) (by rfl)) de_int)) (by rfl)))
      (dss_cons (Γ1 := [.z, .z, .z, .s, .s, .o .s, .s, .z, .u]) (ds_append (Γ2 := [.z, .z, .z, .s, .s, .u, .s, .z, .u]) (w2 := .s) (pl_var (i := 5) (w := (.o .s)) (by rfl) (by first | exact .inl rfl | exact .inr (.inl rfl) | exact .inr (.inr rfl)) (by rfl) (by rfl)) (de_op op_mod (d2_mod (by rfl) (by rfl)) (de_ty call_int1 (db_int (by rfl)) (by rfl) (He.free_ok X G (c.1.fact 1 (f := .free "int") (by rfl))) boot_int (da_cons (de_var (i := 4) (w := .s) (by rfl) (by first | exact .inl rfl | exact .inr (.inl rfl) | exact .inr (.inr rfl)) (by rfl) (by rfl)) da_nil)) (de_var (i := 7) (w := .z) (by rfl) (by first | exact .inl rfl | exact .inr (.inl rfl) | exact .inr (.inr rfl)) (by rfl) (by rfl))) (by rfl))
      (dss_one (ds_set (i := 4) (Γ1 := [.z, .z, .z, .s, .s, .o .s, .s, .z, .u]) (w := .s) sc__law_draws.nd (by rfl) (by first | exact .inl rfl | exact .inr rfl) (de_op op_fdivW (d2_div (by rfl) (by rfl)) (de_var (i := 4) (w := .s) (by rfl) (by first | exact .inl rfl | exact .inr (.inl rfl) | exact .inr (.inr rfl)) (by rfl) (by rfl)) (de_var (i := 7) (w := .z) (by rfl) (by first | exact .inl rfl | exact .inr (.inl rfl) | exact .inr (.inr rfl)) (by rfl) (by rfl))))))
      (dss_cons (Γ1 := [.z, .z, .z, .s, .s, .o .s, .s, .z, .s]) (ds_set (i := 8) (Γ1 := [.z, .z, .z, .s, .s, .o .s, .s, .z, .u]) (w := .s) sc__law_draws.nd (by rfl) (by first | exact .inl rfl | exact .inr rfl) (de_op op_fdivW (d2_div (by rfl) (by rfl)) (de_callP fo__law_mixed (hr.mono (by decide)) takesX (by rfl) (He.glo_ok X G (c.1.fact 4 (f := .glo "_law_mixed") (by rfl))) fk__law_mixed fb__law_mixed (da_cons (de_w (w' := .z) (de_var (i := 3) (w := .s) (by rfl) (by first | exact .inl rfl | exact .inr (.inl rfl) | exact .inr (.inr rfl)) (by rfl) (by rfl)) (by rfl)) (da_cons (de_w (w' := .z) (de_op op_add (d2_add (by rfl) (by rfl)) (de_op op_mulA (d2_mul (by rfl) (by rfl)) de_int (de_var (i := 1) (w := .z) (by rfl) (by first | exact .inl rfl | exact .inr (.inl rfl) | exact .inr (.inr rfl)) (by rfl) (by rfl))) (de_var (i := 6) (w := .s) (by rfl) (by first | exact .inl rfl | exact .inr (.inl rfl) | exact .inr (.inr rfl)) (by rfl) (by rfl))) (by rfl)) da_nil)) (by rfl)) de_int))
      (dss_cons (Γ1 := [.z, .z, .z, .s, .s, .o .s, .s, .z, .s]) (ds_if (Γ2 := [.z, .z, .z, .s, .s, .o .s, .s, .z, .s]) (dt_cmp op_gt (d2_gt (by rfl) (by rfl)) (de_var (i := 7) (w := .z) (by rfl) (by first | exact .inl rfl | exact .inr (.inl rfl) | exact .inr (.inr rfl)) (by rfl) (by rfl)) (de_op op_pow (d2_pow (by rfl) (by rfl)) de_int de_int))
      (dss_cons (Γ1 := [.z, .z, .z, .s, .s, .o .s, .s, .z, .s]) (ds_set (i := 8) (Γ1 := [.z, .z, .z, .s, .s, .o .s, .s, .z, .s]) (w := .s) sc__law_draws.nd (by rfl) (by first | exact .inl rfl | exact .inr rfl) (de_op op_mulA (d2_mul (by rfl) (by rfl)) (de_var (i := 8) (w := .s) (by rfl) (by first | exact .inl rfl | exact .inr (.inl rfl) | exact .inr (.inr rfl)) (by rfl) (by rfl)) (de_op op_add (d2_add (by rfl) (by rfl)) (de_op op_pow (d2_pow (by rfl) (by rfl)) de_int de_int) de_int)))
      (dss_one (ds_aug (i := 8) (Γ1 := [.z, .z, .z, .s, .s, .o .s, .s, .z, .s]) (w := .s) sc__law_draws.nd (by rfl) (by first | exact .inl rfl | exact .inr rfl) ip_add (by rfl) (by rfl) (de_op op_fdivW (d2_div (by rfl) (by rfl)) (de_callP fo__law_mixed (hr.mono (by decide)) takesX (by rfl) (He.glo_ok X G (c.1.fact 4 (f := .glo "_law_mixed") (by rfl))) fk__law_mixed fb__law_mixed (da_cons (de_w (w' := .z) (de_op op_add (d2_add (by rfl) (by rfl)) (de_var (i := 3) (w := .s) (by rfl) (by first | exact .inl rfl | exact .inr (.inl rfl) | exact .inr (.inr rfl)) (by rfl) (by rfl)) de_int) (by rfl)) (da_cons (de_w (w' := .z) (de_op op_add (d2_add (by rfl) (by rfl)) (de_op op_mulA (d2_mul (by rfl) (by rfl)) de_int (de_var (i := 1) (w := .z) (by rfl) (by first | exact .inl rfl | exact .inr (.inl rfl) | exact .inr (.inr rfl)) (by rfl) (by rfl))) (de_var (i := 6) (w := .s) (by rfl) (by first | exact .inl rfl | exact .inr (.inl rfl) | exact .inr (.inr rfl)) (by rfl) (by rfl))) (by rfl)) da_nil)) (by rfl)) de_int) (by rfl))))
      dss_nil)
      (dss_one (ds_weak (Γ1 := [.z, .z, .z, .s, .s, .o .s, .s, .z, .s]) (ds_append (Γ2 := [.z, .z, .z, .s, .s, .u, .s, .z, .s]) (w2 := .s) (pl_var (i := 5) (w := (.o .s)) (by rfl) (by first | exact .inl rfl | exact .inr (.inl rfl) | exact .inr (.inr rfl)) (by rfl) (by rfl)) (de_op op_mod (d2_mod (by rfl) (by rfl)) (de_ty call_int1 (db_int (by rfl)) (by rfl) (He.free_ok X G (c.1.fact 1 (f := .free "int") (by rfl))) boot_int (da_cons (de_var (i := 8) (w := .s) (by rfl) (by first | exact .inl rfl | exact .inr (.inl rfl) | exact .inr (.inr rfl)) (by rfl) (by rfl)) da_nil)) (de_var (i := 7) (w := .z) (by rfl) (by first | exact .inl rfl | exact .inr (.inl rfl) | exact .inr (.inr rfl)) (by rfl) (by rfl))) (by rfl)) (by rfl)))))) (by rfl))))
      (dss_one (ds_ret (w := (.o .s)) (de_mov1 (i := 5) (w := (.o .s)) (by rfl) (by first | exact .inl rfl | exact .inr (.inl rfl) | exact .inr (.inr rfl)) (by rfl) (by rfl)) (by rfl) (by rfl)))))))
abbrev st__law_grid : Stmt := top 34
noncomputable def B__law_grid_0 : GS := (sSeq (sAsg (gOp fIx (gVar 8) (gOp fAdd (gOp fMul (gVar 12) (gVar 3)) (gVar 14))) (pName 15)) (sSeq (sAsg (gOp fSub (gOp fDiv (gVar 15) (gC (.int 18))) (gOp fDiv (gVar 6) (gC (.int 3)))) (pName 16)) (sSeq (sIf (tVal (gOp fGe (gVar 4) (gC (.int 4)))) (sAsg (gOp fSub (gOp fAdd (gOp fIx (gVar 9) (gVar 12)) (gOp fMul (gC (.int 2)) (gOp fIx (gVar 10) (gVar 14)))) (gOp fMul (gOp fIx (gVar 9) (gVar 12)) (gOp fIx (gVar 10) (gVar 14)))) (pName 16)) sNil) (sSeq (sIf (tAnd (tVal (gOp fGt (gVar 5) (gC (.int 0)))) (tVal (gOp fEq (gOp fMod (gBi fInt (gaCons (gVar 15) gaNil)) (gBi fMax2 (gaCons (gC (.int 1)) (gaCons (gVar 5) gaNil)))) (gC (.int 0))))) (sAsg (gC .non) (pName 16)) sNil) (sApp 13 (plVar 13) (gVar 16))))))
noncomputable def B__law_grid_1 : GS := (sSeq (sAsg (gLst gaNil) (pName 13)) (sSeq (sFor (iRg (gaCons (gVar 3) gaNil)) (pName 14) B__law_grid_0) (sApp 11 (plVar 11) (gVar 13))))
noncomputable def S__law_grid : GS := (sSeq (sAsg (gOp fIx (gLst (gaCons (gC (.int 3)) (gaCons (gC (.int 8)) (gaCons (gC (.int 1000)) (gaCons (gOp fPow (gC (.int 10)) (gC (.int 59))) gaNil))))) (gOp fMod (gVar 4) (gC (.int 4)))) (pName 6)) (sSeq (sIf (tVal (gOp fEq (gVar 4) (gC (.int 7)))) (sAsg (gOp fPow (gC (.int 10)) (gC (.int 29))) (pName 6)) sNil) (sSeq (sAsg (gOp fCat (gOp fRep (gLst (gaCons (gOp fMul (gC (.int 18)) (gVar 6)) gaNil)) (gOp fMul (gVar 2) (gVar 3))) (gOp fRep (gLst (gaCons (gVar 6) gaNil)) (gOp fAdd (gVar 2) (gVar 3)))) (pName 7)) (sSeq (sAsg (gCall F__law_draws [] (gaCons (gVar 0) (gaCons (gVar 1) (gaCons (gVar 7) gaNil)))) (pName 8)) (sSeq (sAsg (gSl fSl (gVar 8) (oSome (gOp fMul (gVar 2) (gVar 3))) (oSome (gOp fAdd (gOp fMul (gVar 2) (gVar 3)) (gVar 2)))) (pName 9)) (sSeq (sAsg (gSl fSl (gVar 8) (oSome (gOp fAdd (gOp fMul (gVar 2) (gVar 3)) (gVar 2))) oNone) (pName 10)) (sSeq (sAsg (gLst gaNil) (pName 11)) (sSeq (sFor (iRg (gaCons (gVar 2) gaNil)) (pName 12) B__law_grid_1) (sRet (gVar 11))))))))))
noncomputable def F__law_grid : GF := runF 17 [] S__law_grid
theorem sc__law_grid : FnScope ["_law_script", "_law_spot", "_law_m", "_law_n", "_law_style", "_law_share", "_law_spread", "_law_sizes", "_law_drawn", "_law_high", "_law_wide", "_law_grid_here", "_law_i", "_law_row", "_law_j", "_law_number", "_law_price"] ["_law_script", "_law_spot", "_law_m", "_law_n", "_law_style", "_law_share"] (defScope st__law_grid) := ⟨rfl, rfl, rfl, by decide +kernel, rfl, by decide +kernel, by decide +kernel⟩
theorem ok__law_grid (X : K.In h) (G : h.Ns mainGlobals mg) (c : Says K) : ∃ fd, FnD P w K mg base (clK K) 3 (He.fAd K ("_law_grid", none)) fd ["_law_script", "_law_spot", "_law_m", "_law_n", "_law_style", "_law_share"] ⟨[.z, .z, .z, .z, .z, .z], .z, [], []⟩ F__law_grid ∧ Binds K fd ["_law_script", "_law_spot", "_law_m", "_law_n", "_law_style", "_law_share"] [] ∧ PySem.W.keepIn K (.ref (He.fAd K ("_law_grid", none))) = true := by
  obtain ⟨fd__law_draws, fo__law_draws, fb__law_draws, fk__law_draws⟩ := ok__law_draws (P := P) (w := w) (base := base) X G c
  obtain ⟨fd, FF⟩ := c.1.def_ 3 (d := dd__law_grid) rfl
  refine ⟨fd, fnD_of (k := 2) (N := ["_law_script", "_law_spot", "_law_m", "_law_n", "_law_style", "_law_share", "_law_spread", "_law_sizes", "_law_drawn", "_law_high", "_law_wide", "_law_grid_here", "_law_i", "_law_row", "_law_j", "_law_number", "_law_price"]) (g := S__law_grid) (sg := ⟨[.z, .z, .z, .z, .z, .z], .z, [], []⟩) (Γ' := [.u, .u, .u, .u, .u, .u, .u, .u, .u, .u, .u, .u, .u, .u, .u, .u, .u]) FF sc__law_grid rfl ⟨by decide, by decide, rfl, by decide⟩ (fun cdv A outer s H E hr => ?_), FF.bindsN fun _ _ _ _ _ _ us hl => match us, hl with | [_, _, _, _, _, _], _ => rfl, FF.kp⟩
  exact (dss_cons (Γ1 := [.z, .z, .z, .z, .z, .z, .z, .u, .u, .u, .u, .u, .u, .u, .u, .u, .u]) (ds_set (i := 6) (Γ1 := [.z, .z, .z, .z, .z, .z, .u, .u, .u, .u, .u, .u, .u, .u, .u, .u, .u]) (w := .z) sc__law_grid.nd (by rfl) (by first | exact .inl rfl | exact .inr rfl) (de_ix ix_seq (d2_ix (by rfl) (by rfl)) (de_w (w' := .z) (de_lst (w := .s) (da_cons de_int (da_cons de_int (da_cons de_int (da_cons (de_op op_pow (d2_pow (by rfl) (by rfl)) de_int de_int) da_nil)))) (by rfl) (by rfl)) (by rfl)) (de_op op_mod (d2_mod (by rfl) (by rfl)) (de_var (i := 4) (w := .z) (by rfl) (by first | exact .inl rfl | exact .inr (.inl rfl) | exact .inr (.inr rfl)) (by rfl) (by rfl)) de_int)))
      (dss_cons (Γ1 := [.z, .z, .z, .z, .z, .z, .z, .u, .u, .u, .u, .u, .u, .u, .u, .u, .u]) (ds_if (Γ2 := [.z, .z, .z, .z, .z, .z, .z, .u, .u, .u, .u, .u, .u, .u, .u, .u, .u]) (dt_cmp (op_eqD (Room.units hr)) (d2_eq (by rfl) (by rfl)) (de_var (i := 4) (w := .z) (by rfl) (by first | exact .inl rfl | exact .inr (.inl rfl) | exact .inr (.inr rfl)) (by rfl) (by rfl)) de_int)
      (dss_one (ds_weak (Γ1 := [.z, .z, .z, .z, .z, .z, .s, .u, .u, .u, .u, .u, .u, .u, .u, .u, .u]) (ds_set (i := 6) (Γ1 := [.z, .z, .z, .z, .z, .z, .z, .u, .u, .u, .u, .u, .u, .u, .u, .u, .u]) (w := .s) sc__law_grid.nd (by rfl) (by first | exact .inl rfl | exact .inr rfl) (de_op op_pow (d2_pow (by rfl) (by rfl)) de_int de_int)) (by rfl)))
      dss_nil)
      (dss_cons (Γ1 := [.z, .z, .z, .z, .z, .z, .z, .o .z, .u, .u, .u, .u, .u, .u, .u, .u, .u]) (ds_set (i := 7) (Γ1 := [.z, .z, .z, .z, .z, .z, .z, .u, .u, .u, .u, .u, .u, .u, .u, .u, .u]) (w := (.o .z)) sc__law_grid.nd (by rfl) (by first | exact .inl rfl | exact .inr rfl) (de_op op_cat (d2_cat (by rfl) (by rfl)) (de_w (w' := .z) (de_op op_rep (d2_rep (by rfl) (by rfl)) (de_w (w' := .z) (de_lst (w := .s) (da_cons (de_op op_mulA (d2_mul (by rfl) (by rfl)) de_int (de_var (i := 6) (w := .z) (by rfl) (by first | exact .inl rfl | exact .inr (.inl rfl) | exact .inr (.inr rfl)) (by rfl) (by rfl))) da_nil) (by rfl) (by rfl)) (by rfl)) (de_op op_mulA (d2_mul (by rfl) (by rfl)) (de_var (i := 2) (w := .z) (by rfl) (by first | exact .inl rfl | exact .inr (.inl rfl) | exact .inr (.inr rfl)) (by rfl) (by rfl)) (de_var (i := 3) (w := .z) (by rfl) (by first | exact .inl rfl | exact .inr (.inl rfl) | exact .inr (.inr rfl)) (by rfl) (by rfl)))) (by rfl)) (de_w (w' := .z) (de_op op_rep (d2_rep (by rfl) (by rfl)) (de_w (w' := .z) (de_lst (w := .z) (da_cons (de_var (i := 6) (w := .z) (by rfl) (by first | exact .inl rfl | exact .inr (.inl rfl) | exact .inr (.inr rfl)) (by rfl) (by rfl)) da_nil) (by rfl) (by rfl)) (by rfl)) (de_op op_add (d2_add (by rfl) (by rfl)) (de_var (i := 2) (w := .z) (by rfl) (by first | exact .inl rfl | exact .inr (.inl rfl) | exact .inr (.inr rfl)) (by rfl) (by rfl)) (de_var (i := 3) (w := .z) (by rfl) (by first | exact .inl rfl | exact .inr (.inl rfl) | exact .inr (.inr rfl)) (by rfl) (by rfl)))) (by rfl))))
      (dss_cons (Γ1 := [.z, .z, .z, .z, .z, .z, .z, .z, .o .s, .u, .u, .u, .u, .u, .u, .u, .u]) (ds_pre (Γ1 := [.z, .z, .z, .z, .z, .z, .z, .z, .u, .u, .u, .u, .u, .u, .u, .u, .u]) (ds_set (i := 8) (Γ1 := [.z, .z, .z, .z, .z, .z, .z, .z, .u, .u, .u, .u, .u, .u, .u, .u, .u]) (w := (.o .s)) sc__law_grid.nd (by rfl) (by first | exact .inl rfl | exact .inr rfl) (de_callP fo__law_draws (hr.mono (by decide)) takesX (by rfl) (He.glo_ok X G (c.1.fact 5 (f := .glo "_law_draws") (by rfl))) fk__law_draws fb__law_draws (da_cons (de_var (i := 0) (w := .z) (by rfl) (by first | exact .inl rfl | exact .inr (.inl rfl) | exact .inr (.inr rfl)) (by rfl) (by rfl)) (da_cons (de_var (i := 1) (w := .z) (by rfl) (by first | exact .inl rfl | exact .inr (.inl rfl) | exact .inr (.inr rfl)) (by rfl) (by rfl)) (da_cons (de_var (i := 7) (w := .z) (by rfl) (by first | exact .inl rfl | exact .inr (.inl rfl) | exact .inr (.inr rfl)) (by rfl) (by rfl)) da_nil))) (by rfl))) (by rfl))
      (dss_cons (Γ1 := [.z, .z, .z, .z, .z, .z, .z, .z, .z, .o .z, .u, .u, .u, .u, .u, .u, .u]) (ds_pre (Γ1 := [.z, .z, .z, .z, .z, .z, .z, .z, .z, .u, .u, .u, .u, .u, .u, .u, .u]) (ds_set (i := 9) (Γ1 := [.z, .z, .z, .z, .z, .z, .z, .z, .z, .u, .u, .u, .u, .u, .u, .u, .u]) (w := (.o .z)) sc__law_grid.nd (by rfl) (by first | exact .inl rfl | exact .inr rfl) (de_slice sl_list (dsl_list (by rfl)) (de_var (i := 8) (w := .z) (by rfl) (by first | exact .inl rfl | exact .inr (.inl rfl) | exact .inr (.inr rfl)) (by rfl) (by rfl)) (do_some (de_op op_mulA (d2_mul (by rfl) (by rfl)) (de_var (i := 2) (w := .z) (by rfl) (by first | exact .inl rfl | exact .inr (.inl rfl) | exact .inr (.inr rfl)) (by rfl) (by rfl)) (de_var (i := 3) (w := .z) (by rfl) (by first | exact .inl rfl | exact .inr (.inl rfl) | exact .inr (.inr rfl)) (by rfl) (by rfl))) (by rfl)) (do_some (de_op op_add (d2_add (by rfl) (by rfl)) (de_op op_mulA (d2_mul (by rfl) (by rfl)) (de_var (i := 2) (w := .z) (by rfl) (by first | exact .inl rfl | exact .inr (.inl rfl) | exact .inr (.inr rfl)) (by rfl) (by rfl)) (de_var (i := 3) (w := .z) (by rfl) (by first | exact .inl rfl | exact .inr (.inl rfl) | exact .inr (.inr rfl)) (by rfl) (by rfl))) (de_var (i := 2) (w := .z) (by rfl) (by first | exact .inl rfl | exact .inr (.inl rfl) | exact .inr (.inr rfl)) (by rfl) (by rfl))) (by rfl)))) (by rfl))
      (dss_cons (Γ1 := [.z, .z, .z, .z, .z, .z, .z, .z, .z, .o .z, .o .z, .u, .u, .u, .u, .u, .u]) (ds_set (i := 10) (Γ1 := [.z, .z, .z, .z, .z, .z, .z, .z, .z, .o .z, .u, .u, .u, .u, .u, .u, .u]) (w := (.o .z)) sc__law_grid.nd (by rfl) (by first | exact .inl rfl | exact .inr rfl) (de_slice sl_list (dsl_list (by rfl)) (de_var (i := 8) (w := .z) (by rfl) (by first | exact .inl rfl | exact .inr (.inl rfl) | exact .inr (.inr rfl)) (by rfl) (by rfl)) (do_some (de_op op_add (d2_add (by rfl) (by rfl)) (de_op op_mulA (d2_mul (by rfl) (by rfl)) (de_var (i := 2) (w := .z) (by rfl) (by first | exact .inl rfl | exact .inr (.inl rfl) | exact .inr (.inr rfl)) (by rfl) (by rfl)) (de_var (i := 3) (w := .z) (by rfl) (by first | exact .inl rfl | exact .inr (.inl rfl) | exact .inr (.inr rfl)) (by rfl) (by rfl))) (de_var (i := 2) (w := .z) (by rfl) (by first | exact .inl rfl | exact .inr (.inl rfl) | exact .inr (.inr rfl)) (by rfl) (by rfl))) (by rfl)) do_none))
      (dss_cons (Γ1 := [.z, .z, .z, .z, .z, .z, .z, .z, .z, .o .z, .o .z, .o .z, .u, .u, .u, .u, .u]) (ds_set (i := 11) (Γ1 := [.z, .z, .z, .z, .z, .z, .z, .z, .z, .o .z, .o .z, .u, .u, .u, .u, .u, .u]) (w := (.o .z)) sc__law_grid.nd (by rfl) (by first | exact .inl rfl | exact .inr rfl) (de_lst (w := .z) da_nil (by rfl) (by rfl)))
      (dss_cons (Γ1 := [.z, .z, .z, .z, .z, .z, .z, .z, .z, .z, .z, .o .z, .u, .u, .u, .u, .u]) (ds_for (Γ1 := [.z, .z, .z, .z, .z, .z, .z, .z, .z, .o .z, .o .z, .o .z, .u, .u, .u, .u, .u]) (Γi := [.z, .z, .z, .z, .z, .z, .z, .z, .z, .z, .z, .o .z, .u, .u, .u, .u, .u]) (w := .s) (Γ2 := [.z, .z, .z, .z, .z, .z, .z, .z, .z, .z, .z, .o .z, .s, .u, .u, .u, .u]) passX (by rfl) (di_range1 (by rfl) (He.free_ok X G (c.1.fact 6 (f := .free "range") (by rfl))) (da_cons (de_var (i := 2) (w := .z) (by rfl) (by first | exact .inl rfl | exact .inr (.inl rfl) | exact .inr (.inr rfl)) (by rfl) (by rfl)) da_nil) (by rfl)) (by rfl) (dg_name (i := 12) sc__law_grid.nd (by rfl) (by first | exact .inl rfl | exact .inr rfl))
      (dss_cons (Γ1 := [.z, .z, .z, .z, .z, .z, .z, .z, .z, .z, .z, .o .z, .s, .o .z, .u, .u, .u]) (ds_set (i := 13) (Γ1 := [.z, .z, .z, .z, .z, .z, .z, .z, .z, .z, .z, .o .z, .s, .u, .u, .u, .u]) (w := (.o .z)) sc__law_grid.nd (by rfl) (by first | exact .inl rfl | exact .inr rfl) (de_lst (w := .z) da_nil (by rfl) (by rfl)))
      (dss_cons (Γ1 := [.z, .z, .z, .z, .z, .z, .z, .z, .z, .z, .z, .o .z, .s, .o .z, .u, .u, .u]) (ds_for (Γ1 := [.z, .z, .z, .z, .z, .z, .z, .z, .z, .z, .z, .o .z, .s, .o .z, .u, .u, .u]) (Γi := [.z, .z, .z, .z, .z, .z, .z, .z, .z, .z, .z, .o .z, .s, .o .z, .u, .u, .u]) (w := .s) (Γ2 := [.z, .z, .z, .z, .z, .z, .z, .z, .z, .z, .z, .o .z, .s, .o .z, .s, .u, .u]) passX (by rfl) (di_range1 (by rfl) (He.free_ok X G (c.1.fact 6 (f := .free "range") (by rfl))) (da_cons (de_var (i := 3) (w := .z) (by rfl) (by first | exact .inl rfl | exact .inr (.inl rfl) | exact .inr (.inr rfl)) (by rfl) (by rfl)) da_nil) (by rfl)) (by rfl) (dg_name (i := 14) sc__law_grid.nd (by rfl) (by first | exact .inl rfl | exact .inr rfl))
      (dss_cons (Γ1 := [.z, .z, .z, .z, .z, .z, .z, .z, .z, .z, .z, .o .z, .s, .o .z, .s, .z, .u]) (ds_set (i := 15) (Γ1 := [.z, .z, .z, .z, .z, .z, .z, .z, .z, .z, .z, .o .z, .s, .o .z, .s, .u, .u]) (w := .z) sc__law_grid.nd (by rfl) (by first | exact .inl rfl | exact .inr rfl) (de_ix ix_seq (d2_ix (by rfl) (by rfl)) (de_var (i := 8) (w := .z) (by rfl) (by first | exact .inl rfl | exact .inr (.inl rfl) | exact .inr (.inr rfl)) (by rfl) (by rfl)) (de_op op_add (d2_add (by rfl) (by rfl)) (de_op op_mulA (d2_mul (by rfl) (by rfl)) (de_var (i := 12) (w := .s) (by rfl) (by first | exact .inl rfl | exact .inr (.inl rfl) | exact .inr (.inr rfl)) (by rfl) (by rfl)) (de_var (i := 3) (w := .z) (by rfl) (by first | exact .inl rfl | exact .inr (.inl rfl) | exact .inr (.inr rfl)) (by rfl) (by rfl))) (de_var (i := 14) (w := .s) (by rfl) (by first | exact .inl rfl | exact .inr (.inl rfl) | exact .inr (.inr rfl)) (by rfl) (by rfl)))))
      (dss_cons (Γ1 := [.z, .z, .z, .z, .z, .z, .z, .z, .z, .z, .z, .o .z, .s, .o .z, .s, .z, .s]) (ds_set (i := 16) (Γ1 := [.z, .z, .z, .z, .z, .z, .z, .z, .z, .z, .z, .o .z, .s, .o .z, .s, .z, .u]) (w := .s) sc__law_grid.nd (by rfl) (by first | exact .inl rfl | exact .inr rfl) (de_op op_sub (d2_sub (by rfl) (by rfl)) (de_op op_fdivW (d2_div (by rfl) (by rfl)) (de_var (i := 15) (w := .z) (by rfl) (by first | exact .inl rfl | exact .inr (.inl rfl) | exact .inr (.inr rfl)) (by rfl) (by rfl)) de_int) (de_op op_fdivW (d2_div (by rfl) (by rfl)) (de_var (i := 6) (w := .z) (by rfl) (by first | exact .inl rfl | exact .inr (.inl rfl) | exact .inr (.inr rfl)) (by rfl) (by rfl)) de_int)))
      (dss_cons (Γ1 := [.z, .z, .z, .z, .z, .z, .z, .z, .z, .z, .z, .o .z, .s, .o .z, .s, .z, .s]) (ds_if (Γ2 := [.z, .z, .z, .z, .z, .z, .z, .z, .z, .z, .z, .o .z, .s, .o .z, .s, .z, .s]) (dt_cmp op_ge (d2_ge (by rfl) (by rfl)) (de_var (i := 4) (w := .z) (by rfl) (by first | exact .inl rfl | exact .inr (.inl rfl) | exact .inr (.inr rfl)) (by rfl) (by rfl)) de_int)
      (dss_one (ds_set (i := 16) (Γ1 := [.z, .z, .z, .z, .z, .z, .z, .z, .z, .z, .z, .o .z, .s, .o .z, .s, .z, .s]) (w := .s) sc__law_grid.nd (by rfl) (by first | exact .inl rfl | exact .inr rfl) (de_op op_sub (d2_sub (by rfl) (by rfl)) (de_op op_add (d2_add (by rfl) (by rfl)) (de_ix ix_seq (d2_ix (by rfl) (by rfl)) (de_var (i := 9) (w := .z) (by rfl) (by first | exact .inl rfl | exact .inr (.inl rfl) | exact .inr (.inr rfl)) (by rfl) (by rfl)) (de_var (i := 12) (w := .s) (by rfl) (by first | exact .inl rfl | exact .inr (.inl rfl) | exact .inr (.inr rfl)) (by rfl) (by rfl))) (de_op op_mulA (d2_mul (by rfl) (by rfl)) de_int (de_ix ix_seq (d2_ix (by rfl) (by rfl)) (de_var (i := 10) (w := .z) (by rfl) (by first | exact .inl rfl | exact .inr (.inl rfl) | exact .inr (.inr rfl)) (by rfl) (by rfl)) (de_var (i := 14) (w := .s) (by rfl) (by first | exact .inl rfl | exact .inr (.inl rfl) | exact .inr (.inr rfl)) (by rfl) (by rfl))))) (de_op op_mulA (d2_mul (by rfl) (by rfl)) (de_ix ix_seq (d2_ix (by rfl) (by rfl)) (de_var (i := 9) (w := .z) (by rfl) (by first | exact .inl rfl | exact .inr (.inl rfl) | exact .inr (.inr rfl)) (by rfl) (by rfl)) (de_var (i := 12) (w := .s) (by rfl) (by first | exact .inl rfl | exact .inr (.inl rfl) | exact .inr (.inr rfl)) (by rfl) (by rfl))) (de_ix ix_seq (d2_ix (by rfl) (by rfl)) (de_var (i := 10) (w := .z) (by rfl) (by first | exact .inl rfl | exact .inr (.inl rfl) | exact .inr (.inr rfl)) (by rfl) (by rfl)) (de_var (i := 14) (w := .s) (by rfl) (by first | exact .inl rfl | exact .inr (.inl rfl) | exact .inr (.inr rfl)) (by rfl) (by rfl)))))))
      dss_nil)
      (dss_cons (Γ1 := [.z, .z, .z, .z, .z, .z, .z, .z, .z, .z, .z, .o .z, .s, .o .z, .s, .z, .s]) (ds_if (Γ2 := [.z, .z, .z, .z, .z, .z, .z, .z, .z, .z, .z, .o .z, .s, .o .z, .s, .z, .s]) (de_weakT (dt_and (dt_cmp op_gt (d2_gt (by rfl) (by rfl)) (de_var (i := 5) (w := .z) (by rfl) (by first | exact .inl rfl | exact .inr (.inl rfl) | exact .inr (.inr rfl)) (by rfl) (by rfl)) de_int) (dt_and1 (dt_cmp (op_eqD (Room.units hr)) (d2_eq (by rfl) (by rfl)) (de_op op_mod (d2_mod (by rfl) (by rfl)) (de_ty call_int1 (db_int (by rfl)) (by rfl) (He.free_ok X G (c.1.fact 1 (f := .free "int") (by rfl))) boot_int (da_cons (de_var (i := 15) (w := .z) (by rfl) (by first | exact .inl rfl | exact .inr (.inl rfl) | exact .inr (.inr rfl)) (by rfl) (by rfl)) da_nil)) (de_bi (call_max2 (by rfl)) (db_max2 (by rfl) (by rfl)) (by rfl) (He.free_ok X G (c.1.fact 7 (f := .free "max") (by rfl))) boot_max (da_cons de_int (da_cons (de_var (i := 5) (w := .z) (by rfl) (by first | exact .inl rfl | exact .inr (.inl rfl) | exact .inr (.inr rfl)) (by rfl) (by rfl)) da_nil)))) de_int)) (by rfl)))
      (dss_one (ds_set (i := 16) (Γ1 := [.z, .z, .z, .z, .z, .z, .z, .z, .z, .z, .z, .o .z, .s, .o .z, .s, .z, .s]) (w := .s) sc__law_grid.nd (by rfl) (by first | exact .inl rfl | exact .inr rfl) de_non))
      dss_nil)
      (dss_one (ds_weak (Γ1 := [.z, .z, .z, .z, .z, .z, .z, .z, .z, .z, .z, .o .z, .s, .o .z, .s, .z, .s]) (ds_append (Γ2 := [.z, .z, .z, .z, .z, .z, .z, .z, .z, .z, .z, .o .z, .s, .u, .s, .z, .s]) (w2 := .s) (pl_var (i := 13) (w := (.o .z)) (by rfl) (by first | exact .inl rfl | exact .inr (.inl rfl) | exact .inr (.inr rfl)) (by rfl) (by rfl)) (de_var (i := 16) (w := .s) (by rfl) (by first | exact .inl rfl | exact .inr (.inl rfl) | exact .inr (.inr rfl)) (by rfl) (by rfl)) (by rfl)) (by rfl))))))))
      (dss_one (ds_weak (Γ1 := [.z, .z, .z, .z, .z, .z, .z, .z, .z, .z, .z, .o .z, .s, .z, .u, .u, .u]) (ds_pre (Γ1 := [.z, .z, .z, .z, .z, .z, .z, .z, .z, .z, .z, .o .z, .s, .z, .u, .u, .u]) (ds_append (Γ2 := [.z, .z, .z, .z, .z, .z, .z, .z, .z, .z, .z, .u, .s, .z, .u, .u, .u]) (w2 := .z) (pl_var (i := 11) (w := (.o .z)) (by rfl) (by first | exact .inl rfl | exact .inr (.inl rfl) | exact .inr (.inr rfl)) (by rfl) (by rfl)) (de_var (i := 13) (w := .z) (by rfl) (by first | exact .inl rfl | exact .inr (.inl rfl) | exact .inr (.inr rfl)) (by rfl) (by rfl)) (by rfl)) (by rfl)) (by rfl))))))
      (dss_one (ds_pre (Γ1 := [.z, .z, .z, .z, .z, .z, .z, .z, .z, .z, .z, .z, .u, .u, .u, .u, .u]) (ds_ret (de_var (i := 11) (w := .z) (by rfl) (by first | exact .inl rfl | exact .inr (.inl rfl) | exact .inr (.inr rfl)) (by rfl) (by rfl)) (by rfl) (by rfl)) (by rfl)))))))))))
abbrev st__law_amounts : Stmt := top 37
noncomputable def S__law_amounts : GS := (sSeq (sAsg (gOp fIx (gLst (gaCons (gC (.int 2)) (gaCons (gC (.int 4)) (gaCons (gC (.int 1000)) (gaCons (gOp fPow (gC (.int 10)) (gC (.int 58))) gaNil))))) (gVar 4)) (pName 6)) (sSeq (sAsg (gCall F__law_draws [] (gaCons (gVar 0) (gaCons (gVar 1) (gaCons (gOp fRep (gLst (gaCons (gVar 6) gaNil)) (gOp fAdd (gVar 2) (gVar 3))) gaNil)))) (pName 7)) (sSeq (sIf (tTru (gVar 5)) (sSeq (sAsg (gOp fSub (gLend (gBi fSum (gaCons (gSl fSl (gVar 7) oNone (oSome (gVar 2))) gaNil))) (gLend (gBi fSum (gaCons (gSl fSl (gVar 7) (oSome (gVar 2)) oNone) gaNil)))) (pName 8)) (sIf (tVal (gOp fGt (gVar 8) (gC (.int 0)))) (sAugIx 7 (fun i j => i + j) (plVar 7) (gOp fSub (gOp fAdd (gVar 2) (gVar 3)) (gC (.int 1))) (gVar 8)) (sAugIx 7 (fun i j => i - j) (plVar 7) (gC (.int 0)) (gVar 8)))) sNil) (sRet (gTup (gaCons (gSl fSl (gVar 7) oNone (oSome (gVar 2))) (gaCons (gSl fSl (gVar 7) (oSome (gVar 2)) oNone) gaNil)))))))
noncomputable def F__law_amounts : GF := runF 9 [] S__law_amounts
theorem sc__law_amounts : FnScope ["_law_script", "_law_spot", "_law_m", "_law_n", "_law_many", "_law_level", "_law_size", "_law_drawn", "_law_over"] ["_law_script", "_law_spot", "_law_m", "_law_n", "_law_many", "_law_level"] (defScope st__law_amounts) := ⟨rfl, rfl, rfl, by decide +kernel, rfl, by decide +kernel, by decide +kernel⟩
theorem ok__law_amounts (X : K.In h) (G : h.Ns mainGlobals mg) (c : Says K) : ∃ fd, FnD P w K mg base (clK K) 3 (He.fAd K ("_law_amounts", none)) fd ["_law_script", "_law_spot", "_law_m", "_law_n", "_law_many", "_law_level"] ⟨[.z, .z, .z, .z, .z, .z], .z, [], []⟩ F__law_amounts ∧ Binds K fd ["_law_script", "_law_spot", "_law_m", "_law_n", "_law_many", "_law_level"] [] ∧ PySem.W.keepIn K (.ref (He.fAd K ("_law_amounts", none))) = true := by
  obtain ⟨fd__law_draws, fo__law_draws, fb__law_draws, fk__law_draws⟩ := ok__law_draws (P := P) (w := w) (base := base) X G c
  obtain ⟨fd, FF⟩ := c.1.def_ 4 (d := dd__law_amounts) rfl
  refine ⟨fd, fnD_of (k := 2) (N := ["_law_script", "_law_spot", "_law_m", "_law_n", "_law_many", "_law_level", "_law_size", "_law_drawn", "_law_over"]) (g := S__law_amounts) (sg := ⟨[.z, .z, .z, .z, .z, .z], .z, [], []⟩) (Γ' := [.u, .u, .u, .u, .u, .u, .u, .u, .u]) FF sc__law_amounts rfl ⟨by decide, by decide, rfl, by decide⟩ (fun cdv A outer s H E hr => ?_), FF.bindsN fun _ _ _ _ _ _ us hl => match us, hl with | [_, _, _, _, _, _], _ => rfl, FF.kp⟩
  exact (dss_cons (Γ1 := [.z, .z, .z, .z, .z, .z, .z, .u, .u]) (ds_set (i := 6) (Γ1 := [.z, .z, .z, .z, .z, .z, .u, .u, .u]) (w := .z) sc__law_amounts.nd (by rfl) (by first | exact .inl rfl | exact .inr rfl) (de_ix ix_seq (d2_ix (by rfl) (by rfl)) (de_w (w' := .z) (de_lst (w := .s) (da_cons de_int (da_cons de_int (da_cons de_int (da_cons (de_op op_pow (d2_pow (by rfl) (by rfl)) de_int de_int) da_nil)))) (by rfl) (by rfl)) (by rfl)) (de_var (i := 4) (w := .z) (by rfl) (by first | exact .inl rfl | exact .inr (.inl rfl) | exact .inr (.inr rfl)) (by rfl) (by rfl))))
      (dss_cons (Γ1 := [.z, .z, .z, .z, .z, .z, .z, .o .s, .u]) (ds_set (i := 7) (Γ1 := [.z, .z, .z, .z, .z, .z, .z, .u, .u]) (w := (.o .s)) sc__law_amounts.nd (by rfl) (by first | exact .inl rfl | exact .inr rfl) (de_callP fo__law_draws (hr.mono (by decide)) takesX (by rfl) (He.glo_ok X G (c.1.fact 5 (f := .glo "_law_draws") (by rfl))) fk__law_draws fb__law_draws (da_cons (de_var (i := 0) (w := .z) (by rfl) (by first | exact .inl rfl | exact .inr (.inl rfl) | exact .inr (.inr rfl)) (by rfl) (by rfl)) (da_cons (de_var (i := 1) (w := .z) (by rfl) (by first | exact .inl rfl | exact .inr (.inl rfl) | exact .inr (.inr rfl)) (by rfl) (by rfl)) (da_cons (de_w (w' := .z) (de_op op_rep (d2_rep (by rfl) (by rfl)) (de_w (w' := .z) (de_lst (w := .z) (da_cons (de_var (i := 6) (w := .z) (by rfl) (by first | exact .inl rfl | exact .inr (.inl rfl) | exact .inr (.inr rfl)) (by rfl) (by rfl)) da_nil) (by rfl) (by rfl)) (by rfl)) (de_op op_add (d2_add (by rfl) (by rfl)) (de_var (i := 2) (w := .z) (by rfl) (by first | exact .inl rfl | exact .inr (.inl rfl) | exact .inr (.inr rfl)) (by rfl) (by rfl)) (de_var (i := 3) (w := .z) (by rfl) (by first | exact .inl rfl | exact .inr (.inl rfl) | exact .inr (.inr rfl)) (by rfl) (by rfl)))) (by rfl)) da_nil))) (by rfl)))
      (dss_cons (Γ1 := [.z, .z, .z, .z, .z, .z, .z, .o .s, .u]) (ds_if (Γ2 := [.z, .z, .z, .z, .z, .z, .z, .o .s, .u]) (dt_tru (de_var (i := 5) (w := .z) (by rfl) (by first | exact .inl rfl | exact .inr (.inl rfl) | exact .inr (.inr rfl)) (by rfl) (by rfl)))
      (dss_cons (Γ1 := [.z, .z, .z, .z, .z, .z, .z, .o .s, .s]) (ds_set (i := 8) (Γ1 := [.z, .z, .z, .z, .z, .z, .z, .o .s, .u]) (w := .s) sc__law_amounts.nd (by rfl) (by first | exact .inl rfl | exact .inr rfl) (de_op op_sub (d2_sub (by rfl) (by rfl)) (de_lend (Γ' := [.z, .z, .z, .z, .z, .z, .z, .z, .u]) (de_bi (cr_sum (by rfl)) (db_sum (by rfl)) (by rfl) (He.free_ok X G (c.1.fact 8 (f := .free "sum") (by rfl))) boot_sum (da_cons (de_w (w' := .z) (de_slice sl_list (dsl_list (by rfl)) (de_var (i := 7) (w := .z) (by rfl) (by first | exact .inl rfl | exact .inr (.inl rfl) | exact .inr (.inr rfl)) (by rfl) (by rfl)) do_none (do_some (de_var (i := 2) (w := .z) (by rfl) (by first | exact .inl rfl | exact .inr (.inl rfl) | exact .inr (.inr rfl)) (by rfl) (by rfl)) (by rfl))) (by rfl)) da_nil)) (by rfl)) (de_lend (Γ' := [.z, .z, .z, .z, .z, .z, .z, .z, .u]) (de_bi (cr_sum (by rfl)) (db_sum (by rfl)) (by rfl) (He.free_ok X G (c.1.fact 8 (f := .free "sum") (by rfl))) boot_sum (da_cons (de_w (w' := .z) (de_slice sl_list (dsl_list (by rfl)) (de_var (i := 7) (w := .z) (by rfl) (by first | exact .inl rfl | exact .inr (.inl rfl) | exact .inr (.inr rfl)) (by rfl) (by rfl)) (do_some (de_var (i := 2) (w := .z) (by rfl) (by first | exact .inl rfl | exact .inr (.inl rfl) | exact .inr (.inr rfl)) (by rfl) (by rfl)) (by rfl)) do_none) (by rfl)) da_nil)) (by rfl))))
      (dss_one (ds_weak (Γ1 := [.z, .z, .z, .z, .z, .z, .z, .o .s, .s]) (ds_if (Γ2 := [.z, .z, .z, .z, .z, .z, .z, .o .s, .s]) (dt_cmp op_gt (d2_gt (by rfl) (by rfl)) (de_var (i := 8) (w := .s) (by rfl) (by first | exact .inl rfl | exact .inr (.inl rfl) | exact .inr (.inr rfl)) (by rfl) (by rfl)) de_int)
      (dss_one (ds_augix (Γ1 := [.z, .z, .z, .z, .z, .z, .z, .u, .s]) (Γ2 := [.z, .z, .z, .z, .z, .z, .z, .u, .s]) ip_add (pl_var (i := 7) (w := (.o .s)) (by rfl) (by first | exact .inl rfl | exact .inr (.inl rfl) | exact .inr (.inr rfl)) (by rfl) (by rfl)) (de_op op_sub (d2_sub (by rfl) (by rfl)) (de_op op_add (d2_add (by rfl) (by rfl)) (de_var (i := 2) (w := .z) (by rfl) (by first | exact .inl rfl | exact .inr (.inl rfl) | exact .inr (.inr rfl)) (by rfl) (by rfl)) (de_var (i := 3) (w := .z) (by rfl) (by first | exact .inl rfl | exact .inr (.inl rfl) | exact .inr (.inr rfl)) (by rfl) (by rfl))) de_int) (by rfl) (by rfl) (by rfl) (de_var (i := 8) (w := .s) (by rfl) (by first | exact .inl rfl | exact .inr (.inl rfl) | exact .inr (.inr rfl)) (by rfl) (by rfl)) (by rfl) (by rfl)))
      (dss_one (ds_augix (Γ1 := [.z, .z, .z, .z, .z, .z, .z, .u, .s]) (Γ2 := [.z, .z, .z, .z, .z, .z, .z, .u, .s]) ip_sub (pl_var (i := 7) (w := (.o .s)) (by rfl) (by first | exact .inl rfl | exact .inr (.inl rfl) | exact .inr (.inr rfl)) (by rfl) (by rfl)) de_int (by rfl) (by rfl) (by rfl) (de_var (i := 8) (w := .s) (by rfl) (by first | exact .inl rfl | exact .inr (.inl rfl) | exact .inr (.inr rfl)) (by rfl) (by rfl)) (by rfl) (by rfl)))) (by rfl))))
      dss_nil)
      (dss_one (ds_pre (Γ1 := [.z, .z, .z, .z, .z, .z, .z, .z, .u]) (ds_ret (de_tup (da_cons (de_slice sl_list (dsl_list (by rfl)) (de_var (i := 7) (w := .z) (by rfl) (by first | exact .inl rfl | exact .inr (.inl rfl) | exact .inr (.inr rfl)) (by rfl) (by rfl)) do_none (do_some (de_var (i := 2) (w := .z) (by rfl) (by first | exact .inl rfl | exact .inr (.inl rfl) | exact .inr (.inr rfl)) (by rfl) (by rfl)) (by rfl))) (da_cons (de_slice sl_list (dsl_list (by rfl)) (de_var (i := 7) (w := .z) (by rfl) (by first | exact .inl rfl | exact .inr (.inl rfl) | exact .inr (.inr rfl)) (by rfl) (by rfl)) (do_some (de_var (i := 2) (w := .z) (by rfl) (by first | exact .inl rfl | exact .inr (.inl rfl) | exact .inr (.inr rfl)) (by rfl) (by rfl)) (by rfl)) do_none) da_nil)) (by rfl)) (by rfl) (by rfl)) (by rfl))))))
abbrev st__law_copy : Stmt := top 36
noncomputable def S__law_copy : GS := (sRet (gLc (iLst (gVar 0)) (pName 1) tYesD (gBi fList (gaCons (gVar 1) gaNil))))
noncomputable def F__law_copy : GF := runF 2 [] S__law_copy
theorem sc__law_copy : FnScope ["_law_grid_here", "_law_row"] ["_law_grid_here"] (defScope st__law_copy) := ⟨rfl, rfl, rfl, by decide +kernel, rfl, by decide +kernel, by decide +kernel⟩
theorem ok__law_copy (X : K.In h) (G : h.Ns mainGlobals mg) (c : Says K) : ∃ fd, FnD P w K mg base (clK K) 1 (He.fAd K ("_law_copy", none)) fd ["_law_grid_here"] ⟨[.z], .z, [], []⟩ F__law_copy ∧ Binds K fd ["_law_grid_here"] [] ∧ PySem.W.keepIn K (.ref (He.fAd K ("_law_copy", none))) = true := by
  obtain ⟨fd, FF⟩ := c.1.def_ 5 (d := dd__law_copy) rfl
  refine ⟨fd, fnD_of (k := 0) (N := ["_law_grid_here", "_law_row"]) (g := S__law_copy) (sg := ⟨[.z], .z, [], []⟩) (Γ' := [.u, .u]) FF sc__law_copy rfl ⟨by decide, by decide, rfl, by decide⟩ (fun cdv A outer s H E hr => ?_), FF.bindsN fun _ _ _ _ _ _ us hl => match us, hl with | [_], _ => rfl, FF.kp⟩
  exact (dss_one (ds_ret (de_lc (own := [("_law_row", 1)]) (io := [0]) (ΓL := [.z, .u]) (Γ2 := [.z, .z]) (Γ3 := [.z, .z]) (Γ4 := [.z, .z]) (we := .z) (wx := .z) (by rfl) sc__law_copy.nd (blk_ok (by rfl) (by first | rfl | kernel_rfl)) (di_list (de_var (i := 0) (w := .z) (by rfl) (by first | exact .inl rfl | exact .inr (.inl rfl) | exact .inr (.inr rfl)) (by rfl) (by rfl))) (by rfl) (by rfl) (by rfl) (fun s H cA cl fp => (dg_name (i := 1) sc__law_copy.nd (by rfl) (by first | exact .inl rfl | exact .inr rfl))) (fun s H cA cl fp => dts_nil) (fun s H cA cl fp => (de_w (w' := .z) (de_ty call_list_of (db_list (by rfl)) (by rfl) (He.free_ok X G (c.1.fact 9 (f := .free "list") (by rfl))) boot_list (da_cons (de_var (i := 1) (w := .z) (by rfl) (by first | exact .inl rfl | exact .inr (.inl rfl) | exact .inr (.inr rfl)) (by rfl) (by rfl)) da_nil)) (by rfl))) (by rfl) (by rfl) (pk_name (by decide))) (by rfl) (by rfl)))
abbrev st_width_of : Stmt := top 26
noncomputable def S_width_of : GS := (sSeq (sIf (tAnd (tTru (gIsi (isB knL "list") (gOp fIx (gVar 0) (gC (.int 0))))) (tVal (gOp fLe (gBi fLen (gaCons (gOp fIx (gVar 0) (gC (.int 0))) gaNil)) (gC (.int 8))))) (sRet (gBi fLen (gaCons (gOp fIx (gVar 0) (gC (.int 0))) gaNil))) sNil) (sRet (gC (.int 0))))
noncomputable def F_width_of : GF := runF 1 [] S_width_of
theorem sc_width_of : FnScope ["rows"] ["rows"] (defScope st_width_of) := ⟨rfl, rfl, rfl, by decide +kernel, rfl, by decide +kernel, by decide +kernel⟩
theorem ok_width_of (X : K.In h) (G : h.Ns mainGlobals mg) (c : Says K) : ∃ fd, FnD P w K mg base (clK K) 1 (He.fAd K ("width_of", none)) fd ["rows"] ⟨[.z], .s, [], []⟩ F_width_of ∧ Binds K fd ["rows"] [] ∧ PySem.W.keepIn K (.ref (He.fAd K ("width_of", none))) = true := by
  obtain ⟨fd, FF⟩ := c.1.def_ 6 (d := dd_width_of) rfl
  refine ⟨fd, fnD_of (k := 0) (N := ["rows"]) (g := S_width_of) (sg := ⟨[.z], .s, [], []⟩) (Γ' := [.u]) FF sc_width_of rfl ⟨by decide, by decide, rfl, by decide⟩ (fun cdv A outer s H E hr => ?_), FF.bindsN fun _ _ _ _ _ _ us hl => match us, hl with | [_], _ => rfl, FF.kp⟩
  exact (dss_cons (Γ1 := [.z]) (ds_if (Γ2 := [.z]) (de_weakT (dt_and (dt_tru (de_isi (by rfl) (He.free_ok X G (c.1.fact 10 (f := .free "isinstance") (by rfl))) boot_isinstance (ansB_list X G c) (.ty "list") (de_ix ix_seq (d2_ix (by rfl) (by rfl)) (de_var (i := 0) (w := .z) (by rfl) (by first | exact .inl rfl | exact .inr (.inl rfl) | exact .inr (.inr rfl)) (by rfl) (by rfl)) de_int) (by rfl) (pe_bltn (by rfl) (He.free_ok X G (c.1.fact 9 (f := .free "list") (by rfl))) boot_list (by rfl)))) (dt_and1 (dt_cmp op_le (d2_le (by rfl) (by rfl)) (de_bi call_len (db_len (by rfl)) (by rfl) (He.free_ok X G (c.1.fact 0 (f := .free "len") (by rfl))) boot_len (da_cons (de_ix ix_seq (d2_ix (by rfl) (by rfl)) (de_var (i := 0) (w := .z) (by rfl) (by first | exact .inl rfl | exact .inr (.inl rfl) | exact .inr (.inr rfl)) (by rfl) (by rfl)) de_int) da_nil)) (de_globi (by rfl) (He.int_ok X G (c.1.fact 11 (f := .int "MOST" 8) (by rfl)))))) (by rfl)))
      (dss_one (ds_ret (de_bi call_len (db_len (by rfl)) (by rfl) (He.free_ok X G (c.1.fact 0 (f := .free "len") (by rfl))) boot_len (da_cons (de_ix ix_seq (d2_ix (by rfl) (by rfl)) (de_var (i := 0) (w := .z) (by rfl) (by first | exact .inl rfl | exact .inr (.inl rfl) | exact .inr (.inr rfl)) (by rfl) (by rfl)) de_int) da_nil)) (by rfl) (by rfl)))
      dss_nil)
      (dss_one (ds_ret de_int (by rfl) (by rfl))))
abbrev st_is_integer : Stmt := top 9
noncomputable def S_is_integer : GS := (sRet (gAnd (gIsi (isB knL "int") (gVar 0)) (gNot (gIsi (isB knL "bool") (gVar 0)))))
noncomputable def F_is_integer : GF := runF 1 [] S_is_integer
theorem sc_is_integer : FnScope ["value"] ["value"] (defScope st_is_integer) := ⟨rfl, rfl, rfl, by decide +kernel, rfl, by decide +kernel, by decide +kernel⟩
theorem ok_is_integer (X : K.In h) (G : h.Ns mainGlobals mg) (c : Says K) : ∃ fd, FnD P w K mg base (clK K) 1 (He.fAd K ("is_integer", none)) fd ["value"] ⟨[.z], .s, [], []⟩ F_is_integer ∧ Binds K fd ["value"] [] ∧ PySem.W.keepIn K (.ref (He.fAd K ("is_integer", none))) = true := by
  obtain ⟨fd, FF⟩ := c.1.def_ 7 (d := dd_is_integer) rfl
  refine ⟨fd, fnD_of (k := 0) (N := ["value"]) (g := S_is_integer) (sg := ⟨[.z], .s, [], []⟩) (Γ' := [.u]) FF sc_is_integer rfl ⟨by decide, by decide, rfl, by decide⟩ (fun cdv A outer s H E hr => ?_), FF.bindsN fun _ _ _ _ _ _ us hl => match us, hl with | [_], _ => rfl, FF.kp⟩
  exact (dss_one (ds_ret (de_and (de_isi (by rfl) (He.free_ok X G (c.1.fact 10 (f := .free "isinstance") (by rfl))) boot_isinstance (ansB_int X G c) (.ty "int") (de_var (i := 0) (w := .z) (by rfl) (by first | exact .inl rfl | exact .inr (.inl rfl) | exact .inr (.inr rfl)) (by rfl) (by rfl)) (by rfl) (pe_bltn (by rfl) (He.free_ok X G (c.1.fact 1 (f := .free "int") (by rfl))) boot_int (by rfl))) (by rfl) (de_one (de_not (de_isi (by rfl) (He.free_ok X G (c.1.fact 10 (f := .free "isinstance") (by rfl))) boot_isinstance (ansB_bool X G c) (.ty "bool") (de_var (i := 0) (w := .z) (by rfl) (by first | exact .inl rfl | exact .inr (.inl rfl) | exact .inr (.inr rfl)) (by rfl) (by rfl)) (by rfl) (pe_bltn (by rfl) (He.free_ok X G (c.1.fact 12 (f := .free "bool") (by rfl))) boot_bool (by rfl))) (by rfl))) (by rfl)) (by rfl) (by rfl)))
abbrev st_is_entry : Stmt := top 24
noncomputable def S_is_entry : GS := (sRet (gOr (gOp fIsN (gVar 0) (gC .non)) (gCall F_is_integer [] (gaCons (gVar 0) gaNil))))
noncomputable def F_is_entry : GF := runF 1 [] S_is_entry
theorem sc_is_entry : FnScope ["value"] ["value"] (defScope st_is_entry) := ⟨rfl, rfl, rfl, by decide +kernel, rfl, by decide +kernel, by decide +kernel⟩
theorem ok_is_entry (X : K.In h) (G : h.Ns mainGlobals mg) (c : Says K) : ∃ fd, FnD P w K mg base (clK K) 2 (He.fAd K ("is_entry", none)) fd ["value"] ⟨[.z], .s, [], []⟩ F_is_entry ∧ Binds K fd ["value"] [] ∧ PySem.W.keepIn K (.ref (He.fAd K ("is_entry", none))) = true := by
  obtain ⟨fd_is_integer, fo_is_integer, fb_is_integer, fk_is_integer⟩ := ok_is_integer (P := P) (w := w) (base := base) X G c
  obtain ⟨fd, FF⟩ := c.1.def_ 8 (d := dd_is_entry) rfl
  refine ⟨fd, fnD_of (k := 1) (N := ["value"]) (g := S_is_entry) (sg := ⟨[.z], .s, [], []⟩) (Γ' := [.u]) FF sc_is_entry rfl ⟨by decide, by decide, rfl, by decide⟩ (fun cdv A outer s H E hr => ?_), FF.bindsN fun _ _ _ _ _ _ us hl => match us, hl with | [_], _ => rfl, FF.kp⟩
  exact (dss_one (ds_ret (de_or (de_cmp op_isN (d2_isN (by rfl)) (de_var (i := 0) (w := .z) (by rfl) (by first | exact .inl rfl | exact .inr (.inl rfl) | exact .inr (.inr rfl)) (by rfl) (by rfl)) de_non) (by rfl) (de_one (de_callP fo_is_integer (hr.mono (by decide)) takesX (by rfl) (He.glo_ok X G (c.1.fact 13 (f := .glo "is_integer") (by rfl))) fk_is_integer fb_is_integer (da_cons (de_var (i := 0) (w := .z) (by rfl) (by first | exact .inl rfl | exact .inr (.inl rfl) | exact .inr (.inr rfl)) (by rfl) (by rfl)) da_nil) (by rfl))) (by rfl)) (by rfl) (by rfl)))
abbrev st_is_row : Stmt := top 25
noncomputable def B_is_row_0 : GS := (sIf (tNot (tTru (gCall F_is_entry [] (gaCons (gVar 2) gaNil)))) (sRet (gC (.bl false))) sNil)
noncomputable def S_is_row : GS := (sSeq (sIf (tOr (tNot (tTru (gIsi (isB knL "list") (gVar 0)))) (tVal (gOp fNe (gBi fLen (gaCons (gVar 0) gaNil)) (gVar 1)))) (sRet (gC (.bl false))) sNil) (sSeq (sFor (iLst (gVar 0)) (pName 2) B_is_row_0) (sRet (gC (.bl true)))))
noncomputable def F_is_row : GF := runF 3 [] S_is_row
theorem sc_is_row : FnScope ["value", "width", "entry"] ["value", "width"] (defScope st_is_row) := ⟨rfl, rfl, rfl, by decide +kernel, rfl, by decide +kernel, by decide +kernel⟩
theorem ok_is_row (X : K.In h) (G : h.Ns mainGlobals mg) (c : Says K) : ∃ fd, FnD P w K mg base (clK K) 3 (He.fAd K ("is_row", none)) fd ["value", "width"] ⟨[.z, .z], .s, [], []⟩ F_is_row ∧ Binds K fd ["value", "width"] [] ∧ PySem.W.keepIn K (.ref (He.fAd K ("is_row", none))) = true := by
  obtain ⟨fd_is_entry, fo_is_entry, fb_is_entry, fk_is_entry⟩ := ok_is_entry (P := P) (w := w) (base := base) X G c
  obtain ⟨fd, FF⟩ := c.1.def_ 9 (d := dd_is_row) rfl
  refine ⟨fd, fnD_of (k := 2) (N := ["value", "width", "entry"]) (g := S_is_row) (sg := ⟨[.z, .z], .s, [], []⟩) (Γ' := [.u, .u, .u]) FF sc_is_row rfl ⟨by decide, by decide, rfl, by decide⟩ (fun cdv A outer s H E hr => ?_), FF.bindsN fun _ _ _ _ _ _ us hl => match us, hl with | [_, _], _ => rfl, FF.kp⟩
  exact (dss_cons (Γ1 := [.z, .z, .u]) (ds_if (Γ2 := [.z, .z, .u]) (de_weakT (dt_or (dt_not (dt_tru (de_isi (by rfl) (He.free_ok X G (c.1.fact 10 (f := .free "isinstance") (by rfl))) boot_isinstance (ansB_list X G c) (.ty "list") (de_var (i := 0) (w := .z) (by rfl) (by first | exact .inl rfl | exact .inr (.inl rfl) | exact .inr (.inr rfl)) (by rfl) (by rfl)) (by rfl) (pe_bltn (by rfl) (He.free_ok X G (c.1.fact 9 (f := .free "list") (by rfl))) boot_list (by rfl))))) (dt_or1 (dt_cmp (op_neD (Room.units hr)) (d2_ne (by rfl) (by rfl)) (de_bi call_len (db_len (by rfl)) (by rfl) (He.free_ok X G (c.1.fact 0 (f := .free "len") (by rfl))) boot_len (da_cons (de_var (i := 0) (w := .z) (by rfl) (by first | exact .inl rfl | exact .inr (.inl rfl) | exact .inr (.inr rfl)) (by rfl) (by rfl)) da_nil)) (de_var (i := 1) (w := .z) (by rfl) (by first | exact .inl rfl | exact .inr (.inl rfl) | exact .inr (.inr rfl)) (by rfl) (by rfl)))) (by rfl)))
      (dss_one (ds_ret de_bl (by rfl) (by rfl)))
      dss_nil)
      (dss_cons (Γ1 := [.z, .z, .u]) (ds_for (Γ1 := [.z, .z, .u]) (Γi := [.z, .z, .u]) (w := .z) (Γ2 := [.z, .z, .z]) passX (by rfl) (di_list (de_var (i := 0) (w := .z) (by rfl) (by first | exact .inl rfl | exact .inr (.inl rfl) | exact .inr (.inr rfl)) (by rfl) (by rfl))) (by rfl) (dg_name (i := 2) sc_is_row.nd (by rfl) (by first | exact .inl rfl | exact .inr rfl))
      (dss_one (ds_weak (Γ1 := [.z, .z, .z]) (ds_if (Γ2 := [.z, .z, .z]) (dt_not (dt_tru (de_callP fo_is_entry (hr.mono (by decide)) takesX (by rfl) (He.glo_ok X G (c.1.fact 14 (f := .glo "is_entry") (by rfl))) fk_is_entry fb_is_entry (da_cons (de_var (i := 2) (w := .z) (by rfl) (by first | exact .inl rfl | exact .inr (.inl rfl) | exact .inr (.inr rfl)) (by rfl) (by rfl)) da_nil) (by rfl))))
      (dss_one (ds_ret de_bl (by rfl) (by rfl)))
      dss_nil) (by rfl))))
      (dss_one (ds_ret de_bl (by rfl) (by rfl)))))
abbrev st_Table_init_ : Stmt := inClass (top 29) 0
noncomputable def B_Table_init__0 : GS := (sIf (tOr (tVal (gOp fEq (gVar 2) (gC (.int 0)))) (tNot (tTru (gCall F_is_row [] (gaCons (gVar 4) (gaCons (gVar 2) gaNil)))))) sNo sNil)
noncomputable def S_Table_init_ : GS := (sSeq (sIf (tOr (tNot (tTru (gIsi (isB knL "list") (gVar 1)))) (tOr (tVal (gOp fEq (gBi fLen (gaCons (gVar 1) gaNil)) (gC (.int 0)))) (tVal (gOp fGt (gBi fLen (gaCons (gVar 1) gaNil)) (gC (.int 8)))))) sNo sNil) (sSeq (sAsg (gCall F_width_of [] (gaCons (gVar 1) gaNil)) (pName 2)) (sSeq (sFor (iEn (gaCons (gVar 1) gaNil)) (pTup (psCons (pName 3) (psCons (pName 4) psNil))) B_Table_init__0) (sFldSet 0 5 0 (gLc (iLst (gVar 1)) (pName 4) tYesD (gBi fList (gaCons (gVar 4) gaNil)))))))
noncomputable def F_Table_init_ : GF := runI 5 [0] S_Table_init_
theorem sc_Table_init_ : FnScope ["self", "rows", "width", "at", "row"] ["self", "rows"] (defScope st_Table_init_) := ⟨rfl, rfl, rfl, by decide +kernel, rfl, by decide +kernel, by decide +kernel⟩
theorem ok_Table_init_ (X : K.In h) (G : h.Ns mainGlobals mg) (c : Says K) : ∃ fd, FnD P w K mg base (clK K) 4 (He.fAd K ("Table", some "__init__")) fd ["self", "rows"] ⟨[.t [], .z], .s, [.z], [0]⟩ F_Table_init_ ∧ Binds K fd ["self", "rows"] [] ∧ PySem.W.keepIn K (.ref (He.fAd K ("Table", some "__init__"))) = true := by
  obtain ⟨fd_width_of, fo_width_of, fb_width_of, fk_width_of⟩ := ok_width_of (P := P) (w := w) (base := base) X G c
  obtain ⟨fd_is_row, fo_is_row, fb_is_row, fk_is_row⟩ := ok_is_row (P := P) (w := w) (base := base) X G c
  obtain ⟨fd, FF⟩ := c.1.def_ 10 (d := dd_Table_init_) rfl
  refine ⟨fd, fnD_ofI (k := 3) (N := ["self", "rows", "width", "at", "row"]) (g := S_Table_init_) (sg := ⟨[.t [], .z], .s, [.z], [0]⟩) (Γ' := [.t [(.o .z)], .z, .s, .u, .u]) FF sc_Table_init_ rfl ⟨by decide, by decide, rfl, by decide⟩ rfl (fun cdv A outer s H E hr => ?_) rfl, FF.bindsN fun _ _ _ _ _ _ us hl => match us, hl with | [_, _], _ => rfl, FF.kp⟩
  exact (dss_cons (Γ1 := [.t [], .z, .u, .u, .u]) (ds_if (Γ2 := [.t [], .z, .u, .u, .u]) (de_weakT (dt_or (dt_not (dt_tru (de_isi (by rfl) (He.free_ok X G (c.1.fact 10 (f := .free "isinstance") (by rfl))) boot_isinstance (ansB_list X G c) (.ty "list") (de_var (i := 1) (w := .z) (by rfl) (by first | exact .inl rfl | exact .inr (.inl rfl) | exact .inr (.inr rfl)) (by rfl) (by rfl)) (by rfl) (pe_bltn (by rfl) (He.free_ok X G (c.1.fact 9 (f := .free "list") (by rfl))) boot_list (by rfl))))) (dt_or (dt_cmp (op_eqD (Room.units hr)) (d2_eq (by rfl) (by rfl)) (de_bi call_len (db_len (by rfl)) (by rfl) (He.free_ok X G (c.1.fact 0 (f := .free "len") (by rfl))) boot_len (da_cons (de_var (i := 1) (w := .z) (by rfl) (by first | exact .inl rfl | exact .inr (.inl rfl) | exact .inr (.inr rfl)) (by rfl) (by rfl)) da_nil)) de_int) (dt_or1 (dt_cmp op_gt (d2_gt (by rfl) (by rfl)) (de_bi call_len (db_len (by rfl)) (by rfl) (He.free_ok X G (c.1.fact 0 (f := .free "len") (by rfl))) boot_len (da_cons (de_var (i := 1) (w := .z) (by rfl) (by first | exact .inl rfl | exact .inr (.inl rfl) | exact .inr (.inr rfl)) (by rfl) (by rfl)) da_nil)) (de_globi (by rfl) (He.int_ok X G (c.1.fact 11 (f := .int "MOST" 8) (by rfl)))))) (by rfl)) (by rfl)))
      (dss_one ds_no)
      dss_nil)
      (dss_cons (Γ1 := [.t [], .z, .s, .u, .u]) (ds_set (i := 2) (Γ1 := [.t [], .z, .u, .u, .u]) (w := .s) sc_Table_init_.nd (by rfl) (by first | exact .inl rfl | exact .inr rfl) (de_callP fo_width_of (hr.mono (by decide)) takesX (by rfl) (He.glo_ok X G (c.1.fact 15 (f := .glo "width_of") (by rfl))) fk_width_of fb_width_of (da_cons (de_var (i := 1) (w := .z) (by rfl) (by first | exact .inl rfl | exact .inr (.inl rfl) | exact .inr (.inr rfl)) (by rfl) (by rfl)) da_nil) (by rfl)))
      (dss_cons (Γ1 := [.t [], .z, .s, .u, .u]) (ds_for (Γ1 := [.t [], .z, .s, .u, .u]) (Γi := [.t [], .z, .s, .u, .u]) (w := (.t [.s, .z])) (Γ2 := [.t [], .z, .s, .s, .z]) passX (by rfl) (di_enum (by rfl) (He.free_ok X G (c.1.fact 3 (f := .free "enumerate") (by rfl))) (da_cons (de_var (i := 1) (w := .z) (by rfl) (by first | exact .inl rfl | exact .inr (.inl rfl) | exact .inr (.inr rfl)) (by rfl) (by rfl)) da_nil)) (by rfl) (dg_tupT (by rfl) (dgs_cons (dg_name (i := 3) sc_Table_init_.nd (by rfl) (by first | exact .inl rfl | exact .inr rfl)) (dgs_cons (dg_name (i := 4) sc_Table_init_.nd (by rfl) (by first | exact .inl rfl | exact .inr rfl)) dgs_nil)))
      (dss_one (ds_weak (Γ1 := [.t [], .z, .s, .s, .z]) (ds_if (Γ2 := [.t [], .z, .s, .s, .z]) (de_weakT (dt_or (dt_cmp (op_eqD (Room.units hr)) (d2_eq (by rfl) (by rfl)) (de_var (i := 2) (w := .s) (by rfl) (by first | exact .inl rfl | exact .inr (.inl rfl) | exact .inr (.inr rfl)) (by rfl) (by rfl)) de_int) (dt_or1 (dt_not (dt_tru (de_callP fo_is_row (hr.mono (by decide)) takesX (by rfl) (He.glo_ok X G (c.1.fact 16 (f := .glo "is_row") (by rfl))) fk_is_row fb_is_row (da_cons (de_var (i := 4) (w := .z) (by rfl) (by first | exact .inl rfl | exact .inr (.inl rfl) | exact .inr (.inr rfl)) (by rfl) (by rfl)) (da_cons (de_w (w' := .z) (de_var (i := 2) (w := .s) (by rfl) (by first | exact .inl rfl | exact .inr (.inl rfl) | exact .inr (.inr rfl)) (by rfl) (by rfl)) (by rfl)) da_nil)) (by rfl))))) (by rfl)))
      (dss_one ds_no)
      dss_nil) (by rfl))))
      (dss_one (ds_fldset (Γ1 := [.t [], .z, .s, .u, .u]) (i := 0) (ci := 5) (k := 0) (ws := []) (by rfl) (by first | exact .inl rfl | exact .inr (.inl rfl) | exact .inr (.inr rfl)) (de_lc (own := [("row", 4)]) (io := [0, 1, 2, 3]) (ΓL := [.t [], .z, .s, .u, .u]) (Γ2 := [.t [], .z, .s, .u, .z]) (Γ3 := [.t [], .z, .s, .u, .z]) (Γ4 := [.t [], .z, .s, .u, .z]) (we := .z) (wx := .z) (by rfl) sc_Table_init_.nd (blk_ok (by rfl) (by first | rfl | kernel_rfl)) (di_list (de_var (i := 1) (w := .z) (by rfl) (by first | exact .inl rfl | exact .inr (.inl rfl) | exact .inr (.inr rfl)) (by rfl) (by rfl))) (by rfl) (by rfl) (by rfl) (fun s H cA cl fp => (dg_name (i := 4) sc_Table_init_.nd (by rfl) (by first | exact .inl rfl | exact .inr rfl))) (fun s H cA cl fp => dts_nil) (fun s H cA cl fp => (de_w (w' := .z) (de_ty call_list_of (db_list (by rfl)) (by rfl) (He.free_ok X G (c.1.fact 9 (f := .free "list") (by rfl))) boot_list (da_cons (de_var (i := 4) (w := .z) (by rfl) (by first | exact .inl rfl | exact .inr (.inl rfl) | exact .inr (.inr rfl)) (by rfl) (by rfl)) da_nil)) (by rfl))) (by rfl) (by rfl) (pk_name (by decide))) (by rfl) (cd_Table X G c) (He.noat_ok (c.1.fact 17 (f := .noat "Table" "grid") (by rfl))) (by rfl) (by rfl))))))
abbrev st_check_list : Stmt := top 14
noncomputable def B_check_list_0 : GS := (sIf (tOr (tNot (tTru (gCall F_is_integer [] (gaCons (gVar 3) gaNil)))) (tVal (gOp fLt (gVar 3) (gC (.int 0))))) sNo sNil)
noncomputable def S_check_list : GS := (sSeq (sIf (tOr (tNot (tTru (gIsi (isB knL "list") (gVar 1)))) (tNot (tVal (gCh fLe fLe (gC (.int 1)) (gBi fLen (gaCons (gVar 1) gaNil)) (gC (.int 8)))))) sNo sNil) (sFor (iEn (gaCons (gVar 1) gaNil)) (pTup (psCons (pName 2) (psCons (pName 3) psNil))) B_check_list_0))
noncomputable def F_check_list : GF := runP 4 [] S_check_list
theorem sc_check_list : FnScope ["word", "entries", "at", "entry"] ["word", "entries"] (defScope st_check_list) := ⟨rfl, rfl, rfl, by decide +kernel, rfl, by decide +kernel, by decide +kernel⟩
theorem ok_check_list (X : K.In h) (G : h.Ns mainGlobals mg) (c : Says K) : ∃ fd, FnD P w K mg base (clK K) 2 (He.fAd K ("check_list", none)) fd ["word", "entries"] ⟨[.z, .z], .s, [], []⟩ F_check_list ∧ Binds K fd ["word", "entries"] [] ∧ PySem.W.keepIn K (.ref (He.fAd K ("check_list", none))) = true := by
  obtain ⟨fd_is_integer, fo_is_integer, fb_is_integer, fk_is_integer⟩ := ok_is_integer (P := P) (w := w) (base := base) X G c
  obtain ⟨fd, FF⟩ := c.1.def_ 11 (d := dd_check_list) rfl
  refine ⟨fd, fnD_ofP (k := 1) (N := ["word", "entries", "at", "entry"]) (g := S_check_list) (sg := ⟨[.z, .z], .s, [], []⟩) (Γ' := [.z, .z, .u, .u]) FF sc_check_list rfl ⟨by decide, by decide, rfl, by decide⟩ rfl (fun cdv A outer s H E hr => ?_) rfl, FF.bindsN fun _ _ _ _ _ _ us hl => match us, hl with | [_, _], _ => rfl, FF.kp⟩
  exact (dss_cons (Γ1 := [.z, .z, .u, .u]) (ds_if (Γ2 := [.z, .z, .u, .u]) (de_weakT (dt_or (dt_not (dt_tru (de_isi (by rfl) (He.free_ok X G (c.1.fact 10 (f := .free "isinstance") (by rfl))) boot_isinstance (ansB_list X G c) (.ty "list") (de_var (i := 1) (w := .z) (by rfl) (by first | exact .inl rfl | exact .inr (.inl rfl) | exact .inr (.inr rfl)) (by rfl) (by rfl)) (by rfl) (pe_bltn (by rfl) (He.free_ok X G (c.1.fact 9 (f := .free "list") (by rfl))) boot_list (by rfl))))) (dt_or1 (dt_not (dt_chain op_le op_le (d2_le (by rfl) (by rfl)) (d2_le (by rfl) (by rfl)) de_int (de_bi call_len (db_len (by rfl)) (by rfl) (He.free_ok X G (c.1.fact 0 (f := .free "len") (by rfl))) boot_len (da_cons (de_var (i := 1) (w := .z) (by rfl) (by first | exact .inl rfl | exact .inr (.inl rfl) | exact .inr (.inr rfl)) (by rfl) (by rfl)) da_nil)) (de_globi (by rfl) (He.int_ok X G (c.1.fact 18 (f := .int "LARGEST" 8) (by rfl)))) (by rfl)))) (by rfl)))
      (dss_one ds_no)
      dss_nil)
      (dss_one (ds_for (Γ1 := [.z, .z, .u, .u]) (Γi := [.z, .z, .u, .u]) (w := (.t [.s, .z])) (Γ2 := [.z, .z, .s, .z]) passX (by rfl) (di_enum (by rfl) (He.free_ok X G (c.1.fact 3 (f := .free "enumerate") (by rfl))) (da_cons (de_var (i := 1) (w := .z) (by rfl) (by first | exact .inl rfl | exact .inr (.inl rfl) | exact .inr (.inr rfl)) (by rfl) (by rfl)) da_nil)) (by rfl) (dg_tupT (by rfl) (dgs_cons (dg_name (i := 2) sc_check_list.nd (by rfl) (by first | exact .inl rfl | exact .inr rfl)) (dgs_cons (dg_name (i := 3) sc_check_list.nd (by rfl) (by first | exact .inl rfl | exact .inr rfl)) dgs_nil)))
      (dss_one (ds_weak (Γ1 := [.z, .z, .s, .z]) (ds_if (Γ2 := [.z, .z, .s, .z]) (de_weakT (dt_or (dt_not (dt_tru (de_callP fo_is_integer (hr.mono (by decide)) takesX (by rfl) (He.glo_ok X G (c.1.fact 13 (f := .glo "is_integer") (by rfl))) fk_is_integer fb_is_integer (da_cons (de_var (i := 3) (w := .z) (by rfl) (by first | exact .inl rfl | exact .inr (.inl rfl) | exact .inr (.inr rfl)) (by rfl) (by rfl)) da_nil) (by rfl)))) (dt_or1 (dt_cmp op_lt (d2_lt (by rfl) (by rfl)) (de_var (i := 3) (w := .z) (by rfl) (by first | exact .inl rfl | exact .inr (.inl rfl) | exact .inr (.inr rfl)) (by rfl) (by rfl)) de_int)) (by rfl)))
      (dss_one ds_no)
      dss_nil) (by rfl))))))
abbrev st_Amounts_init_ : Stmt := inClass (top 15) 0
noncomputable def S_Amounts_init_ : GS := (sSeq (sExp (gCall F_check_list [] (gaCons (gC (.str "stocks")) (gaCons (gVar 1) gaNil)))) (sSeq (sExp (gCall F_check_list [] (gaCons (gC (.str "wishes")) (gaCons (gVar 2) gaNil)))) (sSeq (sFldSet 0 0 0 (gBi fList (gaCons (gVar 1) gaNil))) (sFldSet 0 0 1 (gBi fList (gaCons (gVar 2) gaNil))))))
noncomputable def F_Amounts_init_ : GF := runI 3 [0] S_Amounts_init_
theorem sc_Amounts_init_ : FnScope ["self", "stocks", "wishes"] ["self", "stocks", "wishes"] (defScope st_Amounts_init_) := ⟨rfl, rfl, rfl, by decide +kernel, rfl, by decide +kernel, by decide +kernel⟩
theorem ok_Amounts_init_ (X : K.In h) (G : h.Ns mainGlobals mg) (c : Says K) : ∃ fd, FnD P w K mg base (clK K) 3 (He.fAd K ("Amounts", some "__init__")) fd ["self", "stocks", "wishes"] ⟨[.t [], .z, .z], .s, [.z], [0]⟩ F_Amounts_init_ ∧ Binds K fd ["self", "stocks", "wishes"] [] ∧ PySem.W.keepIn K (.ref (He.fAd K ("Amounts", some "__init__"))) = true := by
  obtain ⟨fd_check_list, fo_check_list, fb_check_list, fk_check_list⟩ := ok_check_list (P := P) (w := w) (base := base) X G c
  obtain ⟨fd, FF⟩ := c.1.def_ 12 (d := dd_Amounts_init_) rfl
  refine ⟨fd, fnD_ofI (k := 2) (N := ["self", "stocks", "wishes"]) (g := S_Amounts_init_) (sg := ⟨[.t [], .z, .z], .s, [.z], [0]⟩) (Γ' := [.t [(.o .z), (.o .z)], .z, .z]) FF sc_Amounts_init_ rfl ⟨by decide, by decide, rfl, by decide⟩ rfl (fun cdv A outer s H E hr => ?_) rfl, FF.bindsN fun _ _ _ _ _ _ us hl => match us, hl with | [_, _, _], _ => rfl, FF.kp⟩
  exact (dss_cons (Γ1 := [.t [], .z, .z]) (ds_expr (de_callP fo_check_list (hr.mono (by decide)) takesX (by rfl) (He.glo_ok X G (c.1.fact 19 (f := .glo "check_list") (by rfl))) fk_check_list fb_check_list (da_cons (de_w (w' := .z) de_str (by rfl)) (da_cons (de_var (i := 1) (w := .z) (by rfl) (by first | exact .inl rfl | exact .inr (.inl rfl) | exact .inr (.inr rfl)) (by rfl) (by rfl)) da_nil)) (by rfl)))
      (dss_cons (Γ1 := [.t [], .z, .z]) (ds_expr (de_callP fo_check_list (hr.mono (by decide)) takesX (by rfl) (He.glo_ok X G (c.1.fact 19 (f := .glo "check_list") (by rfl))) fk_check_list fb_check_list (da_cons (de_w (w' := .z) de_str (by rfl)) (da_cons (de_var (i := 2) (w := .z) (by rfl) (by first | exact .inl rfl | exact .inr (.inl rfl) | exact .inr (.inr rfl)) (by rfl) (by rfl)) da_nil)) (by rfl)))
      (dss_cons (Γ1 := [.t [(.o .z)], .z, .z]) (ds_fldset (Γ1 := [.t [], .z, .z]) (i := 0) (ci := 0) (k := 0) (ws := []) (by rfl) (by first | exact .inl rfl | exact .inr (.inl rfl) | exact .inr (.inr rfl)) (de_ty call_list_of (db_list (by rfl)) (by rfl) (He.free_ok X G (c.1.fact 9 (f := .free "list") (by rfl))) boot_list (da_cons (de_var (i := 1) (w := .z) (by rfl) (by first | exact .inl rfl | exact .inr (.inl rfl) | exact .inr (.inr rfl)) (by rfl) (by rfl)) da_nil)) (by rfl) (cd_Amounts X G c) (He.noat_ok (c.1.fact 20 (f := .noat "Amounts" "stock_list") (by rfl))) (by rfl) (by rfl))
      (dss_one (ds_fldset (Γ1 := [.t [(.o .z)], .z, .z]) (i := 0) (ci := 0) (k := 1) (ws := [.o .z]) (by rfl) (by first | exact .inl rfl | exact .inr (.inl rfl) | exact .inr (.inr rfl)) (de_ty call_list_of (db_list (by rfl)) (by rfl) (He.free_ok X G (c.1.fact 9 (f := .free "list") (by rfl))) boot_list (da_cons (de_var (i := 2) (w := .z) (by rfl) (by first | exact .inl rfl | exact .inr (.inl rfl) | exact .inr (.inr rfl)) (by rfl) (by rfl)) da_nil)) (by rfl) (cd_Amounts X G c) (He.noat_ok (c.1.fact 21 (f := .noat "Amounts" "wish_list") (by rfl))) (by rfl) (by rfl))))))
abbrev st__law_spoiled : Stmt := top 41
noncomputable def S__law_spoiled : GS := (sSeq (sIf (tVal (gOp fEq (gVar 2) (gC (.int 0)))) (sRet (gTup (gaCons (gC (.str "even")) (gaCons (gVar 1) gaNil)))) sNil) (sSeq (sIf (tVal (gOp fEq (gVar 2) (gC (.int 1)))) (sRet (gTup (gaCons (gVar 0) (gaCons (gOp fCat (gVar 1) (gSl fSl (gVar 1) (oSome (gUn fNeg (gC (.int 1)))) oNone)) gaNil)))) sNil) (sSeq (sIf (tVal (gOp fEq (gVar 2) (gC (.int 2)))) (sRet (gTup (gaCons (gVar 0) (gaCons (gOp fCat (gSl fSl (gVar 1) (oSome (gVar 3)) oNone) (gSl fSl (gVar 1) oNone (oSome (gVar 3)))) gaNil)))) sNil) (sSeq (sIf (tVal (gOp fEq (gVar 2) (gC (.int 3)))) (sRet (gTup (gaCons (gVar 0) (gaCons (gLc (iLst (gVar 1)) (pName 4) tYesD (gIf (tVal (gOp fEq (gVar 4) (gC (.int 1)))) (gC (.bl true)) (gVar 4))) gaNil)))) sNil) (sSeq (sIf (tVal (gOp fEq (gVar 2) (gC (.int 4)))) (sRet (gTup (gaCons (gVar 0) (gaCons (gOp fCat (gVar 1) (gLst (gaCons (gOp fAdd (gC (.int 8)) (gVar 3)) gaNil))) gaNil)))) sNil) (sSeq (sIf (tVal (gOp fEq (gVar 2) (gC (.int 5)))) (sRet (gTup (gaCons (gVar 0) (gaCons (gOp fCat (gLst (gaCons (gOp fSub (gUn fNeg (gC (.int 1))) (gVar 3)) gaNil)) (gVar 1)) gaNil)))) sNil) (sSeq (sIf (tVal (gOp fEq (gVar 2) (gC (.int 6)))) (sRet (gTup (gaCons (gVar 0) (gaCons (gBi fTuple (gaCons (gVar 1) gaNil)) gaNil)))) sNil) (sSeq (sIf (tVal (gOp fEq (gVar 2) (gC (.int 7)))) (sRet (gLst (gaCons (gVar 0) (gaCons (gVar 1) gaNil)))) sNil) (sSeq (sIf (tVal (gOp fEq (gVar 2) (gC (.int 8)))) (sRet (gTup (gaCons (gVar 0) (gaCons (gVar 1) (gaCons (gVar 1) gaNil))))) sNil) (sSeq (sIf (tVal (gOp fEq (gVar 2) (gC (.int 9)))) (sRet (gTup (gaCons (gVar 0) gaNil))) sNil) (sSeq (sIf (tVal (gOp fEq (gVar 2) (gC (.int 10)))) (sRet (gTup (gaCons (gVar 0) (gaCons (gLst gaNil) gaNil)))) sNil) (sRet (gOp fIx (gLst (gaCons (gC .non) (gaCons (gOp fMul (gC (.int 7)) (gVar 3)) (gaCons (gVar 0) (gaCons (gTup (gaCons (gVar 0) (gaCons (gLst (gaCons (gVar 1) gaNil)) gaNil))) (gaCons gDic0 (gaCons (gDic1 (gC (.int 0)) (gVar 0)) (gaCons (gTup (gaCons (gVar 0) (gaCons (gDic1 (gC (.int 0)) (gC (.int 1))) gaNil))) gaNil)))))))) (gOp fSub (gVar 2) (gC (.int 11))))))))))))))))
noncomputable def F__law_spoiled : GF := runF 5 [] S__law_spoiled
theorem sc__law_spoiled : FnScope ["_law_word", "_law_lines", "_law_choice", "_law_at", "_law_k"] ["_law_word", "_law_lines", "_law_choice", "_law_at"] (defScope st__law_spoiled) := ⟨rfl, rfl, rfl, by decide +kernel, rfl, by decide +kernel, by decide +kernel⟩
theorem ok__law_spoiled (X : K.In h) (G : h.Ns mainGlobals mg) (c : Says K) : ∃ fd, FnD P w K mg base (clK K) 1 (He.fAd K ("_law_spoiled", none)) fd ["_law_word", "_law_lines", "_law_choice", "_law_at"] ⟨[.z, .z, .z, .z], .z, [], []⟩ F__law_spoiled ∧ Binds K fd ["_law_word", "_law_lines", "_law_choice", "_law_at"] [] ∧ PySem.W.keepIn K (.ref (He.fAd K ("_law_spoiled", none))) = true := by
  obtain ⟨fd, FF⟩ := c.1.def_ 13 (d := dd__law_spoiled) rfl
  refine ⟨fd, fnD_of (k := 0) (N := ["_law_word", "_law_lines", "_law_choice", "_law_at", "_law_k"]) (g := S__law_spoiled) (sg := ⟨[.z, .z, .z, .z], .z, [], []⟩) (Γ' := [.u, .u, .u, .u, .u]) FF sc__law_spoiled rfl ⟨by decide, by decide, rfl, by decide⟩ (fun cdv A outer s H E hr => ?_), FF.bindsN fun _ _ _ _ _ _ us hl => match us, hl with | [_, _, _, _], _ => rfl, FF.kp⟩
  exact (dss_cons (Γ1 := [.z, .z, .z, .z, .u]) (ds_if (Γ2 := [.z, .z, .z, .z, .u]) (dt_cmp (op_eqD (Room.units hr)) (d2_eq (by rfl) (by rfl)) (de_var (i := 2) (w := .z) (by rfl) (by first | exact .inl rfl | exact .inr (.inl rfl) | exact .inr (.inr rfl)) (by rfl) (by rfl)) de_int)
      (dss_one (ds_ret (de_tup (da_cons de_str (da_cons (de_var (i := 1) (w := .z) (by rfl) (by first | exact .inl rfl | exact .inr (.inl rfl) | exact .inr (.inr rfl)) (by rfl) (by rfl)) da_nil)) (by rfl)) (by rfl) (by rfl)))
      dss_nil)
      (dss_cons (Γ1 := [.z, .z, .z, .z, .u]) (ds_if (Γ2 := [.z, .z, .z, .z, .u]) (dt_cmp (op_eqD (Room.units hr)) (d2_eq (by rfl) (by rfl)) (de_var (i := 2) (w := .z) (by rfl) (by first | exact .inl rfl | exact .inr (.inl rfl) | exact .inr (.inr rfl)) (by rfl) (by rfl)) de_int)
      (dss_one (ds_ret (de_tup (da_cons (de_var (i := 0) (w := .z) (by rfl) (by first | exact .inl rfl | exact .inr (.inl rfl) | exact .inr (.inr rfl)) (by rfl) (by rfl)) (da_cons (de_op op_cat (d2_cat (by rfl) (by rfl)) (de_var (i := 1) (w := .z) (by rfl) (by first | exact .inl rfl | exact .inr (.inl rfl) | exact .inr (.inr rfl)) (by rfl) (by rfl)) (de_w (w' := .z) (de_slice sl_list (dsl_list (by rfl)) (de_var (i := 1) (w := .z) (by rfl) (by first | exact .inl rfl | exact .inr (.inl rfl) | exact .inr (.inr rfl)) (by rfl) (by rfl)) (do_some (de_neg de_int (by rfl)) (by rfl)) do_none) (by rfl))) da_nil)) (by rfl)) (by rfl) (by rfl)))
      dss_nil)
      (dss_cons (Γ1 := [.z, .z, .z, .z, .u]) (ds_if (Γ2 := [.z, .z, .z, .z, .u]) (dt_cmp (op_eqD (Room.units hr)) (d2_eq (by rfl) (by rfl)) (de_var (i := 2) (w := .z) (by rfl) (by first | exact .inl rfl | exact .inr (.inl rfl) | exact .inr (.inr rfl)) (by rfl) (by rfl)) de_int)
      (dss_one (ds_ret (de_tup (da_cons (de_var (i := 0) (w := .z) (by rfl) (by first | exact .inl rfl | exact .inr (.inl rfl) | exact .inr (.inr rfl)) (by rfl) (by rfl)) (da_cons (de_op op_cat (d2_cat (by rfl) (by rfl)) (de_w (w' := .z) (de_slice sl_list (dsl_list (by rfl)) (de_var (i := 1) (w := .z) (by rfl) (by first | exact .inl rfl | exact .inr (.inl rfl) | exact .inr (.inr rfl)) (by rfl) (by rfl)) (do_some (de_var (i := 3) (w := .z) (by rfl) (by first | exact .inl rfl | exact .inr (.inl rfl) | exact .inr (.inr rfl)) (by rfl) (by rfl)) (by rfl)) do_none) (by rfl)) (de_w (w' := .z) (de_slice sl_list (dsl_list (by rfl)) (de_var (i := 1) (w := .z) (by rfl) (by first | exact .inl rfl | exact .inr (.inl rfl) | exact .inr (.inr rfl)) (by rfl) (by rfl)) do_none (do_some (de_var (i := 3) (w := .z) (by rfl) (by first | exact .inl rfl | exact .inr (.inl rfl) | exact .inr (.inr rfl)) (by rfl) (by rfl)) (by rfl))) (by rfl))) da_nil)) (by rfl)) (by rfl) (by rfl)))
      dss_nil)
      (dss_cons (Γ1 := [.z, .z, .z, .z, .u]) (ds_if (Γ2 := [.z, .z, .z, .z, .u]) (dt_cmp (op_eqD (Room.units hr)) (d2_eq (by rfl) (by rfl)) (de_var (i := 2) (w := .z) (by rfl) (by first | exact .inl rfl | exact .inr (.inl rfl) | exact .inr (.inr rfl)) (by rfl) (by rfl)) de_int)
      (dss_one (ds_ret (de_tup (da_cons (de_var (i := 0) (w := .z) (by rfl) (by first | exact .inl rfl | exact .inr (.inl rfl) | exact .inr (.inr rfl)) (by rfl) (by rfl)) (da_cons (de_lc (own := [("_law_k", 4)]) (io := [0, 1, 2, 3]) (ΓL := [.z, .z, .z, .z, .u]) (Γ2 := [.z, .z, .z, .z, .z]) (Γ3 := [.z, .z, .z, .z, .z]) (Γ4 := [.z, .z, .z, .z, .z]) (we := .z) (wx := .z) (by rfl) sc__law_spoiled.nd (blk_ok (by rfl) (by first | rfl | kernel_rfl)) (di_list (de_var (i := 1) (w := .z) (by rfl) (by first | exact .inl rfl | exact .inr (.inl rfl) | exact .inr (.inr rfl)) (by rfl) (by rfl))) (by rfl) (by rfl) (by rfl) (fun s H cA cl fp => (dg_name (i := 4) sc__law_spoiled.nd (by rfl) (by first | exact .inl rfl | exact .inr rfl))) (fun s H cA cl fp => dts_nil) (fun s H cA cl fp => (de_if (dt_cmp (op_eqD (Room.units hr)) (d2_eq (by rfl) (by rfl)) (de_var (i := 4) (w := .z) (by rfl) (by first | exact .inl rfl | exact .inr (.inl rfl) | exact .inr (.inr rfl)) (by rfl) (by rfl)) de_int) (de_w (w' := .z) de_bl (by rfl)) (de_var (i := 4) (w := .z) (by rfl) (by first | exact .inl rfl | exact .inr (.inl rfl) | exact .inr (.inr rfl)) (by rfl) (by rfl)))) (by rfl) (by rfl) (pk_name (by decide))) da_nil)) (by rfl)) (by rfl) (by rfl)))
      dss_nil)
      (dss_cons (Γ1 := [.z, .z, .z, .z, .u]) (ds_if (Γ2 := [.z, .z, .z, .z, .u]) (dt_cmp (op_eqD (Room.units hr)) (d2_eq (by rfl) (by rfl)) (de_var (i := 2) (w := .z) (by rfl) (by first | exact .inl rfl | exact .inr (.inl rfl) | exact .inr (.inr rfl)) (by rfl) (by rfl)) de_int)
      (dss_one (ds_ret (de_tup (da_cons (de_var (i := 0) (w := .z) (by rfl) (by first | exact .inl rfl | exact .inr (.inl rfl) | exact .inr (.inr rfl)) (by rfl) (by rfl)) (da_cons (de_op op_cat (d2_cat (by rfl) (by rfl)) (de_var (i := 1) (w := .z) (by rfl) (by first | exact .inl rfl | exact .inr (.inl rfl) | exact .inr (.inr rfl)) (by rfl) (by rfl)) (de_w (w' := .z) (de_lst (w := .s) (da_cons (de_op op_add (d2_add (by rfl) (by rfl)) de_int (de_var (i := 3) (w := .z) (by rfl) (by first | exact .inl rfl | exact .inr (.inl rfl) | exact .inr (.inr rfl)) (by rfl) (by rfl))) da_nil) (by rfl) (by rfl)) (by rfl))) da_nil)) (by rfl)) (by rfl) (by rfl)))
      dss_nil)
      (dss_cons (Γ1 := [.z, .z, .z, .z, .u]) (ds_if (Γ2 := [.z, .z, .z, .z, .u]) (dt_cmp (op_eqD (Room.units hr)) (d2_eq (by rfl) (by rfl)) (de_var (i := 2) (w := .z) (by rfl) (by first | exact .inl rfl | exact .inr (.inl rfl) | exact .inr (.inr rfl)) (by rfl) (by rfl)) de_int)
      (dss_one (ds_ret (de_tup (da_cons (de_var (i := 0) (w := .z) (by rfl) (by first | exact .inl rfl | exact .inr (.inl rfl) | exact .inr (.inr rfl)) (by rfl) (by rfl)) (da_cons (de_op op_cat (d2_cat (by rfl) (by rfl)) (de_w (w' := .z) (de_lst (w := .s) (da_cons (de_op op_sub (d2_sub (by rfl) (by rfl)) (de_neg de_int (by rfl)) (de_var (i := 3) (w := .z) (by rfl) (by first | exact .inl rfl | exact .inr (.inl rfl) | exact .inr (.inr rfl)) (by rfl) (by rfl))) da_nil) (by rfl) (by rfl)) (by rfl)) (de_var (i := 1) (w := .z) (by rfl) (by first | exact .inl rfl | exact .inr (.inl rfl) | exact .inr (.inr rfl)) (by rfl) (by rfl))) da_nil)) (by rfl)) (by rfl) (by rfl)))
      dss_nil)
      (dss_cons (Γ1 := [.z, .z, .z, .z, .u]) (ds_if (Γ2 := [.z, .z, .z, .z, .u]) (dt_cmp (op_eqD (Room.units hr)) (d2_eq (by rfl) (by rfl)) (de_var (i := 2) (w := .z) (by rfl) (by first | exact .inl rfl | exact .inr (.inl rfl) | exact .inr (.inr rfl)) (by rfl) (by rfl)) de_int)
      (dss_one (ds_ret (de_tup (da_cons (de_var (i := 0) (w := .z) (by rfl) (by first | exact .inl rfl | exact .inr (.inl rfl) | exact .inr (.inr rfl)) (by rfl) (by rfl)) (da_cons (de_ty call_tuple_of (db_tuple (by rfl)) (by rfl) (He.free_ok X G (c.1.fact 22 (f := .free "tuple") (by rfl))) boot_tuple (da_cons (de_var (i := 1) (w := .z) (by rfl) (by first | exact .inl rfl | exact .inr (.inl rfl) | exact .inr (.inr rfl)) (by rfl) (by rfl)) da_nil)) da_nil)) (by rfl)) (by rfl) (by rfl)))
      dss_nil)
      (dss_cons (Γ1 := [.z, .z, .z, .z, .u]) (ds_if (Γ2 := [.z, .z, .z, .z, .u]) (dt_cmp (op_eqD (Room.units hr)) (d2_eq (by rfl) (by rfl)) (de_var (i := 2) (w := .z) (by rfl) (by first | exact .inl rfl | exact .inr (.inl rfl) | exact .inr (.inr rfl)) (by rfl) (by rfl)) de_int)
      (dss_one (ds_ret (de_lst (w := .z) (da_cons (de_var (i := 0) (w := .z) (by rfl) (by first | exact .inl rfl | exact .inr (.inl rfl) | exact .inr (.inr rfl)) (by rfl) (by rfl)) (da_cons (de_var (i := 1) (w := .z) (by rfl) (by first | exact .inl rfl | exact .inr (.inl rfl) | exact .inr (.inr rfl)) (by rfl) (by rfl)) da_nil)) (by rfl) (by rfl)) (by rfl) (by rfl)))
      dss_nil)
      (dss_cons (Γ1 := [.z, .z, .z, .z, .u]) (ds_if (Γ2 := [.z, .z, .z, .z, .u]) (dt_cmp (op_eqD (Room.units hr)) (d2_eq (by rfl) (by rfl)) (de_var (i := 2) (w := .z) (by rfl) (by first | exact .inl rfl | exact .inr (.inl rfl) | exact .inr (.inr rfl)) (by rfl) (by rfl)) de_int)
      (dss_one (ds_ret (de_tup (da_cons (de_var (i := 0) (w := .z) (by rfl) (by first | exact .inl rfl | exact .inr (.inl rfl) | exact .inr (.inr rfl)) (by rfl) (by rfl)) (da_cons (de_var (i := 1) (w := .z) (by rfl) (by first | exact .inl rfl | exact .inr (.inl rfl) | exact .inr (.inr rfl)) (by rfl) (by rfl)) (da_cons (de_var (i := 1) (w := .z) (by rfl) (by first | exact .inl rfl | exact .inr (.inl rfl) | exact .inr (.inr rfl)) (by rfl) (by rfl)) da_nil))) (by rfl)) (by rfl) (by rfl)))
      dss_nil)
      (dss_cons (Γ1 := [.z, .z, .z, .z, .u]) (ds_if (Γ2 := [.z, .z, .z, .z, .u]) (dt_cmp (op_eqD (Room.units hr)) (d2_eq (by rfl) (by rfl)) (de_var (i := 2) (w := .z) (by rfl) (by first | exact .inl rfl | exact .inr (.inl rfl) | exact .inr (.inr rfl)) (by rfl) (by rfl)) de_int)
      (dss_one (ds_ret (de_tup (da_cons (de_var (i := 0) (w := .z) (by rfl) (by first | exact .inl rfl | exact .inr (.inl rfl) | exact .inr (.inr rfl)) (by rfl) (by rfl)) da_nil) (by rfl)) (by rfl) (by rfl)))
      dss_nil)
      (dss_cons (Γ1 := [.z, .z, .z, .z, .u]) (ds_if (Γ2 := [.z, .z, .z, .z, .u]) (dt_cmp (op_eqD (Room.units hr)) (d2_eq (by rfl) (by rfl)) (de_var (i := 2) (w := .z) (by rfl) (by first | exact .inl rfl | exact .inr (.inl rfl) | exact .inr (.inr rfl)) (by rfl) (by rfl)) de_int)
      (dss_one (ds_ret (de_tup (da_cons (de_var (i := 0) (w := .z) (by rfl) (by first | exact .inl rfl | exact .inr (.inl rfl) | exact .inr (.inr rfl)) (by rfl) (by rfl)) (da_cons (de_lst (w := .z) da_nil (by rfl) (by rfl)) da_nil)) (by rfl)) (by rfl) (by rfl)))
      dss_nil)
      (dss_one (ds_ret (de_ix ix_seq (d2_ix (by rfl) (by rfl)) (de_w (w' := .z) (de_lst (w := .z) (da_cons de_non (da_cons (de_op op_mulA (d2_mul (by rfl) (by rfl)) de_int (de_var (i := 3) (w := .z) (by rfl) (by first | exact .inl rfl | exact .inr (.inl rfl) | exact .inr (.inr rfl)) (by rfl) (by rfl))) (da_cons (de_var (i := 0) (w := .z) (by rfl) (by first | exact .inl rfl | exact .inr (.inl rfl) | exact .inr (.inr rfl)) (by rfl) (by rfl)) (da_cons (de_tup (da_cons (de_var (i := 0) (w := .z) (by rfl) (by first | exact .inl rfl | exact .inr (.inl rfl) | exact .inr (.inr rfl)) (by rfl) (by rfl)) (da_cons (de_lst (w := .z) (da_cons (de_var (i := 1) (w := .z) (by rfl) (by first | exact .inl rfl | exact .inr (.inl rfl) | exact .inr (.inr rfl)) (by rfl) (by rfl)) da_nil) (by rfl) (by rfl)) da_nil)) (by rfl)) (da_cons (de_dic0 (w := .z)) (da_cons (de_dic1 de_int (by rfl) (de_var (i := 0) (w := .z) (by rfl) (by first | exact .inl rfl | exact .inr (.inl rfl) | exact .inr (.inr rfl)) (by rfl) (by rfl))) (da_cons (de_tup (da_cons (de_var (i := 0) (w := .z) (by rfl) (by first | exact .inl rfl | exact .inr (.inl rfl) | exact .inr (.inr rfl)) (by rfl) (by rfl)) (da_cons (de_dic1 de_int (by rfl) (de_w (w' := .z) de_int (by rfl))) da_nil)) (by rfl)) da_nil))))))) (by rfl) (by rfl)) (by rfl)) (de_op op_sub (d2_sub (by rfl) (by rfl)) (de_var (i := 2) (w := .z) (by rfl) (by first | exact .inl rfl | exact .inr (.inl rfl) | exact .inr (.inr rfl)) (by rfl) (by rfl)) de_int)) (by rfl) (by rfl))))))))))))))
abbrev st__law_value : Stmt := top 42
noncomputable def S__law_value : GS := (sSeq (sAsg (gCall F__law_draws [] (gaCons (gVar 0) (gaCons (gVar 1) (gaCons (gOp fCat (gLst (gaCons (gC (.int 2)) (gaCons (gC (.int 4)) (gaCons (gC (.int 18)) (gaCons (gC (.int 8)) gaNil))))) (gOp fRep (gLst (gaCons (gC (.int 2)) gaNil)) (gC (.int 8)))) gaNil)))) (pName 4)) (sSeq (sAsg (gOp fIx (gLst (gaCons (gC (.str "stock")) (gaCons (gC (.str "wish")) gaNil))) (gOp fIx (gVar 4) (gC (.int 0)))) (pName 5)) (sSeq (sAsg (gOp fIx (gLst (gaCons (gVar 2) (gaCons (gVar 3) gaNil))) (gOp fIx (gVar 4) (gC (.int 0)))) (pName 6)) (sSeq (sAsg (gLc (iRg (gaCons (gVar 6) gaNil)) (pName 8) (tVal (gOp fEq (gOp fIx (gVar 4) (gOp fAdd (gC (.int 4)) (gVar 8))) (gC (.int 1)))) (gVar 8)) (pName 7)) (sSeq (sIf (tVal (gOp fEq (gOp fIx (gVar 4) (gC (.int 1))) (gC (.int 0)))) (sRet (gCall F__law_spoiled [] (gaCons (gVar 5) (gaCons (gVar 7) (gaCons (gOp fIx (gVar 4) (gC (.int 2))) (gaCons (gOp fIx (gVar 4) (gC (.int 3))) gaNil)))))) sNil) (sRet (gTup (gaCons (gVar 5) (gaCons (gVar 7) gaNil)))))))))
noncomputable def F__law_value : GF := runF 9 [] S__law_value
theorem sc__law_value : FnScope ["_law_script", "_law_spot", "_law_m", "_law_n", "_law_drawn", "_law_word", "_law_size", "_law_lines", "_law_k"] ["_law_script", "_law_spot", "_law_m", "_law_n"] (defScope st__law_value) := ⟨rfl, rfl, rfl, by decide +kernel, rfl, by decide +kernel, by decide +kernel⟩
theorem ok__law_value (X : K.In h) (G : h.Ns mainGlobals mg) (c : Says K) : ∃ fd, FnD P w K mg base (clK K) 3 (He.fAd K ("_law_value", none)) fd ["_law_script", "_law_spot", "_law_m", "_law_n"] ⟨[.z, .z, .z, .z], .z, [], []⟩ F__law_value ∧ Binds K fd ["_law_script", "_law_spot", "_law_m", "_law_n"] [] ∧ PySem.W.keepIn K (.ref (He.fAd K ("_law_value", none))) = true := by
  obtain ⟨fd__law_draws, fo__law_draws, fb__law_draws, fk__law_draws⟩ := ok__law_draws (P := P) (w := w) (base := base) X G c
  obtain ⟨fd__law_spoiled, fo__law_spoiled, fb__law_spoiled, fk__law_spoiled⟩ := ok__law_spoiled (P := P) (w := w) (base := base) X G c
  obtain ⟨fd, FF⟩ := c.1.def_ 14 (d := dd__law_value) rfl
  refine ⟨fd, fnD_of (k := 2) (N := ["_law_script", "_law_spot", "_law_m", "_law_n", "_law_drawn", "_law_word", "_law_size", "_law_lines", "_law_k"]) (g := S__law_value) (sg := ⟨[.z, .z, .z, .z], .z, [], []⟩) (Γ' := [.u, .u, .u, .u, .u, .u, .u, .u, .u]) FF sc__law_value rfl ⟨by decide, by decide, rfl, by decide⟩ (fun cdv A outer s H E hr => ?_), FF.bindsN fun _ _ _ _ _ _ us hl => match us, hl with | [_, _, _, _], _ => rfl, FF.kp⟩
  exact (dss_cons (Γ1 := [.z, .z, .z, .z, .o .s, .u, .u, .u, .u]) (ds_set (i := 4) (Γ1 := [.z, .z, .z, .z, .u, .u, .u, .u, .u]) (w := (.o .s)) sc__law_value.nd (by rfl) (by first | exact .inl rfl | exact .inr rfl) (de_callP fo__law_draws (hr.mono (by decide)) takesX (by rfl) (He.glo_ok X G (c.1.fact 5 (f := .glo "_law_draws") (by rfl))) fk__law_draws fb__law_draws (da_cons (de_var (i := 0) (w := .z) (by rfl) (by first | exact .inl rfl | exact .inr (.inl rfl) | exact .inr (.inr rfl)) (by rfl) (by rfl)) (da_cons (de_var (i := 1) (w := .z) (by rfl) (by first | exact .inl rfl | exact .inr (.inl rfl) | exact .inr (.inr rfl)) (by rfl) (by rfl)) (da_cons (de_w (w' := .z) (de_op op_cat (d2_cat (by rfl) (by rfl)) (de_w (w' := .z) (de_lst (w := .s) (da_cons de_int (da_cons de_int (da_cons de_int (da_cons de_int da_nil)))) (by rfl) (by rfl)) (by rfl)) (de_w (w' := .z) (de_op op_rep (d2_rep (by rfl) (by rfl)) (de_w (w' := .z) (de_lst (w := .s) (da_cons de_int da_nil) (by rfl) (by rfl)) (by rfl)) de_int) (by rfl))) (by rfl)) da_nil))) (by rfl)))
      (dss_cons (Γ1 := [.z, .z, .z, .z, .z, .z, .u, .u, .u]) (ds_pre (Γ1 := [.z, .z, .z, .z, .z, .u, .u, .u, .u]) (ds_set (i := 5) (Γ1 := [.z, .z, .z, .z, .z, .u, .u, .u, .u]) (w := .z) sc__law_value.nd (by rfl) (by first | exact .inl rfl | exact .inr rfl) (de_ix ix_seq (d2_ix (by rfl) (by rfl)) (de_w (w' := .z) (de_lst (w := .s) (da_cons de_str (da_cons de_str da_nil)) (by rfl) (by rfl)) (by rfl)) (de_ix ix_seq (d2_ix (by rfl) (by rfl)) (de_var (i := 4) (w := .z) (by rfl) (by first | exact .inl rfl | exact .inr (.inl rfl) | exact .inr (.inr rfl)) (by rfl) (by rfl)) de_int))) (by rfl))
      (dss_cons (Γ1 := [.z, .z, .z, .z, .z, .z, .z, .u, .u]) (ds_set (i := 6) (Γ1 := [.z, .z, .z, .z, .z, .z, .u, .u, .u]) (w := .z) sc__law_value.nd (by rfl) (by first | exact .inl rfl | exact .inr rfl) (de_ix ix_seq (d2_ix (by rfl) (by rfl)) (de_w (w' := .z) (de_lst (w := .z) (da_cons (de_var (i := 2) (w := .z) (by rfl) (by first | exact .inl rfl | exact .inr (.inl rfl) | exact .inr (.inr rfl)) (by rfl) (by rfl)) (da_cons (de_var (i := 3) (w := .z) (by rfl) (by first | exact .inl rfl | exact .inr (.inl rfl) | exact .inr (.inr rfl)) (by rfl) (by rfl)) da_nil)) (by rfl) (by rfl)) (by rfl)) (de_ix ix_seq (d2_ix (by rfl) (by rfl)) (de_var (i := 4) (w := .z) (by rfl) (by first | exact .inl rfl | exact .inr (.inl rfl) | exact .inr (.inr rfl)) (by rfl) (by rfl)) de_int)))
      (dss_cons (Γ1 := [.z, .z, .z, .z, .z, .z, .z, .o .s, .u]) (ds_setlc (i := 7) (by rfl) sc__law_value.nd (by rfl) (by rfl) (by rfl) (own := [("_law_k", 8)]) (io := [0, 1, 2, 3, 4, 5, 6, 7]) (ΓL := [.z, .z, .z, .z, .z, .z, .z, .u, .u]) (Γ2 := [.z, .z, .z, .z, .z, .z, .z, .u, .s]) (Γ3 := [.z, .z, .z, .z, .z, .z, .z, .u, .s]) (Γ4 := [.z, .z, .z, .z, .z, .z, .z, .u, .s]) (we := .s) (wx := .s) (blk_ok (by rfl) (by first | rfl | kernel_rfl)) (di_range1 (by rfl) (He.free_ok X G (c.1.fact 6 (f := .free "range") (by rfl))) (da_cons (de_var (i := 6) (w := .z) (by rfl) (by first | exact .inl rfl | exact .inr (.inl rfl) | exact .inr (.inr rfl)) (by rfl) (by rfl)) da_nil) (by rfl)) (by rfl) (by rfl) (by rfl) (fun s H cA cl fp => (dg_name (i := 8) sc__law_value.nd (by rfl) (by first | exact .inl rfl | exact .inr rfl))) (fun s H cA cl fp => (dts_one (dt_cmp (op_eqD (Room.units hr)) (d2_eq (by rfl) (by rfl)) (de_ix ix_seq (d2_ix (by rfl) (by rfl)) (de_var (i := 4) (w := .z) (by rfl) (by first | exact .inl rfl | exact .inr (.inl rfl) | exact .inr (.inr rfl)) (by rfl) (by rfl)) (de_op op_add (d2_add (by rfl) (by rfl)) de_int (de_var (i := 8) (w := .s) (by rfl) (by first | exact .inl rfl | exact .inr (.inl rfl) | exact .inr (.inr rfl)) (by rfl) (by rfl)))) de_int))) (fun s H cA cl fp => (de_var (i := 8) (w := .s) (by rfl) (by first | exact .inl rfl | exact .inr (.inl rfl) | exact .inr (.inr rfl)) (by rfl) (by rfl))) (by rfl) (by rfl) (pk_name (by decide)))
      (dss_cons (Γ1 := [.z, .z, .z, .z, .z, .z, .z, .o .s, .u]) (ds_if (Γ2 := [.z, .z, .z, .z, .z, .z, .z, .o .s, .u]) (dt_cmp (op_eqD (Room.units hr)) (d2_eq (by rfl) (by rfl)) (de_ix ix_seq (d2_ix (by rfl) (by rfl)) (de_var (i := 4) (w := .z) (by rfl) (by first | exact .inl rfl | exact .inr (.inl rfl) | exact .inr (.inr rfl)) (by rfl) (by rfl)) de_int) de_int)
      (dss_one (ds_pre (Γ1 := [.z, .z, .z, .z, .z, .z, .z, .z, .u]) (ds_ret (de_callP fo__law_spoiled (hr.mono (by decide)) takesX (by rfl) (He.glo_ok X G (c.1.fact 23 (f := .glo "_law_spoiled") (by rfl))) fk__law_spoiled fb__law_spoiled (da_cons (de_var (i := 5) (w := .z) (by rfl) (by first | exact .inl rfl | exact .inr (.inl rfl) | exact .inr (.inr rfl)) (by rfl) (by rfl)) (da_cons (de_var (i := 7) (w := .z) (by rfl) (by first | exact .inl rfl | exact .inr (.inl rfl) | exact .inr (.inr rfl)) (by rfl) (by rfl)) (da_cons (de_ix ix_seq (d2_ix (by rfl) (by rfl)) (de_var (i := 4) (w := .z) (by rfl) (by first | exact .inl rfl | exact .inr (.inl rfl) | exact .inr (.inr rfl)) (by rfl) (by rfl)) de_int) (da_cons (de_ix ix_seq (d2_ix (by rfl) (by rfl)) (de_var (i := 4) (w := .z) (by rfl) (by first | exact .inl rfl | exact .inr (.inl rfl) | exact .inr (.inr rfl)) (by rfl) (by rfl)) de_int) da_nil)))) (by rfl)) (by rfl) (by rfl)) (by rfl)))
      dss_nil)
      (dss_one (ds_pre (Γ1 := [.z, .z, .z, .z, .z, .z, .z, .z, .u]) (ds_ret (de_tup (da_cons (de_var (i := 5) (w := .z) (by rfl) (by first | exact .inl rfl | exact .inr (.inl rfl) | exact .inr (.inr rfl)) (by rfl) (by rfl)) (da_cons (de_var (i := 7) (w := .z) (by rfl) (by first | exact .inl rfl | exact .inr (.inl rfl) | exact .inr (.inr rfl)) (by rfl) (by rfl)) da_nil)) (by rfl)) (by rfl) (by rfl)) (by rfl))))))))
abbrev st__law_is_list_of : Stmt := top 39
noncomputable def B__law_is_list_of_0 : GS := (sSeq (sIf (tOr (tNot (tTru (gIsi (isB knL "int") (gVar 3)))) (tTru (gIsi (isB knL "bool") (gVar 3)))) (sRet (gC (.bl false))) sNil) (sSeq (sIf (tOr (tVal (gOp fLe (gVar 3) (gVar 2))) (tVal (gOp fGe (gVar 3) (gVar 1)))) (sRet (gC (.bl false))) sNil) (sAsg (gVar 3) (pName 2))))
noncomputable def S__law_is_list_of : GS := (sSeq (sIf (tOr (tNot (tTru (gIsi (isB knL "list") (gVar 0)))) (tVal (gOp fEq (gBi fLen (gaCons (gVar 0) gaNil)) (gC (.int 0))))) (sRet (gC (.bl false))) sNil) (sSeq (sAsg (gUn fNeg (gC (.int 1))) (pName 2)) (sSeq (sFor (iLst (gVar 0)) (pName 3) B__law_is_list_of_0) (sRet (gC (.bl true))))))
noncomputable def F__law_is_list_of : GF := runF 4 [] S__law_is_list_of
theorem sc__law_is_list_of : FnScope ["_law_found", "_law_size", "_law_last", "_law_k"] ["_law_found", "_law_size"] (defScope st__law_is_list_of) := ⟨rfl, rfl, rfl, by decide +kernel, rfl, by decide +kernel, by decide +kernel⟩
theorem ok__law_is_list_of (X : K.In h) (G : h.Ns mainGlobals mg) (c : Says K) : ∃ fd, FnD P w K mg base (clK K) 1 (He.fAd K ("_law_is_list_of", none)) fd ["_law_found", "_law_size"] ⟨[.z, .z], .s, [], []⟩ F__law_is_list_of ∧ Binds K fd ["_law_found", "_law_size"] [] ∧ PySem.W.keepIn K (.ref (He.fAd K ("_law_is_list_of", none))) = true := by
  obtain ⟨fd, FF⟩ := c.1.def_ 15 (d := dd__law_is_list_of) rfl
  refine ⟨fd, fnD_of (k := 0) (N := ["_law_found", "_law_size", "_law_last", "_law_k"]) (g := S__law_is_list_of) (sg := ⟨[.z, .z], .s, [], []⟩) (Γ' := [.u, .u, .u, .u]) FF sc__law_is_list_of rfl ⟨by decide, by decide, rfl, by decide⟩ (fun cdv A outer s H E hr => ?_), FF.bindsN fun _ _ _ _ _ _ us hl => match us, hl with | [_, _], _ => rfl, FF.kp⟩
  exact (dss_cons (Γ1 := [.z, .z, .u, .u]) (ds_if (Γ2 := [.z, .z, .u, .u]) (de_weakT (dt_or (dt_not (dt_tru (de_isi (by rfl) (He.free_ok X G (c.1.fact 10 (f := .free "isinstance") (by rfl))) boot_isinstance (ansB_list X G c) (.ty "list") (de_var (i := 0) (w := .z) (by rfl) (by first | exact .inl rfl | exact .inr (.inl rfl) | exact .inr (.inr rfl)) (by rfl) (by rfl)) (by rfl) (pe_bltn (by rfl) (He.free_ok X G (c.1.fact 9 (f := .free "list") (by rfl))) boot_list (by rfl))))) (dt_or1 (dt_cmp (op_eqD (Room.units hr)) (d2_eq (by rfl) (by rfl)) (de_bi call_len (db_len (by rfl)) (by rfl) (He.free_ok X G (c.1.fact 0 (f := .free "len") (by rfl))) boot_len (da_cons (de_var (i := 0) (w := .z) (by rfl) (by first | exact .inl rfl | exact .inr (.inl rfl) | exact .inr (.inr rfl)) (by rfl) (by rfl)) da_nil)) de_int)) (by rfl)))
      (dss_one (ds_ret de_bl (by rfl) (by rfl)))
      dss_nil)
      (dss_cons (Γ1 := [.z, .z, .s, .u]) (ds_set (i := 2) (Γ1 := [.z, .z, .u, .u]) (w := .s) sc__law_is_list_of.nd (by rfl) (by first | exact .inl rfl | exact .inr rfl) (de_neg de_int (by rfl)))
      (dss_cons (Γ1 := [.z, .z, .z, .u]) (ds_for (Γ1 := [.z, .z, .s, .u]) (Γi := [.z, .z, .z, .u]) (w := .z) (Γ2 := [.z, .z, .z, .z]) passX (by rfl) (di_list (de_var (i := 0) (w := .z) (by rfl) (by first | exact .inl rfl | exact .inr (.inl rfl) | exact .inr (.inr rfl)) (by rfl) (by rfl))) (by rfl) (dg_name (i := 3) sc__law_is_list_of.nd (by rfl) (by first | exact .inl rfl | exact .inr rfl))
      (dss_cons (Γ1 := [.z, .z, .z, .z]) (ds_if (Γ2 := [.z, .z, .z, .z]) (de_weakT (dt_or (dt_not (dt_tru (de_isi (by rfl) (He.free_ok X G (c.1.fact 10 (f := .free "isinstance") (by rfl))) boot_isinstance (ansB_int X G c) (.ty "int") (de_var (i := 3) (w := .z) (by rfl) (by first | exact .inl rfl | exact .inr (.inl rfl) | exact .inr (.inr rfl)) (by rfl) (by rfl)) (by rfl) (pe_bltn (by rfl) (He.free_ok X G (c.1.fact 1 (f := .free "int") (by rfl))) boot_int (by rfl))))) (dt_or1 (dt_tru (de_isi (by rfl) (He.free_ok X G (c.1.fact 10 (f := .free "isinstance") (by rfl))) boot_isinstance (ansB_bool X G c) (.ty "bool") (de_var (i := 3) (w := .z) (by rfl) (by first | exact .inl rfl | exact .inr (.inl rfl) | exact .inr (.inr rfl)) (by rfl) (by rfl)) (by rfl) (pe_bltn (by rfl) (He.free_ok X G (c.1.fact 12 (f := .free "bool") (by rfl))) boot_bool (by rfl))))) (by rfl)))
      (dss_one (ds_ret de_bl (by rfl) (by rfl)))
      dss_nil)
      (dss_cons (Γ1 := [.z, .z, .z, .z]) (ds_if (Γ2 := [.z, .z, .z, .z]) (de_weakT (dt_or (dt_cmp op_le (d2_le (by rfl) (by rfl)) (de_var (i := 3) (w := .z) (by rfl) (by first | exact .inl rfl | exact .inr (.inl rfl) | exact .inr (.inr rfl)) (by rfl) (by rfl)) (de_var (i := 2) (w := .z) (by rfl) (by first | exact .inl rfl | exact .inr (.inl rfl) | exact .inr (.inr rfl)) (by rfl) (by rfl))) (dt_or1 (dt_cmp op_ge (d2_ge (by rfl) (by rfl)) (de_var (i := 3) (w := .z) (by rfl) (by first | exact .inl rfl | exact .inr (.inl rfl) | exact .inr (.inr rfl)) (by rfl) (by rfl)) (de_var (i := 1) (w := .z) (by rfl) (by first | exact .inl rfl | exact .inr (.inl rfl) | exact .inr (.inr rfl)) (by rfl) (by rfl)))) (by rfl)))
      (dss_one (ds_ret de_bl (by rfl) (by rfl)))
      dss_nil)
      (dss_one (ds_weak (Γ1 := [.z, .z, .z, .z]) (ds_set (i := 2) (Γ1 := [.z, .z, .z, .z]) (w := .z) sc__law_is_list_of.nd (by rfl) (by first | exact .inl rfl | exact .inr rfl) (de_var (i := 3) (w := .z) (by rfl) (by first | exact .inl rfl | exact .inr (.inl rfl) | exact .inr (.inr rfl)) (by rfl) (by rfl))) (by rfl))))))
      (dss_one (ds_ret de_bl (by rfl) (by rfl))))))
abbrev st__law_holds_more : Stmt := top 38
noncomputable def B__law_holds_more_0 : GS := (sIf (tVal (gOp fGt (gBi fLen (gaCons (gLc (iLst (gVar 1)) (pName 7) (tTru (gOp fIx (gOp fIx (gVar 0) (gVar 7)) (gVar 5))) (gVar 7)) gaNil)) (gC (.int 0)))) (sAug 4 (fun i j => i - j) (gVar 6)) sNil)
noncomputable def S__law_holds_more : GS := (sSeq (sAsg (gBi fSum (gaCons (gLc (iLst (gVar 1)) (pName 7) tYesD (gOp fIx (gVar 2) (gVar 7))) gaNil)) (pName 4)) (sSeq (sFor (iEn (gaCons (gVar 3) gaNil)) (pTup (psCons (pName 5) (psCons (pName 6) psNil))) B__law_holds_more_0) (sRet (gOp fGt (gVar 4) (gC (.int 0))))))
noncomputable def F__law_holds_more : GF := runF 8 [] S__law_holds_more
theorem sc__law_holds_more : FnScope ["_law_usable", "_law_lines", "_law_own", "_law_others", "_law_held", "_law_column", "_law_amount", "_law_k"] ["_law_usable", "_law_lines", "_law_own", "_law_others"] (defScope st__law_holds_more) := ⟨rfl, rfl, rfl, by decide +kernel, rfl, by decide +kernel, by decide +kernel⟩
theorem ok__law_holds_more (X : K.In h) (G : h.Ns mainGlobals mg) (c : Says K) : ∃ fd, FnD P w K mg base (clK K) 1 (He.fAd K ("_law_holds_more", none)) fd ["_law_usable", "_law_lines", "_law_own", "_law_others"] ⟨[.z, .z, .z, .z], .s, [], []⟩ F__law_holds_more ∧ Binds K fd ["_law_usable", "_law_lines", "_law_own", "_law_others"] [] ∧ PySem.W.keepIn K (.ref (He.fAd K ("_law_holds_more", none))) = true := by
  obtain ⟨fd, FF⟩ := c.1.def_ 16 (d := dd__law_holds_more) rfl
  refine ⟨fd, fnD_of (k := 0) (N := ["_law_usable", "_law_lines", "_law_own", "_law_others", "_law_held", "_law_column", "_law_amount", "_law_k"]) (g := S__law_holds_more) (sg := ⟨[.z, .z, .z, .z], .s, [], []⟩) (Γ' := [.u, .u, .u, .u, .u, .u, .u, .u]) FF sc__law_holds_more rfl ⟨by decide, by decide, rfl, by decide⟩ (fun cdv A outer s H E hr => ?_), FF.bindsN fun _ _ _ _ _ _ us hl => match us, hl with | [_, _, _, _], _ => rfl, FF.kp⟩
  exact (dss_cons (Γ1 := [.z, .z, .z, .z, .s, .u, .u, .u]) (ds_set (i := 4) (Γ1 := [.z, .z, .z, .z, .u, .u, .u, .u]) (w := .s) sc__law_holds_more.nd (by rfl) (by first | exact .inl rfl | exact .inr rfl) (de_bi (cr_sum (by rfl)) (db_sum (by rfl)) (by rfl) (He.free_ok X G (c.1.fact 8 (f := .free "sum") (by rfl))) boot_sum (da_cons (de_w (w' := .z) (de_lc (own := [("_law_k", 7)]) (io := [0, 1, 2, 3, 4, 5, 6]) (ΓL := [.z, .z, .z, .z, .u, .u, .u, .u]) (Γ2 := [.z, .z, .z, .z, .u, .u, .u, .z]) (Γ3 := [.z, .z, .z, .z, .u, .u, .u, .z]) (Γ4 := [.z, .z, .z, .z, .u, .u, .u, .z]) (we := .z) (wx := .z) (by rfl) sc__law_holds_more.nd (blk_ok (by rfl) (by first | rfl | kernel_rfl)) (di_list (de_var (i := 1) (w := .z) (by rfl) (by first | exact .inl rfl | exact .inr (.inl rfl) | exact .inr (.inr rfl)) (by rfl) (by rfl))) (by rfl) (by rfl) (by rfl) (fun s H cA cl fp => (dg_name (i := 7) sc__law_holds_more.nd (by rfl) (by first | exact .inl rfl | exact .inr rfl))) (fun s H cA cl fp => dts_nil) (fun s H cA cl fp => (de_ix ix_seq (d2_ix (by rfl) (by rfl)) (de_var (i := 2) (w := .z) (by rfl) (by first | exact .inl rfl | exact .inr (.inl rfl) | exact .inr (.inr rfl)) (by rfl) (by rfl)) (de_var (i := 7) (w := .z) (by rfl) (by first | exact .inl rfl | exact .inr (.inl rfl) | exact .inr (.inr rfl)) (by rfl) (by rfl)))) (by rfl) (by rfl) (pk_name (by decide))) (by rfl)) da_nil)))
      (dss_cons (Γ1 := [.z, .z, .z, .z, .s, .u, .u, .u]) (ds_for (Γ1 := [.z, .z, .z, .z, .s, .u, .u, .u]) (Γi := [.z, .z, .z, .z, .s, .u, .u, .u]) (w := (.t [.s, .z])) (Γ2 := [.z, .z, .z, .z, .s, .s, .z, .u]) passX (by rfl) (di_enum (by rfl) (He.free_ok X G (c.1.fact 3 (f := .free "enumerate") (by rfl))) (da_cons (de_var (i := 3) (w := .z) (by rfl) (by first | exact .inl rfl | exact .inr (.inl rfl) | exact .inr (.inr rfl)) (by rfl) (by rfl)) da_nil)) (by rfl) (dg_tupT (by rfl) (dgs_cons (dg_name (i := 5) sc__law_holds_more.nd (by rfl) (by first | exact .inl rfl | exact .inr rfl)) (dgs_cons (dg_name (i := 6) sc__law_holds_more.nd (by rfl) (by first | exact .inl rfl | exact .inr rfl)) dgs_nil)))
      (dss_one (ds_weak (Γ1 := [.z, .z, .z, .z, .s, .s, .z, .u]) (ds_if (Γ2 := [.z, .z, .z, .z, .s, .s, .z, .u]) (dt_cmp op_gt (d2_gt (by rfl) (by rfl)) (de_bi call_len (db_len (by rfl)) (by rfl) (He.free_ok X G (c.1.fact 0 (f := .free "len") (by rfl))) boot_len (da_cons (de_w (w' := .z) (de_lc (own := [("_law_k", 7)]) (io := [0, 1, 2, 3, 4, 5, 6]) (ΓL := [.z, .z, .z, .z, .s, .s, .z, .u]) (Γ2 := [.z, .z, .z, .z, .s, .s, .z, .z]) (Γ3 := [.z, .z, .z, .z, .s, .s, .z, .z]) (Γ4 := [.z, .z, .z, .z, .s, .s, .z, .z]) (we := .z) (wx := .z) (by rfl) sc__law_holds_more.nd (blk_ok (by rfl) (by first | rfl | kernel_rfl)) (di_list (de_var (i := 1) (w := .z) (by rfl) (by first | exact .inl rfl | exact .inr (.inl rfl) | exact .inr (.inr rfl)) (by rfl) (by rfl))) (by rfl) (by rfl) (by rfl) (fun s H cA cl fp => (dg_name (i := 7) sc__law_holds_more.nd (by rfl) (by first | exact .inl rfl | exact .inr rfl))) (fun s H cA cl fp => (dts_one (dt_tru (de_ix ix_seq (d2_ix (by rfl) (by rfl)) (de_ix ix_seq (d2_ix (by rfl) (by rfl)) (de_var (i := 0) (w := .z) (by rfl) (by first | exact .inl rfl | exact .inr (.inl rfl) | exact .inr (.inr rfl)) (by rfl) (by rfl)) (de_var (i := 7) (w := .z) (by rfl) (by first | exact .inl rfl | exact .inr (.inl rfl) | exact .inr (.inr rfl)) (by rfl) (by rfl))) (de_var (i := 5) (w := .s) (by rfl) (by first | exact .inl rfl | exact .inr (.inl rfl) | exact .inr (.inr rfl)) (by rfl) (by rfl)))))) (fun s H cA cl fp => (de_var (i := 7) (w := .z) (by rfl) (by first | exact .inl rfl | exact .inr (.inl rfl) | exact .inr (.inr rfl)) (by rfl) (by rfl))) (by rfl) (by rfl) (pk_name (by decide))) (by rfl)) da_nil)) de_int)
      (dss_one (ds_aug (i := 4) (Γ1 := [.z, .z, .z, .z, .s, .s, .z, .u]) (w := .s) sc__law_holds_more.nd (by rfl) (by first | exact .inl rfl | exact .inr rfl) ip_sub (by rfl) (by rfl) (de_var (i := 6) (w := .z) (by rfl) (by first | exact .inl rfl | exact .inr (.inl rfl) | exact .inr (.inr rfl)) (by rfl) (by rfl)) (by rfl)))
      dss_nil) (by rfl))))
      (dss_one (ds_ret (de_cmp op_gt (d2_gt (by rfl) (by rfl)) (de_var (i := 4) (w := .s) (by rfl) (by first | exact .inl rfl | exact .inr (.inl rfl) | exact .inr (.inr rfl)) (by rfl) (by rfl)) de_int) (by rfl) (by rfl)))))
abbrev st__law_judged : Stmt := top 40
noncomputable def S__law_judged : GS := (sSeq (sIf (tOr (tNot (tTru (gIsi (isB knL "tuple") (gVar 0)))) (tVal (gOp fNe (gBi fLen (gaCons (gVar 0) gaNil)) (gC (.int 2))))) (sRet (gC (.bl false))) sNil) (sSeq (sAsg (gOp fSub (gBi fSum (gaCons (gVar 3) gaNil)) (gBi fSum (gaCons (gVar 4) gaNil))) (pName 5)) (sSeq (sIf (tAnd (tVal (gOp fEq (gOp fIx (gVar 0) (gC (.int 0))) (gC (.str "stock")))) (tVal (gOp fLe (gVar 5) (gC (.int 0))))) (sSeq (sAsg (gCall F__law_is_list_of [] (gaCons (gOp fIx (gVar 0) (gC (.int 1))) (gaCons (gBi fLen (gaCons (gVar 3) gaNil)) gaNil))) (pName 6)) (sRet (gAnd (gVar 6) (gCall F__law_holds_more [] (gaCons (gVar 1) (gaCons (gOp fIx (gVar 0) (gC (.int 1))) (gaCons (gVar 3) (gaCons (gVar 4) gaNil)))))))) sNil) (sSeq (sIf (tAnd (tVal (gOp fEq (gOp fIx (gVar 0) (gC (.int 0))) (gC (.str "wish")))) (tVal (gOp fGe (gVar 5) (gC (.int 0))))) (sSeq (sAsg (gCall F__law_is_list_of [] (gaCons (gOp fIx (gVar 0) (gC (.int 1))) (gaCons (gBi fLen (gaCons (gVar 4) gaNil)) gaNil))) (pName 6)) (sRet (gAnd (gVar 6) (gCall F__law_holds_more [] (gaCons (gVar 2) (gaCons (gOp fIx (gVar 0) (gC (.int 1))) (gaCons (gVar 4) (gaCons (gVar 3) gaNil)))))))) sNil) (sRet (gC (.bl false)))))))
noncomputable def F__law_judged : GF := runF 7 [] S__law_judged
theorem sc__law_judged : FnScope ["_law_found", "_law_usable", "_law_turned", "_law_stocks", "_law_wishes", "_law_over", "_law_good"] ["_law_found", "_law_usable", "_law_turned", "_law_stocks", "_law_wishes"] (defScope st__law_judged) := ⟨rfl, rfl, rfl, by decide +kernel, rfl, by decide +kernel, by decide +kernel⟩
theorem ok__law_judged (X : K.In h) (G : h.Ns mainGlobals mg) (c : Says K) : ∃ fd, FnD P w K mg base (clK K) 2 (He.fAd K ("_law_judged", none)) fd ["_law_found", "_law_usable", "_law_turned", "_law_stocks", "_law_wishes"] ⟨[.z, .z, .z, .z, .z], .s, [], []⟩ F__law_judged ∧ Binds K fd ["_law_found", "_law_usable", "_law_turned", "_law_stocks", "_law_wishes"] [] ∧ PySem.W.keepIn K (.ref (He.fAd K ("_law_judged", none))) = true := by
  obtain ⟨fd__law_is_list_of, fo__law_is_list_of, fb__law_is_list_of, fk__law_is_list_of⟩ := ok__law_is_list_of (P := P) (w := w) (base := base) X G c
  obtain ⟨fd__law_holds_more, fo__law_holds_more, fb__law_holds_more, fk__law_holds_more⟩ := ok__law_holds_more (P := P) (w := w) (base := base) X G c
  obtain ⟨fd, FF⟩ := c.1.def_ 17 (d := dd__law_judged) rfl
  refine ⟨fd, fnD_of (k := 1) (N := ["_law_found", "_law_usable", "_law_turned", "_law_stocks", "_law_wishes", "_law_over", "_law_good"]) (g := S__law_judged) (sg := ⟨[.z, .z, .z, .z, .z], .s, [], []⟩) (Γ' := [.u, .u, .u, .u, .u, .u, .u]) FF sc__law_judged rfl ⟨by decide, by decide, rfl, by decide⟩ (fun cdv A outer s H E hr => ?_), FF.bindsN fun _ _ _ _ _ _ us hl => match us, hl with | [_, _, _, _, _], _ => rfl, FF.kp⟩
  exact (dss_cons (Γ1 := [.z, .z, .z, .z, .z, .u, .u]) (ds_if (Γ2 := [.z, .z, .z, .z, .z, .u, .u]) (de_weakT (dt_or (dt_not (dt_tru (de_isi (by rfl) (He.free_ok X G (c.1.fact 10 (f := .free "isinstance") (by rfl))) boot_isinstance (ansB_tuple X G c) (.ty "tuple") (de_var (i := 0) (w := .z) (by rfl) (by first | exact .inl rfl | exact .inr (.inl rfl) | exact .inr (.inr rfl)) (by rfl) (by rfl)) (by rfl) (pe_bltn (by rfl) (He.free_ok X G (c.1.fact 22 (f := .free "tuple") (by rfl))) boot_tuple (by rfl))))) (dt_or1 (dt_cmp (op_neD (Room.units hr)) (d2_ne (by rfl) (by rfl)) (de_bi call_len (db_len (by rfl)) (by rfl) (He.free_ok X G (c.1.fact 0 (f := .free "len") (by rfl))) boot_len (da_cons (de_var (i := 0) (w := .z) (by rfl) (by first | exact .inl rfl | exact .inr (.inl rfl) | exact .inr (.inr rfl)) (by rfl) (by rfl)) da_nil)) de_int)) (by rfl)))
      (dss_one (ds_ret de_bl (by rfl) (by rfl)))
      dss_nil)
      (dss_cons (Γ1 := [.z, .z, .z, .z, .z, .s, .u]) (ds_set (i := 5) (Γ1 := [.z, .z, .z, .z, .z, .u, .u]) (w := .s) sc__law_judged.nd (by rfl) (by first | exact .inl rfl | exact .inr rfl) (de_op op_sub (d2_sub (by rfl) (by rfl)) (de_bi (cr_sum (by rfl)) (db_sum (by rfl)) (by rfl) (He.free_ok X G (c.1.fact 8 (f := .free "sum") (by rfl))) boot_sum (da_cons (de_var (i := 3) (w := .z) (by rfl) (by first | exact .inl rfl | exact .inr (.inl rfl) | exact .inr (.inr rfl)) (by rfl) (by rfl)) da_nil)) (de_bi (cr_sum (by rfl)) (db_sum (by rfl)) (by rfl) (He.free_ok X G (c.1.fact 8 (f := .free "sum") (by rfl))) boot_sum (da_cons (de_var (i := 4) (w := .z) (by rfl) (by first | exact .inl rfl | exact .inr (.inl rfl) | exact .inr (.inr rfl)) (by rfl) (by rfl)) da_nil))))
      (dss_cons (Γ1 := [.z, .z, .z, .z, .z, .s, .u]) (ds_if (Γ2 := [.z, .z, .z, .z, .z, .s, .u]) (de_weakT (dt_and (dt_cmp (op_eqD (Room.units hr)) (d2_eq (by rfl) (by rfl)) (de_ix ix_seq (d2_ix (by rfl) (by rfl)) (de_var (i := 0) (w := .z) (by rfl) (by first | exact .inl rfl | exact .inr (.inl rfl) | exact .inr (.inr rfl)) (by rfl) (by rfl)) de_int) de_str) (dt_and1 (dt_cmp op_le (d2_le (by rfl) (by rfl)) (de_var (i := 5) (w := .s) (by rfl) (by first | exact .inl rfl | exact .inr (.inl rfl) | exact .inr (.inr rfl)) (by rfl) (by rfl)) de_int)) (by rfl)))
      (dss_cons (Γ1 := [.z, .z, .z, .z, .z, .s, .s]) (ds_set (i := 6) (Γ1 := [.z, .z, .z, .z, .z, .s, .u]) (w := .s) sc__law_judged.nd (by rfl) (by first | exact .inl rfl | exact .inr rfl) (de_callP fo__law_is_list_of (hr.mono (by decide)) takesX (by rfl) (He.glo_ok X G (c.1.fact 24 (f := .glo "_law_is_list_of") (by rfl))) fk__law_is_list_of fb__law_is_list_of (da_cons (de_ix ix_seq (d2_ix (by rfl) (by rfl)) (de_var (i := 0) (w := .z) (by rfl) (by first | exact .inl rfl | exact .inr (.inl rfl) | exact .inr (.inr rfl)) (by rfl) (by rfl)) de_int) (da_cons (de_w (w' := .z) (de_bi call_len (db_len (by rfl)) (by rfl) (He.free_ok X G (c.1.fact 0 (f := .free "len") (by rfl))) boot_len (da_cons (de_var (i := 3) (w := .z) (by rfl) (by first | exact .inl rfl | exact .inr (.inl rfl) | exact .inr (.inr rfl)) (by rfl) (by rfl)) da_nil)) (by rfl)) da_nil)) (by rfl)))
      (dss_one (ds_ret (de_and (de_var (i := 6) (w := .s) (by rfl) (by first | exact .inl rfl | exact .inr (.inl rfl) | exact .inr (.inr rfl)) (by rfl) (by rfl)) (by rfl) (de_one (de_callP fo__law_holds_more (hr.mono (by decide)) takesX (by rfl) (He.glo_ok X G (c.1.fact 25 (f := .glo "_law_holds_more") (by rfl))) fk__law_holds_more fb__law_holds_more (da_cons (de_var (i := 1) (w := .z) (by rfl) (by first | exact .inl rfl | exact .inr (.inl rfl) | exact .inr (.inr rfl)) (by rfl) (by rfl)) (da_cons (de_ix ix_seq (d2_ix (by rfl) (by rfl)) (de_var (i := 0) (w := .z) (by rfl) (by first | exact .inl rfl | exact .inr (.inl rfl) | exact .inr (.inr rfl)) (by rfl) (by rfl)) de_int) (da_cons (de_var (i := 3) (w := .z) (by rfl) (by first | exact .inl rfl | exact .inr (.inl rfl) | exact .inr (.inr rfl)) (by rfl) (by rfl)) (da_cons (de_var (i := 4) (w := .z) (by rfl) (by first | exact .inl rfl | exact .inr (.inl rfl) | exact .inr (.inr rfl)) (by rfl) (by rfl)) da_nil)))) (by rfl))) (by rfl)) (by rfl) (by rfl))))
      dss_nil)
      (dss_cons (Γ1 := [.z, .z, .z, .z, .z, .s, .u]) (ds_if (Γ2 := [.z, .z, .z, .z, .z, .s, .u]) (de_weakT (dt_and (dt_cmp (op_eqD (Room.units hr)) (d2_eq (by rfl) (by rfl)) (de_ix ix_seq (d2_ix (by rfl) (by rfl)) (de_var (i := 0) (w := .z) (by rfl) (by first | exact .inl rfl | exact .inr (.inl rfl) | exact .inr (.inr rfl)) (by rfl) (by rfl)) de_int) de_str) (dt_and1 (dt_cmp op_ge (d2_ge (by rfl) (by rfl)) (de_var (i := 5) (w := .s) (by rfl) (by first | exact .inl rfl | exact .inr (.inl rfl) | exact .inr (.inr rfl)) (by rfl) (by rfl)) de_int)) (by rfl)))
      (dss_cons (Γ1 := [.z, .z, .z, .z, .z, .s, .s]) (ds_set (i := 6) (Γ1 := [.z, .z, .z, .z, .z, .s, .u]) (w := .s) sc__law_judged.nd (by rfl) (by first | exact .inl rfl | exact .inr rfl) (de_callP fo__law_is_list_of (hr.mono (by decide)) takesX (by rfl) (He.glo_ok X G (c.1.fact 24 (f := .glo "_law_is_list_of") (by rfl))) fk__law_is_list_of fb__law_is_list_of (da_cons (de_ix ix_seq (d2_ix (by rfl) (by rfl)) (de_var (i := 0) (w := .z) (by rfl) (by first | exact .inl rfl | exact .inr (.inl rfl) | exact .inr (.inr rfl)) (by rfl) (by rfl)) de_int) (da_cons (de_w (w' := .z) (de_bi call_len (db_len (by rfl)) (by rfl) (He.free_ok X G (c.1.fact 0 (f := .free "len") (by rfl))) boot_len (da_cons (de_var (i := 4) (w := .z) (by rfl) (by first | exact .inl rfl | exact .inr (.inl rfl) | exact .inr (.inr rfl)) (by rfl) (by rfl)) da_nil)) (by rfl)) da_nil)) (by rfl)))
      (dss_one (ds_ret (de_and (de_var (i := 6) (w := .s) (by rfl) (by first | exact .inl rfl | exact .inr (.inl rfl) | exact .inr (.inr rfl)) (by rfl) (by rfl)) (by rfl) (de_one (de_callP fo__law_holds_more (hr.mono (by decide)) takesX (by rfl) (He.glo_ok X G (c.1.fact 25 (f := .glo "_law_holds_more") (by rfl))) fk__law_holds_more fb__law_holds_more (da_cons (de_var (i := 2) (w := .z) (by rfl) (by first | exact .inl rfl | exact .inr (.inl rfl) | exact .inr (.inr rfl)) (by rfl) (by rfl)) (da_cons (de_ix ix_seq (d2_ix (by rfl) (by rfl)) (de_var (i := 0) (w := .z) (by rfl) (by first | exact .inl rfl | exact .inr (.inl rfl) | exact .inr (.inr rfl)) (by rfl) (by rfl)) de_int) (da_cons (de_var (i := 4) (w := .z) (by rfl) (by first | exact .inl rfl | exact .inr (.inl rfl) | exact .inr (.inr rfl)) (by rfl) (by rfl)) (da_cons (de_var (i := 3) (w := .z) (by rfl) (by first | exact .inl rfl | exact .inr (.inl rfl) | exact .inr (.inr rfl)) (by rfl) (by rfl)) da_nil)))) (by rfl))) (by rfl)) (by rfl) (by rfl))))
      dss_nil)
      (dss_one (ds_ret de_bl (by rfl) (by rfl)))))))
abbrev st_Table_stocks : Stmt := inClass (top 29) 10
noncomputable def S_Table_stocks : GS := (sRet (gBi fLen (gaCons (gFld 5 0 (gVar 0)) gaNil)))
noncomputable def F_Table_stocks : GF := runF 1 [] S_Table_stocks
theorem sc_Table_stocks : FnScope ["self"] ["self"] (defScope st_Table_stocks) := ⟨rfl, rfl, rfl, by decide +kernel, rfl, by decide +kernel, by decide +kernel⟩
theorem ok_Table_stocks (X : K.In h) (G : h.Ns mainGlobals mg) (c : Says K) : ∃ fd, FnD P w K mg base (clK K) 1 (He.fAd K ("Table", some "stocks")) fd ["self"] ⟨[.z], .s, [], []⟩ F_Table_stocks ∧ Binds K fd ["self"] [] ∧ PySem.W.keepIn K (.ref (He.fAd K ("Table", some "stocks"))) = true := by
  obtain ⟨fd, FF⟩ := c.1.def_ 18 (d := dd_Table_stocks) rfl
  refine ⟨fd, fnD_of (k := 0) (N := ["self"]) (g := S_Table_stocks) (sg := ⟨[.z], .s, [], []⟩) (Γ' := [.u]) FF sc_Table_stocks rfl ⟨by decide, by decide, rfl, by decide⟩ (fun cdv A outer s H E hr => ?_), FF.bindsN fun _ _ _ _ _ _ us hl => match us, hl with | [_], _ => rfl, FF.kp⟩
  exact (dss_one (ds_ret (de_bi call_len (db_len (by rfl)) (by rfl) (He.free_ok X G (c.1.fact 0 (f := .free "len") (by rfl))) boot_len (da_cons (de_fld (c := 5) (k := 0) (de_var (i := 0) (w := .z) (by rfl) (by first | exact .inl rfl | exact .inr (.inl rfl) | exact .inr (.inr rfl)) (by rfl) (by rfl)) (cd_Table X G c) (He.noat_ok (c.1.fact 17 (f := .noat "Table" "grid") (by rfl))) (by rfl)) da_nil)) (by rfl) (by rfl)))
abbrev st_Table_wishes : Stmt := inClass (top 29) 11
noncomputable def S_Table_wishes : GS := (sRet (gBi fLen (gaCons (gOp fIx (gFld 5 0 (gVar 0)) (gC (.int 0))) gaNil)))
noncomputable def F_Table_wishes : GF := runF 1 [] S_Table_wishes
theorem sc_Table_wishes : FnScope ["self"] ["self"] (defScope st_Table_wishes) := ⟨rfl, rfl, rfl, by decide +kernel, rfl, by decide +kernel, by decide +kernel⟩
theorem ok_Table_wishes (X : K.In h) (G : h.Ns mainGlobals mg) (c : Says K) : ∃ fd, FnD P w K mg base (clK K) 1 (He.fAd K ("Table", some "wishes")) fd ["self"] ⟨[.z], .s, [], []⟩ F_Table_wishes ∧ Binds K fd ["self"] [] ∧ PySem.W.keepIn K (.ref (He.fAd K ("Table", some "wishes"))) = true := by
  obtain ⟨fd, FF⟩ := c.1.def_ 19 (d := dd_Table_wishes) rfl
  refine ⟨fd, fnD_of (k := 0) (N := ["self"]) (g := S_Table_wishes) (sg := ⟨[.z], .s, [], []⟩) (Γ' := [.u]) FF sc_Table_wishes rfl ⟨by decide, by decide, rfl, by decide⟩ (fun cdv A outer s H E hr => ?_), FF.bindsN fun _ _ _ _ _ _ us hl => match us, hl with | [_], _ => rfl, FF.kp⟩
  exact (dss_one (ds_ret (de_bi call_len (db_len (by rfl)) (by rfl) (He.free_ok X G (c.1.fact 0 (f := .free "len") (by rfl))) boot_len (da_cons (de_ix ix_seq (d2_ix (by rfl) (by rfl)) (de_fld (c := 5) (k := 0) (de_var (i := 0) (w := .z) (by rfl) (by first | exact .inl rfl | exact .inr (.inl rfl) | exact .inr (.inr rfl)) (by rfl) (by rfl)) (cd_Table X G c) (He.noat_ok (c.1.fact 17 (f := .noat "Table" "grid") (by rfl))) (by rfl)) de_int) da_nil)) (by rfl) (by rfl)))
abbrev st_Amounts_fits_size : Stmt := inClass (top 15) 10
noncomputable def S_Amounts_fits_size : GS := (sRet (gAnd (gOp fEq (gCall F_Table_stocks [] (gaCons (gRecv 5 (gVar 1)) gaNil)) (gBi fLen (gaCons (gFld 0 0 (gVar 0)) gaNil))) (gOp fEq (gCall F_Table_wishes [] (gaCons (gRecv 5 (gVar 1)) gaNil)) (gBi fLen (gaCons (gFld 0 1 (gVar 0)) gaNil)))))
noncomputable def F_Amounts_fits_size : GF := runF 2 [] S_Amounts_fits_size
theorem sc_Amounts_fits_size : FnScope ["self", "table"] ["self", "table"] (defScope st_Amounts_fits_size) := ⟨rfl, rfl, rfl, by decide +kernel, rfl, by decide +kernel, by decide +kernel⟩
theorem ok_Amounts_fits_size (X : K.In h) (G : h.Ns mainGlobals mg) (c : Says K) : ∃ fd, FnD P w K mg base (clK K) 2 (He.fAd K ("Amounts", some "fits_size")) fd ["self", "table"] ⟨[.z, .z], .s, [], []⟩ F_Amounts_fits_size ∧ Binds K fd ["self", "table"] [] ∧ PySem.W.keepIn K (.ref (He.fAd K ("Amounts", some "fits_size"))) = true := by
  obtain ⟨fd_Table_stocks, fo_Table_stocks, fb_Table_stocks, fk_Table_stocks⟩ := ok_Table_stocks (P := P) (w := w) (base := base) X G c
  obtain ⟨fd_Table_wishes, fo_Table_wishes, fb_Table_wishes, fk_Table_wishes⟩ := ok_Table_wishes (P := P) (w := w) (base := base) X G c
  obtain ⟨fd, FF⟩ := c.1.def_ 20 (d := dd_Amounts_fits_size) rfl
  refine ⟨fd, fnD_of (k := 1) (N := ["self", "table"]) (g := S_Amounts_fits_size) (sg := ⟨[.z, .z], .s, [], []⟩) (Γ' := [.u, .u]) FF sc_Amounts_fits_size rfl ⟨by decide, by decide, rfl, by decide⟩ (fun cdv A outer s H E hr => ?_), FF.bindsN fun _ _ _ _ _ _ us hl => match us, hl with | [_, _], _ => rfl, FF.kp⟩
  exact (dss_one (ds_ret (de_and (de_cmp (op_eqD (Room.units hr)) (d2_eq (by rfl) (by rfl)) (de_methP0 (ci := 5) (m := "stocks") (de_var (i := 1) (w := .z) (by rfl) (by first | exact .inl rfl | exact .inr (.inl rfl) | exact .inr (.inr rfl)) (by rfl) (by rfl)) (by rfl) (cd_Table X G c) (He.meth_ok (c.1.fact 26 (f := .meth "Table" "stocks") (by rfl))) (by rfl) fo_Table_stocks (hr.mono (by decide)) takesX fb_Table_stocks (by rfl)) (de_bi call_len (db_len (by rfl)) (by rfl) (He.free_ok X G (c.1.fact 0 (f := .free "len") (by rfl))) boot_len (da_cons (de_fld (c := 0) (k := 0) (de_var (i := 0) (w := .z) (by rfl) (by first | exact .inl rfl | exact .inr (.inl rfl) | exact .inr (.inr rfl)) (by rfl) (by rfl)) (cd_Amounts X G c) (He.noat_ok (c.1.fact 20 (f := .noat "Amounts" "stock_list") (by rfl))) (by rfl)) da_nil))) (by rfl) (de_one (de_cmp (op_eqD (Room.units hr)) (d2_eq (by rfl) (by rfl)) (de_methP0 (ci := 5) (m := "wishes") (de_var (i := 1) (w := .z) (by rfl) (by first | exact .inl rfl | exact .inr (.inl rfl) | exact .inr (.inr rfl)) (by rfl) (by rfl)) (by rfl) (cd_Table X G c) (He.meth_ok (c.1.fact 27 (f := .meth "Table" "wishes") (by rfl))) (by rfl) fo_Table_wishes (hr.mono (by decide)) takesX fb_Table_wishes (by rfl)) (de_bi call_len (db_len (by rfl)) (by rfl) (He.free_ok X G (c.1.fact 0 (f := .free "len") (by rfl))) boot_len (da_cons (de_fld (c := 0) (k := 1) (de_var (i := 0) (w := .z) (by rfl) (by first | exact .inl rfl | exact .inr (.inl rfl) | exact .inr (.inr rfl)) (by rfl) (by rfl)) (cd_Amounts X G c) (He.noat_ok (c.1.fact 21 (f := .noat "Amounts" "wish_list") (by rfl))) (by rfl)) da_nil)))) (by rfl)) (by rfl) (by rfl)))
abbrev st_check_size : Stmt := top 16
noncomputable def S_check_size : GS := (sIf (tNot (tTru (gCall F_Amounts_fits_size [] (gaCons (gRecv 0 (gVar 1)) (gaCons (gVar 0) gaNil))))) sNo sNil)
noncomputable def F_check_size : GF := runP 2 [] S_check_size
theorem sc_check_size : FnScope ["table", "amounts"] ["table", "amounts"] (defScope st_check_size) := ⟨rfl, rfl, rfl, by decide +kernel, rfl, by decide +kernel, by decide +kernel⟩
theorem ok_check_size (X : K.In h) (G : h.Ns mainGlobals mg) (c : Says K) : ∃ fd, FnD P w K mg base (clK K) 3 (He.fAd K ("check_size", none)) fd ["table", "amounts"] ⟨[.z, .z], .s, [], []⟩ F_check_size ∧ Binds K fd ["table", "amounts"] [] ∧ PySem.W.keepIn K (.ref (He.fAd K ("check_size", none))) = true := by
  obtain ⟨fd_Amounts_fits_size, fo_Amounts_fits_size, fb_Amounts_fits_size, fk_Amounts_fits_size⟩ := ok_Amounts_fits_size (P := P) (w := w) (base := base) X G c
  obtain ⟨fd, FF⟩ := c.1.def_ 21 (d := dd_check_size) rfl
  refine ⟨fd, fnD_ofP (k := 2) (N := ["table", "amounts"]) (g := S_check_size) (sg := ⟨[.z, .z], .s, [], []⟩) (Γ' := [.z, .z]) FF sc_check_size rfl ⟨by decide, by decide, rfl, by decide⟩ rfl (fun cdv A outer s H E hr => ?_) rfl, FF.bindsN fun _ _ _ _ _ _ us hl => match us, hl with | [_, _], _ => rfl, FF.kp⟩
  exact (dss_one (ds_if (Γ2 := [.z, .z]) (dt_not (dt_tru (de_methP (ci := 0) (m := "fits_size") (de_var (i := 1) (w := .z) (by rfl) (by first | exact .inl rfl | exact .inr (.inl rfl) | exact .inr (.inr rfl)) (by rfl) (by rfl)) (by rfl) (cd_Amounts X G c) (He.meth_ok (c.1.fact 28 (f := .meth "Amounts" "fits_size") (by rfl))) (by rfl) fo_Amounts_fits_size (hr.mono (by decide)) takesX fb_Amounts_fits_size (da_cons (de_var (i := 0) (w := .z) (by rfl) (by first | exact .inl rfl | exact .inr (.inl rfl) | exact .inr (.inr rfl)) (by rfl) (by rfl)) da_nil) (by rfl))))
      (dss_one ds_no)
      dss_nil))
abbrev st_Table_rows : Stmt := inClass (top 29) 12
noncomputable def S_Table_rows : GS := (sRet (gLc (iLst (gFld 5 0 (gVar 0))) (pName 1) tYesD (gBi fList (gaCons (gVar 1) gaNil))))
noncomputable def F_Table_rows : GF := runF 2 [] S_Table_rows
theorem sc_Table_rows : FnScope ["self", "row"] ["self"] (defScope st_Table_rows) := ⟨rfl, rfl, rfl, by decide +kernel, rfl, by decide +kernel, by decide +kernel⟩
theorem ok_Table_rows (X : K.In h) (G : h.Ns mainGlobals mg) (c : Says K) : ∃ fd, FnD P w K mg base (clK K) 1 (He.fAd K ("Table", some "rows")) fd ["self"] ⟨[.z], .z, [], []⟩ F_Table_rows ∧ Binds K fd ["self"] [] ∧ PySem.W.keepIn K (.ref (He.fAd K ("Table", some "rows"))) = true := by
  obtain ⟨fd, FF⟩ := c.1.def_ 22 (d := dd_Table_rows) rfl
  refine ⟨fd, fnD_of (k := 0) (N := ["self", "row"]) (g := S_Table_rows) (sg := ⟨[.z], .z, [], []⟩) (Γ' := [.u, .u]) FF sc_Table_rows rfl ⟨by decide, by decide, rfl, by decide⟩ (fun cdv A outer s H E hr => ?_), FF.bindsN fun _ _ _ _ _ _ us hl => match us, hl with | [_], _ => rfl, FF.kp⟩
  exact (dss_one (ds_ret (de_lc (own := [("row", 1)]) (io := [0]) (ΓL := [.z, .u]) (Γ2 := [.z, .z]) (Γ3 := [.z, .z]) (Γ4 := [.z, .z]) (we := .z) (wx := .z) (by rfl) sc_Table_rows.nd (blk_ok (by rfl) (by first | rfl | kernel_rfl)) (di_list (de_fld (c := 5) (k := 0) (de_var (i := 0) (w := .z) (by rfl) (by first | exact .inl rfl | exact .inr (.inl rfl) | exact .inr (.inr rfl)) (by rfl) (by rfl)) (cd_Table X G c) (He.noat_ok (c.1.fact 17 (f := .noat "Table" "grid") (by rfl))) (by rfl))) (by rfl) (by rfl) (by rfl) (fun s H cA cl fp => (dg_name (i := 1) sc_Table_rows.nd (by rfl) (by first | exact .inl rfl | exact .inr rfl))) (fun s H cA cl fp => dts_nil) (fun s H cA cl fp => (de_w (w' := .z) (de_ty call_list_of (db_list (by rfl)) (by rfl) (He.free_ok X G (c.1.fact 9 (f := .free "list") (by rfl))) boot_list (da_cons (de_var (i := 1) (w := .z) (by rfl) (by first | exact .inl rfl | exact .inr (.inl rfl) | exact .inr (.inr rfl)) (by rfl) (by rfl)) da_nil)) (by rfl))) (by rfl) (by rfl) (pk_name (by decide))) (by rfl) (by rfl)))
abbrev st_Amounts_over : Stmt := inClass (top 15) 9
noncomputable def S_Amounts_over : GS := (sRet (gOp fSub (gBi fSum (gaCons (gFld 0 0 (gVar 0)) gaNil)) (gBi fSum (gaCons (gFld 0 1 (gVar 0)) gaNil))))
noncomputable def F_Amounts_over : GF := runF 1 [] S_Amounts_over
theorem sc_Amounts_over : FnScope ["self"] ["self"] (defScope st_Amounts_over) := ⟨rfl, rfl, rfl, by decide +kernel, rfl, by decide +kernel, by decide +kernel⟩
theorem ok_Amounts_over (X : K.In h) (G : h.Ns mainGlobals mg) (c : Says K) : ∃ fd, FnD P w K mg base (clK K) 1 (He.fAd K ("Amounts", some "over")) fd ["self"] ⟨[.z], .s, [], []⟩ F_Amounts_over ∧ Binds K fd ["self"] [] ∧ PySem.W.keepIn K (.ref (He.fAd K ("Amounts", some "over"))) = true := by
  obtain ⟨fd, FF⟩ := c.1.def_ 23 (d := dd_Amounts_over) rfl
  refine ⟨fd, fnD_of (k := 0) (N := ["self"]) (g := S_Amounts_over) (sg := ⟨[.z], .s, [], []⟩) (Γ' := [.u]) FF sc_Amounts_over rfl ⟨by decide, by decide, rfl, by decide⟩ (fun cdv A outer s H E hr => ?_), FF.bindsN fun _ _ _ _ _ _ us hl => match us, hl with | [_], _ => rfl, FF.kp⟩
  exact (dss_one (ds_ret (de_op op_sub (d2_sub (by rfl) (by rfl)) (de_bi (cr_sum (by rfl)) (db_sum (by rfl)) (by rfl) (He.free_ok X G (c.1.fact 8 (f := .free "sum") (by rfl))) boot_sum (da_cons (de_fld (c := 0) (k := 0) (de_var (i := 0) (w := .z) (by rfl) (by first | exact .inl rfl | exact .inr (.inl rfl) | exact .inr (.inr rfl)) (by rfl) (by rfl)) (cd_Amounts X G c) (He.noat_ok (c.1.fact 20 (f := .noat "Amounts" "stock_list") (by rfl))) (by rfl)) da_nil)) (de_bi (cr_sum (by rfl)) (db_sum (by rfl)) (by rfl) (He.free_ok X G (c.1.fact 8 (f := .free "sum") (by rfl))) boot_sum (da_cons (de_fld (c := 0) (k := 1) (de_var (i := 0) (w := .z) (by rfl) (by first | exact .inl rfl | exact .inr (.inl rfl) | exact .inr (.inr rfl)) (by rfl) (by rfl)) (cd_Amounts X G c) (He.noat_ok (c.1.fact 21 (f := .noat "Amounts" "wish_list") (by rfl))) (by rfl)) da_nil))) (by rfl) (by rfl)))
abbrev st_is_between : Stmt := top 10
noncomputable def S_is_between : GS := (sRet (gAnd (gCall F_is_integer [] (gaCons (gVar 0) gaNil)) (gCh fLe fLe (gVar 1) (gVar 0) (gVar 2))))
noncomputable def F_is_between : GF := runF 3 [] S_is_between
theorem sc_is_between : FnScope ["value", "low", "high"] ["value", "low", "high"] (defScope st_is_between) := ⟨rfl, rfl, rfl, by decide +kernel, rfl, by decide +kernel, by decide +kernel⟩
theorem ok_is_between (X : K.In h) (G : h.Ns mainGlobals mg) (c : Says K) : ∃ fd, FnD P w K mg base (clK K) 2 (He.fAd K ("is_between", none)) fd ["value", "low", "high"] ⟨[.z, .z, .z], .s, [], []⟩ F_is_between ∧ Binds K fd ["value", "low", "high"] [] ∧ PySem.W.keepIn K (.ref (He.fAd K ("is_between", none))) = true := by
  obtain ⟨fd_is_integer, fo_is_integer, fb_is_integer, fk_is_integer⟩ := ok_is_integer (P := P) (w := w) (base := base) X G c
  obtain ⟨fd, FF⟩ := c.1.def_ 24 (d := dd_is_between) rfl
  refine ⟨fd, fnD_of (k := 1) (N := ["value", "low", "high"]) (g := S_is_between) (sg := ⟨[.z, .z, .z], .s, [], []⟩) (Γ' := [.u, .u, .u]) FF sc_is_between rfl ⟨by decide, by decide, rfl, by decide⟩ (fun cdv A outer s H E hr => ?_), FF.bindsN fun _ _ _ _ _ _ us hl => match us, hl with | [_, _, _], _ => rfl, FF.kp⟩
  exact (dss_one (ds_ret (de_and (de_callP fo_is_integer (hr.mono (by decide)) takesX (by rfl) (He.glo_ok X G (c.1.fact 13 (f := .glo "is_integer") (by rfl))) fk_is_integer fb_is_integer (da_cons (de_var (i := 0) (w := .z) (by rfl) (by first | exact .inl rfl | exact .inr (.inl rfl) | exact .inr (.inr rfl)) (by rfl) (by rfl)) da_nil) (by rfl)) (by rfl) (de_one (de_chain op_le op_le (d2_le (by rfl) (by rfl)) (d2_le (by rfl) (by rfl)) (de_var (i := 1) (w := .z) (by rfl) (by first | exact .inl rfl | exact .inr (.inl rfl) | exact .inr (.inr rfl)) (by rfl) (by rfl)) (de_var (i := 0) (w := .z) (by rfl) (by first | exact .inl rfl | exact .inr (.inl rfl) | exact .inr (.inr rfl)) (by rfl) (by rfl)) (de_var (i := 2) (w := .z) (by rfl) (by first | exact .inl rfl | exact .inr (.inl rfl) | exact .inr (.inr rfl)) (by rfl) (by rfl)) (by rfl))) (by rfl)) (by rfl) (by rfl)))
abbrev st_is_line_list : Stmt := top 19
noncomputable def B_is_line_list_0 : GS := (sSeq (sIf (tNot (tTru (gCall F_is_between [] (gaCons (gVar 3) (gaCons (gOp fAdd (gVar 2) (gC (.int 1))) (gaCons (gOp fSub (gVar 1) (gC (.int 1))) gaNil)))))) (sRet (gC (.bl false))) sNil) (sAsg (gVar 3) (pName 2)))
noncomputable def S_is_line_list : GS := (sSeq (sIf (tOr (tNot (tTru (gIsi (isB knL "list") (gVar 0)))) (tVal (gOp fEq (gBi fLen (gaCons (gVar 0) gaNil)) (gC (.int 0))))) (sRet (gC (.bl false))) sNil) (sSeq (sAsg (gUn fNeg (gC (.int 1))) (pName 2)) (sSeq (sFor (iLst (gVar 0)) (pName 3) B_is_line_list_0) (sRet (gC (.bl true))))))
noncomputable def F_is_line_list : GF := runF 4 [] S_is_line_list
theorem sc_is_line_list : FnScope ["value", "size", "before", "line"] ["value", "size"] (defScope st_is_line_list) := ⟨rfl, rfl, rfl, by decide +kernel, rfl, by decide +kernel, by decide +kernel⟩
theorem ok_is_line_list (X : K.In h) (G : h.Ns mainGlobals mg) (c : Says K) : ∃ fd, FnD P w K mg base (clK K) 3 (He.fAd K ("is_line_list", none)) fd ["value", "size"] ⟨[.z, .z], .s, [], []⟩ F_is_line_list ∧ Binds K fd ["value", "size"] [] ∧ PySem.W.keepIn K (.ref (He.fAd K ("is_line_list", none))) = true := by
  obtain ⟨fd_is_between, fo_is_between, fb_is_between, fk_is_between⟩ := ok_is_between (P := P) (w := w) (base := base) X G c
  obtain ⟨fd, FF⟩ := c.1.def_ 25 (d := dd_is_line_list) rfl
  refine ⟨fd, fnD_of (k := 2) (N := ["value", "size", "before", "line"]) (g := S_is_line_list) (sg := ⟨[.z, .z], .s, [], []⟩) (Γ' := [.u, .u, .u, .u]) FF sc_is_line_list rfl ⟨by decide, by decide, rfl, by decide⟩ (fun cdv A outer s H E hr => ?_), FF.bindsN fun _ _ _ _ _ _ us hl => match us, hl with | [_, _], _ => rfl, FF.kp⟩
  exact (dss_cons (Γ1 := [.z, .z, .u, .u]) (ds_if (Γ2 := [.z, .z, .u, .u]) (de_weakT (dt_or (dt_not (dt_tru (de_isi (by rfl) (He.free_ok X G (c.1.fact 10 (f := .free "isinstance") (by rfl))) boot_isinstance (ansB_list X G c) (.ty "list") (de_var (i := 0) (w := .z) (by rfl) (by first | exact .inl rfl | exact .inr (.inl rfl) | exact .inr (.inr rfl)) (by rfl) (by rfl)) (by rfl) (pe_bltn (by rfl) (He.free_ok X G (c.1.fact 9 (f := .free "list") (by rfl))) boot_list (by rfl))))) (dt_or1 (dt_cmp (op_eqD (Room.units hr)) (d2_eq (by rfl) (by rfl)) (de_bi call_len (db_len (by rfl)) (by rfl) (He.free_ok X G (c.1.fact 0 (f := .free "len") (by rfl))) boot_len (da_cons (de_var (i := 0) (w := .z) (by rfl) (by first | exact .inl rfl | exact .inr (.inl rfl) | exact .inr (.inr rfl)) (by rfl) (by rfl)) da_nil)) de_int)) (by rfl)))
      (dss_one (ds_ret de_bl (by rfl) (by rfl)))
      dss_nil)
      (dss_cons (Γ1 := [.z, .z, .s, .u]) (ds_set (i := 2) (Γ1 := [.z, .z, .u, .u]) (w := .s) sc_is_line_list.nd (by rfl) (by first | exact .inl rfl | exact .inr rfl) (de_neg de_int (by rfl)))
      (dss_cons (Γ1 := [.z, .z, .z, .u]) (ds_for (Γ1 := [.z, .z, .s, .u]) (Γi := [.z, .z, .z, .u]) (w := .z) (Γ2 := [.z, .z, .z, .z]) passX (by rfl) (di_list (de_var (i := 0) (w := .z) (by rfl) (by first | exact .inl rfl | exact .inr (.inl rfl) | exact .inr (.inr rfl)) (by rfl) (by rfl))) (by rfl) (dg_name (i := 3) sc_is_line_list.nd (by rfl) (by first | exact .inl rfl | exact .inr rfl))
      (dss_cons (Γ1 := [.z, .z, .z, .z]) (ds_if (Γ2 := [.z, .z, .z, .z]) (dt_not (dt_tru (de_callP fo_is_between (hr.mono (by decide)) takesX (by rfl) (He.glo_ok X G (c.1.fact 29 (f := .glo "is_between") (by rfl))) fk_is_between fb_is_between (da_cons (de_var (i := 3) (w := .z) (by rfl) (by first | exact .inl rfl | exact .inr (.inl rfl) | exact .inr (.inr rfl)) (by rfl) (by rfl)) (da_cons (de_w (w' := .z) (de_op op_add (d2_add (by rfl) (by rfl)) (de_var (i := 2) (w := .z) (by rfl) (by first | exact .inl rfl | exact .inr (.inl rfl) | exact .inr (.inr rfl)) (by rfl) (by rfl)) de_int) (by rfl)) (da_cons (de_w (w' := .z) (de_op op_sub (d2_sub (by rfl) (by rfl)) (de_var (i := 1) (w := .z) (by rfl) (by first | exact .inl rfl | exact .inr (.inl rfl) | exact .inr (.inr rfl)) (by rfl) (by rfl)) de_int) (by rfl)) da_nil))) (by rfl))))
      (dss_one (ds_ret de_bl (by rfl) (by rfl)))
      dss_nil)
      (dss_one (ds_weak (Γ1 := [.z, .z, .z, .z]) (ds_set (i := 2) (Γ1 := [.z, .z, .z, .z]) (w := .z) sc_is_line_list.nd (by rfl) (by first | exact .inl rfl | exact .inr rfl) (de_var (i := 3) (w := .z) (by rfl) (by first | exact .inl rfl | exact .inr (.inl rfl) | exact .inr (.inr rfl)) (by rfl) (by rfl))) (by rfl)))))
      (dss_one (ds_ret de_bl (by rfl) (by rfl))))))
abbrev st_Amounts_stocks : Stmt := inClass (top 15) 7
noncomputable def S_Amounts_stocks : GS := (sRet (gBi fList (gaCons (gFld 0 0 (gVar 0)) gaNil)))
noncomputable def F_Amounts_stocks : GF := runF 1 [] S_Amounts_stocks
theorem sc_Amounts_stocks : FnScope ["self"] ["self"] (defScope st_Amounts_stocks) := ⟨rfl, rfl, rfl, by decide +kernel, rfl, by decide +kernel, by decide +kernel⟩
theorem ok_Amounts_stocks (X : K.In h) (G : h.Ns mainGlobals mg) (c : Says K) : ∃ fd, FnD P w K mg base (clK K) 1 (He.fAd K ("Amounts", some "stocks")) fd ["self"] ⟨[.z], .z, [], []⟩ F_Amounts_stocks ∧ Binds K fd ["self"] [] ∧ PySem.W.keepIn K (.ref (He.fAd K ("Amounts", some "stocks"))) = true := by
  obtain ⟨fd, FF⟩ := c.1.def_ 26 (d := dd_Amounts_stocks) rfl
  refine ⟨fd, fnD_of (k := 0) (N := ["self"]) (g := S_Amounts_stocks) (sg := ⟨[.z], .z, [], []⟩) (Γ' := [.u]) FF sc_Amounts_stocks rfl ⟨by decide, by decide, rfl, by decide⟩ (fun cdv A outer s H E hr => ?_), FF.bindsN fun _ _ _ _ _ _ us hl => match us, hl with | [_], _ => rfl, FF.kp⟩
  exact (dss_one (ds_ret (de_ty call_list_of (db_list (by rfl)) (by rfl) (He.free_ok X G (c.1.fact 9 (f := .free "list") (by rfl))) boot_list (da_cons (de_fld (c := 0) (k := 0) (de_var (i := 0) (w := .z) (by rfl) (by first | exact .inl rfl | exact .inr (.inl rfl) | exact .inr (.inr rfl)) (by rfl) (by rfl)) (cd_Amounts X G c) (He.noat_ok (c.1.fact 20 (f := .noat "Amounts" "stock_list") (by rfl))) (by rfl)) da_nil)) (by rfl) (by rfl)))
abbrev st_Amounts_wishes : Stmt := inClass (top 15) 8
noncomputable def S_Amounts_wishes : GS := (sRet (gBi fList (gaCons (gFld 0 1 (gVar 0)) gaNil)))
noncomputable def F_Amounts_wishes : GF := runF 1 [] S_Amounts_wishes
theorem sc_Amounts_wishes : FnScope ["self"] ["self"] (defScope st_Amounts_wishes) := ⟨rfl, rfl, rfl, by decide +kernel, rfl, by decide +kernel, by decide +kernel⟩
theorem ok_Amounts_wishes (X : K.In h) (G : h.Ns mainGlobals mg) (c : Says K) : ∃ fd, FnD P w K mg base (clK K) 1 (He.fAd K ("Amounts", some "wishes")) fd ["self"] ⟨[.z], .z, [], []⟩ F_Amounts_wishes ∧ Binds K fd ["self"] [] ∧ PySem.W.keepIn K (.ref (He.fAd K ("Amounts", some "wishes"))) = true := by
  obtain ⟨fd, FF⟩ := c.1.def_ 27 (d := dd_Amounts_wishes) rfl
  refine ⟨fd, fnD_of (k := 0) (N := ["self"]) (g := S_Amounts_wishes) (sg := ⟨[.z], .z, [], []⟩) (Γ' := [.u]) FF sc_Amounts_wishes rfl ⟨by decide, by decide, rfl, by decide⟩ (fun cdv A outer s H E hr => ?_), FF.bindsN fun _ _ _ _ _ _ us hl => match us, hl with | [_], _ => rfl, FF.kp⟩
  exact (dss_one (ds_ret (de_ty call_list_of (db_list (by rfl)) (by rfl) (He.free_ok X G (c.1.fact 9 (f := .free "list") (by rfl))) boot_list (da_cons (de_fld (c := 0) (k := 1) (de_var (i := 0) (w := .z) (by rfl) (by first | exact .inl rfl | exact .inr (.inl rfl) | exact .inr (.inr rfl)) (by rfl) (by rfl)) (cd_Amounts X G c) (He.noat_ok (c.1.fact 21 (f := .noat "Amounts" "wish_list") (by rfl))) (by rfl)) da_nil)) (by rfl) (by rfl)))
abbrev st_holds_more : Stmt := top 20
noncomputable def B_holds_more_0 : GS := (sIf (tVal (gOp fNotN (gOp fIx (gOp fIx (gVar 0) (gVar 8)) (gVar 6)) (gC .non))) (sSeq (sAug 5 (fun i j => i + j) (gVar 7)) sBrk) sNil)
noncomputable def B_holds_more_1 : GS := (sFor (iLst (gVar 1)) (pName 8) B_holds_more_0)
noncomputable def S_holds_more : GS := (sSeq (sAsg (gBi fSum (gaCons (gLc (iLst (gVar 1)) (pName 8) tYesD (gOp fIx (gVar 2) (gVar 8))) gaNil)) (pName 4)) (sSeq (sAsg (gC (.int 0)) (pName 5)) (sSeq (sFor (iEn (gaCons (gVar 3) gaNil)) (pTup (psCons (pName 6) (psCons (pName 7) psNil))) B_holds_more_1) (sRet (gOp fGt (gVar 4) (gVar 5))))))
noncomputable def F_holds_more : GF := runF 9 [] S_holds_more
theorem sc_holds_more : FnScope ["grid", "lines", "own", "others", "held", "taken", "column", "amount", "line"] ["grid", "lines", "own", "others"] (defScope st_holds_more) := ⟨rfl, rfl, rfl, by decide +kernel, rfl, by decide +kernel, by decide +kernel⟩
theorem ok_holds_more (X : K.In h) (G : h.Ns mainGlobals mg) (c : Says K) : ∃ fd, FnD P w K mg base (clK K) 1 (He.fAd K ("holds_more", none)) fd ["grid", "lines", "own", "others"] ⟨[.z, .z, .z, .z], .s, [], []⟩ F_holds_more ∧ Binds K fd ["grid", "lines", "own", "others"] [] ∧ PySem.W.keepIn K (.ref (He.fAd K ("holds_more", none))) = true := by
  obtain ⟨fd, FF⟩ := c.1.def_ 28 (d := dd_holds_more) rfl
  refine ⟨fd, fnD_of (k := 0) (N := ["grid", "lines", "own", "others", "held", "taken", "column", "amount", "line"]) (g := S_holds_more) (sg := ⟨[.z, .z, .z, .z], .s, [], []⟩) (Γ' := [.u, .u, .u, .u, .u, .u, .u, .u, .u]) FF sc_holds_more rfl ⟨by decide, by decide, rfl, by decide⟩ (fun cdv A outer s H E hr => ?_), FF.bindsN fun _ _ _ _ _ _ us hl => match us, hl with | [_, _, _, _], _ => rfl, FF.kp⟩
  exact (dss_cons (Γ1 := [.z, .z, .z, .z, .s, .u, .u, .u, .u]) (ds_set (i := 4) (Γ1 := [.z, .z, .z, .z, .u, .u, .u, .u, .u]) (w := .s) sc_holds_more.nd (by rfl) (by first | exact .inl rfl | exact .inr rfl) (de_bi (cr_sum (by rfl)) (db_sum (by rfl)) (by rfl) (He.free_ok X G (c.1.fact 8 (f := .free "sum") (by rfl))) boot_sum (da_cons (de_w (w' := .z) (de_lc (own := [("line", 8)]) (io := [0, 1, 2, 3, 4, 5, 6, 7]) (ΓL := [.z, .z, .z, .z, .u, .u, .u, .u, .u]) (Γ2 := [.z, .z, .z, .z, .u, .u, .u, .u, .z]) (Γ3 := [.z, .z, .z, .z, .u, .u, .u, .u, .z]) (Γ4 := [.z, .z, .z, .z, .u, .u, .u, .u, .z]) (we := .z) (wx := .z) (by rfl) sc_holds_more.nd (blk_ok (by rfl) (by first | rfl | kernel_rfl)) (di_list (de_var (i := 1) (w := .z) (by rfl) (by first | exact .inl rfl | exact .inr (.inl rfl) | exact .inr (.inr rfl)) (by rfl) (by rfl))) (by rfl) (by rfl) (by rfl) (fun s H cA cl fp => (dg_name (i := 8) sc_holds_more.nd (by rfl) (by first | exact .inl rfl | exact .inr rfl))) (fun s H cA cl fp => dts_nil) (fun s H cA cl fp => (de_ix ix_seq (d2_ix (by rfl) (by rfl)) (de_var (i := 2) (w := .z) (by rfl) (by first | exact .inl rfl | exact .inr (.inl rfl) | exact .inr (.inr rfl)) (by rfl) (by rfl)) (de_var (i := 8) (w := .z) (by rfl) (by first | exact .inl rfl | exact .inr (.inl rfl) | exact .inr (.inr rfl)) (by rfl) (by rfl)))) (by rfl) (by rfl) (pk_name (by decide))) (by rfl)) da_nil)))
      (dss_cons (Γ1 := [.z, .z, .z, .z, .s, .s, .u, .u, .u]) (ds_set (i := 5) (Γ1 := [.z, .z, .z, .z, .s, .u, .u, .u, .u]) (w := .s) sc_holds_more.nd (by rfl) (by first | exact .inl rfl | exact .inr rfl) de_int)
      (dss_cons (Γ1 := [.z, .z, .z, .z, .s, .s, .u, .u, .u]) (ds_for (Γ1 := [.z, .z, .z, .z, .s, .s, .u, .u, .u]) (Γi := [.z, .z, .z, .z, .s, .s, .u, .u, .u]) (w := (.t [.s, .z])) (Γ2 := [.z, .z, .z, .z, .s, .s, .s, .z, .u]) passX (by rfl) (di_enum (by rfl) (He.free_ok X G (c.1.fact 3 (f := .free "enumerate") (by rfl))) (da_cons (de_var (i := 3) (w := .z) (by rfl) (by first | exact .inl rfl | exact .inr (.inl rfl) | exact .inr (.inr rfl)) (by rfl) (by rfl)) da_nil)) (by rfl) (dg_tupT (by rfl) (dgs_cons (dg_name (i := 6) sc_holds_more.nd (by rfl) (by first | exact .inl rfl | exact .inr rfl)) (dgs_cons (dg_name (i := 7) sc_holds_more.nd (by rfl) (by first | exact .inl rfl | exact .inr rfl)) dgs_nil)))
      (dss_one (ds_weak (Γ1 := [.z, .z, .z, .z, .s, .s, .s, .z, .u]) (ds_for (Γ1 := [.z, .z, .z, .z, .s, .s, .s, .z, .u]) (Γi := [.z, .z, .z, .z, .s, .s, .s, .z, .u]) (w := .z) (Γ2 := [.z, .z, .z, .z, .s, .s, .s, .z, .z]) passX (by rfl) (di_list (de_var (i := 1) (w := .z) (by rfl) (by first | exact .inl rfl | exact .inr (.inl rfl) | exact .inr (.inr rfl)) (by rfl) (by rfl))) (by rfl) (dg_name (i := 8) sc_holds_more.nd (by rfl) (by first | exact .inl rfl | exact .inr rfl))
      (dss_one (ds_weak (Γ1 := [.z, .z, .z, .z, .s, .s, .s, .z, .z]) (ds_if (Γ2 := [.z, .z, .z, .z, .s, .s, .s, .z, .z]) (dt_cmp op_notN (d2_notN (by rfl)) (de_ix ix_seq (d2_ix (by rfl) (by rfl)) (de_ix ix_seq (d2_ix (by rfl) (by rfl)) (de_var (i := 0) (w := .z) (by rfl) (by first | exact .inl rfl | exact .inr (.inl rfl) | exact .inr (.inr rfl)) (by rfl) (by rfl)) (de_var (i := 8) (w := .z) (by rfl) (by first | exact .inl rfl | exact .inr (.inl rfl) | exact .inr (.inr rfl)) (by rfl) (by rfl))) (de_var (i := 6) (w := .s) (by rfl) (by first | exact .inl rfl | exact .inr (.inl rfl) | exact .inr (.inr rfl)) (by rfl) (by rfl))) de_non)
      (dss_cons (Γ1 := [.z, .z, .z, .z, .s, .s, .s, .z, .z]) (ds_aug (i := 5) (Γ1 := [.z, .z, .z, .z, .s, .s, .s, .z, .z]) (w := .s) sc_holds_more.nd (by rfl) (by first | exact .inl rfl | exact .inr rfl) ip_add (by rfl) (by rfl) (de_var (i := 7) (w := .z) (by rfl) (by first | exact .inl rfl | exact .inr (.inl rfl) | exact .inr (.inr rfl)) (by rfl) (by rfl)) (by rfl))
      (dss_one (ds_break (by rfl))))
      dss_nil) (by rfl)))) (by rfl))))
      (dss_one (ds_ret (de_cmp op_gt (d2_gt (by rfl) (by rfl)) (de_var (i := 4) (w := .s) (by rfl) (by first | exact .inl rfl | exact .inr (.inl rfl) | exact .inr (.inr rfl)) (by rfl) (by rfl)) (de_var (i := 5) (w := .s) (by rfl) (by first | exact .inl rfl | exact .inr (.inl rfl) | exact .inr (.inr rfl)) (by rfl) (by rfl))) (by rfl) (by rfl))))))
abbrev st_turned_grid : Stmt := top 18
noncomputable def S_turned_grid : GS := (sRet (gLc (iRg (gaCons (gBi fLen (gaCons (gOp fIx (gVar 0) (gC (.int 0))) gaNil)) gaNil)) (pName 1) tYesD (gLc (iLst (gVar 0)) (pName 2) tYesD (gOp fIx (gVar 2) (gVar 1)))))
noncomputable def F_turned_grid : GF := runF 3 [] S_turned_grid
theorem sc_turned_grid : FnScope ["grid", "column", "row"] ["grid"] (defScope st_turned_grid) := ⟨rfl, rfl, rfl, by decide +kernel, rfl, by decide +kernel, by decide +kernel⟩
theorem ok_turned_grid (X : K.In h) (G : h.Ns mainGlobals mg) (c : Says K) : ∃ fd, FnD P w K mg base (clK K) 1 (He.fAd K ("turned_grid", none)) fd ["grid"] ⟨[.z], .z, [], []⟩ F_turned_grid ∧ Binds K fd ["grid"] [] ∧ PySem.W.keepIn K (.ref (He.fAd K ("turned_grid", none))) = true := by
  obtain ⟨fd, FF⟩ := c.1.def_ 29 (d := dd_turned_grid) rfl
  refine ⟨fd, fnD_of (k := 0) (N := ["grid", "column", "row"]) (g := S_turned_grid) (sg := ⟨[.z], .z, [], []⟩) (Γ' := [.u, .u, .u]) FF sc_turned_grid rfl ⟨by decide, by decide, rfl, by decide⟩ (fun cdv A outer s H E hr => ?_), FF.bindsN fun _ _ _ _ _ _ us hl => match us, hl with | [_], _ => rfl, FF.kp⟩
  exact (dss_one (ds_ret (de_lc (own := [("column", 1)]) (io := [0, 2]) (ΓL := [.z, .u, .u]) (Γ2 := [.z, .s, .u]) (Γ3 := [.z, .s, .u]) (Γ4 := [.z, .s, .u]) (we := .z) (wx := .s) (by rfl) sc_turned_grid.nd (blk_ok (by rfl) (by first | rfl | kernel_rfl)) (di_range1 (by rfl) (He.free_ok X G (c.1.fact 6 (f := .free "range") (by rfl))) (da_cons (de_bi call_len (db_len (by rfl)) (by rfl) (He.free_ok X G (c.1.fact 0 (f := .free "len") (by rfl))) boot_len (da_cons (de_ix ix_seq (d2_ix (by rfl) (by rfl)) (de_var (i := 0) (w := .z) (by rfl) (by first | exact .inl rfl | exact .inr (.inl rfl) | exact .inr (.inr rfl)) (by rfl) (by rfl)) de_int) da_nil)) da_nil) (by rfl)) (by rfl) (by rfl) (by rfl) (fun s H cA cl fp => (dg_name (i := 1) sc_turned_grid.nd (by rfl) (by first | exact .inl rfl | exact .inr rfl))) (fun s H cA cl fp => dts_nil) (fun s H cA cl fp => (de_w (w' := .z) (de_lc (own := [("row", 2)]) (io := [0, 1]) (ΓL := [.z, .s, .u]) (Γ2 := [.z, .s, .z]) (Γ3 := [.z, .s, .z]) (Γ4 := [.z, .s, .z]) (we := .z) (wx := .z) (by rfl) sc_turned_grid.nd (blk_ok (by rfl) (by first | rfl | kernel_rfl)) (di_list (de_var (i := 0) (w := .z) (by rfl) (by first | exact .inl rfl | exact .inr (.inl rfl) | exact .inr (.inr rfl)) (by rfl) (by rfl))) (by rfl) (by rfl) (by rfl) (fun s H cA cl fp => (dg_name (i := 2) sc_turned_grid.nd (by rfl) (by first | exact .inl rfl | exact .inr rfl))) (fun s H cA cl fp => dts_nil) (fun s H cA cl fp => (de_ix ix_seq (d2_ix (by rfl) (by rfl)) (de_var (i := 2) (w := .z) (by rfl) (by first | exact .inl rfl | exact .inr (.inl rfl) | exact .inr (.inr rfl)) (by rfl) (by rfl)) (de_var (i := 1) (w := .s) (by rfl) (by first | exact .inl rfl | exact .inr (.inl rfl) | exact .inr (.inr rfl)) (by rfl) (by rfl)))) (by rfl) (by rfl) (pk_name (by decide))) (by rfl))) (by rfl) (by rfl) (pk_name (by decide))) (by rfl) (by rfl)))
abbrev st_is_shortage : Stmt := top 21
noncomputable def S_is_shortage : GS := (sSeq (sExp (gCall F_check_size [] (gaCons (gVar 0) (gaCons (gVar 1) gaNil)))) (sSeq (sIf (tOr (tNot (tTru (gIsi (isB knL "tuple") (gVar 2)))) (tVal (gOp fNe (gBi fLen (gaCons (gVar 2) gaNil)) (gC (.int 2))))) (sRet (gC (.bl false))) sNil) (sSeq (sAsg (gVar 2) (pTupN 2 (psCons (pName 5) (psCons (pName 6) psNil)))) (sSeq (sIf (tNot (tTru (gIsi (isB knL "str") (gVar 5)))) (sRet (gC (.bl false))) sNil) (sSeq (sAsg (gCall F_Table_rows [] (gaCons (gRecv 5 (gVar 0)) gaNil)) (pName 3)) (sSeq (sAsg (gCall F_Amounts_over [] (gaCons (gRecv 0 (gVar 1)) gaNil)) (pName 4)) (sSeq (sIf (tAnd (tVal (gOp fEq (gVar 5) (gC (.str "stock")))) (tVal (gOp fLe (gVar 4) (gC (.int 0))))) (sSeq (sIf (tNot (tTru (gCall F_is_line_list [] (gaCons (gVar 6) (gaCons (gCall F_Table_stocks [] (gaCons (gRecv 5 (gVar 0)) gaNil)) gaNil))))) (sRet (gC (.bl false))) sNil) (sRet (gCall F_holds_more [] (gaCons (gVar 3) (gaCons (gVar 6) (gaCons (gCall F_Amounts_stocks [] (gaCons (gRecv 0 (gVar 1)) gaNil)) (gaCons (gCall F_Amounts_wishes [] (gaCons (gRecv 0 (gVar 1)) gaNil)) gaNil))))))) sNil) (sSeq (sIf (tAnd (tVal (gOp fEq (gVar 5) (gC (.str "wish")))) (tVal (gOp fGe (gVar 4) (gC (.int 0))))) (sSeq (sIf (tNot (tTru (gCall F_is_line_list [] (gaCons (gVar 6) (gaCons (gCall F_Table_wishes [] (gaCons (gRecv 5 (gVar 0)) gaNil)) gaNil))))) (sRet (gC (.bl false))) sNil) (sRet (gCall F_holds_more [] (gaCons (gCall F_turned_grid [] (gaCons (gVar 3) gaNil)) (gaCons (gVar 6) (gaCons (gCall F_Amounts_wishes [] (gaCons (gRecv 0 (gVar 1)) gaNil)) (gaCons (gCall F_Amounts_stocks [] (gaCons (gRecv 0 (gVar 1)) gaNil)) gaNil))))))) sNil) (sRet (gC (.bl false)))))))))))
noncomputable def F_is_shortage : GF := runF 7 [] S_is_shortage
theorem sc_is_shortage : FnScope ["table", "amounts", "value", "grid", "over", "word", "lines"] ["table", "amounts", "value"] (defScope st_is_shortage) := ⟨rfl, rfl, rfl, by decide +kernel, rfl, by decide +kernel, by decide +kernel⟩
theorem ok_is_shortage (X : K.In h) (G : h.Ns mainGlobals mg) (c : Says K) : ∃ fd, FnD P w K mg base (clK K) 4 (He.fAd K ("is_shortage", none)) fd ["table", "amounts", "value"] ⟨[.z, .z, .z], .s, [], []⟩ F_is_shortage ∧ Binds K fd ["table", "amounts", "value"] [] ∧ PySem.W.keepIn K (.ref (He.fAd K ("is_shortage", none))) = true := by
  obtain ⟨fd_check_size, fo_check_size, fb_check_size, fk_check_size⟩ := ok_check_size (P := P) (w := w) (base := base) X G c
  obtain ⟨fd_Table_rows, fo_Table_rows, fb_Table_rows, fk_Table_rows⟩ := ok_Table_rows (P := P) (w := w) (base := base) X G c
  obtain ⟨fd_Amounts_over, fo_Amounts_over, fb_Amounts_over, fk_Amounts_over⟩ := ok_Amounts_over (P := P) (w := w) (base := base) X G c
  obtain ⟨fd_is_line_list, fo_is_line_list, fb_is_line_list, fk_is_line_list⟩ := ok_is_line_list (P := P) (w := w) (base := base) X G c
  obtain ⟨fd_Table_stocks, fo_Table_stocks, fb_Table_stocks, fk_Table_stocks⟩ := ok_Table_stocks (P := P) (w := w) (base := base) X G c
  obtain ⟨fd_holds_more, fo_holds_more, fb_holds_more, fk_holds_more⟩ := ok_holds_more (P := P) (w := w) (base := base) X G c
  obtain ⟨fd_Amounts_stocks, fo_Amounts_stocks, fb_Amounts_stocks, fk_Amounts_stocks⟩ := ok_Amounts_stocks (P := P) (w := w) (base := base) X G c
  obtain ⟨fd_Amounts_wishes, fo_Amounts_wishes, fb_Amounts_wishes, fk_Amounts_wishes⟩ := ok_Amounts_wishes (P := P) (w := w) (base := base) X G c
  obtain ⟨fd_Table_wishes, fo_Table_wishes, fb_Table_wishes, fk_Table_wishes⟩ := ok_Table_wishes (P := P) (w := w) (base := base) X G c
  obtain ⟨fd_turned_grid, fo_turned_grid, fb_turned_grid, fk_turned_grid⟩ := ok_turned_grid (P := P) (w := w) (base := base) X G c
  obtain ⟨fd, FF⟩ := c.1.def_ 30 (d := dd_is_shortage) rfl
  refine ⟨fd, fnD_of (k := 3) (N := ["table", "amounts", "value", "grid", "over", "word", "lines"]) (g := S_is_shortage) (sg := ⟨[.z, .z, .z], .s, [], []⟩) (Γ' := [.u, .u, .u, .u, .u, .u, .u]) FF sc_is_shortage rfl ⟨by decide, by decide, rfl, by decide⟩ (fun cdv A outer s H E hr => ?_), FF.bindsN fun _ _ _ _ _ _ us hl => match us, hl with | [_, _, _], _ => rfl, FF.kp⟩
  exact (dss_cons (Γ1 := [.z, .z, .z, .u, .u, .u, .u]) (ds_expr (de_callP fo_check_size (hr.mono (by decide)) takesX (by rfl) (He.glo_ok X G (c.1.fact 30 (f := .glo "check_size") (by rfl))) fk_check_size fb_check_size (da_cons (de_var (i := 0) (w := .z) (by rfl) (by first | exact .inl rfl | exact .inr (.inl rfl) | exact .inr (.inr rfl)) (by rfl) (by rfl)) (da_cons (de_var (i := 1) (w := .z) (by rfl) (by first | exact .inl rfl | exact .inr (.inl rfl) | exact .inr (.inr rfl)) (by rfl) (by rfl)) da_nil)) (by rfl)))
      (dss_cons (Γ1 := [.z, .z, .z, .u, .u, .u, .u]) (ds_if (Γ2 := [.z, .z, .z, .u, .u, .u, .u]) (de_weakT (dt_or (dt_not (dt_tru (de_isi (by rfl) (He.free_ok X G (c.1.fact 10 (f := .free "isinstance") (by rfl))) boot_isinstance (ansB_tuple X G c) (.ty "tuple") (de_var (i := 2) (w := .z) (by rfl) (by first | exact .inl rfl | exact .inr (.inl rfl) | exact .inr (.inr rfl)) (by rfl) (by rfl)) (by rfl) (pe_bltn (by rfl) (He.free_ok X G (c.1.fact 22 (f := .free "tuple") (by rfl))) boot_tuple (by rfl))))) (dt_or1 (dt_cmp (op_neD (Room.units hr)) (d2_ne (by rfl) (by rfl)) (de_bi call_len (db_len (by rfl)) (by rfl) (He.free_ok X G (c.1.fact 0 (f := .free "len") (by rfl))) boot_len (da_cons (de_var (i := 2) (w := .z) (by rfl) (by first | exact .inl rfl | exact .inr (.inl rfl) | exact .inr (.inr rfl)) (by rfl) (by rfl)) da_nil)) de_int)) (by rfl)))
      (dss_one (ds_ret de_bl (by rfl) (by rfl)))
      dss_nil)
      (dss_cons (Γ1 := [.z, .z, .z, .u, .u, .z, .z]) (ds_asg (Γ1 := [.z, .z, .z, .u, .u, .u, .u]) (de_var (i := 2) (w := .z) (by rfl) (by first | exact .inl rfl | exact .inr (.inl rfl) | exact .inr (.inr rfl)) (by rfl) (by rfl)) (dg_tupZ (n := 2) (by rfl) (dgs_cons (dg_name (i := 5) sc_is_shortage.nd (by rfl) (by first | exact .inl rfl | exact .inr rfl)) (dgs_cons (dg_name (i := 6) sc_is_shortage.nd (by rfl) (by first | exact .inl rfl | exact .inr rfl)) dgs_nil))))
      (dss_cons (Γ1 := [.z, .z, .z, .u, .u, .z, .z]) (ds_if (Γ2 := [.z, .z, .z, .u, .u, .z, .z]) (dt_not (dt_tru (de_isi (by rfl) (He.free_ok X G (c.1.fact 10 (f := .free "isinstance") (by rfl))) boot_isinstance (ansB_str X G c) (.ty "str") (de_var (i := 5) (w := .z) (by rfl) (by first | exact .inl rfl | exact .inr (.inl rfl) | exact .inr (.inr rfl)) (by rfl) (by rfl)) (by rfl) (pe_bltn (by rfl) (He.free_ok X G (c.1.fact 31 (f := .free "str") (by rfl))) boot_str (by rfl)))))
      (dss_one (ds_ret de_bl (by rfl) (by rfl)))
      dss_nil)
      (dss_cons (Γ1 := [.z, .z, .z, .z, .u, .z, .z]) (ds_set (i := 3) (Γ1 := [.z, .z, .z, .u, .u, .z, .z]) (w := .z) sc_is_shortage.nd (by rfl) (by first | exact .inl rfl | exact .inr rfl) (de_methP0 (ci := 5) (m := "rows") (de_var (i := 0) (w := .z) (by rfl) (by first | exact .inl rfl | exact .inr (.inl rfl) | exact .inr (.inr rfl)) (by rfl) (by rfl)) (by rfl) (cd_Table X G c) (He.meth_ok (c.1.fact 32 (f := .meth "Table" "rows") (by rfl))) (by rfl) fo_Table_rows (hr.mono (by decide)) takesX fb_Table_rows (by rfl)))
      (dss_cons (Γ1 := [.z, .z, .z, .z, .s, .z, .z]) (ds_set (i := 4) (Γ1 := [.z, .z, .z, .z, .u, .z, .z]) (w := .s) sc_is_shortage.nd (by rfl) (by first | exact .inl rfl | exact .inr rfl) (de_methP0 (ci := 0) (m := "over") (de_var (i := 1) (w := .z) (by rfl) (by first | exact .inl rfl | exact .inr (.inl rfl) | exact .inr (.inr rfl)) (by rfl) (by rfl)) (by rfl) (cd_Amounts X G c) (He.meth_ok (c.1.fact 33 (f := .meth "Amounts" "over") (by rfl))) (by rfl) fo_Amounts_over (hr.mono (by decide)) takesX fb_Amounts_over (by rfl)))
      (dss_cons (Γ1 := [.z, .z, .z, .z, .s, .z, .z]) (ds_if (Γ2 := [.z, .z, .z, .z, .s, .z, .z]) (de_weakT (dt_and (dt_cmp (op_eqD (Room.units hr)) (d2_eq (by rfl) (by rfl)) (de_var (i := 5) (w := .z) (by rfl) (by first | exact .inl rfl | exact .inr (.inl rfl) | exact .inr (.inr rfl)) (by rfl) (by rfl)) de_str) (dt_and1 (dt_cmp op_le (d2_le (by rfl) (by rfl)) (de_var (i := 4) (w := .s) (by rfl) (by first | exact .inl rfl | exact .inr (.inl rfl) | exact .inr (.inr rfl)) (by rfl) (by rfl)) de_int)) (by rfl)))
      (dss_cons (Γ1 := [.z, .z, .z, .z, .s, .z, .z]) (ds_if (Γ2 := [.z, .z, .z, .z, .s, .z, .z]) (dt_not (dt_tru (de_callP fo_is_line_list (hr.mono (by decide)) takesX (by rfl) (He.glo_ok X G (c.1.fact 34 (f := .glo "is_line_list") (by rfl))) fk_is_line_list fb_is_line_list (da_cons (de_var (i := 6) (w := .z) (by rfl) (by first | exact .inl rfl | exact .inr (.inl rfl) | exact .inr (.inr rfl)) (by rfl) (by rfl)) (da_cons (de_w (w' := .z) (de_methP0 (ci := 5) (m := "stocks") (de_var (i := 0) (w := .z) (by rfl) (by first | exact .inl rfl | exact .inr (.inl rfl) | exact .inr (.inr rfl)) (by rfl) (by rfl)) (by rfl) (cd_Table X G c) (He.meth_ok (c.1.fact 26 (f := .meth "Table" "stocks") (by rfl))) (by rfl) fo_Table_stocks (hr.mono (by decide)) takesX fb_Table_stocks (by rfl)) (by rfl)) da_nil)) (by rfl))))
      (dss_one (ds_ret de_bl (by rfl) (by rfl)))
      dss_nil)
      (dss_one (ds_ret (de_callP fo_holds_more (hr.mono (by decide)) takesX (by rfl) (He.glo_ok X G (c.1.fact 37 (f := .glo "holds_more") (by rfl))) fk_holds_more fb_holds_more (da_cons (de_var (i := 3) (w := .z) (by rfl) (by first | exact .inl rfl | exact .inr (.inl rfl) | exact .inr (.inr rfl)) (by rfl) (by rfl)) (da_cons (de_var (i := 6) (w := .z) (by rfl) (by first | exact .inl rfl | exact .inr (.inl rfl) | exact .inr (.inr rfl)) (by rfl) (by rfl)) (da_cons (de_methP0 (ci := 0) (m := "stocks") (de_var (i := 1) (w := .z) (by rfl) (by first | exact .inl rfl | exact .inr (.inl rfl) | exact .inr (.inr rfl)) (by rfl) (by rfl)) (by rfl) (cd_Amounts X G c) (He.meth_ok (c.1.fact 35 (f := .meth "Amounts" "stocks") (by rfl))) (by rfl) fo_Amounts_stocks (hr.mono (by decide)) takesX fb_Amounts_stocks (by rfl)) (da_cons (de_methP0 (ci := 0) (m := "wishes") (de_var (i := 1) (w := .z) (by rfl) (by first | exact .inl rfl | exact .inr (.inl rfl) | exact .inr (.inr rfl)) (by rfl) (by rfl)) (by rfl) (cd_Amounts X G c) (He.meth_ok (c.1.fact 36 (f := .meth "Amounts" "wishes") (by rfl))) (by rfl) fo_Amounts_wishes (hr.mono (by decide)) takesX fb_Amounts_wishes (by rfl)) da_nil)))) (by rfl)) (by rfl) (by rfl))))
      dss_nil)
      (dss_cons (Γ1 := [.z, .z, .z, .z, .s, .z, .z]) (ds_if (Γ2 := [.z, .z, .z, .z, .s, .z, .z]) (de_weakT (dt_and (dt_cmp (op_eqD (Room.units hr)) (d2_eq (by rfl) (by rfl)) (de_var (i := 5) (w := .z) (by rfl) (by first | exact .inl rfl | exact .inr (.inl rfl) | exact .inr (.inr rfl)) (by rfl) (by rfl)) de_str) (dt_and1 (dt_cmp op_ge (d2_ge (by rfl) (by rfl)) (de_var (i := 4) (w := .s) (by rfl) (by first | exact .inl rfl | exact .inr (.inl rfl) | exact .inr (.inr rfl)) (by rfl) (by rfl)) de_int)) (by rfl)))
      (dss_cons (Γ1 := [.z, .z, .z, .z, .s, .z, .z]) (ds_if (Γ2 := [.z, .z, .z, .z, .s, .z, .z]) (dt_not (dt_tru (de_callP fo_is_line_list (hr.mono (by decide)) takesX (by rfl) (He.glo_ok X G (c.1.fact 34 (f := .glo "is_line_list") (by rfl))) fk_is_line_list fb_is_line_list (da_cons (de_var (i := 6) (w := .z) (by rfl) (by first | exact .inl rfl | exact .inr (.inl rfl) | exact .inr (.inr rfl)) (by rfl) (by rfl)) (da_cons (de_w (w' := .z) (de_methP0 (ci := 5) (m := "wishes") (de_var (i := 0) (w := .z) (by rfl) (by first | exact .inl rfl | exact .inr (.inl rfl) | exact .inr (.inr rfl)) (by rfl) (by rfl)) (by rfl) (cd_Table X G c) (He.meth_ok (c.1.fact 27 (f := .meth "Table" "wishes") (by rfl))) (by rfl) fo_Table_wishes (hr.mono (by decide)) takesX fb_Table_wishes (by rfl)) (by rfl)) da_nil)) (by rfl))))
      (dss_one (ds_ret de_bl (by rfl) (by rfl)))
      dss_nil)
      (dss_one (ds_ret (de_callP fo_holds_more (hr.mono (by decide)) takesX (by rfl) (He.glo_ok X G (c.1.fact 37 (f := .glo "holds_more") (by rfl))) fk_holds_more fb_holds_more (da_cons (de_callP fo_turned_grid (hr.mono (by decide)) takesX (by rfl) (He.glo_ok X G (c.1.fact 38 (f := .glo "turned_grid") (by rfl))) fk_turned_grid fb_turned_grid (da_cons (de_var (i := 3) (w := .z) (by rfl) (by first | exact .inl rfl | exact .inr (.inl rfl) | exact .inr (.inr rfl)) (by rfl) (by rfl)) da_nil) (by rfl)) (da_cons (de_var (i := 6) (w := .z) (by rfl) (by first | exact .inl rfl | exact .inr (.inl rfl) | exact .inr (.inr rfl)) (by rfl) (by rfl)) (da_cons (de_methP0 (ci := 0) (m := "wishes") (de_var (i := 1) (w := .z) (by rfl) (by first | exact .inl rfl | exact .inr (.inl rfl) | exact .inr (.inr rfl)) (by rfl) (by rfl)) (by rfl) (cd_Amounts X G c) (He.meth_ok (c.1.fact 36 (f := .meth "Amounts" "wishes") (by rfl))) (by rfl) fo_Amounts_wishes (hr.mono (by decide)) takesX fb_Amounts_wishes (by rfl)) (da_cons (de_methP0 (ci := 0) (m := "stocks") (de_var (i := 1) (w := .z) (by rfl) (by first | exact .inl rfl | exact .inr (.inl rfl) | exact .inr (.inr rfl)) (by rfl) (by rfl)) (by rfl) (cd_Amounts X G c) (He.meth_ok (c.1.fact 35 (f := .meth "Amounts" "stocks") (by rfl))) (by rfl) fo_Amounts_stocks (hr.mono (by decide)) takesX fb_Amounts_stocks (by rfl)) da_nil)))) (by rfl)) (by rfl) (by rfl))))
      dss_nil)
      (dss_one (ds_ret de_bl (by rfl) (by rfl)))))))))))
abbrev st_law : Stmt := top 43
noncomputable def B_law_0 : GS := (sSeq (sAsg (gCall F__law_judged [] (gaCons (gCall F__law_value [] (gaCons (gVar 0) (gaCons (gVar 9) (gaCons (gVar 2) (gaCons (gVar 3) gaNil))))) (gaCons (gVar 5) (gaCons (gVar 6) (gaCons (gVar 10) (gaCons (gVar 11) gaNil)))))) (pName 12)) (sSeq (sAsg (gCall F__law_value [] (gaCons (gVar 0) (gaCons (gVar 9) (gaCons (gVar 2) (gaCons (gVar 3) gaNil))))) (pName 13)) (sSeq (sAsg (gCall F_is_shortage [] (gaCons (gVar 7) (gaCons (gVar 8) (gaCons (gVar 13) gaNil)))) (pName 14)) (sSeq (sIf (tOr (tNot (tTru (gIsi (isB knL "bool") (gVar 14)))) (tVal (gOp fNe (gVar 14) (gVar 12)))) (sRet (gC (.bl false))) sNil) (sIf (tVal (gOp fNeV (gVar 13) (gCall F__law_value [] (gaCons (gVar 0) (gaCons (gVar 9) (gaCons (gVar 2) (gaCons (gVar 3) gaNil))))))) (sRet (gC (.bl false))) sNil)))))
noncomputable def S_law : GS := (sSeq (sAsg (gCall F__law_draws [] (gaCons (gVar 0) (gaCons (gC (.int 0)) (gaCons (gLst (gaCons (gC (.int 8)) (gaCons (gC (.int 8)) (gaCons (gC (.int 8)) (gaCons (gC (.int 4)) (gaCons (gC (.int 4)) (gaCons (gC (.int 2)) gaNil))))))) gaNil)))) (pName 1)) (sSeq (sAsg (gOp fAdd (gC (.int 1)) (gOp fIx (gVar 1) (gC (.int 0)))) (pName 2)) (sSeq (sAsg (gOp fAdd (gC (.int 1)) (gOp fIx (gVar 1) (gC (.int 1)))) (pName 3)) (sSeq (sAsg (gCall F__law_grid [] (gaCons (gVar 0) (gaCons (gC (.int 1)) (gaCons (gVar 2) (gaCons (gVar 3) (gaCons (gOp fIx (gVar 1) (gC (.int 2))) (gaCons (gOp fIx (gLst (gaCons (gC (.int 0)) (gaCons (gC (.int 6)) (gaCons (gC (.int 3)) (gaCons (gC (.int 2)) gaNil))))) (gOp fIx (gVar 1) (gC (.int 3)))) gaNil))))))) (pName 4)) (sSeq (sAsg (gCall F__law_amounts [] (gaCons (gVar 0) (gaCons (gC (.int 2)) (gaCons (gVar 2) (gaCons (gVar 3) (gaCons (gOp fIx (gVar 1) (gC (.int 4))) (gaCons (gOp fEq (gOp fIx (gVar 1) (gC (.int 5))) (gC (.int 1))) gaNil))))))) (pTupN 2 (psCons (pName 10) (psCons (pName 11) psNil)))) (sSeq (sAsg (gLc (iLst (gVar 4)) (pName 15) tYesD (gLc (iLst (gVar 15)) (pName 17) tYesD (gOp fNotN (gVar 17) (gC .non)))) (pName 5)) (sSeq (sAsg (gLc (iRg (gaCons (gVar 3) gaNil)) (pName 16) tYesD (gLc (iLst (gVar 5)) (pName 15) tYesD (gOp fIx (gVar 15) (gVar 16)))) (pName 6)) (sSeq (sAsg (gMake F_Table_init_ 5 (gaCons (gCall F__law_copy [] (gaCons (gVar 4) gaNil)) gaNil)) (pName 7)) (sSeq (sAsg (gMake F_Amounts_init_ 0 (gaCons (gBi fList (gaCons (gVar 10) gaNil)) (gaCons (gBi fList (gaCons (gVar 11) gaNil)) gaNil))) (pName 8)) (sSeq (sFor (iRg (gaCons (gC (.int 3)) (gaCons (gBi fMax2 (gaCons (gC (.int 9)) (gaCons (gBi fLen (gaCons (gSl fSl (gVar 0) oNone (oSome (gC (.int 63)))) gaNil)) gaNil))) gaNil))) (pName 9) B_law_0) (sRet (gAnd (gOp fEq (gCall F_Amounts_wishes [] (gaCons (gRecv 0 (gVar 8)) gaNil)) (gVar 11)) (gOp fEq (gCall F_Table_rows [] (gaCons (gRecv 5 (gVar 7)) gaNil)) (gVar 4))))))))))))))
noncomputable def F_law : GF := runF 18 [] S_law
theorem sc_law : FnScope ["_law_script", "_law_head", "_law_m", "_law_n", "_law_grid_here", "_law_usable", "_law_turned", "_law_table", "_law_amounts_here", "_law_spot", "_law_stocks", "_law_wishes", "_law_due", "_law_value_here", "_law_answer", "_law_row", "_law_j", "_law_price"] ["_law_script"] (defScope st_law) := ⟨rfl, rfl, rfl, by decide +kernel, rfl, by decide +kernel, by decide +kernel⟩
theorem okF_law (X : K.In h) (G : h.Ns mainGlobals mg) (c : Says K) {fd : FuncData} (FF : FunD K dd_law.name dd_law.qual dd_law.params dd_law.body dd_law.scope (dd_law.dvs K) (dd_law.kws K) (He.fAd K dd_law.at_) fd) : FnD P w K mg base (clK K) 6 (He.fAd K ("law", none)) fd ["_law_script"] ⟨[.z], .s, [], []⟩ F_law ∧ ∀ (s : Shared) (v : Value), BindsTo s fd ⟨[v], []⟩ [("_law_script", v)] := by
  obtain ⟨fd__law_draws, fo__law_draws, fb__law_draws, fk__law_draws⟩ := ok__law_draws (P := P) (w := w) (base := base) X G c
  obtain ⟨fd__law_grid, fo__law_grid, fb__law_grid, fk__law_grid⟩ := ok__law_grid (P := P) (w := w) (base := base) X G c
  obtain ⟨fd__law_amounts, fo__law_amounts, fb__law_amounts, fk__law_amounts⟩ := ok__law_amounts (P := P) (w := w) (base := base) X G c
  obtain ⟨fd_Table_init_, fo_Table_init_, fb_Table_init_, fk_Table_init_⟩ := ok_Table_init_ (P := P) (w := w) (base := base) X G c
  obtain ⟨fd__law_copy, fo__law_copy, fb__law_copy, fk__law_copy⟩ := ok__law_copy (P := P) (w := w) (base := base) X G c
  obtain ⟨fd_Amounts_init_, fo_Amounts_init_, fb_Amounts_init_, fk_Amounts_init_⟩ := ok_Amounts_init_ (P := P) (w := w) (base := base) X G c
  obtain ⟨fd__law_judged, fo__law_judged, fb__law_judged, fk__law_judged⟩ := ok__law_judged (P := P) (w := w) (base := base) X G c
  obtain ⟨fd__law_value, fo__law_value, fb__law_value, fk__law_value⟩ := ok__law_value (P := P) (w := w) (base := base) X G c
  obtain ⟨fd_is_shortage, fo_is_shortage, fb_is_shortage, fk_is_shortage⟩ := ok_is_shortage (P := P) (w := w) (base := base) X G c
  obtain ⟨fd_Amounts_wishes, fo_Amounts_wishes, fb_Amounts_wishes, fk_Amounts_wishes⟩ := ok_Amounts_wishes (P := P) (w := w) (base := base) X G c
  obtain ⟨fd_Table_rows, fo_Table_rows, fb_Table_rows, fk_Table_rows⟩ := ok_Table_rows (P := P) (w := w) (base := base) X G c
  refine ⟨fnD_of (k := 5) (N := ["_law_script", "_law_head", "_law_m", "_law_n", "_law_grid_here", "_law_usable", "_law_turned", "_law_table", "_law_amounts_here", "_law_spot", "_law_stocks", "_law_wishes", "_law_due", "_law_value_here", "_law_answer", "_law_row", "_law_j", "_law_price"]) (g := S_law) (sg := ⟨[.z], .s, [], []⟩) (Γ' := [.u, .u, .u, .u, .u, .u, .u, .u, .u, .u, .u, .u, .u, .u, .u, .u, .u, .u]) FF sc_law rfl ⟨by decide, by decide, rfl, by decide⟩ (fun cdv A outer s H E hr => ?_), fun s v => FunD.bindsA (ps := ["_law_script"]) FF (fun _ _ _ _ _ _ us hl => match us, hl with | [_], _ => rfl) s [v] rfl⟩
  exact (dss_cons (Γ1 := [.z, .o .s, .u, .u, .u, .u, .u, .u, .u, .u, .u, .u, .u, .u, .u, .u, .u, .u]) (ds_set (i := 1) (Γ1 := [.z, .u, .u, .u, .u, .u, .u, .u, .u, .u, .u, .u, .u, .u, .u, .u, .u, .u]) (w := (.o .s)) sc_law.nd (by rfl) (by first | exact .inl rfl | exact .inr rfl) (de_callP fo__law_draws (hr.mono (by decide)) takesX (by rfl) (He.glo_ok X G (c.1.fact 5 (f := .glo "_law_draws") (by rfl))) fk__law_draws fb__law_draws (da_cons (de_var (i := 0) (w := .z) (by rfl) (by first | exact .inl rfl | exact .inr (.inl rfl) | exact .inr (.inr rfl)) (by rfl) (by rfl)) (da_cons (de_w (w' := .z) de_int (by rfl)) (da_cons (de_w (w' := .z) (de_lst (w := .s) (da_cons de_int (da_cons de_int (da_cons de_int (da_cons de_int (da_cons de_int (da_cons de_int da_nil)))))) (by rfl) (by rfl)) (by rfl)) da_nil))) (by rfl)))
      (dss_cons (Γ1 := [.z, .z, .s, .u, .u, .u, .u, .u, .u, .u, .u, .u, .u, .u, .u, .u, .u, .u]) (ds_pre (Γ1 := [.z, .z, .u, .u, .u, .u, .u, .u, .u, .u, .u, .u, .u, .u, .u, .u, .u, .u]) (ds_set (i := 2) (Γ1 := [.z, .z, .u, .u, .u, .u, .u, .u, .u, .u, .u, .u, .u, .u, .u, .u, .u, .u]) (w := .s) sc_law.nd (by rfl) (by first | exact .inl rfl | exact .inr rfl) (de_op op_add (d2_add (by rfl) (by rfl)) de_int (de_ix ix_seq (d2_ix (by rfl) (by rfl)) (de_var (i := 1) (w := .z) (by rfl) (by first | exact .inl rfl | exact .inr (.inl rfl) | exact .inr (.inr rfl)) (by rfl) (by rfl)) de_int))) (by rfl))
      (dss_cons (Γ1 := [.z, .z, .s, .s, .u, .u, .u, .u, .u, .u, .u, .u, .u, .u, .u, .u, .u, .u]) (ds_set (i := 3) (Γ1 := [.z, .z, .s, .u, .u, .u, .u, .u, .u, .u, .u, .u, .u, .u, .u, .u, .u, .u]) (w := .s) sc_law.nd (by rfl) (by first | exact .inl rfl | exact .inr rfl) (de_op op_add (d2_add (by rfl) (by rfl)) de_int (de_ix ix_seq (d2_ix (by rfl) (by rfl)) (de_var (i := 1) (w := .z) (by rfl) (by first | exact .inl rfl | exact .inr (.inl rfl) | exact .inr (.inr rfl)) (by rfl) (by rfl)) de_int)))
      (dss_cons (Γ1 := [.z, .z, .s, .s, .z, .u, .u, .u, .u, .u, .u, .u, .u, .u, .u, .u, .u, .u]) (ds_set (i := 4) (Γ1 := [.z, .z, .s, .s, .u, .u, .u, .u, .u, .u, .u, .u, .u, .u, .u, .u, .u, .u]) (w := .z) sc_law.nd (by rfl) (by first | exact .inl rfl | exact .inr rfl) (de_callP fo__law_grid (hr.mono (by decide)) takesX (by rfl) (He.glo_ok X G (c.1.fact 39 (f := .glo "_law_grid") (by rfl))) fk__law_grid fb__law_grid (da_cons (de_var (i := 0) (w := .z) (by rfl) (by first | exact .inl rfl | exact .inr (.inl rfl) | exact .inr (.inr rfl)) (by rfl) (by rfl)) (da_cons (de_w (w' := .z) de_int (by rfl)) (da_cons (de_w (w' := .z) (de_var (i := 2) (w := .s) (by rfl) (by first | exact .inl rfl | exact .inr (.inl rfl) | exact .inr (.inr rfl)) (by rfl) (by rfl)) (by rfl)) (da_cons (de_w (w' := .z) (de_var (i := 3) (w := .s) (by rfl) (by first | exact .inl rfl | exact .inr (.inl rfl) | exact .inr (.inr rfl)) (by rfl) (by rfl)) (by rfl)) (da_cons (de_ix ix_seq (d2_ix (by rfl) (by rfl)) (de_var (i := 1) (w := .z) (by rfl) (by first | exact .inl rfl | exact .inr (.inl rfl) | exact .inr (.inr rfl)) (by rfl) (by rfl)) de_int) (da_cons (de_ix ix_seq (d2_ix (by rfl) (by rfl)) (de_w (w' := .z) (de_lst (w := .s) (da_cons de_int (da_cons de_int (da_cons de_int (da_cons de_int da_nil)))) (by rfl) (by rfl)) (by rfl)) (de_ix ix_seq (d2_ix (by rfl) (by rfl)) (de_var (i := 1) (w := .z) (by rfl) (by first | exact .inl rfl | exact .inr (.inl rfl) | exact .inr (.inr rfl)) (by rfl) (by rfl)) de_int)) da_nil)))))) (by rfl)))
      (dss_cons (Γ1 := [.z, .z, .s, .s, .z, .u, .u, .u, .u, .u, .z, .z, .u, .u, .u, .u, .u, .u]) (ds_asg (Γ1 := [.z, .z, .s, .s, .z, .u, .u, .u, .u, .u, .u, .u, .u, .u, .u, .u, .u, .u]) (de_callP fo__law_amounts (hr.mono (by decide)) takesX (by rfl) (He.glo_ok X G (c.1.fact 40 (f := .glo "_law_amounts") (by rfl))) fk__law_amounts fb__law_amounts (da_cons (de_var (i := 0) (w := .z) (by rfl) (by first | exact .inl rfl | exact .inr (.inl rfl) | exact .inr (.inr rfl)) (by rfl) (by rfl)) (da_cons (de_w (w' := .z) de_int (by rfl)) (da_cons (de_w (w' := .z) (de_var (i := 2) (w := .s) (by rfl) (by first | exact .inl rfl | exact .inr (.inl rfl) | exact .inr (.inr rfl)) (by rfl) (by rfl)) (by rfl)) (da_cons (de_w (w' := .z) (de_var (i := 3) (w := .s) (by rfl) (by first | exact .inl rfl | exact .inr (.inl rfl) | exact .inr (.inr rfl)) (by rfl) (by rfl)) (by rfl)) (da_cons (de_ix ix_seq (d2_ix (by rfl) (by rfl)) (de_var (i := 1) (w := .z) (by rfl) (by first | exact .inl rfl | exact .inr (.inl rfl) | exact .inr (.inr rfl)) (by rfl) (by rfl)) de_int) (da_cons (de_w (w' := .z) (de_cmp (op_eqD (Room.units hr)) (d2_eq (by rfl) (by rfl)) (de_ix ix_seq (d2_ix (by rfl) (by rfl)) (de_var (i := 1) (w := .z) (by rfl) (by first | exact .inl rfl | exact .inr (.inl rfl) | exact .inr (.inr rfl)) (by rfl) (by rfl)) de_int) de_int) (by rfl)) da_nil)))))) (by rfl)) (dg_tupZ (n := 2) (by rfl) (dgs_cons (dg_name (i := 10) sc_law.nd (by rfl) (by first | exact .inl rfl | exact .inr rfl)) (dgs_cons (dg_name (i := 11) sc_law.nd (by rfl) (by first | exact .inl rfl | exact .inr rfl)) dgs_nil))))
      (dss_cons (Γ1 := [.z, .z, .s, .s, .z, .o .z, .u, .u, .u, .u, .z, .z, .u, .u, .u, .u, .u, .u]) (ds_set (i := 5) (Γ1 := [.z, .z, .s, .s, .z, .u, .u, .u, .u, .u, .z, .z, .u, .u, .u, .u, .u, .u]) (w := (.o .z)) sc_law.nd (by rfl) (by first | exact .inl rfl | exact .inr rfl) (de_lc (own := [("_law_row", 15)]) (io := [0, 1, 2, 3, 4, 5, 6, 7, 8, 9, 10, 11, 12, 13, 14, 16, 17]) (ΓL := [.z, .z, .s, .s, .z, .u, .u, .u, .u, .u, .z, .z, .u, .u, .u, .u, .u, .u]) (Γ2 := [.z, .z, .s, .s, .z, .u, .u, .u, .u, .u, .z, .z, .u, .u, .u, .z, .u, .u]) (Γ3 := [.z, .z, .s, .s, .z, .u, .u, .u, .u, .u, .z, .z, .u, .u, .u, .z, .u, .u]) (Γ4 := [.z, .z, .s, .s, .z, .u, .u, .u, .u, .u, .z, .z, .u, .u, .u, .z, .u, .u]) (we := .z) (wx := .z) (by rfl) sc_law.nd (blk_ok (by rfl) (by first | rfl | kernel_rfl)) (di_list (de_var (i := 4) (w := .z) (by rfl) (by first | exact .inl rfl | exact .inr (.inl rfl) | exact .inr (.inr rfl)) (by rfl) (by rfl))) (by rfl) (by rfl) (by rfl) (fun s H cA cl fp => (dg_name (i := 15) sc_law.nd (by rfl) (by first | exact .inl rfl | exact .inr rfl))) (fun s H cA cl fp => dts_nil) (fun s H cA cl fp => (de_w (w' := .z) (de_lc (own := [("_law_price", 17)]) (io := [0, 1, 2, 3, 4, 5, 6, 7, 8, 9, 10, 11, 12, 13, 14, 15, 16]) (ΓL := [.z, .z, .s, .s, .z, .u, .u, .u, .u, .u, .z, .z, .u, .u, .u, .z, .u, .u]) (Γ2 := [.z, .z, .s, .s, .z, .u, .u, .u, .u, .u, .z, .z, .u, .u, .u, .z, .u, .z]) (Γ3 := [.z, .z, .s, .s, .z, .u, .u, .u, .u, .u, .z, .z, .u, .u, .u, .z, .u, .z]) (Γ4 := [.z, .z, .s, .s, .z, .u, .u, .u, .u, .u, .z, .z, .u, .u, .u, .z, .u, .z]) (we := .s) (wx := .z) (by rfl) sc_law.nd (blk_ok (by rfl) (by first | rfl | kernel_rfl)) (di_list (de_var (i := 15) (w := .z) (by rfl) (by first | exact .inl rfl | exact .inr (.inl rfl) | exact .inr (.inr rfl)) (by rfl) (by rfl))) (by rfl) (by rfl) (by rfl) (fun s H cA cl fp => (dg_name (i := 17) sc_law.nd (by rfl) (by first | exact .inl rfl | exact .inr rfl))) (fun s H cA cl fp => dts_nil) (fun s H cA cl fp => (de_cmp op_notN (d2_notN (by rfl)) (de_var (i := 17) (w := .z) (by rfl) (by first | exact .inl rfl | exact .inr (.inl rfl) | exact .inr (.inr rfl)) (by rfl) (by rfl)) de_non)) (by rfl) (by rfl) (pk_name (by decide))) (by rfl))) (by rfl) (by rfl) (pk_name (by decide))))
      (dss_cons (Γ1 := [.z, .z, .s, .s, .z, .z, .o .z, .u, .u, .u, .z, .z, .u, .u, .u, .u, .u, .u]) (ds_pre (Γ1 := [.z, .z, .s, .s, .z, .z, .u, .u, .u, .u, .z, .z, .u, .u, .u, .u, .u, .u]) (ds_setlc (i := 6) (by rfl) sc_law.nd (by rfl) (by rfl) (by rfl) (own := [("_law_j", 16)]) (io := [0, 1, 2, 3, 4, 5, 6, 7, 8, 9, 10, 11, 12, 13, 14, 15, 17]) (ΓL := [.z, .z, .s, .s, .z, .z, .u, .u, .u, .u, .z, .z, .u, .u, .u, .u, .u, .u]) (Γ2 := [.z, .z, .s, .s, .z, .z, .u, .u, .u, .u, .z, .z, .u, .u, .u, .u, .s, .u]) (Γ3 := [.z, .z, .s, .s, .z, .z, .u, .u, .u, .u, .z, .z, .u, .u, .u, .u, .s, .u]) (Γ4 := [.z, .z, .s, .s, .z, .z, .u, .u, .u, .u, .z, .z, .u, .u, .u, .u, .s, .u]) (we := .z) (wx := .s) (blk_ok (by rfl) (by first | rfl | kernel_rfl)) (di_range1 (by rfl) (He.free_ok X G (c.1.fact 6 (f := .free "range") (by rfl))) (da_cons (de_var (i := 3) (w := .s) (by rfl) (by first | exact .inl rfl | exact .inr (.inl rfl) | exact .inr (.inr rfl)) (by rfl) (by rfl)) da_nil) (by rfl)) (by rfl) (by rfl) (by rfl) (fun s H cA cl fp => (dg_name (i := 16) sc_law.nd (by rfl) (by first | exact .inl rfl | exact .inr rfl))) (fun s H cA cl fp => dts_nil) (fun s H cA cl fp => (de_w (w' := .z) (de_lc (own := [("_law_row", 15)]) (io := [0, 1, 2, 3, 4, 5, 6, 7, 8, 9, 10, 11, 12, 13, 14, 16, 17]) (ΓL := [.z, .z, .s, .s, .z, .z, .u, .u, .u, .u, .z, .z, .u, .u, .u, .u, .s, .u]) (Γ2 := [.z, .z, .s, .s, .z, .z, .u, .u, .u, .u, .z, .z, .u, .u, .u, .z, .s, .u]) (Γ3 := [.z, .z, .s, .s, .z, .z, .u, .u, .u, .u, .z, .z, .u, .u, .u, .z, .s, .u]) (Γ4 := [.z, .z, .s, .s, .z, .z, .u, .u, .u, .u, .z, .z, .u, .u, .u, .z, .s, .u]) (we := .z) (wx := .z) (by rfl) sc_law.nd (blk_ok (by rfl) (by first | rfl | kernel_rfl)) (di_list (de_var (i := 5) (w := .z) (by rfl) (by first | exact .inl rfl | exact .inr (.inl rfl) | exact .inr (.inr rfl)) (by rfl) (by rfl))) (by rfl) (by rfl) (by rfl) (fun s H cA cl fp => (dg_name (i := 15) sc_law.nd (by rfl) (by first | exact .inl rfl | exact .inr rfl))) (fun s H cA cl fp => dts_nil) (fun s H cA cl fp => (de_ix ix_seq (d2_ix (by rfl) (by rfl)) (de_var (i := 15) (w := .z) (by rfl) (by first | exact .inl rfl | exact .inr (.inl rfl) | exact .inr (.inr rfl)) (by rfl) (by rfl)) (de_var (i := 16) (w := .s) (by rfl) (by first | exact .inl rfl | exact .inr (.inl rfl) | exact .inr (.inr rfl)) (by rfl) (by rfl)))) (by rfl) (by rfl) (pk_name (by decide))) (by rfl))) (by rfl) (by rfl) (pk_name (by decide))) (by rfl))
      (dss_cons (Γ1 := [.z, .z, .s, .s, .z, .z, .o .z, .z, .u, .u, .z, .z, .u, .u, .u, .u, .u, .u]) (ds_set (i := 7) (Γ1 := [.z, .z, .s, .s, .z, .z, .o .z, .u, .u, .u, .z, .z, .u, .u, .u, .u, .u, .u]) (w := .z) sc_law.nd (by rfl) (by first | exact .inl rfl | exact .inr rfl) (de_make (ci := 5) (He.mkr_ok (c.1.fact 42 (f := .mkr "Table") (by rfl))) fo_Table_init_ runI_non (hr.mono (by decide)) takesX (by rfl) (He.glo_ok X G (c.1.fact 43 (f := .glo "Table") (by rfl))) fb_Table_init_ (da_cons (de_callP fo__law_copy (hr.mono (by decide)) takesX (by rfl) (He.glo_ok X G (c.1.fact 41 (f := .glo "_law_copy") (by rfl))) fk__law_copy fb__law_copy (da_cons (de_var (i := 4) (w := .z) (by rfl) (by first | exact .inl rfl | exact .inr (.inl rfl) | exact .inr (.inr rfl)) (by rfl) (by rfl)) da_nil) (by rfl)) da_nil) (.inr (by rfl))))
      (dss_cons (Γ1 := [.z, .z, .s, .s, .z, .z, .o .z, .z, .z, .u, .z, .z, .u, .u, .u, .u, .u, .u]) (ds_set (i := 8) (Γ1 := [.z, .z, .s, .s, .z, .z, .o .z, .z, .u, .u, .z, .z, .u, .u, .u, .u, .u, .u]) (w := .z) sc_law.nd (by rfl) (by first | exact .inl rfl | exact .inr rfl) (de_make (ci := 0) (He.mkr_ok (c.1.fact 44 (f := .mkr "Amounts") (by rfl))) fo_Amounts_init_ runI_non (hr.mono (by decide)) takesX (by rfl) (He.glo_ok X G (c.1.fact 45 (f := .glo "Amounts") (by rfl))) fb_Amounts_init_ (da_cons (de_w (w' := .z) (de_ty call_list_of (db_list (by rfl)) (by rfl) (He.free_ok X G (c.1.fact 9 (f := .free "list") (by rfl))) boot_list (da_cons (de_var (i := 10) (w := .z) (by rfl) (by first | exact .inl rfl | exact .inr (.inl rfl) | exact .inr (.inr rfl)) (by rfl) (by rfl)) da_nil)) (by rfl)) (da_cons (de_w (w' := .z) (de_ty call_list_of (db_list (by rfl)) (by rfl) (He.free_ok X G (c.1.fact 9 (f := .free "list") (by rfl))) boot_list (da_cons (de_var (i := 11) (w := .z) (by rfl) (by first | exact .inl rfl | exact .inr (.inl rfl) | exact .inr (.inr rfl)) (by rfl) (by rfl)) da_nil)) (by rfl)) da_nil)) (.inr (by rfl))))
      (dss_cons (Γ1 := [.z, .z, .s, .s, .z, .z, .z, .z, .z, .u, .z, .z, .u, .u, .u, .u, .u, .u]) (ds_for (Γ1 := [.z, .z, .s, .s, .z, .z, .o .z, .z, .z, .u, .z, .z, .u, .u, .u, .u, .u, .u]) (Γi := [.z, .z, .s, .s, .z, .z, .z, .z, .z, .u, .z, .z, .u, .u, .u, .u, .u, .u]) (w := .s) (Γ2 := [.z, .z, .s, .s, .z, .z, .z, .z, .z, .s, .z, .z, .u, .u, .u, .u, .u, .u]) passX (by rfl) (di_range2 (by rfl) (He.free_ok X G (c.1.fact 6 (f := .free "range") (by rfl))) (da_cons de_int (da_cons (de_bi (call_max2 (by rfl)) (db_max2 (by rfl) (by rfl)) (by rfl) (He.free_ok X G (c.1.fact 7 (f := .free "max") (by rfl))) boot_max (da_cons de_int (da_cons (de_bi call_len (db_len (by rfl)) (by rfl) (He.free_ok X G (c.1.fact 0 (f := .free "len") (by rfl))) boot_len (da_cons (de_w (w' := .z) (de_slice sl_list (dsl_list (by rfl)) (de_var (i := 0) (w := .z) (by rfl) (by first | exact .inl rfl | exact .inr (.inl rfl) | exact .inr (.inr rfl)) (by rfl) (by rfl)) do_none (do_some de_int (by rfl))) (by rfl)) da_nil)) da_nil))) da_nil)) (by rfl) (by rfl)) (by rfl) (dg_name (i := 9) sc_law.nd (by rfl) (by first | exact .inl rfl | exact .inr rfl))
      (dss_cons (Γ1 := [.z, .z, .s, .s, .z, .z, .z, .z, .z, .s, .z, .z, .s, .u, .u, .u, .u, .u]) (ds_set (i := 12) (Γ1 := [.z, .z, .s, .s, .z, .z, .z, .z, .z, .s, .z, .z, .u, .u, .u, .u, .u, .u]) (w := .s) sc_law.nd (by rfl) (by first | exact .inl rfl | exact .inr rfl) (de_callP fo__law_judged (hr.mono (by decide)) takesX (by rfl) (He.glo_ok X G (c.1.fact 47 (f := .glo "_law_judged") (by rfl))) fk__law_judged fb__law_judged (da_cons (de_callP fo__law_value (hr.mono (by decide)) takesX (by rfl) (He.glo_ok X G (c.1.fact 46 (f := .glo "_law_value") (by rfl))) fk__law_value fb__law_value (da_cons (de_var (i := 0) (w := .z) (by rfl) (by first | exact .inl rfl | exact .inr (.inl rfl) | exact .inr (.inr rfl)) (by rfl) (by rfl)) (da_cons (de_w (w' := .z) (de_var (i := 9) (w := .s) (by rfl) (by first | exact .inl rfl | exact .inr (.inl rfl) | exact .inr (.inr rfl)) (by rfl) (by rfl)) (by rfl)) (da_cons (de_w (w' := .z) (de_var (i := 2) (w := .s) (by rfl) (by first | exact .inl rfl | exact .inr (.inl rfl) | exact .inr (.inr rfl)) (by rfl) (by rfl)) (by rfl)) (da_cons (de_w (w' := .z) (de_var (i := 3) (w := .s) (by rfl) (by first | exact .inl rfl | exact .inr (.inl rfl) | exact .inr (.inr rfl)) (by rfl) (by rfl)) (by rfl)) da_nil)))) (by rfl)) (da_cons (de_var (i := 5) (w := .z) (by rfl) (by first | exact .inl rfl | exact .inr (.inl rfl) | exact .inr (.inr rfl)) (by rfl) (by rfl)) (da_cons (de_var (i := 6) (w := .z) (by rfl) (by first | exact .inl rfl | exact .inr (.inl rfl) | exact .inr (.inr rfl)) (by rfl) (by rfl)) (da_cons (de_var (i := 10) (w := .z) (by rfl) (by first | exact .inl rfl | exact .inr (.inl rfl) | exact .inr (.inr rfl)) (by rfl) (by rfl)) (da_cons (de_var (i := 11) (w := .z) (by rfl) (by first | exact .inl rfl | exact .inr (.inl rfl) | exact .inr (.inr rfl)) (by rfl) (by rfl)) da_nil))))) (by rfl)))
      (dss_cons (Γ1 := [.z, .z, .s, .s, .z, .z, .z, .z, .z, .s, .z, .z, .s, .z, .u, .u, .u, .u]) (ds_set (i := 13) (Γ1 := [.z, .z, .s, .s, .z, .z, .z, .z, .z, .s, .z, .z, .s, .u, .u, .u, .u, .u]) (w := .z) sc_law.nd (by rfl) (by first | exact .inl rfl | exact .inr rfl) (de_callP fo__law_value (hr.mono (by decide)) takesX (by rfl) (He.glo_ok X G (c.1.fact 46 (f := .glo "_law_value") (by rfl))) fk__law_value fb__law_value (da_cons (de_var (i := 0) (w := .z) (by rfl) (by first | exact .inl rfl | exact .inr (.inl rfl) | exact .inr (.inr rfl)) (by rfl) (by rfl)) (da_cons (de_w (w' := .z) (de_var (i := 9) (w := .s) (by rfl) (by first | exact .inl rfl | exact .inr (.inl rfl) | exact .inr (.inr rfl)) (by rfl) (by rfl)) (by rfl)) (da_cons (de_w (w' := .z) (de_var (i := 2) (w := .s) (by rfl) (by first | exact .inl rfl | exact .inr (.inl rfl) | exact .inr (.inr rfl)) (by rfl) (by rfl)) (by rfl)) (da_cons (de_w (w' := .z) (de_var (i := 3) (w := .s) (by rfl) (by first | exact .inl rfl | exact .inr (.inl rfl) | exact .inr (.inr rfl)) (by rfl) (by rfl)) (by rfl)) da_nil)))) (by rfl)))
      (dss_cons (Γ1 := [.z, .z, .s, .s, .z, .z, .z, .z, .z, .s, .z, .z, .s, .z, .s, .u, .u, .u]) (ds_set (i := 14) (Γ1 := [.z, .z, .s, .s, .z, .z, .z, .z, .z, .s, .z, .z, .s, .z, .u, .u, .u, .u]) (w := .s) sc_law.nd (by rfl) (by first | exact .inl rfl | exact .inr rfl) (de_callP fo_is_shortage (hr.mono (by decide)) takesX (by rfl) (He.glo_ok X G (c.1.fact 48 (f := .glo "is_shortage") (by rfl))) fk_is_shortage fb_is_shortage (da_cons (de_var (i := 7) (w := .z) (by rfl) (by first | exact .inl rfl | exact .inr (.inl rfl) | exact .inr (.inr rfl)) (by rfl) (by rfl)) (da_cons (de_var (i := 8) (w := .z) (by rfl) (by first | exact .inl rfl | exact .inr (.inl rfl) | exact .inr (.inr rfl)) (by rfl) (by rfl)) (da_cons (de_var (i := 13) (w := .z) (by rfl) (by first | exact .inl rfl | exact .inr (.inl rfl) | exact .inr (.inr rfl)) (by rfl) (by rfl)) da_nil))) (by rfl)))
      (dss_cons (Γ1 := [.z, .z, .s, .s, .z, .z, .z, .z, .z, .s, .z, .z, .s, .z, .s, .u, .u, .u]) (ds_if (Γ2 := [.z, .z, .s, .s, .z, .z, .z, .z, .z, .s, .z, .z, .s, .z, .s, .u, .u, .u]) (de_weakT (dt_or (dt_not (dt_tru (de_isi (by rfl) (He.free_ok X G (c.1.fact 10 (f := .free "isinstance") (by rfl))) boot_isinstance (ansB_bool X G c) (.ty "bool") (de_var (i := 14) (w := .s) (by rfl) (by first | exact .inl rfl | exact .inr (.inl rfl) | exact .inr (.inr rfl)) (by rfl) (by rfl)) (by rfl) (pe_bltn (by rfl) (He.free_ok X G (c.1.fact 12 (f := .free "bool") (by rfl))) boot_bool (by rfl))))) (dt_or1 (dt_cmp (op_neD (Room.units hr)) (d2_ne (by rfl) (by rfl)) (de_var (i := 14) (w := .s) (by rfl) (by first | exact .inl rfl | exact .inr (.inl rfl) | exact .inr (.inr rfl)) (by rfl) (by rfl)) (de_var (i := 12) (w := .s) (by rfl) (by first | exact .inl rfl | exact .inr (.inl rfl) | exact .inr (.inr rfl)) (by rfl) (by rfl)))) (by rfl)))
      (dss_one (ds_ret de_bl (by rfl) (by rfl)))
      dss_nil)
      (dss_one (ds_weak (Γ1 := [.z, .z, .s, .s, .z, .z, .z, .z, .z, .s, .z, .z, .s, .z, .s, .u, .u, .u]) (ds_if (Γ2 := [.z, .z, .s, .s, .z, .z, .z, .z, .z, .s, .z, .z, .s, .z, .s, .u, .u, .u]) (dt_cmp (op_neX (Room.units hr)) (d2_neX (by rfl) (by rfl)) (de_var (i := 13) (w := .z) (by rfl) (by first | exact .inl rfl | exact .inr (.inl rfl) | exact .inr (.inr rfl)) (by rfl) (by rfl)) (de_callP fo__law_value (hr.mono (by decide)) takesX (by rfl) (He.glo_ok X G (c.1.fact 46 (f := .glo "_law_value") (by rfl))) fk__law_value fb__law_value (da_cons (de_var (i := 0) (w := .z) (by rfl) (by first | exact .inl rfl | exact .inr (.inl rfl) | exact .inr (.inr rfl)) (by rfl) (by rfl)) (da_cons (de_w (w' := .z) (de_var (i := 9) (w := .s) (by rfl) (by first | exact .inl rfl | exact .inr (.inl rfl) | exact .inr (.inr rfl)) (by rfl) (by rfl)) (by rfl)) (da_cons (de_w (w' := .z) (de_var (i := 2) (w := .s) (by rfl) (by first | exact .inl rfl | exact .inr (.inl rfl) | exact .inr (.inr rfl)) (by rfl) (by rfl)) (by rfl)) (da_cons (de_w (w' := .z) (de_var (i := 3) (w := .s) (by rfl) (by first | exact .inl rfl | exact .inr (.inl rfl) | exact .inr (.inr rfl)) (by rfl) (by rfl)) (by rfl)) da_nil)))) (by rfl)))
      (dss_one (ds_ret de_bl (by rfl) (by rfl)))
      dss_nil) (by rfl))))))))
      (dss_one (ds_ret (de_and (de_cmp (op_eqD (Room.units hr)) (d2_eq (by rfl) (by rfl)) (de_methP0 (ci := 0) (m := "wishes") (de_var (i := 8) (w := .z) (by rfl) (by first | exact .inl rfl | exact .inr (.inl rfl) | exact .inr (.inr rfl)) (by rfl) (by rfl)) (by rfl) (cd_Amounts X G c) (He.meth_ok (c.1.fact 36 (f := .meth "Amounts" "wishes") (by rfl))) (by rfl) fo_Amounts_wishes (hr.mono (by decide)) takesX fb_Amounts_wishes (by rfl)) (de_var (i := 11) (w := .z) (by rfl) (by first | exact .inl rfl | exact .inr (.inl rfl) | exact .inr (.inr rfl)) (by rfl) (by rfl))) (by rfl) (de_one (de_cmp (op_eqD (Room.units hr)) (d2_eq (by rfl) (by rfl)) (de_methP0 (ci := 5) (m := "rows") (de_var (i := 7) (w := .z) (by rfl) (by first | exact .inl rfl | exact .inr (.inl rfl) | exact .inr (.inr rfl)) (by rfl) (by rfl)) (by rfl) (cd_Table X G c) (He.meth_ok (c.1.fact 32 (f := .meth "Table" "rows") (by rfl))) (by rfl) fo_Table_rows (hr.mono (by decide)) takesX fb_Table_rows (by rfl)) (de_var (i := 4) (w := .z) (by rfl) (by first | exact .inl rfl | exact .inr (.inl rfl) | exact .inr (.inr rfl)) (by rfl) (by rfl)))) (by rfl)) (by rfl) (by rfl)))))))))))))
end

end Dv.Lw
namespace Dv.Lw
open PySem PySem.Spec PyProof.Rows L2 Dv
/-! ### draws -/
theorem law_cell_eq (ns : List Int) (k : Nat) : F__law_cell [.scr ns, .int k] = .ok (.int (ns.getD k 0), []) := by
  unfold F__law_cell S__law_cell
  by_cases h : k < ns.length
  · have e : atI ns (k : Int) = some ns[k] := atI_nat (by simp [h])
    simp [runF_ap, h, e]
  · simp [runF_ap, h]
theorem law_mixed_ex (c k : Int) : ∃ r : Int, 0 ≤ r ∧ r < 2147483399 ∧ F__law_mixed [.int c, .int k] = .ok (.int r, []) := by
  unfold F__law_mixed S__law_mixed
  have a1 : CMulA 7919 k := mulL (by decide) (by decide)
  have a2 : ∀ x : Int, CMulA x 48271 := fun x => mulR (by decide) (by decide)
  have a3 : ∀ x y : Int, CMulA (x % 2147483647) y := fun x y => mulL (by omega) (by omega)
  have d1 : ∀ x : Int, CDivW x 1009 := fun x => divS (by decide) (by decide)
  have d2 : ∀ x : Int, CDivW x 2003 := fun x => divS (by decide) (by decide)
  simp [runF_ap, a1, a2, a3, d1, d2]
  exact ⟨Int.emod_nonneg _ (by decide), Int.emod_lt_of_pos _ (by decide)⟩
/-- each drawn number is below its size -/
def Fits : List Int → List Int → Prop
  | [], [] => True
  | d :: ds, s :: ss => 0 ≤ d ∧ d < s ∧ Fits ds ss
  | _, _ => False
theorem Fits.len : ∀ {ds ss : List Int}, Fits ds ss → ds.length = ss.length
  | [], [], _ => rfl
  | [], _ :: _, h => h.elim
  | _ :: _, [], h => h.elim
  | _ :: _, _ :: _, h => by simp [Fits.len h.2.2]
theorem Fits.get : ∀ {ds ss : List Int} {i : Nat} {s : Int}, Fits ds ss → ss[i]? = some s → ∃ d, ds[i]? = some d ∧ 0 ≤ d ∧ d < s
  | [], [], _, _, _, e => by simp at e
  | [], _ :: _, _, _, h, _ => h.elim
  | _ :: _, [], _, _, h, _ => h.elim
  | d :: ds, s :: ss, 0, _, h, e => by simp at e; subst e; exact ⟨d, rfl, h.1, h.2.1⟩
  | d :: ds, s :: ss, i + 1, _, h, e => by simpa using Fits.get (i := i) h.2.2 (by simpa using e)
/-- what a size may be -/
def SzOk (s : Int) : Prop := 0 < s ∧ s.natAbs < 2 ^ 8000
theorem law_draws_loop (scr szs : D) (cell spot : Int) : ∀ (ss : List Int) (n : Nat) (left : Int) (acc : List Int) (a b c : D), (∀ s ∈ ss, SzOk s) → acc.length + ss.length ≤ 1000 →
    ∃ (ds : List Int) (left' : Int) (a' b' c' : D), Fits ds ss ∧ forL (pTup (psCons (pName 6) (psCons (pName 7) psNil))) B__law_draws_0 (enumF n (ss.map D.int))
      [scr, .int spot, szs, .int cell, .int left, .lst (acc.map D.int), a, b, c] = .ok (.nx, [scr, .int spot, szs, .int cell, .int left', .lst ((acc ++ ds).map D.int), a', b', c'])
  | [], n, left, acc, a, b, c, _, _ => ⟨[], left, a, b, c, trivial, by simp [enumF, forL]⟩
  | s :: ss, n, left, acc, a, b, c, hs, hl => by
    obtain ⟨s0, s1⟩ := hs s List.mem_cons_self
    have hs' : ∀ x ∈ ss, SzOk x := fun x hx => hs x (List.mem_cons_of_mem _ hx)
    have p18 : CPow 10 18 := by decide
    have p8 : CPow 10 8 := by decide
    have p22 : CPow 10 22 := by decide
    have dv : ∀ x : Int, CDivW x s := fun x => divW 8000 s0 s1
    have d16 : ∀ x : Int, CDivW x 16 := fun x => divS (by decide) (by decide)
    have m1 : CMulA 1009 spot := mulL (by decide) (by decide)
    have hlen : acc.length < SZ := by simp only [List.length_cons] at hl; unfold SZ; omega
    obtain ⟨r1, q1, q2, q3⟩ := law_mixed_ex cell (1009 * spot + n)
    obtain ⟨r2, q4, q5, q6⟩ := law_mixed_ex (cell + 1) (1009 * spot + n)
    have m2 : ∀ y, CMulA (r1 / 16) y := fun y => mulL (by omega) (by omega)
    have hl2 : (acc ++ [left % s]).length + ss.length ≤ 1000 := by simp at hl ⊢; omega
    rw [List.map_cons, enumF]
    by_cases h1 : (10 : Int) ^ 18 ≤ cell ∧ 0 < left
    · obtain ⟨ds, l', a', b', c', f, e⟩ := law_draws_loop scr szs cell spot ss (n + 1) (left / s) (acc ++ [left % s]) (.int n) (.int s) c hs' hl2
      refine ⟨left % s :: ds, l', a', b', c', ⟨Int.emod_nonneg _ (by omega), Int.emod_lt_of_pos _ s0, f⟩, ?_⟩
      have h1a := h1.1
      have h1b := h1.2
      simp at h1a
      rw [forL_nx (ρ1 := [scr, .int spot, szs, .int cell, .int left, .lst (acc.map D.int), .int n, .int s, c]) (ρ' := [scr, .int spot, szs, .int cell, .int (left / s), .lst ((acc ++ [left % s]).map D.int), .int n, .int s, c]) rfl (by
        unfold B__law_draws_0
        simp [p18, h1a, h1b, dv, s0, hlen]), e]
      simp
    · have hn : ¬ (1000000000000000000 ≤ cell ∧ 0 < left) := by
        have e : (10 : Int) ^ 18 = 1000000000000000000 := by decide
        rw [← e]; exact h1
      by_cases h2 : 100000000 < s
      · obtain ⟨ds, l', a', b', c', f, e⟩ := law_draws_loop scr szs cell spot ss (n + 1) left (acc ++ [(r1 / 16 * 10000000000000000000009 + r2 / 16) % s]) (.int n) (.int s) (.int (r1 / 16 * 10000000000000000000009 + r2 / 16)) hs' (by simpa using hl2)
        refine ⟨(r1 / 16 * 10000000000000000000009 + r2 / 16) % s :: ds, l', a', b', c', ⟨Int.emod_nonneg _ (by omega), Int.emod_lt_of_pos _ s0, f⟩, ?_⟩
        rw [forL_nx (ρ1 := [scr, .int spot, szs, .int cell, .int left, .lst (acc.map D.int), .int n, .int s, c]) (ρ' := [scr, .int spot, szs, .int cell, .int left, .lst ((acc ++ [(r1 / 16 * 10000000000000000000009 + r2 / 16) % s]).map D.int), .int n, .int s, .int (r1 / 16 * 10000000000000000000009 + r2 / 16)]) rfl (by
          unfold B__law_draws_0
          by_cases h3 : 1000000000000000000 ≤ cell
          · have h4 : ¬ 0 < left := fun z => hn ⟨h3, z⟩
            simp [p18, p8, p22, h3, h4, h2, d16, m1, q3, q6, m2, s0, hlen]
          · simp [p18, p8, p22, h3, h2, d16, m1, q3, q6, m2, s0, hlen]), e]
        simp
      · obtain ⟨ds, l', a', b', c', f, e⟩ := law_draws_loop scr szs cell spot ss (n + 1) left (acc ++ [(r1 / 16) % s]) (.int n) (.int s) (.int (r1 / 16)) hs' (by simpa using hl2)
        refine ⟨(r1 / 16) % s :: ds, l', a', b', c', ⟨Int.emod_nonneg _ (by omega), Int.emod_lt_of_pos _ s0, f⟩, ?_⟩
        rw [forL_nx (ρ1 := [scr, .int spot, szs, .int cell, .int left, .lst (acc.map D.int), .int n, .int s, c]) (ρ' := [scr, .int spot, szs, .int cell, .int left, .lst ((acc ++ [(r1 / 16) % s]).map D.int), .int n, .int s, .int (r1 / 16)]) rfl (by
          unfold B__law_draws_0
          by_cases h3 : 1000000000000000000 ≤ cell
          · have h4 : ¬ 0 < left := fun z => hn ⟨h3, z⟩
            simp [p18, p8, p22, h3, h4, h2, d16, m1, q3, s0, hlen]
          · simp [p18, p8, p22, h3, h2, d16, m1, q3, s0, hlen]), e]
        simp
theorem law_draws_ex (ns : List Int) (spot : Nat) (ss : List Int) (hs : ∀ s ∈ ss, SzOk s) (hl : ss.length ≤ 1000) : ∃ ds : List Int, Fits ds ss ∧ F__law_draws [.scr ns, .int spot, .lst (ss.map D.int)] = .ok (.lst (ds.map D.int), []) := by
  obtain ⟨ds, l', a', b', c', f, e⟩ := law_draws_loop (.scr ns) (.lst (ss.map D.int)) (ns.getD spot 0) spot ss 0 (ns.getD spot 0) [] .non .non .non hs (by simpa using hl)
  refine ⟨ds, f, ?_⟩
  unfold F__law_draws S__law_draws
  have e2 := law_cell_eq ns spot
  simp at e
  simp [runF_ap, e2, enumD_F, e]
end Dv.Lw
namespace Dv.Lw
open PySem PySem.Spec PyProof.Rows L2 Dv
/-! ### grids -/
/-- an entry: a number or None -/
def gD : Option Int → D
  | some i => .int i
  | none => .non
def Bnd (x : Int) : Prop := x.natAbs < 2 ^ 200
theorem mulBnd {x y : Int} (h1 : Bnd x) (h2 : Bnd y) : CMulA x y := mulW 200 200 h1 h2
def rowD (r : List (Option Int)) : D := .lst (r.map gD)
def gridD (g : List (List (Option Int))) : D := .lst (g.map rowD)
@[simp] theorem isNon_gD (o : Option Int) : isNon (gD o) = o.isNone := by cases o <;> rfl
theorem atI_I (xs : List Int) {i : Int} {j : Nat} {v : Int} (e : i = (j : Int)) (h : xs[j]? = some v) : atI (xs.map D.int) i = some (.int v) := by
  subst e
  exact atI_nat (by simp [h])
theorem law_grid_row (scr spotD szs gacc : D) (m n i : Nat) (style share sp : Int) (ds hs ws : List Int) (hn : n ≤ 8) (hi : i < m) (hm : m ≤ 8) (hsh : 0 ≤ share) (ld : ds.length = m * n + (m + n)) (lh : hs.length = m) (lw : ws.length = n)
    (bh : ∀ x ∈ hs, Bnd x) (bw : ∀ x ∈ ws, Bnd x) : ∀ (k j0 : Nat) (r : List (Option Int)) (a b c : D), j0 + k = n → r.length = j0 →
    ∃ (r' : List (Option Int)) (a' b' c' : D), r'.length = k ∧ forL (pName 14) B__law_grid_0 ((List.range' j0 k).map fun (j : Nat) => D.int j)
      [scr, spotD, .int m, .int n, .int style, .int share, .int sp, szs, .lst (ds.map D.int), .lst (hs.map D.int), .lst (ws.map D.int), gacc, .int i, rowD r, a, b, c] =
      .ok (.nx, [scr, spotD, .int m, .int n, .int style, .int share, .int sp, szs, .lst (ds.map D.int), .lst (hs.map D.int), .lst (ws.map D.int), gacc, .int i, rowD (r ++ r'), a', b', c'])
  := by
  intro k
  induction k with
  | zero => exact fun j0 r a b c _ _ => ⟨[], a, b, c, rfl, by simp [forL_nil]⟩
  | succ k ih =>
    intro j0 r a b c hj hr
    have hlt : i * n + j0 < ds.length := by
      rw [ld]
      have : i * n + n ≤ m * n := by
        have : (i + 1) * n ≤ m * n := Nat.mul_le_mul_right n hi
        rw [Nat.add_mul] at this; omega
      omega
    obtain ⟨x, ex⟩ : ∃ x, ds[i * n + j0]? = some x := ⟨_, List.getElem?_eq_getElem hlt⟩
    obtain ⟨h, eh⟩ : ∃ x, hs[i]? = some x := ⟨_, List.getElem?_eq_getElem (by omega)⟩
    obtain ⟨w, ew⟩ : ∃ x, ws[j0]? = some x := ⟨_, List.getElem?_eq_getElem (by omega)⟩
    have e1 : atI (ds.map D.int) ((i : Int) * (n : Int) + (j0 : Int)) = some (.int x) := atI_I ds (by push_cast; rfl) ex
    have e2 : atI (hs.map D.int) (i : Int) = some (.int h) := atI_I hs rfl eh
    have e3 : atI (ws.map D.int) (j0 : Int) = some (.int w) := atI_I ws rfl ew
    have c1 : CMulA (i : Int) (n : Int) := mulL (by omega) (by omega)
    have c2 : CMulA 2 w := mulL (by decide) (by decide)
    have c3 : CMulA h w := mulBnd (bh h (List.mem_of_getElem? eh)) (bw w (List.mem_of_getElem? ew))
    have d1 : CDivW x 18 := divS (by decide) (by decide)
    have d2 : CDivW sp 3 := divS (by decide) (by decide)
    have hmx : 0 < max 1 share := by omega
    have hsz : r.length < SZ := by unfold SZ; omega
    let o : Option Int := if 0 < share ∧ x % max 1 share = 0 then none else some (if 4 ≤ style then h + 2 * w - h * w else x / 18 - sp / 3)
    obtain ⟨r', a', b', c', l', e⟩ := ih (j0 + 1) (r ++ [o]) (.int j0) (.int x) (gD o) (by omega) (by simp [hr])
    refine ⟨o :: r', a', b', c', by simp [l'], ?_⟩
    rw [List.range'_succ, List.map_cons]
    rw [forL_nx (ρ1 := [scr, spotD, .int m, .int n, .int style, .int share, .int sp, szs, .lst (ds.map D.int), .lst (hs.map D.int), .lst (ws.map D.int), gacc, .int i, rowD r, .int j0, b, c]) (ρ' := [scr, spotD, .int m, .int n, .int style, .int share, .int sp, szs, .lst (ds.map D.int), .lst (hs.map D.int), .lst (ws.map D.int), gacc, .int i, rowD (r ++ [o]), .int j0, .int x, gD o]) rfl (by
      unfold B__law_grid_0 rowD
      by_cases q1 : 4 ≤ style <;> by_cases q2 : 0 < share <;> by_cases q3 : x % max 1 share = 0 <;> simp [o, e1, e2, e3, c1, c2, c3, d1, d2, hmx, hsz, q1, q2, q3, gD]), e]
    simp
theorem law_grid_rows (scr spotD szs : D) (m n : Nat) (style share sp : Int) (ds hs ws : List Int) (hn : n ≤ 8) (hm : m ≤ 8) (hsh : 0 ≤ share) (ld : ds.length = m * n + (m + n)) (lh : hs.length = m) (lw : ws.length = n)
    (bh : ∀ x ∈ hs, Bnd x) (bw : ∀ x ∈ ws, Bnd x) : ∀ (k i0 : Nat) (g : List (List (Option Int))) (z y a b c : D), i0 + k = m → g.length = i0 →
    ∃ (g' : List (List (Option Int))) (z' y' a' b' c' : D), g'.length = k ∧ (∀ r ∈ g', r.length = n) ∧ forL (pName 12) B__law_grid_1 ((List.range' i0 k).map fun (j : Nat) => D.int j)
      [scr, spotD, .int m, .int n, .int style, .int share, .int sp, szs, .lst (ds.map D.int), .lst (hs.map D.int), .lst (ws.map D.int), gridD g, z, y, a, b, c] =
      .ok (.nx, [scr, spotD, .int m, .int n, .int style, .int share, .int sp, szs, .lst (ds.map D.int), .lst (hs.map D.int), .lst (ws.map D.int), gridD (g ++ g'), z', y', a', b', c'])
  := by
  intro k
  induction k with
  | zero => exact fun i0 g z y a b c _ _ => ⟨[], z, y, a, b, c, rfl, by simp, by simp [forL_nil]⟩
  | succ k ih =>
    intro i0 g z y a b c hi hg
    obtain ⟨r, a1, b1, c1, lr, er⟩ := law_grid_row scr spotD szs (gridD g) m n i0 style share sp ds hs ws hn (by omega) hm hsh ld lh lw bh bw n 0 [] a b c (by omega) rfl
    obtain ⟨g', z', y', a', b', c', l', lr', e⟩ := ih (i0 + 1) (g ++ [r]) (.int i0) (rowD r) a1 b1 c1 (by omega) (by simp [hg])
    refine ⟨r :: g', z', y', a', b', c', by simp [l'], by simpa [lr] using lr', ?_⟩
    rw [List.range'_succ, List.map_cons]
    have hsz : g.length < SZ := by unfold SZ; omega
    have hr1 : rngOk (n : Int) := by unfold rngOk; omega
    have er2 := er
    simp only [List.nil_append] at er2
    have e0 : rowD [] = .lst [] := rfl
    rw [e0, ← List.range_eq_range'] at er2
    rw [forL_nx (ρ1 := [scr, spotD, .int m, .int n, .int style, .int share, .int sp, szs, .lst (ds.map D.int), .lst (hs.map D.int), .lst (ws.map D.int), gridD g, .int i0, y, a, b, c]) (ρ' := [scr, spotD, .int m, .int n, .int style, .int share, .int sp, szs, .lst (ds.map D.int), .lst (hs.map D.int), .lst (ws.map D.int), gridD (g ++ [r]), .int i0, rowD r, a1, b1, c1]) rfl (by
      unfold B__law_grid_1
      simp [hr1, rngD_map]
      rw [er2]
      simp [gridD, hsz]), e]
    simp
theorem mem_fits {ds ss : List Int} (h : Fits ds ss) (hb : ∀ s ∈ ss, Bnd s) : ∀ d ∈ ds, Bnd d := by
  induction ds generalizing ss with
  | nil => simp
  | cons d ds ih =>
    cases ss with
    | nil => exact h.elim
    | cons s ss =>
      intro x hx
      rcases List.mem_cons.mp hx with rfl | hx
      · have h0 := hb s List.mem_cons_self
        have h1 := h.1
        have h2 := h.2.1
        unfold Bnd at h0 ⊢
        exact Nat.lt_of_le_of_lt (by omega) h0
      · exact ih h.2.2 (fun s hs => hb s (List.mem_cons_of_mem _ hs)) x hx
end Dv.Lw
namespace Dv
open L2
theorem sSeq_nx {a b : GS} {ρ ρ' : En} (h : a ρ = .ok (.nx, ρ')) : sSeq a b ρ = b ρ' := by rw [sSeq_ap, h]
theorem sSeq_rt {a b : GS} {ρ ρ' : En} {d : D} (h : a ρ = .ok (.rt d, ρ')) : sSeq a b ρ = .ok (.rt d, ρ') := by rw [sSeq_ap, h]
theorem sSeq_bk {a b : GS} {ρ ρ' : En} (h : a ρ = .ok (.bk, ρ')) : sSeq a b ρ = .ok (.bk, ρ') := by rw [sSeq_ap, h]
theorem atI_lit {α : Type} {xs : List α} {i : Int} {j : Nat} {v : α} (e : i = (j : Int)) (h : xs[j]? = some v) : atI xs i = some v := by
  subst e
  exact atI_nat h
theorem fRep_nat (xs : List D) (k : Nat) (h1 : k < 100000) (h2 : xs.length * k ≤ SZ) : fRep (.lst xs) (.int (k : Int)) = some (.lst (List.replicate k xs).flatten) := by
  rw [fRep_li, if_pos ⟨by omega, by simpa using h2, by omega⟩]
  simp
end Dv
namespace Dv.Lw
open PySem PySem.Spec PyProof.Rows L2 Dv
def SpOk (sp : Int) : Prop := 0 < sp ∧ sp ≤ 100000000000000000000000000000000000000000000000000000000000
instance {sp : Int} : Decidable (SpOk sp) := by unfold SpOk; infer_instance
theorem cpow59 : CPow 10 59 := by decide
theorem cpow29 : CPow 10 29 := by decide
theorem cpow58 : CPow 10 58 := by decide
theorem Fits.drop : ∀ {ds ss : List Int} (k : Nat), Fits ds ss → Fits (ds.drop k) (ss.drop k)
  | ds, ss, 0, h => h
  | [], [], _ + 1, h => h
  | [], _ :: _, _ + 1, h => h.elim
  | _ :: _, [], _ + 1, h => h.elim
  | _ :: ds, _ :: ss, k + 1, h => Fits.drop k h.2.2
theorem Fits.take : ∀ {ds ss : List Int} (k : Nat), Fits ds ss → Fits (ds.take k) (ss.take k)
  | ds, ss, 0, h => by simp [Fits]
  | [], [], _ + 1, h => h
  | [], _ :: _, _ + 1, h => h.elim
  | _ :: _, [], _ + 1, h => h.elim
  | _ :: ds, _ :: ss, k + 1, h => ⟨h.1, h.2.1, Fits.take k h.2.2⟩
theorem Fits.nn : ∀ {ds ss : List Int}, Fits ds ss → ∀ d ∈ ds, 0 ≤ d
  | [], _, _, d, h => by simp at h
  | _ :: _, [], h, _, _ => h.elim
  | d :: ds, s :: ss, h, x, hx => by
    rcases List.mem_cons.mp hx with rfl | hx
    · exact h.1
    · exact Fits.nn h.2.2 x hx
theorem SpOk.bnd {sp : Int} (h : SpOk sp) : Bnd sp := by
  unfold Bnd
  have e : (100000000000000000000000000000000000000000000000000000000000 : Nat) < 2 ^ 200 := by decide
  exact Nat.lt_of_le_of_lt (by have := h.1; have := h.2; omega) e
theorem szOk_of {s : Int} (h0 : 0 < s) (h : s ≤ 100000000000000000000000000000000000000000000000000000000000 * 18) : SzOk s := by
  refine ⟨h0, ?_⟩
  have e : (100000000000000000000000000000000000000000000000000000000000 * 18 : Nat) < 2 ^ 8000 := by decide +kernel
  exact Nat.lt_of_le_of_lt (by omega) e
theorem law_grid_ex (ns : List Int) (spot m n : Nat) (style share : Int) (hm0 : 1 ≤ m) (hm : m ≤ 8) (hn0 : 1 ≤ n) (hn : n ≤ 8) (hs0 : 0 ≤ style) (hs : style < 8) (hsh : 0 ≤ share) :
    ∃ g : List (List (Option Int)), g.length = m ∧ (∀ r ∈ g, r.length = n) ∧ F__law_grid [.scr ns, .int spot, .int m, .int n, .int style, .int share] = .ok (gridD g, []) := by
  have first : ∀ (b : GS) (a7 a8 a9 a10 a11 a12 a13 a14 a15 a16 : D), ∃ sp, SpOk sp ∧ (sSeq (sAsg (gOp fIx (gLst (gaCons (gC (.int 3)) (gaCons (gC (.int 8)) (gaCons (gC (.int 1000)) (gaCons (gOp fPow (gC (.int 10)) (gC (.int 59))) gaNil))))) (gOp fMod (gVar 4) (gC (.int 4)))) (pName 6)) (sSeq (sIf (tVal (gOp fEq (gVar 4) (gC (.int 7)))) (sAsg (gOp fPow (gC (.int 10)) (gC (.int 29))) (pName 6)) sNil) b)) [.scr ns, .int spot, .int m, .int n, .int style, .int share, .non, a7, a8, a9, a10, a11, a12, a13, a14, a15, a16] = b [.scr ns, .int spot, .int m, .int n, .int style, .int share, .int sp, a7, a8, a9, a10, a11, a12, a13, a14, a15, a16] := by
    intro b a7 a8 a9 a10 a11 a12 a13 a14 a15 a16
    have c59 := cpow59
    have c29 := cpow29
    have h4 : style = 0 ∨ style = 1 ∨ style = 2 ∨ style = 3 ∨ style = 4 ∨ style = 5 ∨ style = 6 ∨ style = 7 := by omega
    have ix : ∀ (x0 x1 x2 x3 : D), atI [x0, x1, x2, x3] 0 = some x0 ∧ atI [x0, x1, x2, x3] 1 = some x1 ∧ atI [x0, x1, x2, x3] 2 = some x2 ∧ atI [x0, x1, x2, x3] 3 = some x3 := fun _ _ _ _ => ⟨rfl, rfl, rfl, rfl⟩
    rcases h4 with rfl | rfl | rfl | rfl | rfl | rfl | rfl | rfl
    · exact ⟨3, by decide, by simp [c59, ix]⟩
    · exact ⟨8, by decide, by simp [c59, ix]⟩
    · exact ⟨1000, by decide, by simp [c59, ix]⟩
    · exact ⟨10 ^ 59, by decide, by simp [c59, ix]⟩
    · exact ⟨3, by decide, by simp [c59, ix]⟩
    · exact ⟨8, by decide, by simp [c59, ix]⟩
    · exact ⟨1000, by decide, by simp [c59, ix]⟩
    · exact ⟨10 ^ 29, by decide, by simp [c59, c29, ix]⟩
  unfold F__law_grid S__law_grid
  obtain ⟨sp, sok, e1⟩ := first _ .non .non .non .non .non .non .non .non .non .non
  have hmn : m * n ≤ 64 := Nat.mul_le_mul hm hn
  let ss : List Int := List.replicate (m * n) (18 * sp) ++ List.replicate (m + n) sp
  have ls : ss.length = m * n + (m + n) := by simp [ss]
  obtain ⟨ds, fd, ed⟩ := law_draws_ex ns spot ss (fun s hs => by
    have h0 := sok.1
    have h1 := sok.2
    rcases List.mem_append.mp hs with h | h
    · rw [List.eq_of_mem_replicate h]; exact szOk_of (by omega) (by omega)
    · rw [List.eq_of_mem_replicate h]; exact szOk_of h0 (by omega)) (by omega)
  have ld : ds.length = m * n + (m + n) := fd.len.trans ls
  have f2 : Fits (ds.drop (m * n)) (List.replicate (m + n) sp) := by
    have := fd.drop (m * n)
    simpa [ss] using this
  have b2 : ∀ d ∈ ds.drop (m * n), Bnd d := mem_fits f2 fun s hs => by rw [List.eq_of_mem_replicate hs]; exact sok.bnd
  obtain ⟨g, z', y', a', b', c', lg, lr, eg⟩ := law_grid_rows (.scr ns) (.int spot) (.lst (ss.map D.int)) m n style share sp ds ((ds.drop (m * n)).take m) (ds.drop (m * n + m)) hn hm hsh ld (by simp [ld] <;> omega) (by simp [ld] <;> omega)
    (fun x hx => b2 x (List.mem_of_mem_take hx)) (fun x hx => b2 x (by
      have : ds.drop (m * n + m) = (ds.drop (m * n)).drop m := by rw [List.drop_drop]
      rw [this] at hx
      exact List.mem_of_mem_drop hx)) m 0 [] .non .non .non .non .non (by omega) rfl
  refine ⟨g, lg, lr, ?_⟩
  have c1 : CMulA 18 sp := mulL (by decide) (by decide)
  have c2 : CMulA (m : Int) (n : Int) := mulL (by omega) (by omega)
  have emn : ((m : Int) * (n : Int)) = ((m * n : Nat) : Int) := by push_cast; rfl
  have emn2 : ((m : Int) * (n : Int)) + (m : Int) = ((m * n + m : Nat) : Int) := by push_cast; rfl
  have emn3 : ((m : Int) + (n : Int)) = ((m + n : Nat) : Int) := by push_cast; rfl
  have hszs : (List.replicate (m * n) [D.int (18 * sp)]).flatten ++ (List.replicate (m + n) [D.int sp]).flatten = ss.map D.int := by
    simp [ss, List.flatten_replicate_singleton]
  have hr : rngOk (m : Int) := by unfold rngOk; omega
  simp only [List.nil_append, ← List.range_eq_range'] at eg
  rw [runF_ap]
  show (match sSeq _ _ [D.scr ns, .int spot, .int m, .int n, .int style, .int share, .non, .non, .non, .non, .non, .non, .non, .non, .non, .non, .non] with
    | .ok (.rt d, ρ) => Res.ok (d, outsOf [] ρ)
    | .ok _ => .stk
    | .err c fs ρ => .err c fs (outsOf [] ρ)
    | .stk => .stk) = _
  rw [e1]
  have hA : (sAsg (gOp fCat (gOp fRep (gLst (gaCons (gOp fMul (gC (.int 18)) (gVar 6)) gaNil)) (gOp fMul (gVar 2) (gVar 3))) (gOp fRep (gLst (gaCons (gVar 6) gaNil)) (gOp fAdd (gVar 2) (gVar 3)))) (pName 7)) [D.scr ns, .int spot, .int m, .int n, .int style, .int share, .int sp, .non, .non, .non, .non, .non, .non, .non, .non, .non, .non] =
      .ok (.nx, [D.scr ns, .int spot, .int m, .int n, .int style, .int share, .int sp, .lst (ss.map D.int), .non, .non, .non, .non, .non, .non, .non, .non, .non]) := by
    have r1 : fRep (.lst [D.int (18 * sp)]) (.int ((m : Int) * (n : Int))) = some (.lst (List.replicate (m * n) [D.int (18 * sp)]).flatten) := by
      rw [emn]; exact fRep_nat _ _ (by omega) (by unfold SZ; simp; omega)
    have r2 : fRep (.lst [D.int sp]) (.int ((m : Int) + (n : Int))) = some (.lst (List.replicate (m + n) [D.int sp]).flatten) := by
      rw [emn3]; exact fRep_nat _ _ (by omega) (by unfold SZ; simp; omega)
    have r3 : fCat (.lst (List.replicate (m * n) [D.int (18 * sp)]).flatten) (.lst (List.replicate (m + n) [D.int sp]).flatten) = some (.lst (ss.map D.int)) := by
      rw [fCat_ll, hszs, if_pos]
      simp only [List.flatten_replicate_singleton, List.length_replicate]
      unfold SZ; omega
    simp [-fRep_li, -fCat_ll, -List.flatten_replicate_singleton, c1, c2, r1, r2, r3]
  rw [sSeq_nx hA, sSeq_nx (ρ' := [D.scr ns, .int spot, .int m, .int n, .int style, .int share, .int sp, .lst (ss.map D.int), .lst (ds.map D.int), .non, .non, .non, .non, .non, .non, .non, .non]) (by simp [ed])]
  rw [sSeq_nx (ρ' := [D.scr ns, .int spot, .int m, .int n, .int style, .int share, .int sp, .lst (ss.map D.int), .lst (ds.map D.int), .lst (((ds.drop (m * n)).take m).map D.int), .non, .non, .non, .non, .non, .non, .non]) (by
    simp [c2]
    rw [emn2, emn, cut_both _ _ _ (by omega) (by simp; omega)]
    simp [List.map_take, List.map_drop])]
  rw [sSeq_nx (ρ' := [D.scr ns, .int spot, .int m, .int n, .int style, .int share, .int sp, .lst (ss.map D.int), .lst (ds.map D.int), .lst (((ds.drop (m * n)).take m).map D.int), .lst ((ds.drop (m * n + m)).map D.int), .non, .non, .non, .non, .non, .non]) (by
    simp [c2]
    rw [emn2, cut_from _ _ (by simp; omega)])]
  rw [sSeq_nx (ρ' := [D.scr ns, .int spot, .int m, .int n, .int style, .int share, .int sp, .lst (ss.map D.int), .lst (ds.map D.int), .lst (((ds.drop (m * n)).take m).map D.int), .lst ((ds.drop (m * n + m)).map D.int), gridD [], .non, .non, .non, .non, .non]) (by simp [gridD])]
  rw [sSeq_nx (ρ' := _) (by
    simp only [sFor_ap, iRg_ap, gaCons_ap, gaNil_ap, gVar_ap, nth_succ, nth_zero, Res.bind_ok]
    rw [if_pos hr]
    simp only [Res.bind_ok, rngD_map]
    exact eg)]
  simp
end Dv.Lw
namespace Dv
open L2
theorem ixN_nat {n k : Nat} (h : k < n) : ixN n (k : Int) = some k := by
  unfold ixN
  rw [if_pos (by omega), if_pos (by omega)]; simp
theorem sAugIx_ok {i k : Nat} {f : Int → Int → Int} {g : En → Res (D × (D → D))} {gi ge : GE} {ρ ρ1 ρ2 : En} {xs : List D} {put : D → D} {a b : Int} (e1 : g ρ = .ok (.lst xs, put)) (e2 : gi ρ = .ok (.int (k : Int), ρ1)) (e3 : xs[k]? = some (.int a)) (e4 : ge ρ = .ok (.int b, ρ2)) :
    sAugIx i f g gi ge ρ = .ok (.nx, ρ2.set i (put (.lst (xs.set k (.int (f a b)))))) := by
  unfold sAugIx
  rw [e1]
  dsimp only
  rw [e2]
  dsimp only
  rw [ixN_nat (List.getElem?_eq_some_iff.mp e3).1]
  dsimp only
  rw [e3]
  dsimp only
  rw [e4]
  rfl
end Dv
namespace Dv.Lw
open PySem PySem.Spec PyProof.Rows L2 Dv
/-! ### amounts -/
def intsD (xs : List Int) : D := .lst (xs.map D.int)
theorem law_amounts_ex (ns : List Int) (spot m n : Nat) (many : Int) (level : Bool) (hm0 : 1 ≤ m) (hm : m ≤ 8) (hn0 : 1 ≤ n) (hn : n ≤ 8) (h0 : 0 ≤ many) (h1 : many < 4) :
    ∃ st wi : List Int, st.length = m ∧ wi.length = n ∧ (∀ x ∈ st, 0 ≤ x) ∧ (∀ x ∈ wi, 0 ≤ x) ∧ F__law_amounts [.scr ns, .int spot, .int m, .int n, .int many, .bl level] = .ok (.tup [intsD st, intsD wi], []) := by
  obtain ⟨sz, sok, esz⟩ : ∃ sz, SpOk sz ∧ (sAsg (gOp fIx (gLst (gaCons (gC (.int 2)) (gaCons (gC (.int 4)) (gaCons (gC (.int 1000)) (gaCons (gOp fPow (gC (.int 10)) (gC (.int 58))) gaNil))))) (gVar 4)) (pName 6)) [.scr ns, .int spot, .int m, .int n, .int many, .bl level, .non, .non, .non] = .ok (.nx, [.scr ns, .int spot, .int m, .int n, .int many, .bl level, .int sz, .non, .non]) := by
    have c58 := cpow58
    have ix : ∀ (x0 x1 x2 x3 : D), atI [x0, x1, x2, x3] 0 = some x0 ∧ atI [x0, x1, x2, x3] 1 = some x1 ∧ atI [x0, x1, x2, x3] 2 = some x2 ∧ atI [x0, x1, x2, x3] 3 = some x3 := fun _ _ _ _ => ⟨rfl, rfl, rfl, rfl⟩
    have h4 : many = 0 ∨ many = 1 ∨ many = 2 ∨ many = 3 := by omega
    rcases h4 with rfl | rfl | rfl | rfl
    · exact ⟨2, by decide, by simp [c58, ix]⟩
    · exact ⟨4, by decide, by simp [c58, ix]⟩
    · exact ⟨1000, by decide, by simp [c58, ix]⟩
    · exact ⟨10 ^ 58, by decide, by simp [c58, ix]⟩
  have emn3 : ((m : Int) + (n : Int)) = ((m + n : Nat) : Int) := by push_cast; rfl
  obtain ⟨ds, fd, ed⟩ := law_draws_ex ns spot (List.replicate (m + n) sz) (fun s hs => by
    rw [List.eq_of_mem_replicate hs]; exact szOk_of sok.1 (by have := sok.2; have := sok.1; omega)) (by simp; omega)
  have ld : ds.length = m + n := by rw [fd.len]; simp
  have r2 : fRep (.lst [D.int sz]) (.int ((m : Int) + (n : Int))) = some (.lst ((List.replicate (m + n) sz).map D.int)) := by
    rw [emn3, fRep_nat _ _ (by omega) (by unfold SZ; simp; omega)]
    simp
  have nn := fd.nn
  -- behind the level
  obtain ⟨es, le, ne, eo, oo, e5⟩ : ∃ (es : List Int), es.length = m + n ∧ (∀ x ∈ es, 0 ≤ x) ∧ True ∧ ∃ o : D, (sIf (tTru (gVar 5)) (sSeq (sAsg (gOp fSub (gLend (gBi fSum (gaCons (gSl fSl (gVar 7) oNone (oSome (gVar 2))) gaNil))) (gLend (gBi fSum (gaCons (gSl fSl (gVar 7) (oSome (gVar 2)) oNone) gaNil)))) (pName 8)) (sIf (tVal (gOp fGt (gVar 8) (gC (.int 0)))) (sAugIx 7 (fun i j => i + j) (plVar 7) (gOp fSub (gOp fAdd (gVar 2) (gVar 3)) (gC (.int 1))) (gVar 8)) (sAugIx 7 (fun i j => i - j) (plVar 7) (gC (.int 0)) (gVar 8)))) sNil) [.scr ns, .int spot, .int m, .int n, .int many, .bl level, .int sz, .lst (ds.map D.int), .non] =
      .ok (.nx, [.scr ns, .int spot, .int m, .int n, .int many, .bl level, .int sz, .lst (es.map D.int), o]) := by
    cases level with
    | false => exact ⟨ds, ld, nn, trivial, .non, by simp⟩
    | true =>
      let ov : Int := (ds.take m).sum - (ds.drop m).sum
      have c1 : cutD (ds.map D.int) none (some (m : Int)) = (ds.take m).map D.int := by rw [cut_to _ _ (by simp; omega)]; simp [List.map_take]
      have c2 : cutD (ds.map D.int) (some (m : Int)) none = (ds.drop m).map D.int := by rw [cut_from _ _ (by simp; omega)]; simp [List.map_drop]
      by_cases ho : 0 < ov
      · have hx : m + n - 1 < ds.length := by omega
        refine ⟨ds.set (m + n - 1) (ds[m + n - 1] + ov), by simp [ld], fun x hx2 => ?_, trivial, .int ov, ?_⟩
        · rcases List.mem_or_eq_of_mem_set hx2 with h | h
          · exact nn x h
          · rw [h]; have := nn ds[m + n - 1] (List.getElem_mem hx); omega
        · rw [sIf_ap]
          simp only [tTru_ap, gVar_ap, nth_succ, nth_zero, Res.bind_ok, fTru_bl, if_pos]
          rw [sSeq_nx (ρ' := [.scr ns, .int spot, .int m, .int n, .int many, .bl true, .int sz, .lst (ds.map D.int), .int ov]) (by simp [-List.map_take, -List.map_drop, c1, c2, ov])]
          rw [sIf_ap]
          have t : (tVal (gOp fGt (gVar 8) (gC (.int 0)))) [.scr ns, .int spot, .int m, .int n, .int many, .bl true, .int sz, .lst (ds.map D.int), .int ov] = .ok (true, [.scr ns, .int spot, .int m, .int n, .int many, .bl true, .int sz, .lst (ds.map D.int), .int ov]) := by simp [ho]
          rw [t]
          simp only [Res.bind_ok, if_pos]
          rw [sAugIx_ok (ρ1 := [.scr ns, .int spot, .int m, .int n, .int many, .bl true, .int sz, .lst (ds.map D.int), .int ov]) (ρ2 := [.scr ns, .int spot, .int m, .int n, .int many, .bl true, .int sz, .lst (ds.map D.int), .int ov]) (k := m + n - 1) (xs := ds.map D.int) (put := id) (a := ds[m + n - 1]) (b := ov) (by simp) (by simp; omega) (by simp [hx]) (by simp)]
          simp
      · have hx : 0 < ds.length := by omega
        refine ⟨ds.set 0 (ds[0] - ov), by simp [ld], fun x hx2 => ?_, trivial, .int ov, ?_⟩
        · rcases List.mem_or_eq_of_mem_set hx2 with h | h
          · exact nn x h
          · rw [h]; have := nn ds[0] (List.getElem_mem hx); omega
        · rw [sIf_ap]
          simp only [tTru_ap, gVar_ap, nth_succ, nth_zero, Res.bind_ok, fTru_bl, if_pos]
          rw [sSeq_nx (ρ' := [.scr ns, .int spot, .int m, .int n, .int many, .bl true, .int sz, .lst (ds.map D.int), .int ov]) (by simp [-List.map_take, -List.map_drop, c1, c2, ov])]
          rw [sIf_ap]
          have t : (tVal (gOp fGt (gVar 8) (gC (.int 0)))) [.scr ns, .int spot, .int m, .int n, .int many, .bl true, .int sz, .lst (ds.map D.int), .int ov] = .ok (false, [.scr ns, .int spot, .int m, .int n, .int many, .bl true, .int sz, .lst (ds.map D.int), .int ov]) := by simp [ho]
          rw [t]
          simp only [Res.bind_ok]
          rw [if_neg (by simp), sAugIx_ok (ρ1 := [.scr ns, .int spot, .int m, .int n, .int many, .bl true, .int sz, .lst (ds.map D.int), .int ov]) (ρ2 := [.scr ns, .int spot, .int m, .int n, .int many, .bl true, .int sz, .lst (ds.map D.int), .int ov]) (k := 0) (xs := ds.map D.int) (put := id) (a := ds[0]) (b := ov) (by simp) (by simp) (by simp [hx]) (by simp)]
          simp
  refine ⟨es.take m, es.drop m, by simp [le], by simp [le], fun x hx => ne x (List.mem_of_mem_take hx), fun x hx => ne x (List.mem_of_mem_drop hx), ?_⟩
  have c1 : cutD (es.map D.int) none (some (m : Int)) = (es.take m).map D.int := by rw [cut_to _ _ (by simp; omega)]; simp [List.map_take]
  have c2 : cutD (es.map D.int) (some (m : Int)) none = (es.drop m).map D.int := by rw [cut_from _ _ (by simp; omega)]; simp [List.map_drop]
  unfold F__law_amounts S__law_amounts
  rw [runF_ap]
  show (match sSeq _ _ [D.scr ns, .int spot, .int m, .int n, .int many, .bl level, .non, .non, .non] with
    | .ok (.rt d, ρ) => Res.ok (d, outsOf [] ρ)
    | .ok _ => .stk
    | .err c fs ρ => .err c fs (outsOf [] ρ)
    | .stk => .stk) = _
  rw [sSeq_nx esz, sSeq_nx (ρ' := [.scr ns, .int spot, .int m, .int n, .int many, .bl level, .int sz, .lst (ds.map D.int), .non]) (by simp [-fRep_li, -List.map_replicate, r2, ed]), sSeq_nx e5]
  simp [-List.map_take, -List.map_drop, c1, c2, intsD]
/-! ### copies -/
theorem law_copy_eq (g : List (List (Option Int))) (h : g.length ≤ 1000) : F__law_copy [gridD g] = .ok (gridD g, []) := by
  unfold F__law_copy S__law_copy gridD
  have e : lcM (lcF (pName 1) tYesD (gBi fList (gaCons (gVar 1) gaNil)) [.lst (g.map rowD), .non]) (g.map rowD) = some (g.map rowD) := lcM_mapOf fun r _ => by simp [lcF, rowD]
  have hz : g.length ≤ SZ := by unfold SZ; omega
  simp [runF_ap, e, hz]
end Dv.Lw
namespace Dv.Lw
open PySem PySem.Spec PyProof.Rows L2 Dv
/-! ### what a value is -/
theorem kitB_int : kitB "NoneType" "int" = some false ∧ kitB "bool" "int" = some true ∧ kitB "int" "int" = some true ∧ kitB "str" "int" = some false ∧ kitB "list" "int" = some false ∧ kitB "tuple" "int" = some false ∧ kitB "dict" "int" = some false := by decide +kernel
theorem kitB_bool : kitB "NoneType" "bool" = some false ∧ kitB "bool" "bool" = some true ∧ kitB "int" "bool" = some false ∧ kitB "str" "bool" = some false ∧ kitB "list" "bool" = some false ∧ kitB "tuple" "bool" = some false ∧ kitB "dict" "bool" = some false := by decide +kernel
theorem kitB_str : kitB "NoneType" "str" = some false ∧ kitB "bool" "str" = some false ∧ kitB "int" "str" = some false ∧ kitB "str" "str" = some true ∧ kitB "list" "str" = some false ∧ kitB "tuple" "str" = some false ∧ kitB "dict" "str" = some false := by decide +kernel
theorem kitB_list : kitB "NoneType" "list" = some false ∧ kitB "bool" "list" = some false ∧ kitB "int" "list" = some false ∧ kitB "str" "list" = some false ∧ kitB "list" "list" = some true ∧ kitB "tuple" "list" = some false ∧ kitB "dict" "list" = some false := by decide +kernel
theorem kitB_tuple : kitB "NoneType" "tuple" = some false ∧ kitB "bool" "tuple" = some false ∧ kitB "int" "tuple" = some false ∧ kitB "str" "tuple" = some false ∧ kitB "list" "tuple" = some false ∧ kitB "tuple" "tuple" = some true ∧ kitB "dict" "tuple" = some false := by decide +kernel
/-- plain data -/
def isPlain : D → Bool
  | .ins _ _ => false
  | .exc _ _ => false
  | _ => true
def isIntD : D → Bool
  | .int _ => true
  | .bl _ => true
  | _ => false
def isBlD : D → Bool
  | .bl _ => true
  | _ => false
def isStrD : D → Bool
  | .str _ => true
  | _ => false
def isLstD : D → Bool
  | .lst _ => true
  | .scr _ => true
  | _ => false
def isTupD : D → Bool
  | .tup _ => true
  | _ => false
theorem isB_int {kn : List Nat} {d : D} (h : isPlain d = true) : isB kn "int" d = some (isIntD d) := by
  obtain ⟨a, b, c, e, f, g, i⟩ := kitB_int
  cases d <;> first | (simp [isPlain] at h; done) | (simp [isB, tyNm, isIntD]; assumption)
theorem isB_bool {kn : List Nat} {d : D} (h : isPlain d = true) : isB kn "bool" d = some (isBlD d) := by
  obtain ⟨a, b, c, e, f, g, i⟩ := kitB_bool
  cases d <;> first | (simp [isPlain] at h; done) | (simp [isB, tyNm, isBlD]; assumption)
theorem isB_str {kn : List Nat} {d : D} (h : isPlain d = true) : isB kn "str" d = some (isStrD d) := by
  obtain ⟨a, b, c, e, f, g, i⟩ := kitB_str
  cases d <;> first | (simp [isPlain] at h; done) | (simp [isB, tyNm, isStrD]; assumption)
theorem isB_list {kn : List Nat} {d : D} (h : isPlain d = true) : isB kn "list" d = some (isLstD d) := by
  obtain ⟨a, b, c, e, f, g, i⟩ := kitB_list
  cases d <;> first | (simp [isPlain] at h; done) | (simp [isB, tyNm, isLstD]; assumption)
theorem isB_tuple {kn : List Nat} {d : D} (h : isPlain d = true) : isB kn "tuple" d = some (isTupD d) := by
  obtain ⟨a, b, c, e, f, g, i⟩ := kitB_tuple
  cases d <;> first | (simp [isPlain] at h; done) | (simp [isB, tyNm, isTupD]; assumption)
/-- an int that is no bool -/
def isI (d : D) : Bool := isIntD d && !isBlD d
theorem is_integer_eq {d : D} (h : isPlain d = true) : F_is_integer [d] = .ok (.bl (isI d), []) := by
  unfold F_is_integer S_is_integer
  cases d <;> first | (simp [isPlain] at h; done) | simp [runF_ap, isB_int h, isB_bool h, isI, isIntD, isBlD]
theorem is_entry_gD (o : Option Int) : F_is_entry [gD o] = .ok (.bl true, []) := by
  unfold F_is_entry S_is_entry
  cases o with
  | none => simp [runF_ap, gD]
  | some i => simp [runF_ap, gD, is_integer_eq (d := .int i) rfl, isI, isIntD, isBlD]
theorem is_row_loop : ∀ (r : List (Option Int)) (v w x : D), ∃ x', forL (pName 2) B_is_row_0 (r.map gD) [v, w, x] = .ok (.nx, [v, w, x'])
  | [], v, w, x => ⟨x, rfl⟩
  | o :: r, v, w, x => by
    obtain ⟨x', e⟩ := is_row_loop r v w (gD o)
    refine ⟨x', ?_⟩
    rw [List.map_cons, forL_nx (ρ1 := [v, w, gD o]) (ρ' := [v, w, gD o]) rfl (by unfold B_is_row_0; simp [is_entry_gD]), e]
theorem is_row_eq (r : List (Option Int)) : F_is_row [rowD r, .int (r.length : Nat)] = .ok (.bl true, []) := by
  unfold F_is_row S_is_row rowD
  obtain ⟨x', e⟩ := is_row_loop r (.lst (r.map gD)) (.int (r.length : Nat)) .non
  have h : isB knL "list" (.lst (r.map gD)) = some true := isB_list rfl
  simp [runF_ap, h, e]
theorem width_of_eq (r : List (Option Int)) (g : List (List (Option Int))) (h : r.length ≤ 8) : F_width_of [gridD (r :: g)] = .ok (.int (r.length : Nat), []) := by
  unfold F_width_of S_width_of gridD
  have h1 : isB knL "list" (rowD r) = some true := isB_list rfl
  have h2 : atI (rowD r :: g.map rowD) 0 = some (rowD r) := atI_lit (j := 0) rfl rfl
  have h3 : (r.length : Int) ≤ 8 := by omega
  simp [runF_ap, h2, h1]
  have h4 : atI (D.lst (r.map gD) :: g.map rowD) 0 = some (D.lst (r.map gD)) := atI_lit (j := 0) rfl rfl
  simp [rowD, h3, h4]
theorem table_loop (self rows : D) (n : Nat) (hn : 0 < n) : ∀ (g : List (List (Option Int))) (k : Nat) (a b : D), (∀ r ∈ g, r.length = n) →
    ∃ a' b', forL (pTup (psCons (pName 3) (psCons (pName 4) psNil))) B_Table_init__0 (enumF k (g.map rowD)) [self, rows, .int n, a, b] = .ok (.nx, [self, rows, .int n, a', b'])
  | [], k, a, b, _ => ⟨a, b, rfl⟩
  | r :: g, k, a, b, h => by
    obtain ⟨a', b', e⟩ := table_loop self rows n hn g (k + 1) (.int k) (rowD r) fun x hx => h x (List.mem_cons_of_mem _ hx)
    have hr := h r List.mem_cons_self
    have q : F_is_row [rowD r, .int (n : Int)] = .ok (.bl true, []) := by rw [← hr]; exact is_row_eq r
    have n0 : ¬ ((n : Int) = 0) := by omega
    refine ⟨a', b', ?_⟩
    rw [List.map_cons, enumF, forL_nx (ρ1 := [self, rows, .int n, .int k, rowD r]) (ρ' := [self, rows, .int n, .int k, rowD r]) rfl (by unfold B_Table_init__0; simp [q, Nat.pos_iff_ne_zero.mp hn]), e]
theorem table_init_eq (g : List (List (Option Int))) (n : Nat) (hn : 0 < n) (hn8 : n ≤ 8) (hm : 0 < g.length) (hm8 : g.length ≤ 8) (h : ∀ r ∈ g, r.length = n) : F_Table_init_ [.ins 5 [], gridD g] = .ok (.non, [.ins 5 [gridD g]]) := by
  unfold F_Table_init_ S_Table_init_
  obtain ⟨a', b', e⟩ := table_loop (.ins 5 []) (gridD g) n hn g 0 .non .non h
  have hw : F_width_of [gridD g] = .ok (.int n, []) := by
    cases g with
    | nil => simp at hm
    | cons r g =>
      have hr := h r List.mem_cons_self
      rw [width_of_eq r g (by omega), hr]
  have h1 : isB knL "list" (gridD g) = some true := isB_list rfl
  have e2 : lcM (lcF (pName 4) tYesD (gBi fList (gaCons (gVar 4) gaNil)) [.ins 5 [], gridD g, .int n, a', b']) (g.map rowD) = some (g.map rowD) := lcM_mapOf fun r _ => by simp [lcF, rowD]
  have g0 : ¬ (g.length : Int) = 0 := by omega
  have g8 : ¬ (8 : Int) < (g.length : Int) := by omega
  have hz : g.length ≤ SZ := by unfold SZ; omega
  rw [runI_ap]
  show (match sSeq _ _ [D.ins 5 [], gridD g, .non, .non, .non] with
    | .ok (.nx, ρ) => Res.ok (D.non, outsOf [0] ρ)
    | .err c fs ρ => .err c fs (outsOf [0] ρ)
    | _ => .stk) = _
  rw [sSeq_nx (ρ' := [D.ins 5 [], gridD g, .non, .non, .non]) (by
    simp [h1]
    have gne : ¬ g = [] := fun z => by rw [z] at hm; simp at hm
    simp [gridD, gne, g8])]
  rw [sSeq_nx (ρ' := [D.ins 5 [], gridD g, .int n, .non, .non]) (by simp [hw])]
  rw [sSeq_nx (ρ' := _) (by
    simp only [sFor_ap, iEn_ap, gaCons_ap, gaNil_ap, gVar_ap, nth_succ, nth_zero, Res.bind_ok]
    simp only [gridD, enumD_F, Res.bind_ok] at e ⊢
    exact e)]
  simp only [gridD] at e2 ⊢
  simp [e2, hz, outsOf]
/-! ### amounts -/
theorem check_list_loop (w rs : D) : ∀ (xs : List Int) (k : Nat) (a b : D), (∀ x ∈ xs, 0 ≤ x) → ∃ a' b', forL (pTup (psCons (pName 2) (psCons (pName 3) psNil))) B_check_list_0 (enumF k (xs.map D.int)) [w, rs, a, b] = .ok (.nx, [w, rs, a', b'])
  | [], k, a, b, _ => ⟨a, b, rfl⟩
  | x :: xs, k, a, b, h => by
    obtain ⟨a', b', e⟩ := check_list_loop w rs xs (k + 1) (.int k) (.int x) fun y hy => h y (List.mem_cons_of_mem _ hy)
    have hx := h x List.mem_cons_self
    have q : F_is_integer [.int x] = .ok (.bl true, []) := by rw [is_integer_eq rfl]; rfl
    have x0 : ¬ x < 0 := by omega
    refine ⟨a', b', ?_⟩
    rw [List.map_cons, enumF, forL_nx (ρ1 := [w, rs, .int k, .int x]) (ρ' := [w, rs, .int k, .int x]) rfl (by unfold B_check_list_0; simp [q, x0]), e]
theorem check_list_eq (w : D) (xs : List Int) (h0 : 0 < xs.length) (h8 : xs.length ≤ 8) (h : ∀ x ∈ xs, 0 ≤ x) : F_check_list [w, intsD xs] = .ok (.non, []) := by
  unfold F_check_list S_check_list
  obtain ⟨a', b', e⟩ := check_list_loop w (intsD xs) xs 0 .non .non h
  have h1 : isB knL "list" (intsD xs) = some true := isB_list rfl
  have g0 : (1 : Int) ≤ (xs.length : Int) := by omega
  have g8 : (xs.length : Int) ≤ 8 := by omega
  rw [runP_ap]
  show (match sSeq _ _ [w, intsD xs, .non, .non] with
    | .ok (.rt d, ρ) => Res.ok (d, outsOf [] ρ)
    | .ok (.nx, ρ) => .ok (.non, outsOf [] ρ)
    | .ok _ => .stk
    | .err c fs ρ => .err c fs (outsOf [] ρ)
    | .stk => .stk) = _
  rw [sSeq_nx (ρ' := [w, intsD xs, .non, .non]) (by
    simp [h1]
    simp [intsD, g0, g8])]
  simp only [sFor_ap, iEn_ap, gaCons_ap, gaNil_ap, gVar_ap, nth_succ, nth_zero, Res.bind_ok]
  simp only [intsD, enumD_F, Res.bind_ok] at e ⊢
  rw [e]
  rfl
theorem amounts_init_eq (st wi : List Int) (s0 : 0 < st.length) (s8 : st.length ≤ 8) (w0 : 0 < wi.length) (w8 : wi.length ≤ 8) (hs : ∀ x ∈ st, 0 ≤ x) (hw : ∀ x ∈ wi, 0 ≤ x) : F_Amounts_init_ [.ins 0 [], intsD st, intsD wi] = .ok (.non, [.ins 0 [intsD st, intsD wi]]) := by
  unfold F_Amounts_init_ S_Amounts_init_
  have e1 := check_list_eq (.str "stocks") st s0 s8 hs
  have e2 := check_list_eq (.str "wishes") wi w0 w8 hw
  simp [runI_ap, e1, e2]
  simp [intsD, outsOf]
/-! ### the objects' methods -/
def tabD (g : List (List (Option Int))) : D := .ins 5 [gridD g]
def amtD (st wi : List Int) : D := .ins 0 [intsD st, intsD wi]
theorem table_stocks_eq (g : List (List (Option Int))) : F_Table_stocks [tabD g] = .ok (.int (g.length : Nat), []) := by
  unfold F_Table_stocks S_Table_stocks tabD
  simp [runF_ap]
  simp [gridD]
theorem table_wishes_eq (r : List (Option Int)) (g : List (List (Option Int))) : F_Table_wishes [tabD (r :: g)] = .ok (.int (r.length : Nat), []) := by
  unfold F_Table_wishes S_Table_wishes tabD
  have h2 : atI (rowD r :: g.map rowD) 0 = some (rowD r) := atI_lit (j := 0) rfl rfl
  simp [runF_ap]
  simp [gridD, h2]
  simp [rowD]
theorem table_rows_eq (g : List (List (Option Int))) (h : g.length ≤ 1000) : F_Table_rows [tabD g] = .ok (gridD g, []) := by
  unfold F_Table_rows S_Table_rows tabD gridD
  have e : lcM (lcF (pName 1) tYesD (gBi fList (gaCons (gVar 1) gaNil)) [.ins 5 [.lst (g.map rowD)], .non]) (g.map rowD) = some (g.map rowD) := lcM_mapOf fun r _ => by simp [lcF, rowD]
  have hz : g.length ≤ SZ := by unfold SZ; omega
  simp [runF_ap, e, hz]
theorem amounts_stocks_eq (st wi : List Int) : F_Amounts_stocks [amtD st wi] = .ok (intsD st, []) := by
  unfold F_Amounts_stocks S_Amounts_stocks amtD
  simp [runF_ap]
  simp [intsD]
theorem amounts_wishes_eq (st wi : List Int) : F_Amounts_wishes [amtD st wi] = .ok (intsD wi, []) := by
  unfold F_Amounts_wishes S_Amounts_wishes amtD
  simp [runF_ap]
  simp [intsD]
theorem amounts_over_eq (st wi : List Int) : F_Amounts_over [amtD st wi] = .ok (.int (st.sum - wi.sum), []) := by
  unfold F_Amounts_over S_Amounts_over amtD
  simp [runF_ap]
  simp [intsD]
theorem fits_size_eq (r : List (Option Int)) (g : List (List (Option Int))) (st wi : List Int) (h1 : st.length = (r :: g).length) (h2 : wi.length = r.length) : F_Amounts_fits_size [amtD st wi, tabD (r :: g)] = .ok (.bl true, []) := by
  unfold F_Amounts_fits_size S_Amounts_fits_size
  have e1 := table_stocks_eq (r :: g)
  have e2 := table_wishes_eq r g
  simp [runF_ap]
  simp [tabD, amtD] at e1 e2 ⊢
  simp [e1, e2, intsD, h1, h2]
theorem check_size_eq (r : List (Option Int)) (g : List (List (Option Int))) (st wi : List Int) (h1 : st.length = (r :: g).length) (h2 : wi.length = r.length) : F_check_size [tabD (r :: g), amtD st wi] = .ok (.non, []) := by
  unfold F_check_size S_check_size
  have e1 := fits_size_eq r g st wi h1 h2
  simp [runP_ap]
  simp [tabD, amtD] at e1 ⊢
  simp [e1]
end Dv.Lw
namespace Dv.Lw
open PySem PySem.Spec PyProof.Rows L2 Dv
/-! ### lists of lines -/
def linesOk (size : Int) : List D → Int → Bool
  | [], _ => true
  | .int i :: xs, b => decide (b < i) && (decide (i < size) && linesOk size xs i)
  | _ :: _, _ => false
def lineList (v : D) (size : Int) : Bool := match v with
  | .lst xs => !xs.isEmpty && linesOk size xs (-1)
  | _ => false
theorem is_between_eq {d : D} (h : isPlain d = true) (lo hi : Int) : F_is_between [d, .int lo, .int hi] = .ok (.bl (match d with | .int i => decide (lo ≤ i) && decide (i ≤ hi) | _ => false), []) := by
  unfold F_is_between S_is_between
  have e := is_integer_eq h
  cases d with
  | int i =>
    simp [isI, isIntD, isBlD] at e
    by_cases h1 : lo ≤ i <;> simp [runF_ap, e, h1]
  | bl b => simp [isI, isIntD, isBlD] at e; simp [runF_ap, e]
  | ins c fs => simp [isPlain] at h
  | exc c fs => simp [isPlain] at h
  | _ => simp [isI, isIntD, isBlD] at e; simp [runF_ap, e]
theorem line_loop (v : D) (size : Int) : ∀ (xs : List D) (b : Int) (l : D), (∀ x ∈ xs, isPlain x = true) →
    ∃ ρ', forL (pName 3) B_is_line_list_0 xs [v, .int size, .int b, l] = .ok (if linesOk size xs b = true then .nx else .rt (.bl false), ρ')
  | [], b, l, _ => ⟨_, by rw [linesOk, if_pos rfl]; rfl⟩
  | x :: xs, b, l, h => by
    have hx := h x List.mem_cons_self
    have q := is_between_eq hx (b + 1) (size - 1)
    have bad : ∀ (y : D), F_is_between [y, .int (b + 1), .int (size - 1)] = .ok (.bl false, []) → ∃ ρ', forL (pName 3) B_is_line_list_0 (y :: xs) [v, .int size, .int b, l] = .ok (.rt (.bl false), ρ') := fun y q =>
      ⟨_, forL_rt (ρ1 := [v, .int size, .int b, y]) (ρ' := [v, .int size, .int b, y]) rfl (by unfold B_is_line_list_0; simp [q])⟩
    cases x with
    | int i =>
      by_cases h1 : b + 1 ≤ i ∧ i ≤ size - 1
      · obtain ⟨ρ', e⟩ := line_loop v size xs i (.int i) fun y hy => h y (List.mem_cons_of_mem _ hy)
        refine ⟨ρ', ?_⟩
        have h2 : b < i := by omega
        have h3 : i < size := by omega
        have q2 : F_is_between [.int i, .int (b + 1), .int (size - 1)] = .ok (.bl true, []) := by rw [q]; simp [h1.1, h1.2]
        rw [forL_nx (ρ1 := [v, .int size, .int b, .int i]) (ρ' := [v, .int size, .int i, .int i]) rfl (by unfold B_is_line_list_0; simp [q2]), e]
        simp [linesOk, h2, h3]
      · obtain ⟨ρ', e⟩ := bad (.int i) (by
          rw [q]
          rcases Classical.not_and_iff_not_or_not.mp h1 with z | z <;> simp [z])
        refine ⟨ρ', ?_⟩
        have h3 : linesOk size (.int i :: xs) b = false := by
          rw [linesOk]
          by_cases z : b < i
          · have : ¬ i < size := by omega
            simp [this]
          · simp [z]
        rw [e, h3]; rfl
    | _ =>
      obtain ⟨ρ', e⟩ := bad _ q
      exact ⟨ρ', by rw [e]; rfl⟩
/-- data that is no script -/
def isVal : D → Bool
  | .ins _ _ => false
  | .exc _ _ => false
  | .scr _ => false
  | _ => true
theorem isVal_plain {d : D} (h : isVal d = true) : isPlain d = true := by cases d <;> first | rfl | (simp [isVal] at h)
theorem is_line_list_eq (v : D) (size : Int) (h : isVal v = true) (hx : ∀ xs, v = .lst xs → ∀ x ∈ xs, isPlain x = true) : F_is_line_list [v, .int size] = .ok (.bl (lineList v size), []) := by
  unfold F_is_line_list S_is_line_list
  have h1 := isB_list (kn := knL) (isVal_plain h)
  cases v with
  | lst xs =>
    obtain ⟨ρ', e⟩ := line_loop (.lst xs) size xs (-1) .non (hx xs rfl)
    by_cases z : xs = []
    · subst z; simp [runF_ap, h1, isLstD, lineList]
    · have z2 : xs.isEmpty = false := by cases xs <;> simp_all
      by_cases k : linesOk size xs (-1) = true
      · rw [if_pos k] at e
        simp [runF_ap, h1, isLstD, z, e, lineList, k]
      · rw [if_neg k] at e
        simp [runF_ap, h1, isLstD, z, e, lineList, k]
  | scr ns => simp [isVal] at h
  | ins c fs => simp [isVal] at h
  | exc c fs => simp [isVal] at h
  | _ => simp [runF_ap, h1, isLstD, lineList]
theorem listof_loop (v : D) (size : Int) : ∀ (xs : List D) (b : Int) (l : D), (∀ x ∈ xs, isPlain x = true) →
    ∃ ρ', forL (pName 3) B__law_is_list_of_0 xs [v, .int size, .int b, l] = .ok (if linesOk size xs b = true then .nx else .rt (.bl false), ρ')
  | [], b, l, _ => ⟨_, by rw [linesOk, if_pos rfl]; rfl⟩
  | x :: xs, b, l, h => by
    have hx := h x List.mem_cons_self
    have q1 := isB_int (kn := knL) hx
    have q2 := isB_bool (kn := knL) hx
    have bad : ∀ (y : D), isB knL "int" y = some (isIntD y) → isB knL "bool" y = some (isBlD y) → (isIntD y = false ∨ isBlD y = true) → ∃ ρ', forL (pName 3) B__law_is_list_of_0 (y :: xs) [v, .int size, .int b, l] = .ok (.rt (.bl false), ρ') := fun y q1 q2 k =>
      ⟨_, forL_rt (ρ1 := [v, .int size, .int b, y]) (ρ' := [v, .int size, .int b, y]) rfl (by unfold B__law_is_list_of_0; rcases k with k | k <;> simp [q1, q2, k])⟩
    cases x with
    | int i =>
      simp [isIntD, isBlD] at q1 q2
      by_cases h1 : b < i
      · by_cases h2 : i < size
        · obtain ⟨ρ', e⟩ := listof_loop v size xs i (.int i) fun y hy => h y (List.mem_cons_of_mem _ hy)
          refine ⟨ρ', ?_⟩
          have h3 : ¬ i ≤ b := by omega
          have h4 : ¬ size ≤ i := by omega
          rw [forL_nx (ρ1 := [v, .int size, .int b, .int i]) (ρ' := [v, .int size, .int i, .int i]) rfl (by unfold B__law_is_list_of_0; simp [q1, q2, h3, h4]), e]
          simp [linesOk, h1, h2]
        · have h3 : ¬ i ≤ b := by omega
          have h4 : size ≤ i := by omega
          refine ⟨[v, .int size, .int b, .int i], ?_⟩
          rw [forL_rt (ρ1 := [v, .int size, .int b, .int i]) (ρ' := [v, .int size, .int b, .int i]) (d := .bl false) rfl (by unfold B__law_is_list_of_0; simp [q1, q2, h3, h4])]
          simp [linesOk, h2]
      · have h3 : i ≤ b := by omega
        refine ⟨[v, .int size, .int b, .int i], ?_⟩
        rw [forL_rt (ρ1 := [v, .int size, .int b, .int i]) (ρ' := [v, .int size, .int b, .int i]) (d := .bl false) rfl (by unfold B__law_is_list_of_0; simp [q1, q2, h3])]
        simp [linesOk, h1]
    | _ =>
      obtain ⟨ρ', e⟩ := bad _ q1 q2 (by simp [isIntD, isBlD])
      exact ⟨ρ', by rw [e]; rfl⟩
theorem is_list_of_eq (v : D) (size : Int) (h : isVal v = true) (hx : ∀ xs, v = .lst xs → ∀ x ∈ xs, isPlain x = true) : F__law_is_list_of [v, .int size] = .ok (.bl (lineList v size), []) := by
  unfold F__law_is_list_of S__law_is_list_of
  have h1 := isB_list (kn := knL) (isVal_plain h)
  cases v with
  | lst xs =>
    obtain ⟨ρ', e⟩ := listof_loop (.lst xs) size xs (-1) .non (hx xs rfl)
    by_cases z : xs = []
    · subst z; simp [runF_ap, h1, isLstD, lineList]
    · by_cases k : linesOk size xs (-1) = true
      · rw [if_pos k] at e
        simp [runF_ap, h1, isLstD, z, e, lineList, k]
      · rw [if_neg k] at e
        simp [runF_ap, h1, isLstD, z, e, lineList, k]
  | scr ns => simp [isVal] at h
  | ins c fs => simp [isVal] at h
  | exc c fs => simp [isVal] at h
  | _ => simp [runF_ap, h1, isLstD, lineList]
/-- lines that are right are places -/
theorem linesOk_nat (size : Int) : ∀ (xs : List D) (b : Int), linesOk size xs b = true → -1 ≤ b → ∃ ls : List Nat, xs = ls.map (fun (l : Nat) => D.int (l : Int)) ∧ ∀ l ∈ ls, (l : Int) < size
  | [], _, _, _ => ⟨[], rfl, by simp⟩
  | x :: xs, b, h, hb => by
    cases x with
    | int i =>
      rw [linesOk] at h
      simp only [Bool.and_eq_true, decide_eq_true_eq] at h
      obtain ⟨ls, e, hl⟩ := linesOk_nat size xs i h.2.2 (by omega)
      refine ⟨i.toNat :: ls, ?_, fun l hl2 => ?_⟩
      · rw [List.map_cons, ← e]
        have : ((i.toNat : Nat) : Int) = i := by omega
        rw [this]
      · rcases List.mem_cons.mp hl2 with rfl | h2
        · omega
        · exact hl l h2
    | _ => simp [linesOk] at h
end Dv.Lw
namespace Dv.Lw
open PySem PySem.Spec PyProof.Rows L2 Dv
/-! ### what the lines hold -/
abbrev GridT := List (List (Option Int))
def linesD (ls : List Nat) : List D := ls.map fun (l : Nat) => D.int (l : Int)
/-- the entry at row l and column c -/
def rowG (g : GridT) (l : Nat) : List (Option Int) := g.getD l []
def cellG (g : GridT) (l c : Nat) : Option Int := (rowG g l).getD c none
def hitG (g : GridT) (ls : List Nat) (c : Nat) : Bool := ls.any fun l => (cellG g l c).isSome
/-- rows of one length -/
def Rect (g : GridT) (n : Nat) : Prop := ∀ r ∈ g, r.length = n
def useD (g : GridT) : D := .lst (g.map fun r => .lst (r.map fun o => .bl o.isSome))
def takenG (g : GridT) (ls : List Nat) : Nat → List Int → Int
  | _, [] => 0
  | c, a :: as => (if hitG g ls c = true then a else 0) + takenG g ls (c + 1) as
def heldG (own : List Int) (ls : List Nat) : Int := (ls.map fun l => own.getD l 0).sum
theorem grid_at {g : GridT} {n l c : Nat} (h : Rect g n) (hl : l < g.length) (hc : c < n) : atI (g.map rowD) (l : Int) = some (rowD (rowG g l)) ∧ atI ((rowG g l).map gD) (c : Int) = some (gD (cellG g l c)) := by
  have e : g[l]? = some g[l] := List.getElem?_eq_getElem hl
  have e2 : rowG g l = g[l] := by simp [rowG, e]
  have hr : (g[l]).length = n := h _ (List.getElem_mem hl)
  refine ⟨atI_nat (by simp [e, e2]), ?_⟩
  unfold cellG
  rw [e2]
  have e3 : (g[l])[c]? = some (g[l])[c] := List.getElem?_eq_getElem (by omega)
  exact atI_nat (by simp [e3])
theorem use_at {g : GridT} {n l c : Nat} (h : Rect g n) (hl : l < g.length) (hc : c < n) : atI (g.map fun r => D.lst (r.map fun o => .bl o.isSome)) (l : Int) = some (.lst ((rowG g l).map fun o => .bl o.isSome)) ∧ atI ((rowG g l).map fun o => D.bl o.isSome) (c : Int) = some (.bl (cellG g l c).isSome) := by
  have e : g[l]? = some g[l] := List.getElem?_eq_getElem hl
  have e2 : rowG g l = g[l] := by simp [rowG, e]
  have hr : (g[l]).length = n := h _ (List.getElem_mem hl)
  refine ⟨atI_nat (by simp [e, e2]), ?_⟩
  unfold cellG
  rw [e2]
  have e3 : (g[l])[c]? = some (g[l])[c] := List.getElem?_eq_getElem (by omega)
  exact atI_nat (by simp [e3])
theorem own_at {own : List Int} {l : Nat} (h : l < own.length) : atI (own.map D.int) (l : Int) = some (.int (own.getD l 0)) := by
  have e : own[l]? = some own[l] := List.getElem?_eq_getElem h
  exact atI_nat (by simp [e])
theorem holds_inner (g : GridT) (n : Nat) (h : Rect g n) (lsD ownD oth : D) (held a : Int) (c : Nat) (hc : c < n) : ∀ (ls : List Nat) (t : Int) (x : D), (∀ l ∈ ls, l < g.length) →
    ∃ x', forL (pName 8) B_holds_more_0 (linesD ls) [gridD g, lsD, ownD, oth, .int held, .int t, .int c, .int a, x] = .ok (.nx, [gridD g, lsD, ownD, oth, .int held, .int (t + if hitG g ls c = true then a else 0), .int c, .int a, x'])
  | [], t, x, _ => ⟨x, by simp [linesD, forL_nil, hitG]⟩
  | l :: ls, t, x, hl => by
    have hl0 := hl l List.mem_cons_self
    obtain ⟨e1, e2⟩ := grid_at h hl0 hc
    by_cases k : (cellG g l c).isSome = true
    · refine ⟨.int l, ?_⟩
      have hh : hitG g (l :: ls) c = true := by simp [hitG, k]
      have k2 : (cellG g l c).isNone = false := by cases q : cellG g l c <;> simp_all
      show forL _ _ (D.int (l : Int) :: linesD ls) _ = _
      rw [forL_bk (ρ1 := [gridD g, lsD, ownD, oth, .int held, .int t, .int c, .int a, .int l]) (ρ' := [gridD g, lsD, ownD, oth, .int held, .int (t + a), .int c, .int a, .int l]) rfl (by
        unfold B_holds_more_0
        simp only [gridD, rowD] at e1 ⊢
        simp [e1, e2, k2, rowD])]
      rw [if_pos hh]
    · obtain ⟨x', e⟩ := holds_inner g n h lsD ownD oth held a c hc ls t (.int l) fun y hy => hl y (List.mem_cons_of_mem _ hy)
      refine ⟨x', ?_⟩
      have k1 : (cellG g l c).isSome = false := by simpa using k
      have hh : hitG g (l :: ls) c = hitG g ls c := by simp [hitG, k1]
      have k2 : (cellG g l c).isNone = true := by cases q : cellG g l c <;> simp_all
      show forL _ _ (D.int (l : Int) :: linesD ls) _ = _
      rw [forL_nx (ρ1 := [gridD g, lsD, ownD, oth, .int held, .int t, .int c, .int a, .int l]) (ρ' := [gridD g, lsD, ownD, oth, .int held, .int t, .int c, .int a, .int l]) rfl (by
        unfold B_holds_more_0
        simp only [gridD, rowD] at e1 ⊢
        simp [e1, e2, k2, rowD]), e, hh]
theorem holds_outer (g : GridT) (n : Nat) (h : Rect g n) (ls : List Nat) (hl : ∀ l ∈ ls, l < g.length) (ownD oth : D) (held : Int) : ∀ (as : List Int) (c : Nat) (t : Int) (x y z : D), c + as.length ≤ n →
    ∃ x' y' z', forL (pTup (psCons (pName 6) (psCons (pName 7) psNil))) B_holds_more_1 (enumF c (as.map D.int)) [gridD g, .lst (linesD ls), ownD, oth, .int held, .int t, x, y, z] = .ok (.nx, [gridD g, .lst (linesD ls), ownD, oth, .int held, .int (t + takenG g ls c as), x', y', z'])
  | [], c, t, x, y, z, _ => ⟨x, y, z, by simp [enumF, forL_nil, takenG]⟩
  | a :: as, c, t, x, y, z, hc => by
    simp only [List.length_cons] at hc
    obtain ⟨z1, e1⟩ := holds_inner g n h (.lst (linesD ls)) ownD oth held a c (by omega) ls t z hl
    obtain ⟨x', y', z', e⟩ := holds_outer g n h ls hl ownD oth held as (c + 1) (t + if hitG g ls c = true then a else 0) (.int c) (.int a) z1 (by omega)
    refine ⟨x', y', z', ?_⟩
    rw [List.map_cons, enumF, forL_nx (ρ1 := [gridD g, .lst (linesD ls), ownD, oth, .int held, .int t, .int c, .int a, z]) rfl (by unfold B_holds_more_1; simp; exact e1), e, takenG, Int.add_assoc]
theorem held_eq (ls : List Nat) (own : List Int) (hl : ∀ l ∈ ls, l < own.length) (i j : Nat) (ρ : En) (hi : ∀ d, nth (ρ.set j d) i = intsD own) (hj : ∀ d, nth (ρ.set j d) j = d) : lcM (lcF (pName j) tYesD (gOp fIx (gVar i) (gVar j)) ρ) (linesD ls) = some ((ls.map fun l => own.getD l 0).map D.int) := by
  rw [List.map_map]
  exact lcM_mapOf fun l hl2 => by
    have e := own_at (hl l hl2)
    simp only [lcF, pName_ap, tYesD_ap, gOp_ap, gVar_ap, hi, hj, Res.bind_ok, intsD, fIx_lst, e]
    rfl
theorem holds_more_eq (g : GridT) (n : Nat) (h : Rect g n) (ls : List Nat) (own others : List Int) (hl : ∀ l ∈ ls, l < g.length) (ho : own.length = g.length) (hn : others.length = n) (hz : ls.length ≤ 1000) :
    F_holds_more [gridD g, .lst (linesD ls), intsD own, intsD others] = .ok (.bl (decide (takenG g ls 0 others < heldG own ls)), []) := by
  unfold F_holds_more S_holds_more
  have e1 := held_eq ls own (fun l x => by rw [ho]; exact hl l x) 2 8 [gridD g, .lst (linesD ls), intsD own, intsD others, .non, .non, .non, .non, .non] (fun d => rfl) (fun d => rfl)
  have hz2 : (linesD ls).length ≤ SZ := by unfold SZ linesD; simp; omega
  obtain ⟨x', y', z', e2⟩ := holds_outer g n h ls hl (intsD own) (intsD others) (heldG own ls) others 0 0 .non .non .non (by omega)
  rw [runF_ap]
  show (match sSeq _ _ [gridD g, .lst (linesD ls), intsD own, intsD others, .non, .non, .non, .non, .non] with
    | .ok (.rt d, ρ) => Res.ok (d, outsOf [] ρ)
    | .ok _ => .stk
    | .err c fs ρ => .err c fs (outsOf [] ρ)
    | .stk => .stk) = _
  rw [sSeq_nx (ρ' := [gridD g, .lst (linesD ls), intsD own, intsD others, .int (heldG own ls), .non, .non, .non, .non]) (by
    simp only [sAsg_ap, gBi_ap, gaCons_ap, gaNil_ap, gLc_ap, iLst_ap, gVar_ap, nth_succ, nth_zero, Res.bind_ok]
    rw [if_pos hz2, e1]
    simp only [Res.bind_ok, fSum_ints]
    simp [heldG])]
  rw [sSeq_nx (ρ' := [gridD g, .lst (linesD ls), intsD own, intsD others, .int (heldG own ls), .int 0, .non, .non, .non]) (by simp)]
  rw [sSeq_nx (ρ' := _) (by
    simp only [sFor_ap, iEn_ap, gaCons_ap, gaNil_ap, gVar_ap, nth_succ, nth_zero, Res.bind_ok]
    simp only [intsD, enumD_F, Res.bind_ok] at e2 ⊢
    exact e2)]
  simp
theorem law_holds_loop (g : GridT) (n : Nat) (h : Rect g n) (ls : List Nat) (hl : ∀ l ∈ ls, l < g.length) (hz : ls.length ≤ 1000) (ownD oth : D) : ∀ (as : List Int) (c : Nat) (t : Int) (x y z : D), c + as.length ≤ n →
    ∃ x' y' z', forL (pTup (psCons (pName 5) (psCons (pName 6) psNil))) B__law_holds_more_0 (enumF c (as.map D.int)) [useD g, .lst (linesD ls), ownD, oth, .int t, x, y, z] = .ok (.nx, [useD g, .lst (linesD ls), ownD, oth, .int (t - takenG g ls c as), x', y', z'])
  | [], c, t, x, y, z, _ => ⟨x, y, z, by simp [enumF, forL_nil, takenG]⟩
  | a :: as, c, t, x, y, z, hc => by
    simp only [List.length_cons] at hc
    obtain ⟨x', y', z', e⟩ := law_holds_loop g n h ls hl hz ownD oth as (c + 1) (t - if hitG g ls c = true then a else 0) (.int c) (.int a) z (by omega)
    refine ⟨x', y', z', ?_⟩
    have hz2 : (linesD ls).length ≤ SZ := by unfold SZ linesD; simp; omega
    have e1 : lcM (lcF (pName 7) (tTru (gOp fIx (gOp fIx (gVar 0) (gVar 7)) (gVar 5))) (gVar 7) [useD g, .lst (linesD ls), ownD, oth, .int t, .int c, .int a, z]) (linesD ls) = some ((ls.filter fun l => (cellG g l c).isSome).map fun (l : Nat) => D.int (l : Int)) :=
      lcM_filOf fun l hl2 => by
        obtain ⟨q1, q2⟩ := use_at h (hl l hl2) (show c < n by omega)
        simp only [lcF, useD]
        simp [q1, q2]
        cases (cellG g l c).isSome <;> simp
    have e3 : hitG g ls c = decide (0 < (ls.filter fun l => (cellG g l c).isSome).length) := by
      unfold hitG
      rw [Bool.eq_iff_iff]
      simp [List.length_pos_iff_exists_mem]
    have e4 : (0 : Int) < (((ls.filter fun l => (cellG g l c).isSome).length : Nat) : Int) ↔ hitG g ls c = true := by rw [e3]; simp
    rw [List.map_cons, enumF, forL_nx (ρ1 := [useD g, .lst (linesD ls), ownD, oth, .int t, .int c, .int a, z]) (ρ' := [useD g, .lst (linesD ls), ownD, oth, .int (t - if hitG g ls c = true then a else 0), .int c, .int a, z]) rfl (by
      unfold B__law_holds_more_0
      simp only [sIf_ap, tVal_ap, gOp_ap, gBi_ap, gaCons_ap, gaNil_ap, gLc_ap, iLst_ap, gVar_ap, nth_succ, nth_zero, Res.bind_ok]
      rw [if_pos hz2, e1]
      simp only [Res.bind_ok, fLen_lst, List.length_map, gC_ap, fI_ii, e4]
      by_cases k : hitG g ls c = true
      · simp [k]
      · simp [k]), e, takenG]
    congr 1
    simp only [Prod.mk.injEq, true_and]
    congr 5
    simp; omega
theorem law_holds_more_eq (g : GridT) (n : Nat) (h : Rect g n) (ls : List Nat) (own others : List Int) (hl : ∀ l ∈ ls, l < g.length) (ho : own.length = g.length) (hn : others.length = n) (hz : ls.length ≤ 1000) :
    F__law_holds_more [useD g, .lst (linesD ls), intsD own, intsD others] = .ok (.bl (decide (takenG g ls 0 others < heldG own ls)), []) := by
  unfold F__law_holds_more S__law_holds_more
  have e1 := held_eq ls own (fun l x => by rw [ho]; exact hl l x) 2 7 [useD g, .lst (linesD ls), intsD own, intsD others, .non, .non, .non, .non] (fun d => rfl) (fun d => rfl)
  have hz2 : (linesD ls).length ≤ SZ := by unfold SZ linesD; simp; omega
  obtain ⟨x', y', z', e2⟩ := law_holds_loop g n h ls hl hz (intsD own) (intsD others) others 0 (heldG own ls) .non .non .non (by omega)
  rw [runF_ap]
  show (match sSeq _ _ [useD g, .lst (linesD ls), intsD own, intsD others, .non, .non, .non, .non] with
    | .ok (.rt d, ρ) => Res.ok (d, outsOf [] ρ)
    | .ok _ => .stk
    | .err c fs ρ => .err c fs (outsOf [] ρ)
    | .stk => .stk) = _
  rw [sSeq_nx (ρ' := [useD g, .lst (linesD ls), intsD own, intsD others, .int (heldG own ls), .non, .non, .non]) (by
    simp only [sAsg_ap, gBi_ap, gaCons_ap, gaNil_ap, gLc_ap, iLst_ap, gVar_ap, nth_succ, nth_zero, Res.bind_ok]
    rw [if_pos hz2, e1]
    simp only [Res.bind_ok, fSum_ints]
    simp [heldG])]
  rw [sSeq_nx (ρ' := _) (by
    simp only [sFor_ap, iEn_ap, gaCons_ap, gaNil_ap, gVar_ap, nth_succ, nth_zero, Res.bind_ok]
    simp only [intsD, enumD_F, Res.bind_ok] at e2 ⊢
    exact e2)]
  have : (0 < heldG own ls - takenG g ls 0 others) ↔ takenG g ls 0 others < heldG own ls := by omega
  simp [this]
/-! ### turned -/
def turnG (g : GridT) (n : Nat) : GridT := (List.range n).map fun c => g.map fun r => r.getD c none
theorem turn_rect (g : GridT) (n : Nat) : Rect (turnG g n) g.length := fun r hr => by
  obtain ⟨c, _, rfl⟩ := List.mem_map.mp hr
  simp
theorem turn_len (g : GridT) (n : Nat) : (turnG g n).length = n := by simp [turnG]
theorem turned_grid_eq (r : List (Option Int)) (g : GridT) (h : Rect (r :: g) r.length) (hn : r.length ≤ 1000) (hm : g.length ≤ 999) : F_turned_grid [gridD (r :: g)] = .ok (gridD (turnG (r :: g) r.length), []) := by
  unfold F_turned_grid S_turned_grid
  have h2 : atI (rowD r :: g.map rowD) 0 = some (rowD r) := atI_lit (j := 0) rfl rfl
  have hr : rngOk (r.length : Int) := by unfold rngOk; omega
  have z1 : r.length ≤ SZ := by unfold SZ; omega
  have z2 : g.length + 1 ≤ SZ := by unfold SZ; omega
  have e1 : ∀ c, c < r.length → lcM (lcF (pName 2) tYesD (gOp fIx (gVar 2) (gVar 1)) [gridD (r :: g), .int (c : Nat), .non]) ((r :: g).map rowD) = some ((r :: g).map fun s => gD (s.getD c none)) := fun c hc =>
    lcM_mapOf fun s hs => by
      have hs2 : c < s.length := by rw [h s hs]; exact hc
      have e3 : s[c]? = some s[c] := List.getElem?_eq_getElem hs2
      have e4 : atI (s.map gD) (c : Int) = some (gD (s.getD c none)) := atI_nat (by simp [e3])
      simp [lcF, rowD]
      simp at e4
      simp [e4]
  have e2 : lcM (lcF (pName 1) tYesD (gLc (iLst (gVar 0)) (pName 2) tYesD (gOp fIx (gVar 2) (gVar 1))) [gridD (r :: g), .non, .non]) ((List.range r.length).map fun (c : Nat) => D.int (c : Int)) = some ((List.range r.length).map fun c => rowD ((r :: g).map fun s => s.getD c none)) :=
    lcM_mapOf fun c hc => by
      have hc2 : c < r.length := List.mem_range.mp hc
      have e3 := e1 c hc2
      simp only [lcF, pName_ap, tYesD_ap, gLc_ap, iLst_ap, gVar_ap, nth_succ, nth_zero, Res.bind_ok, List.set_cons_succ, List.set_cons_zero, gridD] at e3 ⊢
      rw [if_pos (by simp; exact z2), e3]
      simp [rowD]
  rw [runF_ap]
  show (match (sRet _) [gridD (r :: g), .non, .non] with
    | .ok (.rt d, ρ) => Res.ok (d, outsOf [] ρ)
    | .ok _ => .stk
    | .err c fs ρ => .err c fs (outsOf [] ρ)
    | .stk => .stk) = _
  have e0 : (iRg (gaCons (gBi fLen (gaCons (gOp fIx (gVar 0) (gC (.int 0))) gaNil)) gaNil)) [gridD (r :: g), .non, .non] = .ok ((List.range r.length).map fun (c : Nat) => D.int (c : Int), [gridD (r :: g), .non, .non]) := by
    simp [gridD, h2]
    simp [rowD, hr, rngD_map]
  simp only [sRet_ap, gLc_ap, e0, Res.bind_ok]
  rw [if_pos (by simp; exact z1), e2]
  simp [gridD, turnG]
end Dv.Lw
namespace Dv.Lw
open PySem PySem.Spec PyProof.Rows L2 Dv
/-! ### both judge alike -/
theorem fEq_str (a b : Str) (ha : PyData.strOk a = true) (hb : PyData.strOk b = true) : fEq (.str a) (.str b) = some (.bl (decide (a = b))) := by
  unfold fEq
  rw [if_pos ⟨by simp [D.py, SeqAt.shaped, PyData.canLay0, PyData.depth, ha], by simp [D.py, SeqAt.shaped, PyData.canLay0, PyData.depth, hb]⟩]
  simp [D.py, PyData.eqv, BEq.beq]
theorem ok_stock : PyData.strOk "stock" = true := by decide +kernel
theorem ok_wish : PyData.strOk "wish" = true := by decide +kernel
theorem ok_even : PyData.strOk "even" = true := by decide +kernel
theorem sw_ne : ¬ (("stock" : Str) = "wish") := by decide +kernel
theorem ws_ne : ¬ (("wish" : Str) = "stock") := by decide +kernel
theorem es_ne : ¬ (("even" : Str) = "stock") := by decide +kernel
theorem ew_ne : ¬ (("even" : Str) = "wish") := by decide +kernel
theorem eq_word (w : Str) (hw : w = "stock" ∨ w = "wish" ∨ w = "even") : fEq (.str w) (.str "stock") = some (.bl (decide (w = "stock"))) ∧ fEq (.str w) (.str "wish") = some (.bl (decide (w = "wish"))) := by
  have h : PyData.strOk w = true := by
    rcases hw with rfl | rfl | rfl
    · exact ok_stock
    · exact ok_wish
    · exact ok_even
  exact ⟨fEq_str _ _ h ok_stock, fEq_str _ _ h ok_wish⟩
inductive VOK : D → Prop
  | other (v : D) (h : isVal v = true) (ht : isTupD v = false) : VOK v
  | tupN (ds : List D) (h : ds.length ≠ 2) : VOK (.tup ds)
  | pair (w : Str) (L : D) (hw : w = "stock" ∨ w = "wish" ∨ w = "even") (hL : isVal L = true) (hx : ∀ xs, L = .lst xs → ∀ x ∈ xs, isPlain x = true) : VOK (.tup [.str w, L])
theorem linesOk_len (size : Int) : ∀ (xs : List D) (b : Int), linesOk size xs b = true → xs = [] ∨ b + (xs.length : Int) < size
  | [], _, _ => .inl rfl
  | x :: xs, b, h => by
    cases x with
    | int i =>
      rw [linesOk] at h
      simp only [Bool.and_eq_true, decide_eq_true_eq] at h
      rcases linesOk_len size xs i h.2.2 with e | e
      · subst e; refine .inr ?_; simp; omega
      · refine .inr ?_; simp; omega
    | _ => simp [linesOk] at h
theorem lineList_ls {L : D} {size : Nat} (h : lineList L (size : Int) = true) (hs : size ≤ 1000) : ∃ ls : List Nat, L = .lst (linesD ls) ∧ (∀ l ∈ ls, l < size) ∧ ls.length ≤ 1000 := by
  cases L with
  | lst xs =>
    simp only [lineList, Bool.and_eq_true] at h
    obtain ⟨ls, e, hl⟩ := linesOk_nat size xs (-1) h.2 (by omega)
    refine ⟨ls, by rw [e]; rfl, fun l hl2 => by have := hl l hl2; omega, ?_⟩
    have e2 : xs.length = ls.length := by rw [e]; simp
    rcases linesOk_len size xs (-1) h.2 with e3 | e3
    · rw [e3] at e2; simp at e2; rw [← e2]; omega
    · omega
  | _ => simp [lineList] at h
section
variable (r : List (Option Int)) (g : GridT) (h : Rect (r :: g) r.length) (hn : r.length ≤ 8) (hm : g.length ≤ 7) (st wi : List Int) (hs : st.length = g.length + 1) (hw : wi.length = r.length)
include h hn hm hs hw
theorem judged_both (v : D) (hv : VOK v) : ∃ b, F__law_judged [v, useD (r :: g), useD (turnG (r :: g) r.length), intsD st, intsD wi] = .ok (.bl b, []) ∧ F_is_shortage [tabD (r :: g), amtD st wi, v] = .ok (.bl b, []) := by
  have cs := check_size_eq r g st wi (by simpa using hs) hw
  cases hv with
  | other v hv ht =>
    have q := isB_tuple (kn := knL) (isVal_plain hv)
    rw [ht] at q
    refine ⟨false, ?_, ?_⟩
    · unfold F__law_judged S__law_judged; simp [runF_ap, q]
    · unfold F_is_shortage S_is_shortage; simp [runF_ap, q, cs]
  | tupN ds hd =>
    have q : isB knL "tuple" (.tup ds) = some true := isB_tuple rfl
    have h2 : ¬ ((ds.length : Int) = 2) := by omega
    refine ⟨false, ?_, ?_⟩
    · unfold F__law_judged S__law_judged; simp [runF_ap, q, h2]
    · unfold F_is_shortage S_is_shortage; simp [runF_ap, q, cs, h2]
  | pair w L hword hL hx =>
    have q : isB knL "tuple" (.tup [.str w, L]) = some true := isB_tuple rfl
    have qs : isB knL "str" (.str w) = some true := isB_str rfl
    obtain ⟨w1, w2⟩ := eq_word w hword
    have i0 : atI [D.str w, L] 0 = some (.str w) := atI_lit (j := 0) rfl rfl
    have i1 : atI [D.str w, L] 1 = some L := atI_lit (j := 1) rfl rfl
    have rows := table_rows_eq (r :: g) (by simp; omega)
    have over := amounts_over_eq st wi
    have tst := table_stocks_eq (r :: g)
    have twi := table_wishes_eq r g
    have ast := amounts_stocks_eq st wi
    have awi := amounts_wishes_eq st wi
    have tg := turned_grid_eq r g h (by omega) (by omega)
    have lo1 := is_list_of_eq L st.length hL hx
    have lo2 := is_list_of_eq L wi.length hL hx
    have ll1 := is_line_list_eq L (g.length + 1 : Nat) hL hx
    have ll2 := is_line_list_eq L (r.length : Nat) hL hx
    have sm1 : fSum [intsD st] = some (.int st.sum) := fSum_ints st
    have sm2 : fSum [intsD wi] = some (.int wi.sum) := fSum_ints wi
    have ln1 : fLen [intsD st] = some (.int (st.length : Nat)) := by simp [intsD]
    have ln2 : fLen [intsD wi] = some (.int (wi.length : Nat)) := by simp [intsD]
    have t1 : tabD (r :: g) = .ins 5 [gridD (r :: g)] := rfl
    have t2 : amtD st wi = .ins 0 [intsD st, intsD wi] := rfl
    rw [t1] at rows tst twi cs ⊢
    rw [t2] at over ast awi cs ⊢
    rw [hs] at lo1
    rw [hw] at lo2
    simp only [List.length_cons] at tst
    have hu : Rect (turnG (r :: g) r.length) st.length := by
      have := turn_rect (r :: g) r.length
      rw [hs]; simpa using this
    by_cases a1 : w = "stock" ∧ st.sum - wi.sum ≤ 0
    · obtain ⟨a, b⟩ := a1
      subst a
      by_cases k : lineList L ((g.length + 1 : Nat) : Int) = true
      · obtain ⟨ls, rfl, hl, hz⟩ := lineList_ls k (by omega)
        have e1 := holds_more_eq (r :: g) r.length h ls st wi (by simpa using hl) (by simpa using hs) hw hz
        have e2 := law_holds_more_eq (r :: g) r.length h ls st wi (by simpa using hl) (by simpa using hs) hw hz
        rw [k] at lo1 ll1
        push_cast at lo1 ll1 tst
        refine ⟨decide (takenG (r :: g) ls 0 wi < heldG st ls), ?_, ?_⟩
        · unfold F__law_judged S__law_judged
          simp [runF_ap, q, i0, i1, w1, sm1, sm2, b, ln1, hs, lo1, e2]
        · unfold F_is_shortage S_is_shortage
          simp [runF_ap, q, cs, pTupN, qs, w1, over, b, rows, tst, ll1, ast, awi, e1]
      · have k : lineList L ((g.length + 1 : Nat) : Int) = false := by simpa using k
        rw [k] at lo1 ll1
        push_cast at lo1 ll1 tst
        refine ⟨false, ?_, ?_⟩
        · unfold F__law_judged S__law_judged
          simp [runF_ap, q, i0, i1, w1, sm1, sm2, b, ln1, hs, lo1]
        · unfold F_is_shortage S_is_shortage
          simp [runF_ap, q, cs, pTupN, qs, w1, over, b, rows, tst, ll1]
    · by_cases a2 : w = "wish" ∧ 0 ≤ st.sum - wi.sum
      · obtain ⟨a, b⟩ := a2
        subst a
        have b2 : wi.sum ≤ st.sum := by omega
        by_cases k : lineList L (r.length : Int) = true
        · obtain ⟨ls, rfl, hl, hz⟩ := lineList_ls k (by omega)
          have e1 := holds_more_eq (turnG (r :: g) r.length) st.length hu ls wi st (by rw [turn_len]; exact hl) (by rw [turn_len]; exact hw) rfl hz
          have e2 := law_holds_more_eq (turnG (r :: g) r.length) st.length hu ls wi st (by rw [turn_len]; exact hl) (by rw [turn_len]; exact hw) rfl hz
          rw [k] at lo2 ll2
          refine ⟨decide (takenG (turnG (r :: g) r.length) ls 0 st < heldG wi ls), ?_, ?_⟩
          · unfold F__law_judged S__law_judged
            simp [runF_ap, q, i0, i1, w1, w2, ws_ne, sm1, sm2, b, b2, ln2, hw, lo2, e2]
          · unfold F_is_shortage S_is_shortage
            simp [runF_ap, q, cs, pTupN, qs, w1, w2, ws_ne, over, b, b2, rows, twi, ll2, ast, awi, tg, e1]
        · have k : lineList L (r.length : Int) = false := by simpa using k
          rw [k] at lo2 ll2
          refine ⟨false, ?_, ?_⟩
          · unfold F__law_judged S__law_judged
            simp [runF_ap, q, i0, i1, w1, w2, ws_ne, sm1, sm2, b, b2, ln2, hw, lo2]
          · unfold F_is_shortage S_is_shortage
            simp [runF_ap, q, cs, pTupN, qs, w1, w2, ws_ne, over, b, b2, rows, twi, ll2]
      · refine ⟨false, ?_, ?_⟩
        · unfold F__law_judged S__law_judged
          by_cases y1 : w = "stock"
          · have y2 : ¬ (st.sum - wi.sum ≤ 0) := fun z => a1 ⟨y1, z⟩
            subst y1
            simp [runF_ap, q, i0, i1, w1, w2, sw_ne, sm1, sm2, y2]
          · by_cases y3 : w = "wish"
            · have y4 : ¬ (wi.sum ≤ st.sum) := fun z => a2 ⟨y3, by omega⟩
              subst y3
              simp [runF_ap, q, i0, i1, w1, w2, ws_ne, sm1, sm2, y4]
            · simp [runF_ap, q, i0, i1, w1, w2, sm1, sm2, y1, y3]
        · unfold F_is_shortage S_is_shortage
          by_cases y1 : w = "stock"
          · have y2 : ¬ (st.sum - wi.sum ≤ 0) := fun z => a1 ⟨y1, z⟩
            subst y1
            simp [runF_ap, q, cs, pTupN, qs, w1, w2, sw_ne, over, rows, y2]
          · by_cases y3 : w = "wish"
            · have y4 : ¬ (wi.sum ≤ st.sum) := fun z => a2 ⟨y3, by omega⟩
              subst y3
              simp [runF_ap, q, cs, pTupN, qs, w1, w2, ws_ne, over, rows, y4]
            · simp [runF_ap, q, cs, pTupN, qs, w1, w2, over, rows, y1, y3]
end
end Dv.Lw
namespace Dv.Lw
open PySem PySem.Spec PyProof.Rows L2 Dv
/-! ### the values -/
/-- lists of ints and bools -/
def flatI : D → Bool
  | .int _ => true
  | .bl _ => true
  | _ => false
theorem py_flat : ∀ (xs : List D), (∀ x ∈ xs, flatI x = true) → PyData.canLayAll0 (pyL xs) = true ∧ PyData.depthAll (pyL xs) = 0
  | [], _ => by simp [pyL, PyData.canLayAll0, PyData.depthAll]
  | x :: xs, h => by
    obtain ⟨a, b⟩ := py_flat xs fun y hy => h y (List.mem_cons_of_mem _ hy)
    have hx := h x List.mem_cons_self
    cases x <;> simp [flatI] at hx
    · simp [pyL, D.py, PyData.canLayAll0, PyData.canLay0, PyData.depthAll, PyData.depth, a, b]
    · simp [pyL, D.py, PyData.canLayAll0, PyData.canLay0, PyData.depthAll, PyData.depth, a, b]
def NeOk (v : D) : Prop := fNeV v v = some (.bl false)
theorem neOk_sh {v : D} (h : SeqAt.shaped v.py = true) : NeOk v := fNeV_same (.inl ⟨h, SeqAt.eqv_refl _ (SeqAt.canLay_of_shaped h)⟩)
theorem neOk_sm {v : D} (h : smD v = true) : NeOk v := fNeV_same (.inr h)
def isWord (w : Str) : Prop := w = "stock" ∨ w = "wish" ∨ w = "even"
theorem word_ok {w : Str} (hw : isWord w) : PyData.strOk w = true := by
  rcases hw with rfl | rfl | rfl
  · exact ok_stock
  · exact ok_wish
  · exact ok_even
theorem flat_plain {x : D} (h : flatI x = true) : isPlain x = true := by cases x <;> first | rfl | (simp [flatI] at h)
theorem pair_ok {w : Str} {xs : List D} (hw : isWord w) (h : ∀ x ∈ xs, flatI x = true) : VOK (.tup [.str w, .lst xs]) ∧ NeOk (.tup [.str w, .lst xs]) := by
  refine ⟨.pair w _ hw rfl fun ys e x hx => ?_, neOk_sh ?_⟩
  · cases e; exact flat_plain (h x hx)
  · obtain ⟨a, b⟩ := py_flat xs h
    simp [D.py, pyL, SeqAt.shaped, PyData.canLay0, PyData.canLayAll0, PyData.depth, PyData.depthAll, word_ok hw, a, b]
theorem lines_flat (ls : List Nat) : ∀ x ∈ linesD ls, flatI x = true := fun x hx => by
  obtain ⟨l, _, rfl⟩ := List.mem_map.mp hx
  rfl
theorem law_spoiled_ex (w : Str) (hw : isWord w) (ls : List Nat) (hz : ls.length ≤ 100) (ch at_ : Int) (h0 : 0 ≤ ch) (h1 : ch < 18) : ∃ v, VOK v ∧ NeOk v ∧ F__law_spoiled [.str w, .lst (linesD ls), .int ch, .int at_] = .ok (v, []) := by
  have hlen : (linesD ls).length = ls.length := by simp [linesD]
  have fl := lines_flat ls
  have cutF : ∀ lo hi, ∀ x ∈ cutD (linesD ls) lo hi, flatI x = true := fun lo hi x hx => fl x (by unfold cutD at hx; exact List.mem_of_mem_drop (List.mem_of_mem_take hx))
  have cutL : ∀ lo hi, (cutD (linesD ls) lo hi).length ≤ ls.length := fun lo hi => by
    unfold cutD
    simp only [List.length_take, List.length_drop, hlen]
    omega
  have app : ∀ {xs ys : List D}, (∀ x ∈ xs, flatI x = true) → (∀ x ∈ ys, flatI x = true) → ∀ x ∈ xs ++ ys, flatI x = true := fun a b x hx => (List.mem_append.mp hx).elim (a x) (b x)
  have big : ∀ k : Nat, k ≤ 300 → k ≤ SZ := fun k hk => by unfold SZ; omega
  unfold F__law_spoiled S__law_spoiled
  have hc : ch = 0 ∨ ch = 1 ∨ ch = 2 ∨ ch = 3 ∨ ch = 4 ∨ ch = 5 ∨ ch = 6 ∨ ch = 7 ∨ ch = 8 ∨ ch = 9 ∨ ch = 10 ∨ ch = 11 ∨ ch = 12 ∨ ch = 13 ∨ ch = 14 ∨ ch = 15 ∨ ch = 16 ∨ ch = 17 := by omega
  have c7 : CMulA 7 at_ := mulL (by decide) (by decide)
  have kw : keyD (.int 0) = some (.inl 0) := rfl
  have ix : ∀ (x0 x1 x2 x3 x4 x5 x6 : D), atI [x0, x1, x2, x3, x4, x5, x6] 0 = some x0 ∧ atI [x0, x1, x2, x3, x4, x5, x6] 1 = some x1 ∧ atI [x0, x1, x2, x3, x4, x5, x6] 2 = some x2 ∧ atI [x0, x1, x2, x3, x4, x5, x6] 3 = some x3 ∧ atI [x0, x1, x2, x3, x4, x5, x6] 4 = some x4 ∧ atI [x0, x1, x2, x3, x4, x5, x6] 5 = some x5 ∧ atI [x0, x1, x2, x3, x4, x5, x6] 6 = some x6 := fun _ _ _ _ _ _ _ => ⟨rfl, rfl, rfl, rfl, rfl, rfl, rfl⟩
  rcases hc with rfl | rfl | rfl | rfl | rfl | rfl | rfl | rfl | rfl | rfl | rfl | rfl | rfl | rfl | rfl | rfl | rfl | rfl
  · obtain ⟨a, b⟩ := pair_ok (w := "even") (.inr (.inr rfl)) fl
    exact ⟨_, a, b, by simp [runF_ap]⟩
  · obtain ⟨a, b⟩ := pair_ok (xs := linesD ls ++ cutD (linesD ls) (some (-1)) none) hw (app fl (cutF _ _))
    have l1 := cutL (some (-1)) none
    exact ⟨_, a, b, by simp [runF_ap]; rw [if_pos (big _ (by rw [hlen]; omega))]; rfl⟩
  · obtain ⟨a, b⟩ := pair_ok (xs := cutD (linesD ls) (some at_) none ++ cutD (linesD ls) none (some at_)) hw (app (cutF _ _) (cutF _ _))
    have l1 := cutL (some at_) none
    have l2 := cutL none (some at_)
    exact ⟨_, a, b, by simp [runF_ap]; rw [if_pos (big _ (by omega))]; rfl⟩
  · obtain ⟨a, b⟩ := pair_ok (xs := ls.map fun (l : Nat) => if (l : Int) = 1 then D.bl true else D.int (l : Int)) hw (fun x hx => by
      obtain ⟨l, _, rfl⟩ := List.mem_map.mp hx
      by_cases k : (l : Int) = 1 <;> simp [k, flatI])
    have e : lcM (lcF (pName 4) tYesD (gIf (tVal (gOp fEq (gVar 4) (gC (.int 1)))) (gC (.bl true)) (gVar 4)) [.str w, .lst (linesD ls), .int 3, .int at_, .non]) (linesD ls) = some (ls.map fun (l : Nat) => if (l : Int) = 1 then D.bl true else D.int (l : Int)) :=
      lcM_mapOf fun l _ => by
        by_cases k : (l : Int) = 1
        · simp [lcF, k]
        · simp [lcF, k]
    exact ⟨_, a, b, by
      have z : (linesD ls).length ≤ SZ := big _ (by rw [hlen]; omega)
      simp [runF_ap, e, z]⟩
  · obtain ⟨a, b⟩ := pair_ok (xs := linesD ls ++ [D.int (8 + at_)]) hw (app fl (fun x hx => by simp at hx; subst hx; rfl))
    exact ⟨_, a, b, by simp [runF_ap]; rw [if_pos (big _ (by rw [hlen]; omega))]; rfl⟩
  · obtain ⟨a, b⟩ := pair_ok (xs := [D.int (-1 - at_)] ++ linesD ls) hw (app (fun x hx => by simp at hx; subst hx; rfl) fl)
    exact ⟨_, a, b, by simp [runF_ap]; rw [if_pos (big _ (by rw [hlen]; omega))]; rfl⟩
  · refine ⟨.tup [.str w, .tup (linesD ls)], .pair w _ hw rfl (fun ys e => by cases e), neOk_sh ?_, by simp [runF_ap]⟩
    obtain ⟨a, b⟩ := py_flat _ fl
    simp [D.py, pyL, SeqAt.shaped, PyData.canLay0, PyData.canLayAll0, PyData.depth, PyData.depthAll, word_ok hw, a, b]
  · refine ⟨.lst [.str w, .lst (linesD ls)], .other _ rfl rfl, neOk_sh ?_, by simp [runF_ap]⟩
    obtain ⟨a, b⟩ := py_flat _ fl
    simp [D.py, pyL, SeqAt.shaped, PyData.canLay0, PyData.canLayAll0, PyData.depth, PyData.depthAll, word_ok hw, a, b]
  · refine ⟨.tup [.str w, .lst (linesD ls), .lst (linesD ls)], .tupN _ (by simp), neOk_sh ?_, by simp [runF_ap]⟩
    obtain ⟨a, b⟩ := py_flat _ fl
    simp [D.py, pyL, SeqAt.shaped, PyData.canLay0, PyData.canLayAll0, PyData.depth, PyData.depthAll, word_ok hw, a, b]
  · refine ⟨.tup [.str w], .tupN _ (by simp), neOk_sh ?_, by simp [runF_ap]⟩
    simp [D.py, pyL, SeqAt.shaped, PyData.canLay0, PyData.canLayAll0, PyData.depth, PyData.depthAll, word_ok hw]
  · obtain ⟨a, b⟩ := pair_ok (xs := []) hw (by simp)
    exact ⟨_, a, b, by simp [runF_ap]⟩
  · exact ⟨.non, .other _ rfl rfl, neOk_sh (by simp [D.py, SeqAt.shaped, PyData.canLay0, PyData.depth]), by simp [runF_ap, c7, kw, ix]⟩
  · exact ⟨.int (7 * at_), .other _ rfl rfl, neOk_sh (by simp [D.py, SeqAt.shaped, PyData.canLay0, PyData.depth]), by simp [runF_ap, c7, kw, ix]⟩
  · exact ⟨.str w, .other _ rfl rfl, neOk_sh (by simp [D.py, SeqAt.shaped, PyData.canLay0, PyData.depth, word_ok hw]), by simp [runF_ap, c7, kw, ix]⟩
  · refine ⟨.tup [.str w, .lst [.lst (linesD ls)]], .pair w _ hw rfl (fun ys e x hx => ?_), neOk_sh ?_, by simp [runF_ap, c7, kw, ix]⟩
    · cases e; simp at hx; subst hx; rfl
    · obtain ⟨a, b⟩ := py_flat _ fl
      simp [D.py, pyL, SeqAt.shaped, PyData.canLay0, PyData.canLayAll0, PyData.depth, PyData.depthAll, word_ok hw, a, b]
  · exact ⟨.dic [] [], .other _ rfl rfl, neOk_sm rfl, by simp [runF_ap, c7, kw, ix]⟩
  · exact ⟨.dic [.k (.inl 0)] [.str w], .other _ rfl rfl, neOk_sm rfl, by simp [runF_ap, c7, kw, ix]⟩
  · exact ⟨.tup [.str w, .dic [.k (.inl 0)] [.int 1]], .pair w _ hw rfl (fun ys e => by cases e), neOk_sm rfl, by simp [runF_ap, c7, kw, ix]⟩
end Dv.Lw
namespace Dv.Lw
open PySem PySem.Spec PyProof.Rows L2 Dv
theorem fits_at {ds ss : List Int} (f : Fits ds ss) (i : Nat) (s : Int) (h : ss[i]? = some s) : ∃ d, ds[i]? = some d ∧ 0 ≤ d ∧ d < s ∧ atI (ds.map D.int) (i : Int) = some (.int d) := by
  obtain ⟨d, e, a, b⟩ := f.get h
  exact ⟨d, e, a, b, atI_I ds rfl e⟩
theorem law_value_ex (ns : List Int) (spot m n : Nat) (hm : m ≤ 8) (hn : n ≤ 8) : ∃ v, VOK v ∧ NeOk v ∧ F__law_value [.scr ns, .int spot, .int m, .int n] = .ok (v, []) := by
  obtain ⟨ds, fd, ed⟩ := law_draws_ex ns spot ([2, 4, 18, 8] ++ List.replicate 8 2) (fun s hs => by
    have : s = 2 ∨ s = 4 ∨ s = 18 ∨ s = 8 := by simp at hs; omega
    exact szOk_of (by omega) (by omega)) (by simp)
  obtain ⟨d0, g0, a0, b0, e0⟩ := fits_at fd 0 2 rfl
  obtain ⟨d1, g1, a1, b1, e1⟩ := fits_at fd 1 4 rfl
  obtain ⟨d2, g2, a2, b2, e2⟩ := fits_at fd 2 18 rfl
  obtain ⟨d3, g3, a3, b3, e3⟩ := fits_at fd 3 8 rfl
  have ld : ds.length = 12 := by rw [fd.len]; simp
  -- the word and the size
  obtain ⟨w, sz, hw, hsz, ew, es⟩ : ∃ (w : Str) (sz : Nat), isWord w ∧ sz ≤ 8 ∧ atI [D.str "stock", D.str "wish"] d0 = some (.str w) ∧ atI [D.int m, D.int n] d0 = some (.int sz) := by
    have h : d0 = 0 ∨ d0 = 1 := by omega
    rcases h with rfl | rfl
    · exact ⟨"stock", m, .inl rfl, hm, rfl, rfl⟩
    · exact ⟨"wish", n, .inr (.inl rfl), hn, rfl, rfl⟩
  let ls : List Nat := (List.range sz).filter fun k => decide (ds.getD (4 + k) 0 = 1)
  have hz : ls.length ≤ 8 := Nat.le_trans (List.length_filter_le _ _) (by simpa using hsz)
  have hr : rngOk (sz : Int) := by unfold rngOk; omega
  have el : lcM (lcF (pName 8) (tVal (gOp fEq (gOp fIx (gVar 4) (gOp fAdd (gC (.int 4)) (gVar 8))) (gC (.int 1)))) (gVar 8) [.scr ns, .int spot, .int m, .int n, .lst (ds.map D.int), .str w, .int sz, .non, .non]) ((List.range sz).map fun (k : Nat) => D.int (k : Int)) = some (linesD ls) :=
    lcM_filOf fun k hk => by
      have hk2 : k < sz := List.mem_range.mp hk
      have hk3 : 4 + k < ds.length := by omega
      have e5 : atI (ds.map D.int) (4 + (k : Int)) = some (.int (ds.getD (4 + k) 0)) := atI_I ds (j := 4 + k) (by push_cast; rfl) (by simp [hk3])
      by_cases q : ds.getD (4 + k) 0 = 1
      · have q2 := q
        rw [q] at e5
        simp [lcF, e5]
        simp at q2
        simp [q2]
      · have q2 := q
        simp at e5 q2
        simp [lcF, e5, q2]
  unfold F__law_value S__law_value
  obtain ⟨v1, o1, n1, s1⟩ := law_spoiled_ex w hw ls (by omega) d2 d3 a2 b2
  rw [runF_ap]
  rw [show ([D.scr ns, D.int spot, D.int m, D.int n] ++ List.replicate (9 - [D.scr ns, D.int spot, D.int m, D.int n].length) D.non) = [D.scr ns, .int spot, .int m, .int n, .non, .non, .non, .non, .non] from rfl]
  have hA : (sAsg (gCall F__law_draws [] (gaCons (gVar 0) (gaCons (gVar 1) (gaCons (gOp fCat (gLst (gaCons (gC (.int 2)) (gaCons (gC (.int 4)) (gaCons (gC (.int 18)) (gaCons (gC (.int 8)) gaNil))))) (gOp fRep (gLst (gaCons (gC (.int 2)) gaNil)) (gC (.int 8)))) gaNil)))) (pName 4)) [D.scr ns, .int spot, .int m, .int n, .non, .non, .non, .non, .non] = .ok (.nx, [D.scr ns, .int spot, .int m, .int n, .lst (ds.map D.int), .non, .non, .non, .non]) := by
    have r1 : fRep (.lst [D.int 2]) (.int 8) = some (.lst (List.replicate 8 (D.int 2))) := by
      rw [show (8 : Int) = ((8 : Nat) : Int) from rfl, fRep_nat _ _ (by omega) (by unfold SZ; simp)]
      simp
    have r2 : fCat (.lst [D.int 2, .int 4, .int 18, .int 8]) (.lst (List.replicate 8 (D.int 2))) = some (.lst (([2, 4, 18, 8] ++ List.replicate 8 2 : List Int).map D.int)) := by
      rw [fCat_ll, if_pos (by unfold SZ; simp)]
      simp
    simp only [sAsg_ap, gCall_ap, gaCons_ap, gaNil_ap, gVar_ap, gOp_ap, gLst_ap, gC_ap, nth_succ, nth_zero, Res.bind_ok, r1, r2, ed]
    simp
  rw [sSeq_nx hA]
  rw [sSeq_nx (ρ' := [D.scr ns, .int spot, .int m, .int n, .lst (ds.map D.int), .str w, .non, .non, .non]) (by
    simp at e0
    simp [e0, ew])]
  rw [sSeq_nx (ρ' := [D.scr ns, .int spot, .int m, .int n, .lst (ds.map D.int), .str w, .int sz, .non, .non]) (by
    simp at e0
    simp [e0, es])]
  rw [sSeq_nx (ρ' := [D.scr ns, .int spot, .int m, .int n, .lst (ds.map D.int), .str w, .int sz, .lst (linesD ls), .non]) (by
    simp only [sAsg_ap, gLc_ap, iRg_ap, gaCons_ap, gaNil_ap, gVar_ap, nth_succ, nth_zero, Res.bind_ok]
    rw [if_pos hr]
    simp only [Res.bind_ok, rngD_map]
    rw [if_pos (by unfold SZ; simp; omega), el]
    simp)]
  simp at e1 e2 e3
  by_cases q : d1 = 0
  · refine ⟨v1, o1, n1, ?_⟩
    simp [e1, e2, e3, q, s1]
  · obtain ⟨o2, n2⟩ := pair_ok hw (lines_flat ls)
    refine ⟨_, o2, n2, ?_⟩
    simp [e1, q]
end Dv.Lw
namespace Dv.Lw
open PySem PySem.Spec PyProof.Rows L2 Dv
/-! ### the law -/
theorem isB_bool_b (b : Bool) : isB knL "bool" (.bl b) = some true := isB_bool rfl
section
variable (ns : List Int) (r : List (Option Int)) (g : GridT) (h : Rect (r :: g) r.length) (hn0 : 1 ≤ r.length) (hn : r.length ≤ 8) (hm : g.length ≤ 7) (st wi : List Int) (hs : st.length = g.length + 1) (hw : wi.length = r.length)
include h hn hm hs hw
theorem law_turn (hd gd x15 x16 x17 a b c e : D) (k : Nat) : ∃ b' c' e', B_law_0 [.scr ns, hd, .int (g.length + 1 : Nat), .int (r.length : Nat), gd, useD (r :: g), useD (turnG (r :: g) r.length), tabD (r :: g), amtD st wi, .int (k : Nat), intsD st, intsD wi, b, c, e, x15, x16, x17] =
    .ok (.nx, [.scr ns, hd, .int (g.length + 1 : Nat), .int (r.length : Nat), gd, useD (r :: g), useD (turnG (r :: g) r.length), tabD (r :: g), amtD st wi, .int (k : Nat), intsD st, intsD wi, b', c', e', x15, x16, x17]) := by
  obtain ⟨v, ov, nv, ev⟩ := law_value_ex ns k (g.length + 1) r.length (by omega) hn
  obtain ⟨q, e1, e2⟩ := judged_both r g h hn hm st wi hs hw v ov
  have nv2 : fNeV v v = some (.bl false) := nv
  have bb := isB_bool_b q
  refine ⟨.bl q, v, .bl q, ?_⟩
  unfold B_law_0
  push_cast at ev
  push_cast
  simp [ev, e1, e2, nv2, bb]
theorem law_loop (hd gd x15 x16 x17 : D) : ∀ (ks : List Nat) (a b c e : D), ∃ a' b' c' e', forL (pName 9) B_law_0 (ks.map fun (k : Nat) => D.int ((k + 3 : Nat) : Int)) [.scr ns, hd, .int (g.length + 1 : Nat), .int (r.length : Nat), gd, useD (r :: g), useD (turnG (r :: g) r.length), tabD (r :: g), amtD st wi, a, intsD st, intsD wi, b, c, e, x15, x16, x17] =
    .ok (.nx, [.scr ns, hd, .int (g.length + 1 : Nat), .int (r.length : Nat), gd, useD (r :: g), useD (turnG (r :: g) r.length), tabD (r :: g), amtD st wi, a', intsD st, intsD wi, b', c', e', x15, x16, x17]) := by
  intro ks
  induction ks with
  | nil => exact fun a b c e => ⟨a, b, c, e, rfl⟩
  | cons k ks ih =>
    intro a b c e
    obtain ⟨b1, c1, e1, q⟩ := law_turn ns r g h hn hm st wi hs hw hd gd x15 x16 x17 a b c e (k + 3)
    obtain ⟨a', b', c', e', q2⟩ := ih (.int (k + 3 : Nat)) b1 c1 e1
    refine ⟨a', b', c', e', ?_⟩
    rw [List.map_cons, forL_nx rfl q, q2]
end
theorem shaped_ints (xs : List Int) : SeqAt.shaped (intsD xs).py = true ∧ PyData.eqv (intsD xs).py (intsD xs).py = true := by
  have a := py_flat (xs.map D.int) fun x hx => by
    obtain ⟨i, _, rfl⟩ := List.mem_map.mp hx
    rfl
  have s : SeqAt.shaped (intsD xs).py = true := by
    unfold intsD
    simp [D.py, SeqAt.shaped, PyData.canLay0, PyData.depth, a.1, a.2]
  exact ⟨s, SeqAt.eqv_refl _ (SeqAt.canLay_of_shaped s)⟩
theorem py_row : ∀ (xs : List (Option Int)), PyData.canLayAll0 (pyL (xs.map gD)) = true ∧ PyData.depthAll (pyL (xs.map gD)) = 0
  | [] => by simp [pyL, PyData.canLayAll0, PyData.depthAll]
  | x :: xs => by
    obtain ⟨a, b⟩ := py_row xs
    cases x <;> simp [gD, pyL, D.py, PyData.canLayAll0, PyData.canLay0, PyData.depthAll, PyData.depth, a, b]
theorem py_grid : ∀ (g : GridT), PyData.canLayAll0 (pyL (g.map rowD)) = true ∧ PyData.depthAll (pyL (g.map rowD)) ≤ 1
  | [] => by simp [pyL, PyData.canLayAll0, PyData.depthAll]
  | r :: g => by
    obtain ⟨a, b⟩ := py_grid g
    obtain ⟨c, d⟩ := py_row r
    refine ⟨?_, ?_⟩
    · simp [rowD, pyL, D.py, PyData.canLayAll0, PyData.canLay0, c]
      exact a
    · simp only [List.map_cons, rowD, pyL, D.py, PyData.depthAll, PyData.depth, d]
      have b' : PyData.depthAll (pyL (g.map rowD)) ≤ 1 := b
      omega
theorem shaped_grid (g : GridT) : SeqAt.shaped (gridD g).py = true ∧ PyData.eqv (gridD g).py (gridD g).py = true := by
  obtain ⟨a, b⟩ := py_grid g
  have s : SeqAt.shaped (gridD g).py = true := by
    unfold gridD
    simp [D.py, SeqAt.shaped, PyData.canLay0, PyData.depth, a]
    omega
  exact ⟨s, SeqAt.eqv_refl _ (SeqAt.canLay_of_shaped s)⟩
theorem fEq_same {v : D} (h : SeqAt.shaped v.py = true ∧ PyData.eqv v.py v.py = true) : fEq v v = some (.bl true) := by
  unfold fEq
  rw [if_pos ⟨h.1, h.1⟩, h.2]
theorem law_usable (ns : List Int) (hd a2 a3 : D) (g : GridT) (h1 : g.length ≤ 1000) (h2 : ∀ r ∈ g, r.length ≤ 1000) (a5 a6 a7 a8 a9 a10 a11 a12 a13 a14 a15 a16 a17 : D) :
    (sAsg (gLc (iLst (gVar 4)) (pName 15) tYesD (gLc (iLst (gVar 15)) (pName 17) tYesD (gOp fNotN (gVar 17) (gC .non)))) (pName 5)) [D.scr ns, hd, a2, a3, gridD g, a5, a6, a7, a8, a9, a10, a11, a12, a13, a14, a15, a16, a17] = .ok (.nx, [D.scr ns, hd, a2, a3, gridD g, useD g, a6, a7, a8, a9, a10, a11, a12, a13, a14, a15, a16, a17]) := by
  have e2 : ∀ r ∈ g, lcM (lcF (pName 17) tYesD (gOp fNotN (gVar 17) (gC .non)) [D.scr ns, hd, a2, a3, gridD g, a5, a6, a7, a8, a9, a10, a11, a12, a13, a14, rowD r, a16, a17]) (r.map gD) = some (r.map fun o => D.bl o.isSome) := fun r hr =>
    lcM_mapOf fun o _ => by cases o <;> simp [lcF, gD]
  have e1 : lcM (lcF (pName 15) tYesD (gLc (iLst (gVar 15)) (pName 17) tYesD (gOp fNotN (gVar 17) (gC .non))) [D.scr ns, hd, a2, a3, gridD g, a5, a6, a7, a8, a9, a10, a11, a12, a13, a14, a15, a16, a17]) (g.map rowD) = some (g.map fun r => D.lst (r.map fun o => D.bl o.isSome)) :=
    lcM_mapOf fun r hr => by
      have q := e2 r hr
      have z : r.length ≤ SZ := by have := h2 r hr; unfold SZ; omega
      simp only [lcF, pName_ap, tYesD_ap, gLc_ap, iLst_ap, gVar_ap, nth_succ, nth_zero, Res.bind_ok, List.set_cons_succ, List.set_cons_zero, rowD] at q ⊢
      rw [if_pos (by simpa using z), q]
  have z : g.length ≤ SZ := by unfold SZ; omega
  simp only [sAsg_ap, gLc_ap, iLst_ap, gVar_ap, nth_succ, nth_zero, Res.bind_ok, gridD] at e1 ⊢
  rw [if_pos (by simpa using z), e1]
  simp [useD]
theorem law_turned (ns : List Int) (hd a2 a4 : D) (r : List (Option Int)) (g : GridT) (h : Rect (r :: g) r.length) (hn : r.length ≤ 8) (hm : g.length ≤ 7) (a6 a7 a8 a9 a10 a11 a12 a13 a14 a15 a16 a17 : D) :
    (sAsg (gLc (iRg (gaCons (gVar 3) gaNil)) (pName 16) tYesD (gLc (iLst (gVar 5)) (pName 15) tYesD (gOp fIx (gVar 15) (gVar 16)))) (pName 6)) [D.scr ns, hd, a2, .int ((r.length : Nat) : Int), a4, useD (r :: g), a6, a7, a8, a9, a10, a11, a12, a13, a14, a15, a16, a17] = .ok (.nx, [D.scr ns, hd, a2, .int ((r.length : Nat) : Int), a4, useD (r :: g), useD (turnG (r :: g) r.length), a7, a8, a9, a10, a11, a12, a13, a14, a15, a16, a17]) := by
  have hr : rngOk (r.length : Int) := by unfold rngOk; omega
  have e2 : ∀ c, c < r.length → lcM (lcF (pName 15) tYesD (gOp fIx (gVar 15) (gVar 16)) [D.scr ns, hd, a2, .int ((r.length : Nat) : Int), a4, useD (r :: g), a6, a7, a8, a9, a10, a11, a12, a13, a14, a15, .int (c : Nat), a17]) ((r :: g).map fun x => D.lst (x.map fun o => D.bl o.isSome)) = some ((r :: g).map fun s => D.bl (s.getD c none).isSome) := fun c hc =>
    lcM_mapOf fun s hs => by
      have hs2 : c < s.length := by rw [h s hs]; exact hc
      have e3 : s[c]? = some s[c] := List.getElem?_eq_getElem hs2
      have e4 : atI (s.map fun o => D.bl o.isSome) (c : Int) = some (.bl (s.getD c none).isSome) := atI_nat (by simp [e3])
      simp only [lcF, pName_ap, tYesD_ap, gOp_ap, gVar_ap, nth_succ, nth_zero, Res.bind_ok, List.set_cons_succ, List.set_cons_zero, fIx_lst, e4]
  have e1 : lcM (lcF (pName 16) tYesD (gLc (iLst (gVar 5)) (pName 15) tYesD (gOp fIx (gVar 15) (gVar 16))) [D.scr ns, hd, a2, .int ((r.length : Nat) : Int), a4, useD (r :: g), a6, a7, a8, a9, a10, a11, a12, a13, a14, a15, a16, a17]) ((List.range r.length).map fun (c : Nat) => D.int (c : Int)) = some ((List.range r.length).map fun c => D.lst ((r :: g).map fun s => D.bl (s.getD c none).isSome)) :=
    lcM_mapOf fun c hc => by
      have hc2 : c < r.length := List.mem_range.mp hc
      have q := e2 c hc2
      simp only [lcF, pName_ap, tYesD_ap, gLc_ap, iLst_ap, gVar_ap, nth_succ, nth_zero, Res.bind_ok, List.set_cons_succ, List.set_cons_zero, useD] at q ⊢
      rw [if_pos (by unfold SZ; simp; omega), q]
  simp only [sAsg_ap, gLc_ap, iRg_ap, gaCons_ap, gaNil_ap, gVar_ap, nth_succ, nth_zero, Res.bind_ok]
  rw [if_pos hr]
  simp only [Res.bind_ok, rngD_map]
  rw [if_pos (by unfold SZ; simp; omega), e1]
  simp [useD, turnG]
theorem law_true (ns : List Int) (hl : ns.length ≤ 63) : F_law [.scr ns] = .ok (.bl true, []) := by
  obtain ⟨ds, fd, ed⟩ := law_draws_ex ns 0 [8, 8, 8, 4, 4, 2] (fun s hs => by
    have : s = 8 ∨ s = 4 ∨ s = 2 := by simp at hs; omega
    exact szOk_of (by omega) (by omega)) (by simp)
  obtain ⟨d0, g0, a0, b0, e0⟩ := fits_at fd 0 8 rfl
  obtain ⟨d1, g1, a1, b1, e1⟩ := fits_at fd 1 8 rfl
  obtain ⟨d2, g2, a2, b2, e2⟩ := fits_at fd 2 8 rfl
  obtain ⟨d3, g3, a3, b3, e3⟩ := fits_at fd 3 4 rfl
  obtain ⟨d4, g4, a4, b4, e4⟩ := fits_at fd 4 4 rfl
  obtain ⟨d5, g5, a5, b5, e5⟩ := fits_at fd 5 2 rfl
  obtain ⟨m, em⟩ : ∃ m : Nat, d0 = (m : Int) := ⟨d0.toNat, by omega⟩
  obtain ⟨n, en⟩ : ∃ n : Nat, d1 = (n : Int) := ⟨d1.toNat, by omega⟩
  subst em en
  obtain ⟨sh, hsh, esh⟩ : ∃ sh : Int, 0 ≤ sh ∧ atI [D.int 0, .int 6, .int 3, .int 2] d3 = some (.int sh) := by
    have : d3 = 0 ∨ d3 = 1 ∨ d3 = 2 ∨ d3 = 3 := by omega
    rcases this with rfl | rfl | rfl | rfl
    · exact ⟨0, by decide, rfl⟩
    · exact ⟨6, by decide, rfl⟩
    · exact ⟨3, by decide, rfl⟩
    · exact ⟨2, by decide, rfl⟩
  obtain ⟨gg, lg, rg, eg⟩ := law_grid_ex ns 1 (m + 1) (n + 1) d2 sh (by omega) (by omega) (by omega) (by omega) a2 b2 hsh
  obtain ⟨st, wi, ls, lw, ps, pw, ea⟩ := law_amounts_ex ns 2 (m + 1) (n + 1) d4 (decide (d5 = 1)) (by omega) (by omega) (by omega) (by omega) a4 b4
  obtain ⟨r, g, rfl⟩ : ∃ r g, gg = r :: g := by
    cases gg with
    | nil => simp at lg
    | cons r g => exact ⟨r, g, rfl⟩
  have hr := rg r List.mem_cons_self
  have hR : Rect (r :: g) r.length := fun x hx => (rg x hx).trans hr.symm
  have hg : g.length = m := by simpa using lg
  have cp := law_copy_eq (r :: g) (by simp; omega)
  have ti := table_init_eq (r :: g) r.length (by omega) (by omega) (by simp) (by simp; omega) hR
  have ai := amounts_init_eq st wi (by omega) (by omega) (by omega) (by omega) ps pw
  have hn8 : r.length ≤ 8 := by omega
  have hm7 : g.length ≤ 7 := by omega
  subst hg
  have hn1 : ((n : Int) + 1) = ((r.length : Nat) : Int) := by rw [hr]; push_cast; rfl
  rw [← hr] at eg ea
  have eg' : F__law_grid [.scr ns, .int 1, .int ((g.length + 1 : Nat) : Int), .int ((r.length : Nat) : Int), .int d2, .int sh] = .ok (gridD (r :: g), []) := eg
  have ea' : F__law_amounts [.scr ns, .int 2, .int ((g.length + 1 : Nat) : Int), .int ((r.length : Nat) : Int), .int d4, .bl (decide (d5 = 1))] = .ok (.tup [intsD st, intsD wi], []) := ea
  have ed' : F__law_draws [.scr ns, .int 0, .lst [.int 8, .int 8, .int 8, .int 4, .int 4, .int 2]] = .ok (.lst (ds.map D.int), []) := ed
  have f0 : atI (ds.map D.int) 0 = some (.int (g.length : Int)) := e0
  have f1 : atI (ds.map D.int) 1 = some (.int (n : Int)) := e1
  have f2 : atI (ds.map D.int) 2 = some (.int d2) := e2
  have f3 : atI (ds.map D.int) 3 = some (.int d3) := e3
  have f4 : atI (ds.map D.int) 4 = some (.int d4) := e4
  have f5 : atI (ds.map D.int) 5 = some (.int d5) := e5
  unfold F_law S_law
  rw [runF_ap, show ([D.scr ns] ++ List.replicate (18 - [D.scr ns].length) D.non) = [D.scr ns, .non, .non, .non, .non, .non, .non, .non, .non, .non, .non, .non, .non, .non, .non, .non, .non, .non] from rfl]
  rw [sSeq_nx (ρ' := [D.scr ns, .lst (ds.map D.int), .non, .non, .non, .non, .non, .non, .non, .non, .non, .non, .non, .non, .non, .non, .non, .non]) (by
    simp only [sAsg_ap, gCall_ap, gaCons_ap, gaNil_ap, gVar_ap, gOp_ap, gLst_ap, gC_ap, gBi_ap, gMake_ap, nth_succ, nth_zero, Res.bind_ok, fIx_lst, List.length_nil, if_pos, puts_nil, pName_ap, List.set_cons_succ, List.set_cons_zero, ed'])]
  rw [sSeq_nx (ρ' := [D.scr ns, .lst (ds.map D.int), .int ((g.length + 1 : Nat) : Int), .non, .non, .non, .non, .non, .non, .non, .non, .non, .non, .non, .non, .non, .non, .non]) (by
    simp only [sAsg_ap, gCall_ap, gaCons_ap, gaNil_ap, gVar_ap, gOp_ap, gLst_ap, gC_ap, gBi_ap, gMake_ap, nth_succ, nth_zero, Res.bind_ok, fIx_lst, List.length_nil, if_pos, puts_nil, pName_ap, List.set_cons_succ, List.set_cons_zero, f0, fI_ii]
    have z : (1 : Int) + (g.length : Int) = ((g.length + 1 : Nat) : Int) := by push_cast; omega
    rw [z])]
  rw [sSeq_nx (ρ' := [D.scr ns, .lst (ds.map D.int), .int ((g.length + 1 : Nat) : Int), .int ((r.length : Nat) : Int), .non, .non, .non, .non, .non, .non, .non, .non, .non, .non, .non, .non, .non, .non]) (by
    simp only [sAsg_ap, gCall_ap, gaCons_ap, gaNil_ap, gVar_ap, gOp_ap, gLst_ap, gC_ap, gBi_ap, gMake_ap, nth_succ, nth_zero, Res.bind_ok, fIx_lst, List.length_nil, if_pos, puts_nil, pName_ap, List.set_cons_succ, List.set_cons_zero, f1, fI_ii]
    rw [Int.add_comm 1, hn1])]
  rw [sSeq_nx (ρ' := [D.scr ns, .lst (ds.map D.int), .int ((g.length + 1 : Nat) : Int), .int ((r.length : Nat) : Int), gridD (r :: g), .non, .non, .non, .non, .non, .non, .non, .non, .non, .non, .non, .non, .non]) (by
    simp only [sAsg_ap, gCall_ap, gaCons_ap, gaNil_ap, gVar_ap, gOp_ap, gLst_ap, gC_ap, gBi_ap, gMake_ap, nth_succ, nth_zero, Res.bind_ok, fIx_lst, List.length_nil, if_pos, puts_nil, pName_ap, List.set_cons_succ, List.set_cons_zero, f2, f3, esh, eg'])]
  rw [sSeq_nx (ρ' := [D.scr ns, .lst (ds.map D.int), .int ((g.length + 1 : Nat) : Int), .int ((r.length : Nat) : Int), gridD (r :: g), .non, .non, .non, .non, .non, intsD st, intsD wi, .non, .non, .non, .non, .non, .non]) (by
    simp only [sAsg_ap, gCall_ap, gaCons_ap, gaNil_ap, gVar_ap, gOp_ap, gLst_ap, gC_ap, gBi_ap, gMake_ap, nth_succ, nth_zero, Res.bind_ok, fIx_lst, List.length_nil, if_pos, puts_nil, pName_ap, List.set_cons_succ, List.set_cons_zero, f4, f5, fEq_ii, ea', pTupN, psCons_ap, psNil_ap, List.length_cons])]
  rw [sSeq_nx (ρ' := [D.scr ns, .lst (ds.map D.int), .int ((g.length + 1 : Nat) : Int), .int ((r.length : Nat) : Int), gridD (r :: g), useD (r :: g), .non, .non, .non, .non, intsD st, intsD wi, .non, .non, .non, .non, .non, .non]) (by
    exact law_usable ns _ _ _ (r :: g) (by simp; omega) (fun x hx => by rw [hR x hx]; omega) _ _ _ _ _ _ _ _ _ _ _ _ _)]
  rw [sSeq_nx (ρ' := [D.scr ns, .lst (ds.map D.int), .int ((g.length + 1 : Nat) : Int), .int ((r.length : Nat) : Int), gridD (r :: g), useD (r :: g), useD (turnG (r :: g) r.length), .non, .non, .non, intsD st, intsD wi, .non, .non, .non, .non, .non, .non]) (by
    exact law_turned ns _ _ _ r g hR hn8 hm7 _ _ _ _ _ _ _ _ _ _ _ _)]
  rw [sSeq_nx (ρ' := [D.scr ns, .lst (ds.map D.int), .int ((g.length + 1 : Nat) : Int), .int ((r.length : Nat) : Int), gridD (r :: g), useD (r :: g), useD (turnG (r :: g) r.length), tabD (r :: g), .non, .non, intsD st, intsD wi, .non, .non, .non, .non, .non, .non]) (by
    simp only [sAsg_ap, gCall_ap, gaCons_ap, gaNil_ap, gVar_ap, gOp_ap, gLst_ap, gC_ap, gBi_ap, gMake_ap, nth_succ, nth_zero, Res.bind_ok, fIx_lst, List.length_nil, if_pos, puts_nil, pName_ap, List.set_cons_succ, List.set_cons_zero, cp, ti]
    rfl)]
  rw [sSeq_nx (ρ' := [D.scr ns, .lst (ds.map D.int), .int ((g.length + 1 : Nat) : Int), .int ((r.length : Nat) : Int), gridD (r :: g), useD (r :: g), useD (turnG (r :: g) r.length), tabD (r :: g), amtD st wi, .non, intsD st, intsD wi, .non, .non, .non, .non, .non, .non]) (by
    simp only [sAsg_ap, gCall_ap, gaCons_ap, gaNil_ap, gVar_ap, gOp_ap, gLst_ap, gC_ap, gBi_ap, gMake_ap, nth_succ, nth_zero, Res.bind_ok, fIx_lst, List.length_nil, if_pos, puts_nil, pName_ap, List.set_cons_succ, List.set_cons_zero, intsD, fList_lst] at ai ⊢
    simp only [ai]
    rfl)]
  let q : Nat := (cutD ns none (some 63)).length
  have hq : q ≤ 63 := by
    show (cutD ns none (some 63)).length ≤ 63
    unfold cutD
    rw [List.length_take]
    have : HT.sIx ns.length ns.length (some 63) ≤ 63 := by
      rw [show (some 63 : Option Int) = some ((63 : Nat) : Int) from rfl, HT.sIx_nat]; omega
    have z : HT.sIx ns.length 0 none = 0 := HT.sIx_none _ _
    rw [z]
    omega
  obtain ⟨a', b', c', e', lp⟩ := law_loop ns r g hR hn8 hm7 st wi (by omega) (by omega) (.lst (ds.map D.int)) (gridD (r :: g)) .non .non .non (List.range (max 9 (q : Int) - 3).toNat) .non .non .non .non
  have hrg : rngD 3 (max 9 (q : Int)) = (List.range (max 9 (q : Int) - 3).toNat).map fun (k : Nat) => D.int ((k + 3 : Nat) : Int) := by
    unfold rngD
    apply List.map_congr_left
    intro k _
    congr 1
    push_cast; omega
  have r1 : rngOk (3 : Int) ∧ rngOk (max 9 (q : Int)) := ⟨by unfold rngOk; omega, by unfold rngOk; omega⟩
  have hfor : (sFor (iRg (gaCons (gC (.int 3)) (gaCons (gBi fMax2 (gaCons (gC (.int 9)) (gaCons (gBi fLen (gaCons (gSl fSl (gVar 0) oNone (oSome (gC (.int 63)))) gaNil)) gaNil))) gaNil))) (pName 9) B_law_0) [D.scr ns, .lst (ds.map D.int), .int ((g.length + 1 : Nat) : Int), .int ((r.length : Nat) : Int), gridD (r :: g), useD (r :: g), useD (turnG (r :: g) r.length), tabD (r :: g), amtD st wi, .non, intsD st, intsD wi, .non, .non, .non, .non, .non, .non] = .ok (.nx, [D.scr ns, .lst (ds.map D.int), .int ((g.length + 1 : Nat) : Int), .int ((r.length : Nat) : Int), gridD (r :: g), useD (r :: g), useD (turnG (r :: g) r.length), tabD (r :: g), amtD st wi, a', intsD st, intsD wi, b', c', e', .non, .non, .non]) := by
    have hlen : ((cutD ns none (some 63)).map D.int).length = q := by simp [q]
    simp only [sFor_ap, iRg_ap, gaCons_ap, gaNil_ap, gC_ap, gBi_ap, gSl_ap, gVar_ap, oNone_ap, oSome_ap, nth_zero, Res.bind_ok, fSl_scr, fLen_lst, hlen, fMax2_ii]
    rw [if_pos r1]
    simp only [Res.bind_ok, hrg]
    exact lp
  rw [sSeq_nx hfor]
  have w1 := amounts_wishes_eq st wi
  have w2 := table_rows_eq (r :: g) (by simp; omega)
  have q1 := fEq_same (shaped_ints wi)
  have q2 := fEq_same (shaped_grid (r :: g))
  have t1 : tabD (r :: g) = .ins 5 [gridD (r :: g)] := rfl
  have t2 : amtD st wi = .ins 0 [intsD st, intsD wi] := rfl
  rw [t1] at w2 ⊢
  rw [t2] at w1 ⊢
  simp [w1, w2, q1, q2]
end Dv.Lw

/-! ### the head -/
namespace Dv.Lw
open PySem PySem.Spec PyProof.Rows L2 Dv
def loose : List PySem.Str := (["_wall", "__name__", "copied", "PairError", "InvalidTable", "InvalidAmounts", "InvalidPair", "InvalidBound", "is_integer", "is_between", "is_spot", "LARGEST", "check_list", "Amounts", "check_size", "turned_grid", "is_line_list", "holds_more", "is_shortage", "MOST", "is_entry", "is_row", "width_of", "is_same_size", "entry_sum", "Table", "_law_cell", "_law_mixed", "_law_draws", "_law_grid"] : List PySem.Str) ++ (["_law_spots", "_law_copy", "_law_amounts", "_law_holds_more", "_law_is_list_of", "_law_judged", "_law_spoiled", "_law_value"] : List PySem.Str)
abbrev Rw : PySem.W.OpenRow := PySem.W.OpenLaw.row PySem.Challenge.rw_pairorder_k41_shortages_judged
abbrev hk : PySem.W.Hook := hookX 5 fal fnl xbl
def ob (s : PySem.W.SharedT) : He.AlD × Bool := obsX 5 fal fnl xbl (HandSHeadRun.getT s)
theorem ob_eq (s : PySem.W.SharedT) : ob s = hk.obs s.abs := obsX_eq (HandSHeadRun.getT_eq s)
theorem run (w : World) : HandSHeadRun.RunEq Rw (PySem.W.view Rw.prog [43]) hk ob 8000 loose w := by
  intro os
  kernel_rfl
end Dv.Lw
open PySem PySem.W PySem.Calls PyProof.Rows
theorem PySem.Challenge.cw_pairorder_k41_shortages_judged_holds : PySem.Challenge.rw_pairorder_k41_shortages_judged.Holds := by
  w_on; o_law
  refine HandSHeadRun.head_any (r := OpenLaw.row PySem.Challenge.rw_pairorder_k41_shortages_judged) (q := view (OpenLaw.row PySem.Challenge.rw_pairorder_k41_shortages_judged).prog [43]) (H := Dv.Lw.hk) (ob := Dv.Lw.ob) (M := 8000) (loose := Dv.Lw.loose) (d := HandSHeadRun.topDef (OpenLaw.row PySem.Challenge.rw_pairorder_k41_shortages_judged).prog 43) (kwd := []) Dv.Lw.ob_eq
    (by kernel_rfl) (fun s => by kernel_rfl) Dv.Lw.run (by kernel_rfl) (by kernel_rfl) (by kernel_rfl) (by rfl) (by first | assumption | decide +kernel) (by decide +kernel) ⟨rfl, rfl, rfl, rfl, rfl, by decide +kernel⟩ ?hw ?hc
  case hw => w_witness2
  case hc =>
    refine L2.walk_ofE (l := PySem.Challenge.rw_pairorder_k41_shortages_judged) (n := 63) (k := 6) (x := "_law_script") (CX := Dv.CXe (PySem.Challenge.rw_pairorder_k41_shortages_judged).prog) rfl (by decide) (by kernel_rfl) ⟨rfl, by decide, by decide⟩ ?F (fun _ _ _ _ z => Dv.cx_no z)
    intro w mg fa h Y G hmg0
    obtain ⟨K, KX, c⟩ := Y
    have hmg : mg ("law" : PySem.Str) = some (.ref fa) := by
      have e : (HandSHeadRun.topDef (OpenLaw.row PySem.Challenge.rw_pairorder_k41_shortages_judged).prog 43).name = ("law" : PySem.Str) := by kernel_rfl
      rw [← e]
      exact hmg0
    have e := hmg.symm.trans (He.glo_ok KX G (c.1.fact (Dv.Lw.fal.length - 1) (f := .glo "law") rfl))
    cases e
    obtain ⟨fd, FF⟩ := c.1.def_ (Dv.Lw.fnl.length - 1) (d := Dv.Lw.dd_law) rfl
    have hF := fun base => Dv.Lw.okF_law (P := (PySem.Challenge.rw_pairorder_k41_shortages_judged).prog) (w := w) (base := base) KX G c FF
    exact ⟨K, fd, _, KX, (hF h).2, fun H a ns hl _ hS => Dv.sv_law rfl hS (Dv.Lw.law_true ns hl), fun base _ _ => Dv.fn_cx (hF base).1⟩

