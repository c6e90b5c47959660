import PyProof.Rows.All
import Wide.All
import OpenK.AllK
import Wide.FinOn
import HandS.ForMost
import HandS.IsInst
import HandS.MakeKwOnly
import HandS.Defaults
import HandS.TupAny
import HandS.Codes
import HandS.ForExc
import HandS.Conv
import HandS.Deep
import HandS.Style
import HandS.Dict
import HandS.Zip
import HandS.SortRule
import HandS.SortInts
import HandS.Remove
import HandS.SortKw
import HandS.DictTup
import HandS.IterNext
import HandS.IterVal
import HandS.OwnEq
import HandS.OwnIter
import KE.KOpsOwn
import KE.KOwnIter
import OpenK.KOps
import PySem.Challenge.RW_eveningkept_k17_board_covers
set_option Elab.async false
set_option linter.all false
set_option maxRecDepth 100000
/-! ## VLD -/
/-! VL: a value layer over the hand layer: plain data D without a heap; what of the abstract heap a datum stands for (Den); an environment of data (Slots). -/
namespace VL
open PySem PySem.Spec PyProof.Rows L2

/-- i: never changes (tuples, objects); s: the script's list; a: an argument's list, only read; l: a list of this frame that is not changed any more; b: a list that a name of the frame holds, only seen; o: a list that can be changed;
    c: an object that is being made; d: the same, seen; x: nothing is known of its place -/
inductive Fl | i | s | a | l | b | o | c (x : Addr) | d | x
  deriving DecidableEq
/-- a list's flag; the flag of an object that is being made -/
def Fl.ls : Fl → Fl | .s => .s | .a => .a | .l => .l | .b => .b | .o => .o | _ => .a
def Fl.sl : Fl → Fl | .c y => .c y | .d => .d | _ => .x
inductive Hd where
  | tup | lst (f : Fl) | dct (f : Fl) (ks : List Key) | dtt (f : Fl) (ks : List (List Key)) | obj (C : Addr) (ns : List Str) | slf (f : Fl) (C : Addr) (ns : List Str) | lsk (f : Fl)
def Hd.fl : Hd → Fl
  | .tup => .i | .lst f => f.ls | .dct f _ => f.ls | .dtt f _ => f.ls | .obj _ _ => .i | .slf f _ _ => f.sl | .lsk f => f.sl
/-- a change of flags that goes with lists and with objects that are being made -/
structure FOk (g : Fl → Fl) : Prop where
  i : g .i = .i
  s : ∀ f : Fl, (g f).ls = g f.ls
  t : ∀ f : Fl, (g f).sl = g f.sl
def Hd.map (g : Fl → Fl) : Hd → Hd
  | .tup => .tup | .lst f => .lst (g f) | .dct f ks => .dct (g f) ks | .dtt f ks => .dtt (g f) ks | .obj C ns => .obj C ns | .slf f C ns => .slf (g f) C ns | .lsk f => .lsk (g f)
inductive D where
  | non | bl (b : Bool) | int (i : Int) | str (x : Str) | cst (v : V)
  | nd (h : Hd) (xs : List D)
abbrev D.tup (xs : List D) : D := .nd .tup xs
abbrev D.lst (f : Fl) (xs : List D) : D := .nd (.lst f) xs
abbrev D.dct (f : Fl) (ks : List Key) (xs : List D) : D := .nd (.dct f ks) xs
abbrev D.dtt (f : Fl) (ks : List (List Key)) (xs : List D) : D := .nd (.dtt f ks) xs
abbrev D.slf (f : Fl) (C : Addr) (ns : List Str) (xs : List D) : D := .nd (.slf f C ns) xs
abbrev D.obj (C : Addr) (ns : List Str) (xs : List D) : D := .nd (.obj C ns) xs

/-! ### flags -/
mutual
def D.map (g : Fl → Fl) : D → D
  | .non => .non | .bl b => .bl b | .int i => .int i | .str x => .str x | .cst v => .cst v
  | .nd h xs => .nd (h.map g) (D.maps g xs)
def D.maps (g : Fl → Fl) : List D → List D
  | [] => []
  | d :: ds => D.map g d :: D.maps g ds
end
mutual
def D.all (p : Fl → Bool) : D → Bool
  | .non => true | .bl _ => true | .int _ => true | .str _ => true | .cst _ => true
  | .nd h xs => p h.fl && D.alls p xs
def D.alls (p : Fl → Bool) : List D → Bool
  | [] => true
  | d :: ds => D.all p d && D.alls p ds
end
theorem D.maps_eq (g : Fl → Fl) : ∀ ds : List D, D.maps g ds = ds.map (D.map g)
  | [] => rfl
  | d :: ds => by rw [D.maps, D.maps_eq g ds]; rfl
theorem D.alls_eq (p : Fl → Bool) : ∀ ds : List D, D.alls p ds = ds.all (D.all p)
  | [] => rfl
  | d :: ds => by rw [D.alls, D.alls_eq p ds]; rfl
def fBor : Fl → Fl | .o => .b | .c _ => .d | f => f
def fArg : Fl → Fl | .i => .i | .s => .s | .a => .a | .l => .a | .b => .a | .o => .a | _ => .x
def fLoc : Fl → Fl | .o => .l | .c _ => .x | f => f
def nbF : Fl → Bool | .b => false | .d => false | _ => true
def owF : Fl → Bool | .i => true | .l => true | .o => true | _ => false
/-- what a def may hand back: own lists, what it froze, and what its caller holds fixed -/
def ow2F : Fl → Bool | .i => true | .l => true | .o => true | .a => true | _ => false
/-- fixed for the caller, too -/
def fxF : Fl → Bool | .i => true | .l => true | .s => true | .a => true | _ => false
def puF : Fl → Bool | .i => true | _ => false
def arF : Fl → Bool | .i => true | .s => true | .a => true | .x => true | _ => false
/-- seen through a name -/
abbrev D.bor (d : D) : D := d.map fBor
abbrev D.arg (d : D) : D := d.map fArg
abbrev D.loc (d : D) : D := d.map fLoc
abbrev D.nb (d : D) : Bool := d.all nbF
abbrev D.ow (d : D) : Bool := d.all owF
abbrev D.ow2 (d : D) : Bool := d.all ow2F
/-- no list and no dict in it -/
abbrev D.pure (d : D) : Bool := d.all puF

/-! ### what a datum stands for -/
/-- the written part at hand -/
class KLs where
  K : PySem.W.Frag
variable [KK : KLs]
/-- a list of the written part -/
def KLst (a : Addr) (xs : List V) : Prop := ∃ (o : Obj) (its : Array Value) (n : Nat), KK.K.lookup a = some o ∧ o.cls = .type "list" ∧ o.dict = none ∧ o.data = .seq its n ∧ its.size ≤ sizeLine ∧ Vals xs its.toList
def At (Z B H : Hp) : Fl → Addr → HO → Prop
  | .i, a, o => B a = some o
  | .s, a, o => (∃ ob, B a = some (.frz ob o)) ∨ ∃ xs, o = .lst xs ∧ KLst a xs
  | .a, a, o => B a = some o
  | .l, a, o => B a = some o ∧ Z a = none
  | .b, a, o => H a = some o
  | .o, a, o => H a = some o
  | .c y, a, o => H a = some o ∧ a = y
  | .d, a, o => H a = some o
  | .x, _, _ => True
def Cont : Hd → HO → List V → Prop
  | .tup, o, vs => o = .tup vs
  | .lst _, o, vs => o = .lst vs
  | .dct _ ks, o, vs => ks.length = vs.length ∧ o = .dK (ks.zip vs)
  | .dtt _ ks, o, vs => ks.length = vs.length ∧ o = .dT (ks.zip vs)
  | .obj C ns, o, vs => ns.length = vs.length ∧ ∃ dx, o = .ins C dx (ns.zip vs)
  | .slf _ C ns, o, vs => ns.length = vs.length ∧ ∃ dx, o = .ins C dx (ns.zip vs)
  | .lsk _, o, vs => o = .lst vs
def fp : Fl → Addr → List Addr → List Addr
  | .o, a, F => a :: F
  | .c _, a, F => a :: F
  | _, _, F => F
mutual
def Den (Z B H : Hp) : D → V → List Addr → Prop
  | .non, v, F => v = .non ∧ F = []
  | .bl b, v, F => v = .bl b ∧ F = []
  | .int i, v, F => v = .int i ∧ F = []
  | .str x, v, F => v = .str x ∧ F = []
  | .cst u, v, F => v = u ∧ F = []
  | .nd h ds, v, F => ∃ a o vs G, v = .ref a ∧ At Z B H h.fl a o ∧ Cont h o vs ∧ Dens Z B H ds vs G ∧ F = fp h.fl a G
def Dens (Z B H : Hp) : List D → List V → List Addr → Prop
  | [], vs, F => vs = [] ∧ F = []
  | d :: ds, vs, F => ∃ v ws G1 G2, vs = v :: ws ∧ Den Z B H d v G1 ∧ Dens Z B H ds ws G2 ∧ F = G1 ++ G2
end
section
variable {Z Z' B B' H H' : Hp}
theorem At.grow {f : Fl} {a : Addr} {o : HO} (x : At Z B H f a o) (sb : Same B B') (sh : Same H H') : At Z B' H' f a o := by
  cases f with
  | i => exact sb _ _ x
  | s => exact x.imp (fun ⟨ob, x⟩ => ⟨ob, sb _ _ x⟩) id
  | a => exact sb _ _ x
  | l => exact ⟨sb _ _ x.1, x.2⟩
  | b => exact sh _ _ x
  | o => exact sh _ _ x
  | c y => exact ⟨sh _ _ x.1, x.2⟩
  | d => exact sh _ _ x
  | x => exact x
theorem mem_fp {f : Fl} {a b : Addr} {G : List Addr} (h : b ∈ G) : b ∈ fp f a G := by
  cases f <;> first | exact h | exact List.mem_cons_of_mem _ h
mutual
theorem Den.grow (sb : Same B B') (sh : Same H H') : ∀ (d : D) (v : V) (F : List Addr), Den Z B H d v F → Den Z B' H' d v F
  | .non, _, _, h => h
  | .bl _, _, _, h => h
  | .int _, _, _, h => h
  | .str _, _, _, h => h
  | .cst _, _, _, h => h
  | .nd h ds, _, _, ⟨a, o, vs, G, e, x, c, q, f⟩ => ⟨a, o, vs, G, e, x.grow sb sh, c, Dens.grow sb sh ds vs G q, f⟩
theorem Dens.grow (sb : Same B B') (sh : Same H H') : ∀ (ds : List D) (vs : List V) (F : List Addr), Dens Z B H ds vs F → Dens Z B' H' ds vs F
  | [], _, _, h => h
  | d :: ds, _, _, ⟨v, ws, G1, G2, e, x, q, f⟩ => ⟨v, ws, G1, G2, e, Den.grow sb sh d v G1 x, Dens.grow sb sh ds ws G2 q, f⟩
end
mutual
/-- a change of the heap elsewhere -/
theorem Den.keep : ∀ (d : D) (v : V) (F : List Addr), d.nb = true → (∀ a ∈ F, H' a = H a) → Den Z B H d v F → Den Z B H' d v F
  | .non, _, _, _, _, h => h
  | .bl _, _, _, _, _, h => h
  | .int _, _, _, _, _, h => h
  | .str _, _, _, _, _, h => h
  | .cst _, _, _, _, _, h => h
  | .nd h ds, _, _, n, k, ⟨a, o, vs, G, e, x, c, q, f⟩ => by
    subst f
    have n' : nbF h.fl = true ∧ D.alls nbF ds = true := by simpa [D.all] using n
    refine ⟨a, o, vs, G, e, ?_, c, Dens.keep ds vs G n'.2 (fun b hb => k b (mem_fp hb)) q, rfl⟩
    have key : ∀ f : Fl, nbF f = true → (∀ b ∈ fp f a G, H' b = H b) → At Z B H f a o → At Z B H' f a o := by
      intro f
      cases f <;> intro m k x
      · exact x
      · exact x
      · exact x
      · exact x
      · exact nomatch m
      · exact (k a List.mem_cons_self).trans x
      · exact ⟨(k a List.mem_cons_self).trans x.1, x.2⟩
      · exact nomatch m
      · exact x
    exact key _ n'.1 k x
theorem Dens.keep : ∀ (ds : List D) (vs : List V) (F : List Addr), D.alls nbF ds = true → (∀ a ∈ F, H' a = H a) → Dens Z B H ds vs F → Dens Z B H' ds vs F
  | [], _, _, _, _, h => h
  | d :: ds, _, _, n, k, ⟨v, ws, G1, G2, e, x, q, f⟩ => by
    subst f
    have n' : d.nb = true ∧ D.alls nbF ds = true := by simpa [D.alls] using n
    exact ⟨v, ws, G1, G2, e, Den.keep d v G1 n'.1 (fun b hb => k b (List.mem_append_left _ hb)) x, Dens.keep ds ws G2 n'.2 (fun b hb => k b (List.mem_append_right _ hb)) q, rfl⟩
end
theorem Hd.fl_map (g : Fl → Fl) (hi : FOk g) : ∀ h : Hd, (h.map g).fl = g h.fl
  | .tup => hi.i.symm
  | .lst f => hi.s f
  | .dct f _ => hi.s f
  | .dtt f _ => hi.s f
  | .obj _ _ => hi.i.symm
  | .slf f _ _ => hi.t f
  | .lsk f => hi.t f
theorem fok_bor : FOk fBor := ⟨rfl, fun f => by cases f <;> rfl, fun f => by cases f <;> rfl⟩
theorem fok_arg : FOk fArg := ⟨rfl, fun f => by cases f <;> rfl, fun f => by cases f <;> rfl⟩
theorem fok_loc : FOk fLoc := ⟨rfl, fun f => by cases f <;> rfl, fun f => by cases f <;> rfl⟩
theorem Cont.map (g : Fl → Fl) {o : HO} {vs : List V} : ∀ h : Hd, Cont h o vs → Cont (h.map g) o vs
  | .tup, x => x
  | .lst _, x => x
  | .dct _ _, x => x
  | .dtt _ _, x => x
  | .obj _ _, x => x
  | .slf _ _ _, x => x
  | .lsk _, x => x
/-- a change of flags, node by node; the footprint stays or falls away -/
structure FlagOk (g : Fl → Fl) (Z B H Z' B' H' : Hp) (ok : Fl → Bool) (P : Addr → Prop) (R : List Addr → List Addr) : Prop where
  i : FOk g
  at_ : ∀ f a o G, ok f = true → (f = .o ∨ (∃ y, f = .c y) → P a) → At Z B H f a o → At Z' B' H' (g f) a o ∧ R (fp f a G) = fp (g f) a (R G)
  nil : R [] = []
  app : ∀ a b, R (a ++ b) = R a ++ R b
mutual
theorem Den.flag {g : Fl → Fl} {ok : Fl → Bool} {P : Addr → Prop} {R : List Addr → List Addr} (K : FlagOk g Z B H Z' B' H' ok P R) : ∀ (d : D) (v : V) (F : List Addr), d.all ok = true → (∀ a ∈ F, P a) → Den Z B H d v F → Den Z' B' H' (d.map g) v (R F)
  | .non, _, _, _, _, ⟨h, f⟩ => ⟨h, by rw [f]; exact K.nil⟩
  | .bl _, _, _, _, _, ⟨h, f⟩ => ⟨h, by rw [f]; exact K.nil⟩
  | .int _, _, _, _, _, ⟨h, f⟩ => ⟨h, by rw [f]; exact K.nil⟩
  | .str _, _, _, _, _, ⟨h, f⟩ => ⟨h, by rw [f]; exact K.nil⟩
  | .cst _, _, _, _, _, ⟨h, f⟩ => ⟨h, by rw [f]; exact K.nil⟩
  | .nd h ds, _, _, n, k, ⟨a, o, vs, G, e, x, c, q, f⟩ => by
    subst f
    have n' : ok h.fl = true ∧ D.alls ok ds = true := by simpa [D.all] using n
    have z := K.at_ h.fl a o G n'.1 (fun hf => k a (by rcases hf with hf | ⟨y, hf⟩ <;> (rw [hf]; exact List.mem_cons_self))) x
    exact ⟨a, o, vs, R G, e, by rw [Hd.fl_map g K.i]; exact z.1, Cont.map g h c, Dens.flag K ds vs G n'.2 (fun b hb => k b (mem_fp hb)) q, by rw [Hd.fl_map g K.i]; exact z.2⟩
theorem Dens.flag {g : Fl → Fl} {ok : Fl → Bool} {P : Addr → Prop} {R : List Addr → List Addr} (K : FlagOk g Z B H Z' B' H' ok P R) : ∀ (ds : List D) (vs : List V) (F : List Addr), D.alls ok ds = true → (∀ a ∈ F, P a) → Dens Z B H ds vs F → Dens Z' B' H' (D.maps g ds) vs (R F)
  | [], _, _, _, _, ⟨h, f⟩ => ⟨h, by rw [f]; exact K.nil⟩
  | d :: ds, _, _, n, k, ⟨v, ws, G1, G2, e, x, q, f⟩ => by
    subst f
    have n' : d.all ok = true ∧ D.alls ok ds = true := by simpa [D.alls] using n
    exact ⟨v, ws, R G1, R G2, e, Den.flag K d v G1 n'.1 (fun b hb => k b (List.mem_append_left _ hb)) x, Dens.flag K ds ws G2 n'.2 (fun b hb => k b (List.mem_append_right _ hb)) q, K.app _ _⟩
end
mutual
theorem D.all_true : ∀ d : D, d.all (fun _ => true) = true
  | .non => rfl
  | .bl _ => rfl
  | .int _ => rfl
  | .str _ => rfl
  | .cst _ => rfl
  | .nd h ds => by simp [D.all, D.alls_true ds]
theorem D.alls_true : ∀ ds : List D, D.alls (fun _ => true) ds = true
  | [] => rfl
  | d :: ds => by simp [D.alls, D.all_true d, D.alls_true ds]
end
theorem flag_bor : FlagOk fBor Z B H Z B H (fun _ => true) (fun _ => True) (fun _ => []) :=
  ⟨fok_bor, fun f a o G _ _ x => by cases f <;> first | exact ⟨x, rfl⟩ | exact ⟨x.1, rfl⟩, rfl, fun _ _ => rfl⟩
/-- what a name holds, seen -/
theorem Den.see {d : D} {v : V} {F : List Addr} (h : Den Z B H d v F) : Den Z B H d.bor v [] := Den.flag flag_bor d v F (D.all_true d) (fun _ _ => True.intro) h
/-- the callee's base: what is fixed here, and all lists and dicts -/
def argBase (B H : Hp) : Hp := fun a => match H a with
  | some (.lst xs) => some (.lst xs)
  | some (.dK k) => some (.dK k)
  | some (.dT k) => some (.dT k)
  | _ => B a
theorem argBase_of {a : Addr} {o : HO} (sub : Same B H) (h : B a = some o) : argBase B H a = some o := by
  unfold argBase
  rw [sub _ _ h]
  cases o <;> first | rfl | exact h
theorem argBase_sub (sub : Same B H) : Same (argBase B H) H := fun a o h => by
  unfold argBase at h
  split at h
  · rename_i e; rw [e]; exact h
  · rename_i e; rw [e]; exact h
  · rename_i e; rw [e]; exact h
  · exact sub _ _ h
theorem Cont.lists {h : Hd} {o : HO} {vs : List V} (c : Cont h o vs) (hf : h.fl = .a ∨ h.fl = .l ∨ h.fl = .b ∨ h.fl = .o) : (∃ xs, o = .lst xs) ∨ (∃ k, o = .dK k) ∨ ∃ k, o = .dT k := by
  cases h with
  | tup => rcases hf with e | e | e | e <;> cases e
  | lst f => exact .inl ⟨_, c⟩
  | dct f ks => exact .inr (.inl ⟨_, c.2⟩)
  | dtt f ks => exact .inr (.inr ⟨_, c.2⟩)
  | obj C ns => rcases hf with e | e | e | e <;> cases e
  | slf f C ns => rcases hf with e | e | e | e <;> (cases f <;> cases e)
  | lsk f => rcases hf with e | e | e | e <;> (cases f <;> cases e)
theorem argBase_list {h : Hd} {o : HO} {vs : List V} {a : Addr} (c : Cont h o vs) (hf : h.fl = .a ∨ h.fl = .l ∨ h.fl = .b ∨ h.fl = .o) (e : H a = some o) : argBase B H a = some o := by
  unfold argBase
  rcases c.lists hf with ⟨xs, rfl⟩ | ⟨k, rfl⟩ | ⟨k, rfl⟩ <;> rw [e]
theorem hand_at {h : Hd} {o : HO} {vs : List V} {a : Addr} (sub : Same B H) (c : Cont h o vs) (x : At Z B H h.fl a o) : At Z' (argBase B H) H (fArg h.fl) a o := by
  have key : ∀ f : Fl, f = h.fl → At Z B H f a o → At Z' (argBase B H) H (fArg f) a o := by
    intro f ef x
    cases f with
    | i => exact argBase_of sub x
    | s => exact x.imp (fun ⟨ob, x⟩ => ⟨ob, argBase_of sub x⟩) id
    | a => exact argBase_of sub x
    | l => exact argBase_of sub x.1
    | b => exact argBase_list c (.inr (.inr (.inl ef.symm))) x
    | o => exact argBase_list c (.inr (.inr (.inr ef.symm))) x
    | c y => exact True.intro
    | d => exact True.intro
    | x => exact True.intro
  exact key _ rfl x
theorem fp_arg (f : Fl) (a : Addr) : fp (fArg f) a [] = [] := by cases f <;> rfl
mutual
/-- handed to a callee -/
theorem Den.hand (sub : Same B H) : ∀ (d : D) (v : V) (F : List Addr), Den Z B H d v F → Den Z' (argBase B H) H d.arg v []
  | .non, _, _, h => ⟨h.1, rfl⟩
  | .bl _, _, _, h => ⟨h.1, rfl⟩
  | .int _, _, _, h => ⟨h.1, rfl⟩
  | .str _, _, _, h => ⟨h.1, rfl⟩
  | .cst _, _, _, h => ⟨h.1, rfl⟩
  | .nd h ds, _, _, ⟨a, o, vs, G, e, x, c, q, f⟩ =>
    ⟨a, o, vs, [], e, by rw [Hd.fl_map fArg fok_arg]; exact hand_at sub c x, Cont.map fArg h c, Dens.hand sub ds vs G q, by rw [Hd.fl_map fArg fok_arg, fp_arg]⟩
theorem Dens.hand (sub : Same B H) : ∀ (ds : List D) (vs : List V) (F : List Addr), Dens Z B H ds vs F → Dens Z' (argBase B H) H (D.maps fArg ds) vs []
  | [], _, _, h => ⟨h.1, rfl⟩
  | d :: ds, _, _, ⟨v, ws, G1, G2, e, x, q, f⟩ => ⟨v, ws, [], [], e, Den.hand sub d v G1 x, Dens.hand sub ds ws G2 q, rfl⟩
end
end
end VL

/-! ## VLB -/
/-! VL: growth, environments, results. -/
namespace VL
open PySem PySem.Spec PyProof.Rows L2

variable [KK : KLs]
/-- from (B, H) to (B', H'): nothing that stood is changed; what is fixed stays fixed, what stood and was not fixed is not fixed later -/
structure Grow (B H B' H' : Hp) : Prop where
  sb : Same B B'
  sh : Same H H'
  sub : Same B' H'
  old : ∀ a o, H a = some o → B a = none → B' a = none
theorem Grow.refl {B H : Hp} (s : Same B H) : Grow B H B H := ⟨Same.refl _, Same.refl _, s, fun _ _ _ h => h⟩
theorem Grow.trans {B H B1 H1 B2 H2 : Hp} (x : Grow B H B1 H1) (y : Grow B1 H1 B2 H2) : Grow B H B2 H2 :=
  ⟨x.sb.trans y.sb, x.sh.trans y.sh, y.sub, fun a o h n => y.old a o (x.sh _ _ h) (x.old a o h n)⟩
/-- a new fixed object -/
theorem Grow.fix {B H : Hp} {p : Addr} {o : HO} (s : Same B H) (hp : H p = none) : Grow B H (upd B p o) (upd H p o) := by
  have bp : ∀ b x, B b = some x → b ≠ p := fun b x e z => by rw [z] at e; rw [s _ _ e] at hp; cases hp
  refine ⟨fun b x e => by rw [upd_ne (bp b x e)]; exact e, fun b x e => ?_, fun b x e => ?_, fun b x e n => ?_⟩
  · rw [upd_ne (ne_of_none e hp)]; exact e
  · by_cases z : b = p
    · subst z; rw [upd_same] at e ⊢; exact e
    · rw [upd_ne z] at e ⊢; exact s _ _ e
  · rw [upd_ne (ne_of_none e hp)]; exact n
/-- a new object that is not fixed -/
theorem Grow.new {B H : Hp} {p : Addr} {o : HO} (s : Same B H) (hp : H p = none) : Grow B H B (upd H p o) := by
  refine ⟨Same.refl _, fun b x e => ?_, fun b x e => ?_, fun b x _ n => n⟩
  · rw [upd_ne (ne_of_none e hp)]; exact e
  · rw [upd_ne (ne_of_none (s _ _ e) hp)]; exact s _ _ e
theorem Same.none {B H : Hp} (s : Same B H) {a : Addr} (h : H a = Option.none) : B a = Option.none := s.free h

section
variable {Z B B' H H' : Hp}
mutual
/-- the footprint is tracked -/
theorem Den.live : ∀ (d : D) (v : V) (F : List Addr), Den Z B H d v F → ∀ a ∈ F, ∃ o, H a = some o
  | .non, _, _, ⟨_, f⟩, a, h => by rw [f] at h; cases h
  | .bl _, _, _, ⟨_, f⟩, a, h => by rw [f] at h; cases h
  | .int _, _, _, ⟨_, f⟩, a, h => by rw [f] at h; cases h
  | .str _, _, _, ⟨_, f⟩, a, h => by rw [f] at h; cases h
  | .cst _, _, _, ⟨_, f⟩, a, h => by rw [f] at h; cases h
  | .nd h ds, _, _, ⟨b, o, vs, G, e, x, c, q, f⟩, a, m => by
    subst f
    revert x m
    cases h.fl <;> intro x m
    · exact Dens.live ds vs G q a m
    · exact Dens.live ds vs G q a m
    · exact Dens.live ds vs G q a m
    · exact Dens.live ds vs G q a m
    · exact Dens.live ds vs G q a m
    · rcases List.mem_cons.mp m with z | m
      · exact ⟨o, by rw [z]; exact x⟩
      · exact Dens.live ds vs G q a m
    · rcases List.mem_cons.mp m with z | m
      · exact ⟨o, by rw [z]; exact x.1⟩
      · exact Dens.live ds vs G q a m
    · exact Dens.live ds vs G q a m
    · exact Dens.live ds vs G q a m
theorem Dens.live : ∀ (ds : List D) (vs : List V) (F : List Addr), Dens Z B H ds vs F → ∀ a ∈ F, ∃ o, H a = some o
  | [], _, _, ⟨_, f⟩, a, h => by rw [f] at h; cases h
  | d :: ds, _, _, ⟨v, ws, G1, G2, e, x, q, f⟩, a, h => by
    subst f
    rcases List.mem_append.mp h with h | h
    · exact Den.live d v G1 x a h
    · exact Dens.live ds ws G2 q a h
end
theorem Dens.len : ∀ {ds : List D} {vs : List V} {F : List Addr}, Dens Z B H ds vs F → ds.length = vs.length
  | [], _, _, ⟨e, _⟩ => by rw [e]; rfl
  | d :: ds, _, _, ⟨v, ws, G1, G2, e, x, q, f⟩ => by rw [e]; simp only [List.length_cons]; rw [q.len]
theorem Dens.app : ∀ {ds es : List D} {vs ws : List V} {F G : List Addr}, Dens Z B H ds vs F → Dens Z B H es ws G → Dens Z B H (ds ++ es) (vs ++ ws) (F ++ G)
  | [], _, _, _, _, _, ⟨e, f⟩, y => by subst e f; exact y
  | d :: ds, _, _, _, _, _, ⟨v, ws, G1, G2, e, x, q, f⟩, y => by
    subst e f
    exact ⟨v, _, G1, _, rfl, x, q.app y, List.append_assoc _ _ _⟩
theorem Dens.at : ∀ {ds : List D} {vs : List V} {F : List Addr} {i : Nat} {d : D}, Dens Z B H ds vs F → ds[i]? = some d → ∃ v G, vs[i]? = some v ∧ Den Z B H d v G ∧ ∀ a ∈ G, a ∈ F
  | [], _, _, _, _, _, e => by simp at e
  | d :: ds, _, _, 0, d', ⟨v, ws, G1, G2, e, x, q, f⟩, h => by
    subst e f
    simp at h
    subst h
    exact ⟨v, G1, rfl, x, fun a h => List.mem_append_left _ h⟩
  | d :: ds, _, _, i + 1, d', ⟨v, ws, G1, G2, e, x, q, f⟩, h => by
    subst e f
    obtain ⟨v', G, h1, h2, h3⟩ := Dens.at (i := i) q (by simpa using h)
    exact ⟨v', G, by simpa using h1, h2, fun a m => List.mem_append_right _ (h3 a m)⟩
theorem Dens.one {d : D} {v : V} {F : List Addr} (h : Den Z B H d v F) : Dens Z B H [d] [v] F := ⟨v, [], F, [], rfl, h, ⟨rfl, rfl⟩, (List.append_nil _).symm⟩
theorem Dens.split : ∀ {ds es : List D} {vs : List V} {F : List Addr}, Dens Z B H (ds ++ es) vs F → ∃ v1 v2 F1 F2, vs = v1 ++ v2 ∧ F = F1 ++ F2 ∧ Dens Z B H ds v1 F1 ∧ Dens Z B H es v2 F2
  | [], es, vs, F, h => ⟨[], vs, [], F, rfl, rfl, ⟨rfl, rfl⟩, h⟩
  | d :: ds, es, _, _, ⟨v, ws, G1, G2, e, x, q, f⟩ => by
    subst e f
    obtain ⟨v1, v2, F1, F2, e1, e2, q1, q2⟩ := Dens.split q
    subst e1 e2
    exact ⟨v :: v1, v2, G1 ++ F1, F2, rfl, (List.append_assoc _ _ _).symm, ⟨v, v1, G1, F1, rfl, x, q1, rfl⟩, q2⟩
theorem maps_app (g : Fl → Fl) (ds es : List D) : D.maps g (ds ++ es) = D.maps g ds ++ D.maps g es := by simp [D.maps_eq]
theorem alls_app (p : Fl → Bool) (ds es : List D) : D.alls p (ds ++ es) = (D.alls p ds && D.alls p es) := by simp [D.alls_eq]
mutual
theorem D.pure_map {g : Fl → Fl} : ∀ {d : D}, d.pure = true → d.map g = d
  | .non, _ => rfl
  | .bl _, _ => rfl
  | .int _, _ => rfl
  | .str _, _ => rfl
  | .cst _, _ => rfl
  | .nd h ds, n => by
    have n' : puF h.fl = true ∧ D.alls puF ds = true := by simpa [D.all] using n
    have e : h.map g = h := by
      cases h with
      | tup => rfl
      | obj C ns => rfl
      | lst f => cases f <;> exact nomatch n'.1
      | dct f ks => cases f <;> exact nomatch n'.1
      | dtt f ks => cases f <;> exact nomatch n'.1
      | slf f C ns => cases f <;> exact nomatch n'.1
      | lsk f => cases f <;> exact nomatch n'.1
    rw [D.map, e, D.pure_maps n'.2]
theorem D.pure_maps {g : Fl → Fl} : ∀ {ds : List D}, D.alls puF ds = true → D.maps g ds = ds
  | [], _ => rfl
  | d :: ds, n => by
    have n' : d.all puF = true ∧ D.alls puF ds = true := by simpa [D.alls] using n
    rw [D.maps, D.pure_map n'.1, D.pure_maps n'.2]
end
mutual
theorem D.all_imp {p q : Fl → Bool} (k : ∀ f, p f = true → q f = true) : ∀ d : D, d.all p = true → d.all q = true
  | .non, _ => rfl
  | .bl _, _ => rfl
  | .int _, _ => rfl
  | .str _, _ => rfl
  | .cst _, _ => rfl
  | .nd h ds, n => by
    have n' : p h.fl = true ∧ D.alls p ds = true := by simpa [D.all] using n
    simp [D.all, k _ n'.1, D.alls_imp k ds n'.2]
theorem D.alls_imp {p q : Fl → Bool} (k : ∀ f, p f = true → q f = true) : ∀ ds : List D, D.alls p ds = true → D.alls q ds = true
  | [], _ => rfl
  | d :: ds, n => by
    have n' : d.all p = true ∧ D.alls p ds = true := by simpa [D.alls] using n
    simp [D.alls, D.all_imp k d n'.1, D.alls_imp k ds n'.2]
end
theorem D.nb_of_pure {d : D} (h : d.pure = true) : d.nb = true := D.all_imp (fun f e => by cases f <;> first | rfl | exact nomatch e) d h
theorem D.ow_of_pure {d : D} (h : d.pure = true) : d.ow = true := D.all_imp (fun f e => by cases f <;> first | rfl | exact nomatch e) d h
theorem D.nb_of_ow {d : D} (h : d.ow = true) : d.nb = true := D.all_imp (fun f e => by cases f <;> first | rfl | exact nomatch e) d h
mutual
theorem D.map_map (g k : Fl → Fl) : ∀ d : D, (d.map g).map k = d.map (fun f => k (g f))
  | .non => rfl
  | .bl _ => rfl
  | .int _ => rfl
  | .str _ => rfl
  | .cst _ => rfl
  | .nd h ds => by
    have e : (h.map g).map k = h.map (fun f => k (g f)) := by cases h <;> rfl
    rw [D.map, D.map, D.map, e, D.maps_maps g k ds]
theorem D.maps_maps (g k : Fl → Fl) : ∀ ds : List D, D.maps k (D.maps g ds) = D.maps (fun f => k (g f)) ds
  | [] => rfl
  | d :: ds => by rw [D.maps, D.maps, D.maps, D.map_map g k d, D.maps_maps g k ds]
end
mutual
theorem D.all_map {g : Fl → Fl} {p q : Fl → Bool} (hi : FOk g) (k : ∀ f, q f = true → p (g f) = true) : ∀ d : D, d.all q = true → (d.map g).all p = true
  | .non, _ => rfl
  | .bl _, _ => rfl
  | .int _, _ => rfl
  | .str _, _ => rfl
  | .cst _, _ => rfl
  | .nd h ds, n => by
    have n' : q h.fl = true ∧ D.alls q ds = true := by simpa [D.all] using n
    have e : p (h.map g).fl = true := by rw [Hd.fl_map g hi]; exact k _ n'.1
    simp [D.map, D.all, e, D.alls_map hi k ds n'.2]
theorem D.alls_map {g : Fl → Fl} {p q : Fl → Bool} (hi : FOk g) (k : ∀ f, q f = true → p (g f) = true) : ∀ ds : List D, D.alls q ds = true → D.alls p (D.maps g ds) = true
  | [], _ => rfl
  | d :: ds, n => by
    have n' : d.all q = true ∧ D.alls q ds = true := by simpa [D.alls] using n
    simp [D.maps, D.alls, D.all_map hi k d n'.1, D.alls_map hi k ds n'.2]
end
/-- frozen: the footprint becomes fixed -/
theorem flag_loc (sb : Same B B') {F : List Addr} (hF : ∀ a o, a ∈ F → H a = some o → B' a = some o) (hZ : ∀ a ∈ F, Z a = none) : FlagOk fLoc Z B H Z B' H (fun f => nbF f) (fun a => a ∈ F) (fun _ => []) :=
  ⟨fok_loc, fun f a o G n p x => by
    cases f
    · exact ⟨sb _ _ x, rfl⟩
    · exact ⟨x.imp (fun ⟨ob, x⟩ => ⟨ob, sb _ _ x⟩) id, rfl⟩
    · exact ⟨sb _ _ x, rfl⟩
    · exact ⟨⟨sb _ _ x.1, x.2⟩, rfl⟩
    · exact nomatch n
    · exact ⟨⟨hF _ _ (p (.inl rfl)) x, hZ _ (p (.inl rfl))⟩, rfl⟩
    · exact ⟨True.intro, rfl⟩
    · exact nomatch n
    · exact ⟨x, rfl⟩, rfl, fun _ _ => rfl⟩
end

/-! ### behind a call -/
def unB (B H B' : Hp) : Hp := fun a => match B a, H a with
  | none, some _ => none
  | _, _ => B' a
theorem unB_none {B H B' : Hp} {a : Addr} {o : HO} (h1 : B a = none) (h2 : H a = some o) : unB B H B' a = none := by unfold unB; rw [h1, h2]
theorem unB_fix {B H B' : Hp} {a : Addr} {o : HO} (h1 : B a = some o) : unB B H B' a = B' a := by unfold unB; rw [h1]
theorem unB_new {B H B' : Hp} {a : Addr} (h2 : H a = none) : unB B H B' a = B' a := by
  unfold unB; rw [h2]; cases B a <;> rfl
theorem unB_sub {B H B' : Hp} {a : Addr} {o : HO} (h : unB B H B' a = some o) : B' a = some o := by
  unfold unB at h
  split at h
  · cases h
  · exact h
section
variable {Z B B' H H' : Hp}
theorem Grow.back (sub : Same B H) (g : Grow (argBase B H) H B' H') : Grow B H (unB B H B') H' :=
  ⟨fun a o e => by rw [unB_fix e]; exact g.sb _ _ (argBase_of sub e), g.sh, fun a o e => g.sub _ _ (unB_sub e), fun a o h n => unB_none n h⟩
theorem back_at {h : Hd} {a : Addr} {o : HO} {vs : List V} (sub : Same B H) (g : Grow (argBase B H) H B' H') (hz : ∀ a, H a = none → Z a = none) (c : Cont h o vs) (n : owF h.fl = true) (x : At H B' H' h.fl a o) : At Z (unB B H B') H' h.fl a o := by
  have key : ∀ f : Fl, f = h.fl → owF f = true → At H B' H' f a o → At Z (unB B H B') H' f a o := by
    intro f ef n x
    cases f with
    | i =>
      have x : B' a = some o := x
      show unB B H B' a = some o
      cases hb : B a with
      | some ob => rw [unB_fix hb]; exact x
      | none =>
        cases hh : H a with
        | none => rw [unB_new hh]; exact x
        | some oh =>
          exfalso
          have nl : ¬ ((∃ xs, o = .lst xs) ∨ (∃ k, o = .dK k) ∨ ∃ k, o = .dT k) := by
            cases h with
            | tup => rw [show o = _ from c]; rintro (⟨_, e⟩ | ⟨_, e⟩ | ⟨_, e⟩) <;> cases e
            | lst f => exact fun _ => by cases f <;> cases ef
            | dct f ks => exact fun _ => by cases f <;> cases ef
            | dtt f ks => exact fun _ => by cases f <;> cases ef
            | obj C ns => obtain ⟨_, dx, e⟩ := c; rw [e]; rintro (⟨_, e⟩ | ⟨_, e⟩ | ⟨_, e⟩) <;> cases e
            | slf f C ns => exact fun _ => by cases f <;> cases ef
            | lsk f => exact fun _ => by cases f <;> cases ef
          cases ha : argBase B H a with
          | none => rw [g.old a oh hh ha] at x; cases x
          | some oa =>
            have e1 := g.sb _ _ ha
            rw [x] at e1
            cases e1
            have e2 := argBase_sub sub _ _ ha
            unfold argBase at ha
            split at ha
            · exact nl (.inl ⟨_, by cases ha; rfl⟩)
            · exact nl (.inr (.inl ⟨_, by cases ha; rfl⟩))
            · exact nl (.inr (.inr ⟨_, by cases ha; rfl⟩))
            · rw [hb] at ha; cases ha
    | s => exact nomatch n
    | a => exact nomatch n
    | c y => exact nomatch n
    | d => exact nomatch n
    | x => exact nomatch n
    | l => exact ⟨by rw [unB_new x.2]; exact x.1, hz _ x.2⟩
    | b => exact nomatch n
    | o => exact x
  exact key _ rfl n x
mutual
theorem Den.back (sub : Same B H) (g : Grow (argBase B H) H B' H') (hz : ∀ a, H a = none → Z a = none) : ∀ (d : D) (v : V) (F : List Addr), d.ow = true → Den H B' H' d v F → Den Z (unB B H B') H' d v F
  | .non, _, _, _, h => h
  | .bl _, _, _, _, h => h
  | .int _, _, _, _, h => h
  | .str _, _, _, _, h => h
  | .cst _, _, _, _, h => h
  | .nd h ds, _, _, n, ⟨a, o, vs, G, e, x, c, q, f⟩ => by
    have n' : owF h.fl = true ∧ D.alls owF ds = true := by simpa [D.all] using n
    exact ⟨a, o, vs, G, e, back_at sub g hz c n'.1 x, c, Dens.back sub g hz ds vs G n'.2 q, f⟩
theorem Dens.back (sub : Same B H) (g : Grow (argBase B H) H B' H') (hz : ∀ a, H a = none → Z a = none) : ∀ (ds : List D) (vs : List V) (F : List Addr), D.alls owF ds = true → Dens H B' H' ds vs F → Dens Z (unB B H B') H' ds vs F
  | [], _, _, _, h => h
  | d :: ds, _, _, n, ⟨v, ws, G1, G2, e, x, q, f⟩ => by
    have n' : d.ow = true ∧ D.alls owF ds = true := by simpa [D.alls] using n
    exact ⟨v, ws, G1, G2, e, Den.back sub g hz d v G1 n'.1 x, Dens.back sub g hz ds ws G2 n'.2 q, f⟩
end
end

/-! ### environments -/
abbrev Env := List (Option D)
def Slots (Z B H : Hp) : Env → List (Option V) → List Addr → Prop
  | [], σ, F => σ = [] ∧ F = []
  | none :: ρ, σ, F => ∃ v σ', σ = v :: σ' ∧ Slots Z B H ρ σ' F
  | some d :: ρ, σ, F => ∃ v σ' G1 G2, σ = some v :: σ' ∧ d.nb = true ∧ Den Z B H d v G1 ∧ Slots Z B H ρ σ' G2 ∧ F = G1 ++ G2
section
variable {Z B B' H H' : Hp}
theorem Slots.len : ∀ {ρ : Env} {σ : List (Option V)} {F : List Addr}, Slots Z B H ρ σ F → ρ.length = σ.length
  | [], _, _, ⟨e, _⟩ => by rw [e]; rfl
  | none :: ρ, _, _, ⟨v, σ', e, q⟩ => by rw [e]; simp only [List.length_cons]; rw [q.len]
  | some d :: ρ, _, _, ⟨v, σ', G1, G2, e, n, x, q, f⟩ => by rw [e]; simp only [List.length_cons]; rw [q.len]
theorem Slots.grow (sb : Same B B') (sh : Same H H') : ∀ {ρ : Env} {σ : List (Option V)} {F : List Addr}, Slots Z B H ρ σ F → Slots Z B' H' ρ σ F
  | [], _, _, h => h
  | none :: ρ, _, _, ⟨v, σ', e, q⟩ => ⟨v, σ', e, q.grow sb sh⟩
  | some d :: ρ, _, _, ⟨v, σ', G1, G2, e, n, x, q, f⟩ => ⟨v, σ', G1, G2, e, n, x.grow sb sh, q.grow sb sh, f⟩
theorem Slots.live : ∀ {ρ : Env} {σ : List (Option V)} {F : List Addr}, Slots Z B H ρ σ F → ∀ a ∈ F, ∃ o, H a = some o
  | [], _, _, ⟨_, f⟩, a, h => by rw [f] at h; cases h
  | none :: ρ, _, _, ⟨v, σ', e, q⟩, a, h => q.live a h
  | some d :: ρ, _, _, ⟨v, σ', G1, G2, e, n, x, q, f⟩, a, h => by
    subst f
    rcases List.mem_append.mp h with h | h
    · exact x.live _ _ _ a h
    · exact q.live a h
theorem Slots.get : ∀ {ρ : Env} {σ : List (Option V)} {F : List Addr} {i : Nat} {d : D}, Slots Z B H ρ σ F → ρ[i]? = some (some d) → ∃ v G, σ[i]? = some (some v) ∧ d.nb = true ∧ Den Z B H d v G ∧ ∀ a ∈ G, a ∈ F
  | [], _, _, i, _, _, h => by simp at h
  | none :: ρ, _, _, 0, _, _, h => by simp at h
  | none :: ρ, _, _, i + 1, d, ⟨v, σ', e, q⟩, h => by
    subst e
    obtain ⟨w, G, h1, h2⟩ := q.get (i := i) (by simpa using h)
    exact ⟨w, G, by simpa using h1, h2⟩
  | some d :: ρ, _, _, 0, d', ⟨v, σ', G1, G2, e, n, x, q, f⟩, h => by
    subst e f
    simp at h
    subst h
    exact ⟨v, G1, rfl, n, x, fun a m => List.mem_append_left _ m⟩
  | some d :: ρ, _, _, i + 1, d', ⟨v, σ', G1, G2, e, n, x, q, f⟩, h => by
    subst e f
    obtain ⟨w, G, h1, h2, h3, h4⟩ := q.get (i := i) (by simpa using h)
    exact ⟨w, G, by simpa using h1, h2, h3, fun a m => List.mem_append_right _ (h4 a m)⟩
/-- a slot gets another datum -/
theorem Slots.set : ∀ {ρ : Env} {σ : List (Option V)} {F : List Addr} {d : D} {v : V} {G : List Addr} (i : Nat), Slots Z B H ρ σ F → F.Nodup → d.nb = true → Den Z B H d v G → G.Nodup → (∀ a ∈ G, a ∉ F) →
    ∃ F', Slots Z B H (ρ.set i (some d)) (σ.set i (some v)) F' ∧ F'.Nodup ∧ ∀ a ∈ F', a ∈ F ∨ a ∈ G
  | [], _, _, d, v, G, i, ⟨e, f⟩, n, nb, x, ng, dj => by subst e f; exact ⟨[], ⟨rfl, rfl⟩, List.nodup_nil, fun a h => .inl h⟩
  | none :: ρ, _, F, d, v, G, 0, ⟨w, σ', e, q⟩, n, nb, x, ng, dj => by
    subst e
    exact ⟨G ++ F, ⟨v, σ', G, F, rfl, nb, x, q, rfl⟩, List.nodup_append.mpr ⟨ng, n, fun a h b h' z => dj a h (z ▸ h')⟩, fun a h => (List.mem_append.mp h).symm⟩
  | some d0 :: ρ, _, _, d, v, G, 0, ⟨w, σ', G1, G2, e, n0, x0, q, f⟩, n, nb, x, ng, dj => by
    subst e f
    have n2 := List.nodup_append.mp n
    exact ⟨G ++ G2, ⟨v, σ', G, G2, rfl, nb, x, q, rfl⟩, List.nodup_append.mpr ⟨ng, n2.2.1, fun a h b h' z => dj a h (List.mem_append_right _ (z ▸ h'))⟩, fun a h => (List.mem_append.mp h).symm.imp (List.mem_append_right _) id⟩
  | none :: ρ, _, F, d, v, G, i + 1, ⟨w, σ', e, q⟩, n, nb, x, ng, dj => by
    subst e
    obtain ⟨F', h1, h2, h3⟩ := q.set i n nb x ng dj
    exact ⟨F', ⟨w, _, rfl, h1⟩, h2, h3⟩
  | some d0 :: ρ, _, _, d, v, G, i + 1, ⟨w, σ', G1, G2, e, n0, x0, q, f⟩, n, nb, x, ng, dj => by
    subst e f
    have n2 := List.nodup_append.mp n
    obtain ⟨F', h1, h2, h3⟩ := q.set i n2.2.1 nb x ng (fun a h => fun z => dj a h (List.mem_append_right _ z))
    refine ⟨G1 ++ F', ⟨w, _, G1, F', rfl, n0, x0, h1, rfl⟩, List.nodup_append.mpr ⟨n2.1, h2, fun a h b h' z => ?_⟩, fun a h => ?_⟩
    · subst z
      rcases h3 a h' with k | k
      · exact n2.2.2 a h a k rfl
      · exact dj a k (List.mem_append_left _ h)
    · rcases List.mem_append.mp h with h | h
      · exact .inl (List.mem_append_left _ h)
      · exact (h3 a h).imp (List.mem_append_right _) id
/-- a slot's own list is changed in the heap: the slot's part and the rest -/
theorem Slots.part : ∀ {ρ : Env} {σ : List (Option V)} {F : List Addr} {i : Nat} {d : D}, Slots Z B H ρ σ F → F.Nodup → ρ[i]? = some (some d) →
    ∃ v G R, σ[i]? = some (some v) ∧ d.nb = true ∧ Den Z B H d v G ∧ G.Nodup ∧ (∀ a ∈ G, a ∉ R) ∧ (∀ a, a ∈ G ∨ a ∈ R → a ∈ F) ∧ R.Nodup ∧ Slots Z B H (ρ.set i none) σ R
  | [], _, _, i, _, _, _, h => by simp at h
  | none :: ρ, _, _, 0, _, _, _, h => by simp at h
  | none :: ρ, _, _, i + 1, d, ⟨v, σ', e, q⟩, n, h => by
    subst e
    obtain ⟨w, G, R, h1, h2, h3, h4, h5, h6, h7, h8⟩ := q.part (i := i) n (by simpa using h)
    exact ⟨w, G, R, by simpa using h1, h2, h3, h4, h5, h6, h7, ⟨v, _, rfl, h8⟩⟩
  | some d :: ρ, _, _, 0, d', ⟨v, σ', G1, G2, e, n0, x, q, f⟩, n, h => by
    subst e f
    simp at h
    subst h
    have n2 := List.nodup_append.mp n
    exact ⟨v, G1, G2, rfl, n0, x, n2.1, fun a h h' => n2.2.2 a h a h' rfl, fun a h => h.elim (List.mem_append_left _) (List.mem_append_right _), n2.2.1, ⟨_, _, rfl, q⟩⟩
  | some d0 :: ρ, _, _, i + 1, d, ⟨v, σ', G1, G2, e, n0, x0, q, f⟩, n, h => by
    subst e f
    have n2 := List.nodup_append.mp n
    obtain ⟨w, G, R, h1, h2, h3, h4, h5, h6, h7, h8⟩ := q.part (i := i) n2.2.1 (by simpa using h)
    refine ⟨w, G, G1 ++ R, by simpa using h1, h2, h3, h4, fun a h h' => ?_, fun a h => ?_, List.nodup_append.mpr ⟨n2.1, h7, fun a h b h' z => n2.2.2 a h b (h6 b (.inr h')) z⟩, ⟨v, _, G1, R, rfl, n0, x0, h8, rfl⟩⟩
    · rcases List.mem_append.mp h' with k | k
      · exact n2.2.2 a k a (h6 a (.inl h)) rfl
      · exact h5 a h k
    · rcases h with h | h
      · exact List.mem_append_right _ (h6 a (.inl h))
      · rcases List.mem_append.mp h with h | h
        · exact List.mem_append_left _ h
        · exact List.mem_append_right _ (h6 a (.inr h))
theorem Slots.keep : ∀ {ρ : Env} {σ : List (Option V)} {F : List Addr}, Slots Z B H ρ σ F → (∀ a ∈ F, H' a = H a) → Slots Z B H' ρ σ F
  | [], _, _, h, _ => h
  | none :: ρ, _, _, ⟨v, σ', e, q⟩, k => ⟨v, σ', e, q.keep k⟩
  | some d :: ρ, _, _, ⟨v, σ', G1, G2, e, n, x, q, f⟩, k => by
    subst f
    exact ⟨v, σ', G1, G2, e, n, Den.keep d v G1 n (fun a h => k a (List.mem_append_left _ h)) x, q.keep (fun a h => k a (List.mem_append_right _ h)), rfl⟩
/-- an empty slot is filled with what the frame holds there -/
theorem Slots.fill : ∀ {ρ : Env} {σ : List (Option V)} {F : List Addr} {d : D} {v : V} {G : List Addr} {i : Nat}, Slots Z B H (ρ.set i none) σ F → i < ρ.length → σ[i]? = some (some v) → F.Nodup → d.nb = true → Den Z B H d v G → G.Nodup → (∀ a ∈ G, a ∉ F) →
    ∃ F', Slots Z B H (ρ.set i (some d)) σ F' ∧ F'.Nodup ∧ ∀ a ∈ F', a ∈ F ∨ a ∈ G := by
  intro ρ σ F d v G i q hi hv n nb x ng dj
  obtain ⟨F', h1, h2, h3⟩ := q.set i n nb x ng dj
  refine ⟨F', ?_, h2, h3⟩
  have e1 : (ρ.set i none).set i (some d) = ρ.set i (some d) := List.set_set _
  have e2 : σ.set i (some v) = σ := by
    apply List.ext_getElem?
    intro j
    by_cases hj : i = j
    · subst hj
      rw [List.getElem?_set_self (by have := List.getElem?_eq_some_iff.mp hv; exact this.1), hv]
    · rw [List.getElem?_set_ne hj]
  rw [e1, e2] at h1
  exact h1
/-- forgetting a slot -/
theorem Slots.drop : ∀ {ρ : Env} {σ : List (Option V)} {F : List Addr} (i : Nat), Slots Z B H ρ σ F → F.Nodup → ∃ F', Slots Z B H (ρ.set i none) (σ.set i none) F' ∧ F'.Nodup ∧ ∀ a ∈ F', a ∈ F
  | [], _, _, i, ⟨e, f⟩, n => by subst e f; exact ⟨[], ⟨rfl, rfl⟩, List.nodup_nil, fun a h => h⟩
  | none :: ρ, _, F, 0, ⟨w, σ', e, q⟩, n => by subst e; exact ⟨F, ⟨_, σ', rfl, q⟩, n, fun a h => h⟩
  | some d0 :: ρ, _, _, 0, ⟨w, σ', G1, G2, e, n0, x0, q, f⟩, n => by
    subst e f
    exact ⟨G2, ⟨_, σ', rfl, q⟩, (List.nodup_append.mp n).2.1, fun a h => List.mem_append_right _ h⟩
  | none :: ρ, _, F, i + 1, ⟨w, σ', e, q⟩, n => by
    subst e
    obtain ⟨F', h1, h2, h3⟩ := q.drop i n
    exact ⟨F', ⟨w, _, rfl, h1⟩, h2, h3⟩
  | some d0 :: ρ, _, _, i + 1, ⟨w, σ', G1, G2, e, n0, x0, q, f⟩, n => by
    subst e f
    have n2 := List.nodup_append.mp n
    obtain ⟨F', h1, h2, h3⟩ := q.drop i n2.2.1
    exact ⟨G1 ++ F', ⟨w, _, G1, F', rfl, n0, x0, h1, rfl⟩, List.nodup_append.mpr ⟨n2.1, h2, fun a h b h' z => n2.2.2 a h b (h3 b h') z⟩, fun a h => by
      rcases List.mem_append.mp h with h | h
      · exact List.mem_append_left _ h
      · exact List.mem_append_right _ (h3 a h)⟩
end

/-- the frame: base B0 and heap Z at its entry; B, H now -/
structure Rep (B0 Z B H : Hp) (σ : List (Option V)) (ρ : Env) : Prop where
  gr : Grow B0 Z B H
  ex : ∃ F, Slots Z B H ρ σ F ∧ F.Nodup ∧ ∀ a ∈ F, B a = none ∧ Z a = none
section
variable {B0 Z B B' H H' : Hp} {σ : List (Option V)} {ρ : Env}
theorem Rep.sub (R : Rep B0 Z B H σ ρ) : Same B H := R.gr.sub
theorem Rep.z (R : Rep B0 Z B H σ ρ) : ∀ a, H a = none → Z a = none := fun a h => R.gr.sh.free h
theorem Rep.len (R : Rep B0 Z B H σ ρ) : ρ.length = σ.length := let ⟨_, q, _⟩ := R.ex; q.len
theorem Rep.grow (R : Rep B0 Z B H σ ρ) (g : Grow B H B' H') : Rep B0 Z B' H' σ ρ := by
  obtain ⟨F, q, n, z⟩ := R.ex
  exact ⟨R.gr.trans g, F, q.grow g.sb g.sh, n, fun a h => let ⟨o, e⟩ := q.live a h; ⟨g.old a o e (z a h).1, (z a h).2⟩⟩
theorem Rep.get {i : Nat} {d : D} (R : Rep B0 Z B H σ ρ) (h : ρ[i]? = some (some d)) : ∃ v, σ[i]? = some (some v) ∧ Den Z B H d.bor v [] := by
  obtain ⟨F, q, _, _⟩ := R.ex
  obtain ⟨v, G, h1, _, h2, _⟩ := q.get h
  exact ⟨v, h1, h2.see⟩
theorem Rep.get' {i : Nat} {d : D} (R : Rep B0 Z B H σ ρ) (h : ρ[i]? = some (some d)) : ∃ v G, σ[i]? = some (some v) ∧ d.nb = true ∧ Den Z B H d v G ∧ G.Nodup ∧ ∀ a ∈ G, B a = none ∧ Z a = none := by
  obtain ⟨F, q, n, z⟩ := R.ex
  obtain ⟨v, G, R', h1, h2, h3, h4, _, h6, _, _⟩ := q.part n h
  exact ⟨v, G, h1, h2, h3, h4, fun a m => z a (h6 a (.inl m))⟩
theorem Rep.drop (i : Nat) (R : Rep B0 Z B H σ ρ) : Rep B0 Z B H (σ.set i none) (ρ.set i none) := by
  obtain ⟨F, q, n, z⟩ := R.ex
  obtain ⟨F', h1, h2, h3⟩ := q.drop i n
  exact ⟨R.gr, F', h1, h2, fun a h => z a (h3 a h)⟩
end
/-- what an expression gives -/
def Out (Z B H : Hp) (d : D) (v : V) (H' : Hp) : Prop := ∃ B' F, Grow B H B' H' ∧ Den Z B' H' d v F ∧ F.Nodup ∧ ∀ a ∈ F, B' a = none ∧ H a = none
def Outs (Z B H : Hp) (ds : List D) (vs : List V) (H' : Hp) : Prop := ∃ B' F, Grow B H B' H' ∧ Dens Z B' H' ds vs F ∧ F.Nodup ∧ ∀ a ∈ F, B' a = none ∧ H a = none
section
variable {B0 Z B B1 B' H H1 H' : Hp} {σ : List (Option V)} {ρ : Env}
theorem Rep.set {i : Nat} {d : D} {v : V} (R : Rep B0 Z B H σ ρ) (h : Out Z B H d v H') (nb : d.nb = true) : ∃ B', Grow B H B' H' ∧ Rep B0 Z B' H' (σ.set i (some v)) (ρ.set i (some d)) := by
  obtain ⟨B', G, g, x, ng, f⟩ := h
  obtain ⟨F, q, n, z⟩ := (R.grow g).ex
  obtain ⟨F0, q0, _, _⟩ := R.ex
  have R' := R.grow g
  obtain ⟨F, q, n, z⟩ : ∃ F, Slots Z B' H' ρ σ F ∧ F.Nodup ∧ (∀ a ∈ F, (B' a = none ∧ Z a = none) ∧ ∃ o, H a = some o) := by
    obtain ⟨F, q, n, z⟩ := R.ex
    exact ⟨F, q.grow g.sb g.sh, n, fun a h => let ⟨o, e⟩ := q.live a h; ⟨⟨g.old a o e (z a h).1, (z a h).2⟩, o, e⟩⟩
  have dj : ∀ a ∈ G, a ∉ F := fun a h h' => by
    obtain ⟨o, e⟩ := (z a h').2
    rw [(f a h).2] at e
    cases e
  obtain ⟨F', h1, h2, h3⟩ := q.set i n nb x ng dj
  refine ⟨B', g, R'.gr, F', h1, h2, fun a h => ?_⟩
  rcases h3 a h with k | k
  · exact (z a k).1
  · exact ⟨(f a k).1, R.z a (f a k).2⟩
theorem Out.of {d : D} {v : V} (sub : Same B H) (h : Den Z B H d v []) : Out Z B H d v H := ⟨B, [], Grow.refl sub, h, List.nodup_nil, fun a h => nomatch h⟩
theorem Out.after {d : D} {v : V} (g : Grow B H B1 H1) (h : Out Z B1 H1 d v H') : Out Z B H d v H' := by
  obtain ⟨B', F, g', x, n, f⟩ := h
  exact ⟨B', F, g.trans g', x, n, fun a h => ⟨(f a h).1, g.sh.free (f a h).2⟩⟩
theorem Outs.after {ds : List D} {vs : List V} (g : Grow B H B1 H1) (h : Outs Z B1 H1 ds vs H') : Outs Z B H ds vs H' := by
  obtain ⟨B', F, g', x, n, f⟩ := h
  exact ⟨B', F, g.trans g', x, n, fun a h => ⟨(f a h).1, g.sh.free (f a h).2⟩⟩
theorem Outs.nil (sub : Same B H) : Outs Z B H [] [] H := ⟨B, [], Grow.refl sub, ⟨rfl, rfl⟩, List.nodup_nil, fun a h => nomatch h⟩
/-- one item, then the others -/
theorem Outs.cons {d : D} {v : V} {ds : List D} {vs : List V} {F : List Addr} (g : Grow B H B1 H1) (x : Den Z B1 H1 d v F) (n : F.Nodup) (f : ∀ a ∈ F, B1 a = none ∧ H a = none) (h : Outs Z B1 H1 ds vs H') : Outs Z B H (d :: ds) (v :: vs) H' := by
  obtain ⟨B', G, g', y, m, f'⟩ := h
  refine ⟨B', F ++ G, g.trans g', ⟨v, vs, F, G, rfl, x.grow g'.sb g'.sh, y, rfl⟩, List.nodup_append.mpr ⟨n, m, fun a h b h' z => ?_⟩, fun a h => ?_⟩
  · subst z
    obtain ⟨o, e⟩ := x.live _ _ _ a h
    rw [(f' a h').2] at e
    cases e
  · rcases List.mem_append.mp h with k | k
    · obtain ⟨o, e⟩ := x.live _ _ _ a k
      exact ⟨g'.old a o e (f a k).1, (f a k).2⟩
    · exact ⟨(f' a k).1, g.sh.free (f' a k).2⟩
end
end VL

/-! ## VLE -/
/-! VL: expressions. -/
namespace VL
open PySem PySem.Spec L2
open PyProof.Rows hiding St

variable [KK : KLs]
theorem ls_ne (f : Fl) : f.ls ≠ .x := by cases f <;> (intro h; cases h)
theorem ls_ni (f : Fl) : f.ls ≠ .i := by cases f <;> (intro h; cases h)
abbrev TEv := Env → (D → Prop) → Prop
abbrev TTv := Env → (Bool → Prop) → Prop
abbrev TAv := Env → (List D → Prop) → Prop
/-- T, read over the heap, follows from t, read over data -/
def LE (T : TE) (t : TEv) : Prop := ∀ (B0 Z B H : Hp) (σ : St) (ρ : Env) (Qd : D → Prop) (Q : VK), Rep B0 Z B H σ ρ → t ρ Qd → (∀ d v H', Out Z B H d v H' → Qd d → Q v H') → T σ H Q
def LT (T : TT) (t : TTv) : Prop := ∀ (B0 Z B H : Hp) (σ : St) (ρ : Env) (Qd : Bool → Prop) (Q : Bool → Hp → Prop), Rep B0 Z B H σ ρ → t ρ Qd → (∀ k B' H', Grow B H B' H' → Qd k → Q k H') → T σ H Q
def LA (T : TA) (t : TAv) : Prop := ∀ (B0 Z B H : Hp) (σ : St) (ρ : Env) (Qd : List D → Prop) (Q : List V → Hp → Prop), Rep B0 Z B H σ ρ → t ρ Qd → (∀ ds vs H', Outs Z B H ds vs H' → Qd ds → Q vs H') → T σ H Q
structure VE (X : Cx) (e : Expr) (T : TE) (t : TEv) : Prop where
  pe : PE X e T
  lk : LE T t
structure VT (X : Cx) (e : Expr) (T : TT) (t : TTv) : Prop where
  pt : PT X e T
  lk : LT T t
structure VW (X : Cx) (e : Expr) (T : TT) (t : TTv) : Prop where
  pw : PW X e T
  lk : LT T t
structure VA (X : Cx) (es : List Expr) (T : TA) (t : TAv) : Prop where
  pa : PA X es T
  lk : LA T t

/-! ### names, constants -/
section
variable {Z B H : Hp}
theorem den_non : Den Z B H .non .non [] := ⟨rfl, rfl⟩
theorem den_bl {b : Bool} : Den Z B H (.bl b) (.bl b) [] := ⟨rfl, rfl⟩
theorem den_int {i : Int} : Den Z B H (.int i) (.int i) [] := ⟨rfl, rfl⟩
theorem den_str {i : Str} : Den Z B H (.str i) (.str i) [] := ⟨rfl, rfl⟩
theorem den_cst {i : V} : Den Z B H (.cst i) i [] := ⟨rfl, rfl⟩
end
def vVar (i : Nat) : TEv := fun ρ Q => match ρ[i]? with
  | some (some d) => Q d.bor
  | _ => False
def vC (d : D) : TEv := fun _ Q => Q d
theorem lk_var (i : Nat) : LE (tVar i) (vVar i) := by
  intro B0 Z B H σ ρ Qd Q R h k
  unfold vVar at h
  split at h
  · rename_i d e
    obtain ⟨v, e1, x⟩ := R.get e
    exact ⟨v, e1, k _ _ _ (Out.of R.sub x) h⟩
  · exact h.elim
theorem lk_c {v : V} {d : D} (hd : ∀ Z B H, Den Z B H d v []) : LE (tC v) (vC d) := fun B0 Z B H σ ρ Qd Q R h k => k _ _ _ (Out.of R.sub (hd _ _ _)) h
section
variable {X : Cx}
theorem e_var (i : Nat) {x : Str} {pos : Pos} (hN : X.N[i]? = some x := by rfl) (hv : Vis X.env.scope x := by first | exact Or.inl rfl | exact Or.inr (Or.inl rfl) | exact Or.inr (Or.inr rfl)) (hd : (x == ("__debug__" : Str)) = false := by decide)
    (hcd : (x == ("__classdict__" : Str)) = false := by decide) : VE X (.Name x pos) (tVar i) (vVar i) := ⟨pe_var hN hv hd hcd, lk_var i⟩
theorem e_int {i j pos} : VE X (.Constant (.int i) j pos) (tC (.int i)) (vC (.int i)) := ⟨pe_int, lk_c fun _ _ _ => ⟨rfl, rfl⟩⟩
theorem e_bl {b j pos} : VE X (.Constant (.bool b) j pos) (tC (.bl b)) (vC (.bl b)) := ⟨pe_bl, lk_c fun _ _ _ => ⟨rfl, rfl⟩⟩
theorem e_non {j pos} : VE X (.Constant .none j pos) (tC .non) (vC .non) := ⟨pe_non, lk_c fun _ _ _ => ⟨rfl, rfl⟩⟩
theorem e_str {x j pos} : VE X (.Constant (.str x) j pos) (tC (.str x)) (vC (.str x)) := ⟨pe_str, lk_c fun _ _ _ => ⟨rfl, rfl⟩⟩
end

/-! ### operators on two data, on one -/
abbrev RDv := D → D → (D → Prop) → Prop
abbrev RUv := D → (D → Prop) → Prop
def LR2 (r : R2) (rv : RDv) : Prop := ∀ (B0 Z B H : Hp) (σ : St) (ρ : Env) (x y : D) (vx vy : V) (F G : List Addr) (Qd : D → Prop) (Q : VK), Rep B0 Z B H σ ρ → Den Z B H x vx F → Den Z B H y vy G → rv x y Qd → (∀ d v H', Out Z B H d v H' → Qd d → Q v H') → r vx vy H Q
def LR1 (r : V → Hp → VK → Prop) (rv : RUv) : Prop := ∀ (B0 Z B H : Hp) (σ : St) (ρ : Env) (x : D) (vx : V) (F : List Addr) (Qd : D → Prop) (Q : VK), Rep B0 Z B H σ ρ → Den Z B H x vx F → rv x Qd → (∀ d v H', Out Z B H d v H' → Qd d → Q v H') → r vx H Q
def vOp (r : RDv) (ta tb : TEv) : TEv := fun ρ Q => ta ρ fun x => tb ρ fun y => r x y Q
def vUn (r : RUv) (ta : TEv) : TEv := fun ρ Q => ta ρ fun x => r x Q
theorem lk_op {r : R2} {rv : RDv} {Ta Tb : TE} {ta tb : TEv} (lr : LR2 r rv) (la : LE Ta ta) (lb : LE Tb tb) : LE (tOp r Ta Tb) (vOp rv ta tb) := by
  intro B0 Z B H σ ρ Qd Q R h k
  refine la B0 Z B H σ ρ _ _ R h fun x vx H1 ⟨B1, F, g, dx, n, f⟩ h1 => ?_
  refine lb B0 Z B1 H1 σ ρ _ _ (R.grow g) h1 fun y vy H2 ⟨B2, G, g2, dy, n2, f2⟩ h2 => ?_
  exact lr B0 Z B2 H2 σ ρ x y vx vy F G Qd Q ((R.grow g).grow g2) (dx.grow g2.sb g2.sh) dy h2 fun d v H3 o q => k d v H3 ((o.after g2).after g) q
theorem lk_un {r : V → Hp → VK → Prop} {rv : RUv} {Ta : TE} {ta : TEv} (lr : LR1 r rv) (la : LE Ta ta) : LE (tUn r Ta) (vUn rv ta) := by
  intro B0 Z B H σ ρ Qd Q R h k
  refine la B0 Z B H σ ρ _ _ R h fun x vx H1 ⟨B1, F, g, dx, n, f⟩ h1 => ?_
  exact lr B0 Z B1 H1 σ ρ x vx F Qd Q (R.grow g) dx h1 fun d v H3 o q => k d v H3 (o.after g) q
theorem LR2.or_l {r r' : R2} {rv : RDv} (h : LR2 r rv) : LR2 (fun x y H Q => r x y H Q ∨ r' x y H Q) rv := fun B0 Z B H σ ρ x y vx vy F G Qd Q R dx dy h1 k => .inl (h B0 Z B H σ ρ x y vx vy F G Qd Q R dx dy h1 k)
theorem LR2.or_r {r r' : R2} {rv : RDv} (h : LR2 r' rv) : LR2 (fun x y H Q => r x y H Q ∨ r' x y H Q) rv := fun B0 Z B H σ ρ x y vx vy F G Qd Q R dx dy h1 k => .inr (h B0 Z B H σ ρ x y vx vy F G Qd Q R dx dy h1 k)
/-- ints -/
def dI (C : Int → Int → Prop) (g : Int → Int → D) : RDv := fun x y Q => match x, y with
  | .int i, .int j => C i j ∧ Q (g i j)
  | _, _ => False
def dI0 (g : Int → Int → D) : RDv := fun x y Q => match x, y with
  | .int i, .int j => Q (g i j)
  | _, _ => False
theorem lr_I {C : Int → Int → Prop} {g : Int → Int → V} {gd : Int → Int → D} (hg : ∀ i j Z B H, Den Z B H (gd i j) (g i j) []) : LR2 (rI C g) (dI C gd) := by
  intro B0 Z B H σ ρ x y vx vy F G Qd Q R dx dy h k
  unfold dI at h
  split at h
  · exact ⟨_, _, dx.1, dy.1, h.1, k _ _ _ (Out.of R.sub (hg _ _ _ _ _)) h.2⟩
  · exact h.elim
theorem lr_I0 {g : Int → Int → V} {gd : Int → Int → D} (hg : ∀ i j Z B H, Den Z B H (gd i j) (g i j) []) : LR2 (rI0 g) (dI0 gd) := by
  intro B0 Z B H σ ρ x y vx vy F G Qd Q R dx dy h k
  unfold dI0 at h
  split at h
  · exact ⟨_, _, dx.1, dy.1, k _ _ _ (Out.of R.sub (hg _ _ _ _ _)) h⟩
  · exact h.elim
abbrev dSub : RDv := dI0 fun i j => .int (i - j)
abbrev dMul : RDv := dI CMul fun i j => .int (i * j)
abbrev dMod : RDv := dI (fun _ j => 0 < j) fun i j => .int (i % j)
abbrev dDiv : RDv := dI CDiv fun i j => .int (i / j)
abbrev dPow : RDv := dI CPow fun i j => .int (i ^ j.toNat)
abbrev dLt : RDv := dI0 fun i j => .bl (decide (i < j))
abbrev dLe : RDv := dI0 fun i j => .bl (decide (i ≤ j))
abbrev dGt : RDv := dI0 fun i j => .bl (decide (j < i))
abbrev dGe : RDv := dI0 fun i j => .bl (decide (j ≤ i))
section
variable {X : Cx} {a b e : Expr} {pos : Pos} {Ta Tb : TE} {ta tb : TEv}
theorem e_sub (ha : VE X a Ta ta) (hb : VE X b Tb tb) : VE X (.BinOp a .Sub b pos) (tOp (rI0 fun i j => .int (i - j)) Ta Tb) (vOp dSub ta tb) := ⟨pe_op op_sub ha.pe hb.pe, lk_op (lr_I0 fun _ _ _ _ _ => ⟨rfl, rfl⟩) ha.lk hb.lk⟩
theorem e_mul (ha : VE X a Ta ta) (hb : VE X b Tb tb) : VE X (.BinOp a .Mult b pos) (tOp (rI CMul fun i j => .int (i * j)) Ta Tb) (vOp dMul ta tb) := ⟨pe_op op_mul ha.pe hb.pe, lk_op (lr_I fun _ _ _ _ _ => ⟨rfl, rfl⟩) ha.lk hb.lk⟩
theorem e_mod (ha : VE X a Ta ta) (hb : VE X b Tb tb) : VE X (.BinOp a .Mod b pos) (tOp (rI (fun _ j => 0 < j) fun i j => .int (i % j)) Ta Tb) (vOp dMod ta tb) := ⟨pe_op op_mod ha.pe hb.pe, lk_op (lr_I fun _ _ _ _ _ => ⟨rfl, rfl⟩) ha.lk hb.lk⟩
theorem e_div (ha : VE X a Ta ta) (hb : VE X b Tb tb) : VE X (.BinOp a .FloorDiv b pos) (tOp (rI CDiv fun i j => .int (i / j)) Ta Tb) (vOp dDiv ta tb) := ⟨pe_op op_fdiv ha.pe hb.pe, lk_op (lr_I fun _ _ _ _ _ => ⟨rfl, rfl⟩) ha.lk hb.lk⟩
theorem e_pow (ha : VE X a Ta ta) (hb : VE X b Tb tb) : VE X (.BinOp a .Pow b pos) (tOp (rI CPow fun i j => .int (i ^ j.toNat)) Ta Tb) (vOp dPow ta tb) := ⟨pe_op op_pow ha.pe hb.pe, lk_op (lr_I fun _ _ _ _ _ => ⟨rfl, rfl⟩) ha.lk hb.lk⟩
theorem e_lt (ha : VE X a Ta ta) (hb : VE X b Tb tb) : VE X (.Compare a [.Lt] [b] pos) (tOp (rI0 fun i j => .bl (decide (i < j))) Ta Tb) (vOp dLt ta tb) := ⟨pe_cmpR op_lt ha.pe hb.pe (nomark _), lk_op (lr_I0 fun _ _ _ _ _ => ⟨rfl, rfl⟩) ha.lk hb.lk⟩
theorem e_le (ha : VE X a Ta ta) (hb : VE X b Tb tb) : VE X (.Compare a [.LtE] [b] pos) (tOp (rI0 fun i j => .bl (decide (i ≤ j))) Ta Tb) (vOp dLe ta tb) := ⟨pe_cmpR op_le ha.pe hb.pe (nomark _), lk_op (lr_I0 fun _ _ _ _ _ => ⟨rfl, rfl⟩) ha.lk hb.lk⟩
theorem e_gt (ha : VE X a Ta ta) (hb : VE X b Tb tb) : VE X (.Compare a [.Gt] [b] pos) (tOp (rI0 fun i j => .bl (decide (j < i))) Ta Tb) (vOp dGt ta tb) := ⟨pe_cmpR op_gt ha.pe hb.pe (nomark _), lk_op (lr_I0 fun _ _ _ _ _ => ⟨rfl, rfl⟩) ha.lk hb.lk⟩
theorem e_ge (ha : VE X a Ta ta) (hb : VE X b Tb tb) : VE X (.Compare a [.GtE] [b] pos) (tOp (rI0 fun i j => .bl (decide (j ≤ i))) Ta Tb) (vOp dGe ta tb) := ⟨pe_cmpR op_ge ha.pe hb.pe (nomark _), lk_op (lr_I0 fun _ _ _ _ _ => ⟨rfl, rfl⟩) ha.lk hb.lk⟩
def dNeg : RUv := fun x Q => match x with
  | .int i => Q (.int (-i))
  | _ => False
theorem lr_neg : LR1 (rU fun i => .int (-i)) dNeg := by
  intro B0 Z B H σ ρ x vx F Qd Q R dx h k
  unfold dNeg at h
  split at h
  · exact ⟨_, dx.1, k _ _ _ (Out.of R.sub den_int) h⟩
  · exact h.elim
theorem e_neg (ha : VE X a Ta ta) : VE X (.UnaryOp .USub a pos) (tUn (rU fun i => .int (-i)) Ta) (vUn dNeg ta) := ⟨pe_un un_neg ha.pe, lk_un lr_neg ha.lk⟩
end

/-! ### is None -/
def D.isNon : D → Bool | .non => true | _ => false
def dIsN : RUv := fun x Q => Q (.bl x.isNon)
def dNotN : RUv := fun x Q => Q (.bl (!x.isNon))
section
variable {Z B H : Hp}
/-- no opaque value that is None -/
theorem Den.isNon {x : D} {v : V} {F : List Addr} (h : Den Z B H x v F) (hc : ∀ u, x ≠ .cst u) : decide (v = .non) = x.isNon := by
  cases x with
  | non => rw [h.1]; rfl
  | bl b => rw [h.1]; rfl
  | int i => rw [h.1]; rfl
  | str x => rw [h.1]; rfl
  | cst u => exact absurd rfl (hc u)
  | nd hd xs => obtain ⟨a, _, _, _, e, _⟩ := h; rw [e]; rfl
end
def D.isCst : D → Bool | .cst _ => true | _ => false
theorem D.nocst {x : D} (h : x.isCst = false) : ∀ u, x ≠ .cst u := fun u e => by subst e; cases h
def vIsN (neg : Bool) (ta : TEv) : TEv := fun ρ Q => ta ρ fun x => x.isCst = false ∧ Q (.bl (if neg then !x.isNon else x.isNon))
theorem lk_isN {Ta : TE} {ta : TEv} (la : LE Ta ta) : LE (tOp (fun x y H Q => y = .non ∧ Q (.bl (decide (x = .non))) H) Ta (tC .non)) (vIsN false ta) := by
  intro B0 Z B H σ ρ Qd Q R h k
  refine la B0 Z B H σ ρ _ _ R h fun x vx H1 ⟨B1, F, g, dx, n, f⟩ h1 => ⟨rfl, ?_⟩
  rw [dx.isNon (D.nocst h1.1)]
  exact k _ _ _ ((Out.of g.sub den_bl).after g) h1.2
theorem lk_notN {Ta : TE} {ta : TEv} (la : LE Ta ta) : LE (tOp (fun x y H Q => y = .non ∧ Q (.bl (!decide (x = .non))) H) Ta (tC .non)) (vIsN true ta) := by
  intro B0 Z B H σ ρ Qd Q R h k
  refine la B0 Z B H σ ρ _ _ R h fun x vx H1 ⟨B1, F, g, dx, n, f⟩ h1 => ⟨rfl, ?_⟩
  rw [dx.isNon (D.nocst h1.1)]
  exact k _ _ _ ((Out.of g.sub den_bl).after g) h1.2
section
variable {X : Cx} {a b e : Expr} {pos pos' : Pos} {Ta Tb : TE} {ta tb : TEv} {j : Nat}
theorem e_isN {j} (ha : VE X a Ta ta) : VE X (.Compare a [.Is] [.Constant .none j pos'] pos) (tOp (fun x y H Q => y = .non ∧ Q (.bl (decide (x = .non))) H) Ta (tC .non)) (vIsN false ta) := ⟨pe_cmpR op_isN ha.pe pe_non (nomark _), lk_isN ha.lk⟩
theorem e_notN {j} (ha : VE X a Ta ta) : VE X (.Compare a [.IsNot] [.Constant .none j pos'] pos) (tOp (fun x y H Q => y = .non ∧ Q (.bl (!decide (x = .non))) H) Ta (tC .non)) (vIsN true ta) := ⟨pe_cmpR op_notN ha.pe pe_non (nomark _), lk_notN ha.lk⟩
end

/-! ### == of plain data -/
mutual
def D.py : D → PyData
  | .non => .none | .bl b => .bool b | .int i => .int i | .str x => .str x | .cst _ => .none
  | .nd .tup xs => .tuple (D.pys xs)
  | .nd _ xs => .list (D.pys xs)
def D.pys : List D → List PyData
  | [] => []
  | d :: ds => D.py d :: D.pys ds
end
mutual
/-- None, bools, ints, texts, lists and tuples of these -/
def D.plain : D → Bool
  | .cst _ => false
  | .nd .tup xs => D.plains xs
  | .nd (.lst _) xs => D.plains xs
  | .nd _ _ => false
  | _ => true
def D.plains : List D → Bool
  | [] => true
  | d :: ds => D.plain d && D.plains ds
end
section
variable {Z B H : Hp}
theorem At.rd {f : Fl} {a : Addr} {o : HO} (s : Same B H) (n : f ≠ .x) (x : At Z B H f a o) : Rd H a o ∨ ∃ xs, o = .lst xs ∧ KLst a xs := by
  cases f with
  | i => exact .inl (.inl (s _ _ x))
  | s => exact x.imp (fun ⟨ob, x⟩ => .inr ⟨ob, s _ _ x⟩) id
  | a => exact .inl (.inl (s _ _ x))
  | l => exact .inl (.inl (s _ _ x.1))
  | b => exact .inl (.inl x)
  | o => exact .inl (.inl x)
  | c y => exact .inl (.inl x.1)
  | d => exact .inl (.inl x)
  | x => exact absurd rfl n
theorem At.sql {f : Fl} {a : Addr} {vs : List V} (s : Same B H) (n : f ≠ .x) (x : At Z B H f a (.lst vs)) : SqL KK.K H a vs := by
  rcases x.rd s n with h | ⟨xs, e, h⟩
  · exact .inl h
  · cases e; exact .inr h
mutual
theorem Den.dp (s : Same B H) : ∀ (d : D) (v : V) (F : List Addr), d.plain = true → Den Z B H d v F → Dp KK.K H v d.py
  | .non, _, _, _, h => by rw [h.1]; exact .non
  | .bl b, _, _, _, h => by rw [h.1]; exact .bl b
  | .int i, _, _, _, h => by rw [h.1]; exact .int i
  | .str x, _, _, _, h => by rw [h.1]; exact .str x
  | .cst _, _, _, n, _ => nomatch n
  | .nd .tup ds, _, _, n, ⟨a, o, vs, G, e, x, c, q, f⟩ => by
    subst e
    have c : o = .tup vs := c
    subst c
    have n : D.plains ds = true := n
    exact .tup (.inl (.inl (s _ _ x))) (Dens.dp s ds vs G n q)
  | .nd (.lst f) ds, _, _, n, ⟨a, o, vs, G, e, x, c, q, f'⟩ => by
    subst e
    have c : o = .lst vs := c
    subst c
    have n : D.plains ds = true := n
    exact .lst (At.sql s (ls_ne f) x) (Dens.dp s ds vs G n q)
  | .nd (.dct f ks) ds, _, _, n, _ => nomatch n
  | .nd (.dtt f ks) ds, _, _, n, _ => nomatch n
  | .nd (.obj C ns) ds, _, _, n, _ => nomatch n
  | .nd (.slf f C ns) ds, _, _, n, _ => nomatch n
  | .nd (.lsk f) ds, _, _, n, _ => nomatch n
theorem Dens.dp (s : Same B H) : ∀ (ds : List D) (vs : List V) (F : List Addr), D.plains ds = true → Dens Z B H ds vs F → DpAll KK.K H vs (D.pys ds)
  | [], _, _, _, h => by rw [h.1]; exact .nil
  | d :: ds, _, _, n, ⟨v, ws, G1, G2, e, x, q, f⟩ => by
    subst e
    have n' : d.plain = true ∧ D.plains ds = true := by simpa [D.plains] using n
    exact .cons (Den.dp s d v G1 n'.1 x) (Dens.dp s ds ws G2 n'.2 q)
end
end
/-- == as data tells it -/
def D.eqv (x y : D) : Bool := PyData.eqv x.py y.py
/-- the data that == is told of -/
def D.okEq (x : D) : Prop := x.plain = true ∧ SeqAt.shaped x.py = true
def dEqN (neg : Bool) : RDv := fun x y Q => match x, y with
  | .int i, .int j => Q (.bl (if neg then !decide (i = j) else decide (i = j)))
  | .str i, .str j => Q (.bl (if neg then !decide (i = j) else decide (i = j)))
  | x, y => x.okEq ∧ y.okEq ∧ Q (.bl (if neg then !D.eqv x y else D.eqv x y))
abbrev dEq : RDv := dEqN false
abbrev dNe : RDv := dEqN true
def rEqA : R2 := fun x y H Q => rEq x y H Q ∨ rEqD KK.K x y H Q
def rNeA : R2 := fun x y H Q => rNe x y H Q ∨ rNeD KK.K x y H Q
theorem vint_eq (i j : Int) : decide (V.int i = V.int j) = decide (i = j) := by
  by_cases h : i = j
  · subst h; simp
  · rw [decide_eq_false h, decide_eq_false fun q => h (V.int.inj q)]
theorem vstr_eq (i j : Str) : decide (V.str i = V.str j) = decide (i = j) := by
  by_cases h : i = j
  · subst h; simp
  · rw [decide_eq_false h, decide_eq_false fun q => h (V.str.inj q)]
theorem lr_eqA : LR2 rEqA dEq := by
  intro B0 Z B H σ ρ x y vx vy F G Qd Q R dx dy h k
  unfold dEq dEqN at h
  split at h
  · refine .inl ⟨by rw [dx.1, dy.1]; rfl, k _ _ _ (Out.of R.sub ?_) h⟩
    rw [dx.1, dy.1, vint_eq]
    exact den_bl
  · refine .inl ⟨by rw [dx.1, dy.1]; rfl, k _ _ _ (Out.of R.sub ?_) h⟩
    rw [dx.1, dy.1, vstr_eq]
    exact den_bl
  · obtain ⟨h1, h2, q⟩ := h
    exact .inr ⟨x.py, y.py, dx.dp R.sub _ _ _ h1.1, dy.dp R.sub _ _ _ h2.1, h1.2, h2.2, k _ _ _ (Out.of R.sub den_bl) q⟩
theorem lr_neA : LR2 rNeA dNe := by
  intro B0 Z B H σ ρ x y vx vy F G Qd Q R dx dy h k
  unfold dNe dEqN at h
  split at h
  · refine .inl ⟨by rw [dx.1, dy.1]; rfl, k _ _ _ (Out.of R.sub ?_) h⟩
    rw [dx.1, dy.1, vint_eq]
    exact den_bl
  · refine .inl ⟨by rw [dx.1, dy.1]; rfl, k _ _ _ (Out.of R.sub ?_) h⟩
    rw [dx.1, dy.1, vstr_eq]
    exact den_bl
  · obtain ⟨h1, h2, q⟩ := h
    exact .inr ⟨x.py, y.py, dx.dp R.sub _ _ _ h1.1, dy.dp R.sub _ _ _ h2.1, h1.2, h2.2, k _ _ _ (Out.of R.sub den_bl) q⟩
section
variable {X : Cx} {a b e : Expr} {pos pos' : Pos} {Ta Tb : TE} {ta tb : TEv} {n : Nat}
theorem e_eq (hr : Room n X.A) (ha : VE X a Ta ta) (hb : VE X b Tb tb) (hK : X.K = KK.K := by rfl) : VE X (.Compare a [.Eq] [b] pos) (tOp rEqA Ta Tb) (vOp dEq ta tb) := by
  unfold rEqA
  rw [← hK]
  exact ⟨pe_cmpR (op_eq.or (op_eqD hr.units)) ha.pe hb.pe (nomark _), by rw [hK]; exact lk_op lr_eqA ha.lk hb.lk⟩
theorem e_ne (hr : Room n X.A) (ha : VE X a Ta ta) (hb : VE X b Tb tb) (hK : X.K = KK.K := by rfl) : VE X (.Compare a [.NotEq] [b] pos) (tOp rNeA Ta Tb) (vOp dNe ta tb) := by
  unfold rNeA
  rw [← hK]
  exact ⟨pe_cmpR (op_ne.or (op_neD hr.units)) ha.pe hb.pe (nomark _), by rw [hK]; exact lk_op lr_neA ha.lk hb.lk⟩
end

/-! ### and, or, not; tests -/
def vAnd (ta tb : TEv) : TEv := fun ρ Q => ta ρ fun x => match x with
  | .bl k => if k = true then tb ρ Q else Q (.bl false)
  | _ => False
def vOr (ta tb : TEv) : TEv := fun ρ Q => ta ρ fun x => match x with
  | .bl k => if k = true then Q (.bl true) else tb ρ Q
  | _ => False
def vNot (ta : TEv) : TEv := fun ρ Q => ta ρ fun x => match x with
  | .bl k => Q (.bl (!k))
  | _ => False
theorem lk_and {Ta Tb : TE} {ta tb : TEv} (la : LE Ta ta) (lb : LE Tb tb) : LE (tAndV Ta Tb) (vAnd ta tb) := by
  intro B0 Z B H σ ρ Qd Q R h k
  refine la B0 Z B H σ ρ _ _ R h fun x vx H1 ⟨B1, F, g, dx, n, f⟩ h1 => ?_
  split at h1
  · rename_i b _
    refine ⟨b, dx.1, ?_⟩
    cases b with
    | true =>
      rw [if_pos rfl] at h1 ⊢
      exact lb B0 Z B1 H1 σ ρ _ _ (R.grow g) h1 fun d v H2 o q => k d v H2 (o.after g) q
    | false =>
      rw [if_neg Bool.false_ne_true] at h1 ⊢
      exact k _ _ _ ((Out.of g.sub den_bl).after g) h1
  · exact h1.elim
theorem lk_or {Ta Tb : TE} {ta tb : TEv} (la : LE Ta ta) (lb : LE Tb tb) : LE (tOrV Ta Tb) (vOr ta tb) := by
  intro B0 Z B H σ ρ Qd Q R h k
  refine la B0 Z B H σ ρ _ _ R h fun x vx H1 ⟨B1, F, g, dx, n, f⟩ h1 => ?_
  split at h1
  · rename_i b _
    refine ⟨b, dx.1, ?_⟩
    cases b with
    | true =>
      rw [if_pos rfl] at h1 ⊢
      exact k _ _ _ ((Out.of g.sub den_bl).after g) h1
    | false =>
      rw [if_neg Bool.false_ne_true] at h1 ⊢
      exact lb B0 Z B1 H1 σ ρ _ _ (R.grow g) h1 fun d v H2 o q => k d v H2 (o.after g) q
  · exact h1.elim
theorem lk_not {Ta : TE} {ta : TEv} (la : LE Ta ta) : LE (tNotV Ta) (vNot ta) := by
  intro B0 Z B H σ ρ Qd Q R h k
  refine la B0 Z B H σ ρ _ _ R h fun x vx H1 ⟨B1, F, g, dx, n, f⟩ h1 => ?_
  split at h1
  · exact ⟨_, dx.1, k _ _ _ ((Out.of g.sub den_bl).after g) h1⟩
  · exact h1.elim
def vTest (ta : TEv) : TTv := fun ρ Q => ta ρ fun x => match x with
  | .bl k => Q k
  | _ => False
theorem lk_test {Ta : TE} {ta : TEv} (la : LE Ta ta) : LT (tTest Ta) (vTest ta) := by
  intro B0 Z B H σ ρ Qd Q R h k
  refine la B0 Z B H σ ρ _ _ R h fun x vx H1 ⟨B1, F, g, dx, n, f⟩ h1 => ?_
  split at h1
  · exact ⟨_, dx.1, k _ _ _ g h1⟩
  · exact h1.elim
def vAndT (ta tb : TTv) : TTv := fun ρ Q => ta ρ fun k => if k = true then tb ρ Q else Q false
def vOrT (ta tb : TTv) : TTv := fun ρ Q => ta ρ fun k => if k = true then Q true else tb ρ Q
def vNotT (ta : TTv) : TTv := fun ρ Q => ta ρ fun k => Q (!k)
theorem lk_andT {Ta Tb : TT} {ta tb : TTv} (la : LT Ta ta) (lb : LT Tb tb) : LT (tAnd Ta Tb) (vAndT ta tb) := by
  intro B0 Z B H σ ρ Qd Q R h k
  refine la B0 Z B H σ ρ _ _ R h fun c B1 H1 g h1 => ?_
  cases c with
  | true => rw [if_pos rfl] at h1 ⊢; exact lb B0 Z B1 H1 σ ρ _ _ (R.grow g) h1 fun c B2 H2 g2 q => k _ _ _ (g.trans g2) q
  | false => rw [if_neg Bool.false_ne_true] at h1 ⊢; exact k _ _ _ g h1
theorem lk_orT {Ta Tb : TT} {ta tb : TTv} (la : LT Ta ta) (lb : LT Tb tb) : LT (tOr Ta Tb) (vOrT ta tb) := by
  intro B0 Z B H σ ρ Qd Q R h k
  refine la B0 Z B H σ ρ _ _ R h fun c B1 H1 g h1 => ?_
  cases c with
  | true => rw [if_pos rfl] at h1 ⊢; exact k _ _ _ g h1
  | false => rw [if_neg Bool.false_ne_true] at h1 ⊢; exact lb B0 Z B1 H1 σ ρ _ _ (R.grow g) h1 fun c B2 H2 g2 q => k _ _ _ (g.trans g2) q
theorem lk_notT {Ta : TT} {ta : TTv} (la : LT Ta ta) : LT (tNot Ta) (vNotT ta) := by
  intro B0 Z B H σ ρ Qd Q R h k
  exact la B0 Z B H σ ρ _ _ R h fun c B1 H1 g h1 => k _ _ _ g h1
section
variable {X : Cx} {a b e : Expr} {rest : List Expr} {pos pos' : Pos} {Ta Tb : TE} {ta tb : TEv} {Tc Td : TT} {tc td : TTv}
theorem e_one {op} (ha : VE X a Ta ta) : VE X (.BoolOp op [a] pos) Ta ta := ⟨pe_one ha.pe, ha.lk⟩
theorem e_and (ha : VE X a Ta ta) (hb : VE X (.BoolOp .And (b :: rest) pos) Tb tb) : VE X (.BoolOp .And (a :: b :: rest) pos) (tAndV Ta Tb) (vAnd ta tb) := ⟨pe_and ha.pe hb.pe, lk_and ha.lk hb.lk⟩
theorem e_or (ha : VE X a Ta ta) (hb : VE X (.BoolOp .Or (b :: rest) pos) Tb tb) : VE X (.BoolOp .Or (a :: b :: rest) pos) (tOrV Ta Tb) (vOr ta tb) := ⟨pe_or ha.pe hb.pe, lk_or ha.lk hb.lk⟩
theorem e_not (ha : VE X a Ta ta) : VE X (.UnaryOp .Not a pos) (tNotV Ta) (vNot ta) := ⟨pe_not ha.pe, lk_not ha.lk⟩
theorem lk_val {Ta : TE} {ta : TEv} (la : LE Ta ta) : LT (tB Ta) (vTest ta) := by
  intro B0 Z B H σ ρ Qd Q R h k
  refine la B0 Z B H σ ρ _ _ R h fun x vx H1 ⟨B1, F, g, dx, n, f⟩ h1 => ?_
  split at h1
  · exact ⟨_, dx.1, k _ _ _ g h1⟩
  · exact h1.elim
/-- an expression that gives True or False, as a test -/
theorem t_val (ha : VE X a Ta ta) (he : ∀ whole, isTrue a X.env whole = (do let v ← whole; standAt a.pos; holding [v] (truthy v)) := by intro _; rfl) : VT X a (tB Ta) (vTest ta) := ⟨pt_val ha.pe he, lk_val ha.lk⟩
theorem t_cmp {op : CmpOp} {r : R2} {rv : RDv} (ho : OpR X (compareOp op) r) (lr : LR2 r rv) (ha : VE X a Ta ta) (hb : VE X b Tb tb) (hm : behindInMarks op b = false) : VT X (.Compare a [op] [b] pos) (tTest (tOp r Ta Tb)) (vTest (vOp rv ta tb)) := ⟨pt_cmpR ho ha.pe hb.pe hm, lk_test (lk_op lr ha.lk hb.lk)⟩
theorem t_lt (ha : VE X a Ta ta) (hb : VE X b Tb tb) : VT X (.Compare a [.Lt] [b] pos) (tTest (tOp (rI0 fun i j => .bl (decide (i < j))) Ta Tb)) (vTest (vOp dLt ta tb)) := t_cmp op_lt (lr_I0 fun _ _ _ _ _ => ⟨rfl, rfl⟩) ha hb (nomark _)
theorem t_le (ha : VE X a Ta ta) (hb : VE X b Tb tb) : VT X (.Compare a [.LtE] [b] pos) (tTest (tOp (rI0 fun i j => .bl (decide (i ≤ j))) Ta Tb)) (vTest (vOp dLe ta tb)) := t_cmp op_le (lr_I0 fun _ _ _ _ _ => ⟨rfl, rfl⟩) ha hb (nomark _)
theorem t_gt (ha : VE X a Ta ta) (hb : VE X b Tb tb) : VT X (.Compare a [.Gt] [b] pos) (tTest (tOp (rI0 fun i j => .bl (decide (j < i))) Ta Tb)) (vTest (vOp dGt ta tb)) := t_cmp op_gt (lr_I0 fun _ _ _ _ _ => ⟨rfl, rfl⟩) ha hb (nomark _)
theorem t_ge (ha : VE X a Ta ta) (hb : VE X b Tb tb) : VT X (.Compare a [.GtE] [b] pos) (tTest (tOp (rI0 fun i j => .bl (decide (j ≤ i))) Ta Tb)) (vTest (vOp dGe ta tb)) := t_cmp op_ge (lr_I0 fun _ _ _ _ _ => ⟨rfl, rfl⟩) ha hb (nomark _)
theorem t_eq {n : Nat} (hr : Room n X.A) (ha : VE X a Ta ta) (hb : VE X b Tb tb) (hK : X.K = KK.K := by rfl) : VT X (.Compare a [.Eq] [b] pos) (tTest (tOp rEqA Ta Tb)) (vTest (vOp dEq ta tb)) := by
  unfold rEqA
  rw [← hK]
  exact t_cmp (op_eq.or (op_eqD hr.units)) (by rw [hK]; exact lr_eqA) ha hb (nomark _)
theorem t_ne {n : Nat} (hr : Room n X.A) (ha : VE X a Ta ta) (hb : VE X b Tb tb) (hK : X.K = KK.K := by rfl) : VT X (.Compare a [.NotEq] [b] pos) (tTest (tOp rNeA Ta Tb)) (vTest (vOp dNe ta tb)) := by
  unfold rNeA
  rw [← hK]
  exact t_cmp (op_ne.or (op_neD hr.units)) (by rw [hK]; exact lr_neA) ha hb (nomark _)
theorem t_isN {j} (ha : VE X a Ta ta) : VT X (.Compare a [.Is] [.Constant .none j pos'] pos) (tTest (tOp (fun x y H Q => y = .non ∧ Q (.bl (decide (x = .non))) H) Ta (tC .non))) (vTest (vIsN false ta)) := ⟨pt_cmpR op_isN ha.pe pe_non (nomark _), lk_test (lk_isN ha.lk)⟩
theorem t_notN {j} (ha : VE X a Ta ta) : VT X (.Compare a [.IsNot] [.Constant .none j pos'] pos) (tTest (tOp (fun x y H Q => y = .non ∧ Q (.bl (!decide (x = .non))) H) Ta (tC .non))) (vTest (vIsN true ta)) := ⟨pt_cmpR op_notN ha.pe pe_non (nomark _), lk_test (lk_notN ha.lk)⟩
theorem w_andL (ha : VT X a Tc tc) : VW X (.BoolOp .And [a] pos) Tc tc := ⟨pw_and1 ha.pt, ha.lk⟩
theorem w_orL (ha : VT X a Tc tc) : VW X (.BoolOp .Or [a] pos) Tc tc := ⟨pw_or1 ha.pt, ha.lk⟩
theorem w_and (ha : VT X a Tc tc) (hb : VW X (.BoolOp .And (b :: rest) pos) Td td) : VW X (.BoolOp .And (a :: b :: rest) pos) (tAnd Tc Td) (vAndT tc td) := ⟨pw_and ha.pt hb.pw, lk_andT ha.lk hb.lk⟩
theorem w_or (ha : VT X a Tc tc) (hb : VW X (.BoolOp .Or (b :: rest) pos) Td td) : VW X (.BoolOp .Or (a :: b :: rest) pos) (tOr Tc Td) (vOrT tc td) := ⟨pw_or ha.pt hb.pw, lk_orT ha.lk hb.lk⟩
theorem t_w (h : VW X a Tc tc) : VT X a Tc tc := ⟨h.pw.pt, h.lk⟩
theorem t_not (ha : VT X a Tc tc) : VT X (.UnaryOp .Not a pos) (tNot Tc) (vNotT tc) := ⟨pt_not ha.pt, lk_notT ha.lk⟩
end
end VL

/-! ## VLF -/
/-! VL: arguments, displays, built-in functions, subscripts, attributes, calls. -/
namespace VL
open PySem PySem.Spec L2
open PyProof.Rows hiding St

variable [KK : KLs]
/-! ### argument lists, displays -/
def vNil : TAv := fun _ Q => Q []
def vCons (ta : TEv) (tr : TAv) : TAv := fun ρ Q => ta ρ fun d => tr ρ fun ds => Q (d :: ds)
theorem lk_nil : LA tNil vNil := fun B0 Z B H σ ρ Qd Q R h k => k _ _ _ (Outs.nil R.sub) h
theorem lk_cons {Ta : TE} {ta : TEv} {Tr : TA} {tr : TAv} (la : LE Ta ta) (lr : LA Tr tr) : LA (tCons Ta Tr) (vCons ta tr) := by
  intro B0 Z B H σ ρ Qd Q R h k
  refine la B0 Z B H σ ρ _ _ R h fun x vx H1 ⟨B1, F, g, dx, n, f⟩ h1 => ?_
  exact lr B0 Z B1 H1 σ ρ _ _ (R.grow g) h1 fun ds vs H2 o q => k _ _ _ (Outs.cons g dx n f o) q
section
variable {X : Cx} {e : Expr} {es : List Expr} {pos : Pos} {Te : TE} {te : TEv} {T : TA} {t : TAv}
theorem a_nil : VA X [] tNil vNil := ⟨pa_nil, lk_nil⟩
theorem a_cons (ha : VE X e Te te) (hr : VA X es T t) (hs : starEach (e :: es) X.env = (false, eval e X.env) :: starEach es X.env := by rfl) : VA X (e :: es) (tCons Te T) (vCons te t) := ⟨pa_cons ha.pe hr.pa hs, lk_cons ha.lk hr.lk⟩
end
def vTup (t : TAv) : TEv := fun ρ Q => t ρ fun ds => ds.length ≤ 1000000 ∧ D.alls nbF ds = true ∧ Q (.tup ds)
def vLst (t : TAv) : TEv := fun ρ Q => t ρ fun ds => ds.length ≤ 1000000 ∧ D.alls nbF ds = true ∧ Q (.lst .o ds)
theorem million {n : Nat} (h : n ≤ 1000000) : n < sizeLine := Nat.lt_of_le_of_lt h (by decide)
section
variable {Z B H B1 H1 : Hp}
theorem out_tup {ds : List D} {vs : List V} {p : Addr} (h : Outs Z B H ds vs H1) (hp : H1 p = none) : Out Z B H (.tup ds) (.ref p) (upd H1 p (.tup vs)) := by
  obtain ⟨B1, F, g, q, n, f⟩ := h
  have g2 := Grow.fix (o := .tup vs) g.sub hp
  refine ⟨_, F, g.trans g2, ⟨p, _, vs, F, rfl, upd_same, rfl, Dens.grow g2.sb g2.sh ds vs F q, rfl⟩, n, fun a h => ?_⟩
  obtain ⟨o, e⟩ := Dens.live ds vs F q a h
  exact ⟨g2.old a o e (f a h).1, (f a h).2⟩
theorem out_lst {ds : List D} {vs : List V} {p : Addr} (h : Outs Z B H ds vs H1) (hp : H1 p = none) : Out Z B H (.lst .o ds) (.ref p) (upd H1 p (.lst vs)) := by
  obtain ⟨B1, F, g, q, n, f⟩ := h
  have g2 := Grow.new (o := .lst vs) g.sub hp
  have ne : ∀ a ∈ F, a ≠ p := fun a h e => by
    obtain ⟨o, e'⟩ := Dens.live ds vs F q a h
    rw [e, hp] at e'
    cases e'
  refine ⟨B1, p :: F, g.trans g2, ⟨p, _, vs, F, rfl, upd_same, rfl, Dens.grow g2.sb g2.sh ds vs F q, rfl⟩, List.nodup_cons.mpr ⟨fun h => ne p h rfl, n⟩, fun a h => ?_⟩
  rcases List.mem_cons.mp h with e | h
  · subst e
    exact ⟨g.sub.free hp, g.sh.free hp⟩
  · exact f a h
end
theorem Outs.len {Z B H H' : Hp} {ds : List D} {vs : List V} (h : Outs Z B H ds vs H') : ds.length = vs.length := let ⟨_, _, _, q, _⟩ := h; q.len
theorem lk_tup {T : TA} {t : TAv} (l : LA T t) : LE (tTup T) (vTup t) := by
  intro B0 Z B H σ ρ Qd Q R h k
  refine l B0 Z B H σ ρ _ _ R h fun ds vs H1 o q => ⟨Nat.le_of_lt (million (by rw [← o.len]; exact q.1)), fun p hp => k _ _ _ (out_tup o hp) q.2.2⟩
theorem lk_lst {T : TA} {t : TAv} (l : LA T t) : LE (tLst T) (vLst t) := by
  intro B0 Z B H σ ρ Qd Q R h k
  refine l B0 Z B H σ ρ _ _ R h fun ds vs H1 o q => ⟨Nat.le_of_lt (million (by rw [← o.len]; exact q.1)), fun p hp => k _ _ _ (out_lst o hp) q.2.2⟩
section
variable {X : Cx} {e : Expr} {es : List Expr} {pos : Pos} {T : TA} {t : TAv}
theorem e_tup {x1} (h : VA X es T t) : VE X (.Tuple es x1 pos) (tTup T) (vTup t) := ⟨pe_tup h.pa, lk_tup h.lk⟩
theorem e_lst (h : VA X es T t) : VE X (.List es pos) (tLst T) (vLst t) := ⟨pe_lst h.pa, lk_lst h.lk⟩
end

/-! ### built-in functions -/
abbrev RNv := List D → (D → Prop) → Prop
def LRn (r : List V → Hp → VK → Prop) (rv : RNv) : Prop := ∀ (B0 Z B H : Hp) (σ : L2.St) (ρ : Env) (ds : List D) (vs : List V) (F : List Addr) (Qd : D → Prop) (Q : VK), Rep B0 Z B H σ ρ → Dens Z B H ds vs F → rv ds Qd → (∀ d v H', Out Z B H d v H' → Qd d → Q v H') → r vs H Q
def vB (r : RNv) (t : TAv) : TEv := fun ρ Q => t ρ fun ds => r ds Q
theorem lk_cb {r : List V → Hp → VK → Prop} {rv : RNv} {T : TA} {t : TAv} (lr : LRn r rv) (l : LA T t) : LE (tCB r T) (vB rv t) := by
  intro B0 Z B H σ ρ Qd Q R h k
  refine l B0 Z B H σ ρ _ _ R h fun ds vs H1 ⟨B1, F, g, q, n, f⟩ h1 => ?_
  exact lr B0 Z B1 H1 σ ρ ds vs F Qd Q (R.grow g) q h1 fun d v H2 o q => k _ _ _ (o.after g) q
section
variable {X : Cx} {x : Str} {p pos : Pos} {e : Expr} {es : List Expr} {T : TA} {t : TAv} {id tn : String} {r : List V → Hp → VK → Prop} {rv : RNv}
theorem e_callB (hc : CallR X (.builtin id) r) (lr : LRn r rv) (hg : Gl X x) (hm : X.mg x = none) (hv : bootBuiltins x = some (.builtin id)) (ha : VA X (e :: es) T t) (hn : x ≠ "__name__" := by decide) (hdb : (x == ("__debug__" : Str)) = false := by decide)
    (he : starEach (e :: es) X.env = (false, eval e X.env) :: starEach es X.env := by rfl) (hpl : (backTo pos (starEach es X.env)).any (·.1) = false := by rfl) : VE X (.Call (.Name x p) (e :: es) [] pos) (tCB r T) (vB rv t) :=
  ⟨pe_callB hc hg hm hv ha.pa hn hdb he hpl, lk_cb lr ha.lk⟩
theorem e_callTy (hc : CallR X (.type tn) r) (lr : LRn r rv) (hg : Gl X x) (hm : X.mg x = none) (hv : bootBuiltins x = some (.type tn)) (ha : VA X (e :: es) T t) (hn : x ≠ "__name__" := by decide) (hdb : (x == ("__debug__" : Str)) = false := by decide)
    (he : starEach (e :: es) X.env = (false, eval e X.env) :: starEach es X.env := by rfl) (hpl : (backTo pos (starEach es X.env)).any (·.1) = false := by rfl) : VE X (.Call (.Name x p) (e :: es) [] pos) (tCB r T) (vB rv t) :=
  ⟨pe_callTy hc hg hm hv ha.pa hn hdb he hpl, lk_cb lr ha.lk⟩
end
/-- max, min of two ints -/
def dMax2 : RNv := fun ds Q => match ds with
  | [.int i, .int j] => Q (.int (max i j))
  | _ => False
def dMin2 : RNv := fun ds Q => match ds with
  | [.int i, .int j] => Q (.int (min i j))
  | _ => False
section
variable {Z B H : Hp}
theorem dens_int1 {i : Int} {vs : List V} {F : List Addr} (h : Dens Z B H [.int i] vs F) : vs = [.int i] := by
  obtain ⟨v, ws, G1, G2, e, x, q, f⟩ := h
  rw [e, q.1, x.1]
theorem dens_int2 {i j : Int} {vs : List V} {F : List Addr} (h : Dens Z B H [.int i, .int j] vs F) : vs = [.int i, .int j] := by
  obtain ⟨v, ws, G1, G2, e, x, q, f⟩ := h
  rw [e, dens_int1 q, x.1]
theorem dens_one {d : D} {vs : List V} {F : List Addr} (h : Dens Z B H [d] vs F) : ∃ v, vs = [v] ∧ Den Z B H d v F := by
  obtain ⟨v, ws, G1, G2, e, x, q, f⟩ := h
  refine ⟨v, by rw [e, q.1], ?_⟩
  rw [f, q.2, List.append_nil]
  exact x
theorem dens_two {d e : D} {vs : List V} {F : List Addr} (h : Dens Z B H [d, e] vs F) : ∃ v w G1 G2, vs = [v, w] ∧ Den Z B H d v G1 ∧ Den Z B H e w G2 ∧ F = G1 ++ G2 := by
  obtain ⟨v, ws, G1, G2, e, x, q, f⟩ := h
  obtain ⟨w, e2, y⟩ := dens_one q
  exact ⟨v, w, G1, G2, by rw [e, e2], x, y, f⟩
end
theorem lr_max2 : LRn (fun xs H Q => ∃ i j, xs = [.int i, .int j] ∧ Q (.int (if j > i then j else i)) H) dMax2 := by
  intro B0 Z B H σ ρ ds vs F Qd Q R q h k
  unfold dMax2 at h
  split at h
  · rename_i i j
    refine ⟨_, _, dens_int2 q, k _ _ _ (Out.of R.sub ?_) h⟩
    have e : max i j = if j > i then j else i := by split <;> omega
    rw [e]
    exact den_int
  · exact h.elim
theorem lr_min2 : LRn (fun xs H Q => ∃ i j, xs = [.int i, .int j] ∧ Q (.int (if j < i then j else i)) H) dMin2 := by
  intro B0 Z B H σ ρ ds vs F Qd Q R q h k
  unfold dMin2 at h
  split at h
  · rename_i i j
    refine ⟨_, _, dens_int2 q, k _ _ _ (Out.of R.sub ?_) h⟩
    have e : min i j = if j < i then j else i := by split <;> omega
    rw [e]
    exact den_int
  · exact h.elim
def dInt1 : RNv := fun ds Q => match ds with
  | [.int i] => Q (.int i)
  | [.bl k] => Q (.int (if k then 1 else 0))
  | _ => False
theorem lr_int1 : LRn (fun xs H Q => (∃ i, xs = [.int i] ∧ Q (.int i) H) ∨ ∃ k, xs = [.bl k] ∧ Q (.int (if k then 1 else 0)) H) dInt1 := by
  intro B0 Z B H σ ρ ds vs F Qd Q R q h k
  unfold dInt1 at h
  split at h
  · obtain ⟨v, e, x⟩ := dens_one q
    exact .inl ⟨_, by rw [e, x.1], k _ _ _ (Out.of R.sub den_int) h⟩
  · obtain ⟨v, e, x⟩ := dens_one q
    exact .inr ⟨_, by rw [e, x.1], k _ _ _ (Out.of R.sub den_int) h⟩
  · exact h.elim
/-- len -/
def D.seq : D → Option (List D)
  | .nd .tup xs => some xs
  | .nd (.lst _) xs => some xs
  | _ => none
def dLen : RNv := fun ds Q => match ds with
  | [.nd .tup xs] => Q (.int xs.length)
  | [.nd (.lst _) xs] => Q (.int xs.length)
  | [.str z] => z.length ≤ 1000000 ∧ Q (.int z.length)
  | _ => False
section
variable {Z B H : Hp}
theorem den_lst {f : Fl} {xs : List D} {v : V} {F : List Addr} (s : Same B H) (h : Den Z B H (.lst f xs) v F) : ∃ a vs G, v = .ref a ∧ SqL KK.K H a vs ∧ Dens Z B H xs vs G ∧ F = fp f.ls a G := by
  obtain ⟨a, o, vs, G, e, x, c, q, f'⟩ := h
  have c : o = .lst vs := c
  subst c
  exact ⟨a, vs, G, e, At.sql s (ls_ne f) x, q, f'⟩
theorem den_tup {xs : List D} {v : V} {F : List Addr} (s : Same B H) (h : Den Z B H (.tup xs) v F) : ∃ a vs, v = .ref a ∧ H a = some (.tup vs) ∧ B a = some (.tup vs) ∧ Dens Z B H xs vs F := by
  obtain ⟨a, o, vs, G, e, x, c, q, f'⟩ := h
  have c : o = .tup vs := c
  subst c
  have f' : F = G := f'
  subst f'
  exact ⟨a, vs, e, s _ _ x, x, q⟩
end
theorem lr_len : LRn (fun xs H Q => ∃ x n, xs = [x] ∧ LenV KK.K x H n ∧ Q (.int n) H) dLen := by
  intro B0 Z B H σ ρ ds vs F Qd Q R q h k
  unfold dLen at h
  split at h
  · obtain ⟨v, e, x⟩ := dens_one q
    obtain ⟨a, ws, e2, t, _, y⟩ := den_tup R.sub x
    subst e2
    rw [y.len] at h
    exact ⟨_, _, e, .inr ⟨ws, SqT.of t, rfl⟩, k _ _ _ (Out.of R.sub den_int) h⟩
  · obtain ⟨v, e, x⟩ := dens_one q
    obtain ⟨a, ws, G, e2, t, y, _⟩ := den_lst R.sub x
    subst e2
    rw [y.len] at h
    exact ⟨_, _, e, .inl ⟨ws, t, rfl⟩, k _ _ _ (Out.of R.sub den_int) h⟩
  · obtain ⟨v, e, x⟩ := dens_one q
    rename_i z
    have e3 : v = .str z := x.1
    subst e3
    exact ⟨_, _, e, ⟨Nat.le_of_lt (million h.1), rfl⟩, k _ _ _ (Out.of R.sub den_int) h.2⟩
  · exact h.elim
/-- list(x), tuple(x): the items are copied, so no list of them may be an own one -/
def coF : Fl → Bool | .o => false | .c _ => false | .b => false | .d => false | _ => true
def dList : RNv := fun ds Q => match ds with
  | [.nd .tup xs] => D.alls coF xs = true ∧ Q (.lst .o xs)
  | [.nd (.lst _) xs] => D.alls coF xs = true ∧ Q (.lst .o xs)
  | _ => False
def dTuple : RNv := fun ds Q => match ds with
  | [.nd .tup xs] => D.alls coF xs = true ∧ Q (.tup xs)
  | [.nd (.lst _) xs] => D.alls coF xs = true ∧ Q (.tup xs)
  | _ => False
section
variable {Z B H : Hp}
mutual
theorem Den.nofp : ∀ (d : D) (v : V) (F : List Addr), d.all coF = true → Den Z B H d v F → F = []
  | .non, _, _, _, h => h.2
  | .bl _, _, _, _, h => h.2
  | .int _, _, _, _, h => h.2
  | .str _, _, _, _, h => h.2
  | .cst _, _, _, _, h => h.2
  | .nd h ds, _, _, n, ⟨a, o, vs, G, e, x, c, q, f⟩ => by
    have n' : coF h.fl = true ∧ D.alls coF ds = true := by simpa [D.all] using n
    rw [f, Dens.nofp ds vs G n'.2 q]
    revert n'
    cases h.fl <;> intro n' <;> first | rfl | exact nomatch n'.1
theorem Dens.nofp : ∀ (ds : List D) (vs : List V) (F : List Addr), D.alls coF ds = true → Dens Z B H ds vs F → F = []
  | [], _, _, _, h => h.2
  | d :: ds, _, _, n, ⟨v, ws, G1, G2, e, x, q, f⟩ => by
    have n' : d.all coF = true ∧ D.alls coF ds = true := by simpa [D.alls] using n
    rw [f, Den.nofp d v G1 n'.1 x, Dens.nofp ds ws G2 n'.2 q]
    rfl
end
theorem Outs.of {ds : List D} {vs : List V} {F : List Addr} (s : Same B H) (n : D.alls coF ds = true) (h : Dens Z B H ds vs F) : Outs Z B H ds vs H := by
  have e := Dens.nofp ds vs F n h
  subst e
  exact ⟨B, [], Grow.refl s, h, List.nodup_nil, fun a h => nomatch h⟩
end
theorem lr_list : LRn (fun xs H Q => ∃ p ys, xs = [.ref p] ∧ (SqL KK.K H p ys ∨ SqT KK.K H p ys) ∧ ∀ l, H l = none → Q (.ref l) (upd H l (.lst ys))) dList := by
  intro B0 Z B H σ ρ ds vs F Qd Q R q h k
  unfold dList at h
  split at h
  · obtain ⟨v, e, x⟩ := dens_one q
    obtain ⟨a, ws, e2, t, _, y⟩ := den_tup R.sub x
    subst e2
    exact ⟨a, ws, e, .inr (SqT.of t), fun l hl => k _ _ _ (out_lst (Outs.of R.sub h.1 y) hl) h.2⟩
  · obtain ⟨v, e, x⟩ := dens_one q
    obtain ⟨a, ws, G, e2, t, y, _⟩ := den_lst R.sub x
    subst e2
    exact ⟨a, ws, e, .inl t, fun l hl => k _ _ _ (out_lst (Outs.of R.sub h.1 y) hl) h.2⟩
  · exact h.elim
/-- (a tuple is itself) -/
theorem lr_tuple : LRn (fun xs H Q => ∃ p ys, xs = [.ref p] ∧ ((SqL KK.K H p ys ∧ ∀ l, H l = none → Q (.ref l) (upd H l (.tup ys))) ∨ (SqT KK.K H p ys ∧ Q (.ref p) H))) dTuple := by
  intro B0 Z B H σ ρ ds vs F Qd Q R q h k
  unfold dTuple at h
  split at h
  · obtain ⟨v, e, x⟩ := dens_one q
    obtain ⟨a, ws, e2, t, tb, y⟩ := den_tup R.sub x
    subst e2
    have ef := Dens.nofp _ _ _ h.1 y
    subst ef
    exact ⟨a, ws, e, .inr ⟨SqT.of t, k (.tup _) _ _ (Out.of R.sub ⟨a, _, ws, [], rfl, tb, rfl, y, rfl⟩) h.2⟩⟩
  · obtain ⟨v, e, x⟩ := dens_one q
    obtain ⟨a, ws, G, e2, t, y, _⟩ := den_lst R.sub x
    subst e2
    exact ⟨a, ws, e, .inl ⟨t, fun l hl => k _ _ _ (out_tup (Outs.of R.sub h.1 y) hl) h.2⟩⟩
  · exact h.elim
/-- sum of ints -/
def ints? : List D → Option (List Int)
  | [] => some []
  | .int i :: ds => (ints? ds).map (i :: ·)
  | _ :: _ => none
theorem ints_of : ∀ {ds : List D} {ns : List Int}, ints? ds = some ns → ds = ns.map D.int
  | [], ns, h => by cases h; rfl
  | .int i :: ds, ns, h => by
    cases e : ints? ds with
    | none => simp [ints?, e] at h
    | some ms => simp [ints?, e] at h; subst h; rw [ints_of e]; rfl
  | .non :: ds, ns, h => nomatch h
  | .bl _ :: ds, ns, h => nomatch h
  | .str _ :: ds, ns, h => nomatch h
  | .cst _ :: ds, ns, h => nomatch h
  | .nd _ _ :: ds, ns, h => nomatch h
theorem ints_map : ∀ ns : List Int, ints? (ns.map D.int) = some ns
  | [] => rfl
  | n :: ns => by simp [ints?, ints_map ns]
section
variable {Z B H : Hp}
theorem dens_ints : ∀ {ns : List Int} {vs : List V} {F : List Addr}, Dens Z B H (ns.map D.int) vs F → vs = ns.map V.int
  | [], _, _, h => h.1
  | n :: ns, _, _, ⟨v, ws, G1, G2, e, x, q, f⟩ => by rw [e, x.1, dens_ints q]; rfl
end
def dSum : RNv := fun ds Q => match ds with
  | [.nd (.lst _) xs] => match ints? xs with
    | some ns => Q (.int ns.sum)
    | none => False
  | _ => False
theorem lr_sum : LRn (rSum KK.K) dSum := by
  intro B0 Z B H σ ρ ds vs F Qd Q R q h k
  unfold dSum at h
  split at h
  · split at h
    · rename_i f xs ns e
      obtain ⟨v, e1, x⟩ := dens_one q
      obtain ⟨a, ws, G, e2, t, y, _⟩ := den_lst R.sub x
      subst e2
      rw [ints_of e] at y
      rw [dens_ints y] at t
      exact ⟨a, ns, e1, t, k _ _ _ (Out.of R.sub den_int) h⟩
    · exact h.elim
  · exact h.elim
/-- max, min of a list of ints -/
def dMaxL : RNv := fun ds Q => match ds with
  | [.nd (.lst _) xs] => match ints? xs with
    | some ns => 0 < ns.length ∧ ∀ m, m ∈ ns → (∀ y, y ∈ ns → y ≤ m) → Q (.int m)
    | none => False
  | _ => False
theorem lr_maxL : LRn (rMax KK.K) dMaxL := by
  intro B0 Z B H σ ρ ds vs F Qd Q R q h k
  unfold dMaxL at h
  split at h
  · split at h
    · rename_i f xs ns e
      obtain ⟨v, e1, x⟩ := dens_one q
      obtain ⟨a, ws, G, e2, t, y, _⟩ := den_lst R.sub x
      subst e2
      rw [ints_of e] at y
      rw [dens_ints y] at t
      exact ⟨a, ns, e1, t, h.1, fun m h1 h2 => k _ _ _ (Out.of R.sub den_int) (h.2 m h1 h2)⟩
    · exact h.elim
  · exact h.elim
/-- isinstance(x, T), T a built-in type -/
def D.ty : D → String
  | .non => "NoneType" | .bl _ => "bool" | .int _ => "int" | .str _ => "str" | .cst _ => "?"
  | .nd .tup _ => "tuple" | .nd (.lst _) _ => "list" | .nd (.dct _ _) _ => "dict" | .nd (.dtt _ _) _ => "?" | .nd (.obj _ _) _ => "?" | .nd (.slf _ _ _) _ => "?" | .nd (.lsk _) _ => "?"
def tySub (a b : String) : Bool := a == b || (a == "bool" && b == "int")
def tyNames : List String := ["NoneType", "bool", "int", "str", "tuple", "list", "dict"]
def dIsi (n : String) : RNv := fun ds Q => match ds with
  | [.cst _, _] => False
  | [.nd (.obj _ _) _, _] => False
  | [.nd (.slf _ _ _) _, _] => False
  | [.nd (.dtt _ _) _, _] => False
  | [.nd (.lsk _) _, _] => False
  | [d, .cst (.ty m)] => m = n ∧ Q (.bl (tySub d.ty n))
  | _ => False
section
variable {Z B H : Hp}
theorem den_tyx {d : D} {v : V} {F : List Addr} (s : Same B H) (h : Den Z B H d v F) (n : d.ty ≠ "?") : TyX KK.K H v (.type d.ty) := by
  cases d with
  | non => rw [h.1]; exact .base .non
  | bl b => rw [h.1]; exact .base (.bl b)
  | int i => rw [h.1]; exact .base (.int i)
  | str x => rw [h.1]; exact .base (.str x)
  | cst u => exact absurd rfl n
  | nd hd xs =>
    obtain ⟨a, o, vs, G, e, x, c, q, f⟩ := h
    subst e
    cases hd with
    | tup =>
      have c : o = .tup vs := c
      subst c
      exact .base (.tup (s _ _ x))
    | lst f =>
      have c : o = .lst vs := c
      subst c
      rcases At.rd s (ls_ne _) x with (y | ⟨ob, y⟩) | ⟨xs, _, o, its, n, y, c, _⟩
      · exact .base (.lst y)
      · exact .base (.frz y)
      · exact .kList y c
    | dct f ks =>
      have c : o = .dK (ks.zip vs) := c.2
      subst c
      rcases At.rd s (ls_ne _) x with (y | ⟨ob, y⟩) | ⟨xs, e, _⟩
      · exact .base (.dK y)
      · exact .fDict y
      · cases e
    | dtt f ks => exact absurd rfl n
    | obj C ns => exact absurd rfl n
    | slf f C ns => exact absurd rfl n
    | lsk f => exact absurd rfl n
theorem ty_mem {d : D} (n : d.ty ≠ "?") : d.ty ∈ tyNames := by
  cases d with
  | nd hd xs => cases hd <;> first | exact absurd rfl n | (simp [D.ty, tyNames])
  | cst u => exact absurd rfl n
  | _ => simp [D.ty, tyNames]
end
theorem lr_isi {n : String} (hn : ∀ t ∈ tyNames, kitB t n = some (tySub t n)) : LRn (rIsi KK.K) (dIsi n) := by
  intro B0 Z B H σ ρ ds vs F Qd Q R q h k
  unfold dIsi at h
  split at h
  · exact h.elim
  · exact h.elim
  · exact h.elim
  · exact h.elim
  · exact h.elim
  · rename_i d m h1 h2 h3 h4 h5
    obtain ⟨v, w, G1, G2, e, x, y, _⟩ := dens_two q
    have y : w = .ty m := y.1
    subst y
    obtain ⟨rfl, h⟩ := h
    have nq : d.ty ≠ "?" := by
      cases d with
      | nd hd xs =>
        cases hd with
        | obj C ns => exact fun _ => h2 _ _ _ rfl
        | slf f C ns => exact fun _ => h3 _ _ _ _ rfl
        | tup => show "tuple" ≠ "?"; decide
        | lst f => show "list" ≠ "?"; decide
        | dct f ks => show "dict" ≠ "?"; decide
        | dtt f ks => exact fun _ => h4 _ _ _ rfl
        | lsk f => exact fun _ => h5 _ _ rfl
      | cst u => exact fun _ => h1 _ rfl
      | non => decide
      | bl b => show "bool" ≠ "?"; decide
      | int i => show "int" ≠ "?"; decide
      | str x => show "str" ≠ "?"; decide
    refine ⟨v, _, _, _, _, e, .ty m, den_tyx R.sub x nq, kit_ty (hn _ (ty_mem nq)), k _ _ _ (Out.of R.sub den_bl) h⟩
  · exact h.elim
section
variable {X : Cx} {x : Str} {pos : Pos} {v : V} {u : Value}
theorem e_bltn {x : Str} {pos : Pos} {n : String} (hm : X.mg x = none) (hv : bootBuiltins x = some (.type n)) (hg : Gl X x := by rfl) (hn : x ≠ "__name__" := by decide) (hd : (x == ("__debug__" : Str)) = false := by decide) : VE X (.Name x pos) (tC (.ty n)) (vC (.cst (.ty n))) :=
  ⟨pe_bltn hg hm hv (r := (rfl : RelV (.ty n) (.type n))) hn hd, lk_c fun _ _ _ => den_cst⟩
end
section
variable {X : Cx} {p pos : Pos} {e e2 : Expr} {es : List Expr} {T : TA} {t : TAv}
def rLen (K : PySem.W.Frag) : List V → Hp → VK → Prop := fun xs H Q => ∃ x n, xs = [x] ∧ LenV K x H n ∧ Q (.int n) H
def rListOf (K : PySem.W.Frag) : List V → Hp → VK → Prop := fun xs H Q => ∃ p ys, xs = [.ref p] ∧ (SqL K H p ys ∨ SqT K H p ys) ∧ ∀ l, H l = none → Q (.ref l) (upd H l (.lst ys))
def rTupOf (K : PySem.W.Frag) : List V → Hp → VK → Prop := fun xs H Q => ∃ p ys, xs = [.ref p] ∧ ((SqL K H p ys ∧ ∀ l, H l = none → Q (.ref l) (upd H l (.tup ys))) ∨ (SqT K H p ys ∧ Q (.ref p) H))
def rMax2 : List V → Hp → VK → Prop := fun xs H Q => ∃ i j, xs = [.int i, .int j] ∧ Q (.int (if j > i then j else i)) H
def rMin2 : List V → Hp → VK → Prop := fun xs H Q => ∃ i j, xs = [.int i, .int j] ∧ Q (.int (if j < i then j else i)) H
def rInt1 : List V → Hp → VK → Prop := fun xs H Q => (∃ i, xs = [.int i] ∧ Q (.int i) H) ∨ ∃ k, xs = [.bl k] ∧ Q (.int (if k then 1 else 0)) H
abbrev St1 (X : Cx) (e : Expr) (es : List Expr) (pos : Pos) : Prop := starEach (e :: es) X.env = (false, eval e X.env) :: starEach es X.env ∧ (backTo pos (starEach es X.env)).any (·.1) = false
theorem e_len (hm : X.mg "len" = none) (ha : VA X (e :: es) T t) (hg : Gl X "len" := by rfl) (hs : St1 X e es pos := by exact ⟨rfl, rfl⟩) (hK : X.K = KK.K := by rfl) : VE X (.Call (.Name "len" p) (e :: es) [] pos) (tCB (rLen KK.K) T) (vB dLen t) := by
  rw [← hK]
  exact e_callB (r := rLen X.K) call_len (by rw [hK]; exact lr_len) hg hm PySem.boot_len ha (by decide) (by decide) hs.1 hs.2
theorem e_list (hm : X.mg "list" = none) (ha : VA X (e :: es) T t) (hg : Gl X "list" := by rfl) (hs : St1 X e es pos := by exact ⟨rfl, rfl⟩) (hK : X.K = KK.K := by rfl) : VE X (.Call (.Name "list" p) (e :: es) [] pos) (tCB (rListOf KK.K) T) (vB dList t) := by
  rw [← hK]
  exact e_callTy (r := rListOf X.K) call_list_of (by rw [hK]; exact lr_list) hg hm (by decide +kernel) ha (by decide) (by decide) hs.1 hs.2
theorem e_tuple (hm : X.mg "tuple" = none) (ha : VA X (e :: es) T t) (hg : Gl X "tuple" := by rfl) (hs : St1 X e es pos := by exact ⟨rfl, rfl⟩) (hK : X.K = KK.K := by rfl) : VE X (.Call (.Name "tuple" p) (e :: es) [] pos) (tCB (rTupOf KK.K) T) (vB dTuple t) := by
  rw [← hK]
  exact e_callTy (r := rTupOf X.K) call_tuple_of (by rw [hK]; exact lr_tuple) hg hm (by decide +kernel) ha (by decide) (by decide) hs.1 hs.2
theorem e_sum (hc : X.calm = true) (hm : X.mg "sum" = none) (ha : VA X (e :: es) T t) (hg : Gl X "sum" := by rfl) (hs : St1 X e es pos := by exact ⟨rfl, rfl⟩) (hK : X.K = KK.K := by rfl) : VE X (.Call (.Name "sum" p) (e :: es) [] pos) (tCB (rSum KK.K) T) (vB dSum t) := by
  rw [← hK]
  exact e_callB (cr_sum hc) (by rw [hK]; exact lr_sum) hg hm (by decide +kernel) ha (by decide) (by decide) hs.1 hs.2
theorem e_maxL (hc : X.calm = true) (hm : X.mg "max" = none) (ha : VA X (e :: es) T t) (hg : Gl X "max" := by rfl) (hs : St1 X e es pos := by exact ⟨rfl, rfl⟩) (hK : X.K = KK.K := by rfl) : VE X (.Call (.Name "max" p) (e :: es) [] pos) (tCB (rMax KK.K) T) (vB dMaxL t) := by
  rw [← hK]
  exact e_callB (cr_max hc) (by rw [hK]; exact lr_maxL) hg hm (by decide +kernel) ha (by decide) (by decide) hs.1 hs.2
theorem e_max2 (hc : X.calm = true) (hm : X.mg "max" = none) (ha : VA X (e :: es) T t) (hg : Gl X "max" := by rfl) (hs : St1 X e es pos := by exact ⟨rfl, rfl⟩) : VE X (.Call (.Name "max" p) (e :: es) [] pos) (tCB rMax2 T) (vB dMax2 t) :=
  e_callB (call_max2 hc) lr_max2 hg hm (by decide +kernel) ha (by decide) (by decide) hs.1 hs.2
theorem e_min2 (hc : X.calm = true) (hm : X.mg "min" = none) (ha : VA X (e :: es) T t) (hg : Gl X "min" := by rfl) (hs : St1 X e es pos := by exact ⟨rfl, rfl⟩) : VE X (.Call (.Name "min" p) (e :: es) [] pos) (tCB rMin2 T) (vB dMin2 t) :=
  e_callB (call_min2 hc) lr_min2 hg hm (by decide +kernel) ha (by decide) (by decide) hs.1 hs.2
theorem e_int1 (hm : X.mg "int" = none) (ha : VA X (e :: es) T t) (hg : Gl X "int" := by rfl) (hs : St1 X e es pos := by exact ⟨rfl, rfl⟩) : VE X (.Call (.Name "int" p) (e :: es) [] pos) (tCB rInt1 T) (vB dInt1 t) :=
  e_callTy call_int1 lr_int1 hg hm (by decide +kernel) ha (by decide) (by decide) hs.1 hs.2
theorem kit_int : ∀ t ∈ tyNames, kitB t "int" = some (tySub t "int") := by decide +kernel
theorem kit_bool : ∀ t ∈ tyNames, kitB t "bool" = some (tySub t "bool") := by decide +kernel
theorem kit_tuple : ∀ t ∈ tyNames, kitB t "tuple" = some (tySub t "tuple") := by decide +kernel
theorem kit_list : ∀ t ∈ tyNames, kitB t "list" = some (tySub t "list") := by decide +kernel
theorem kit_str : ∀ t ∈ tyNames, kitB t "str" = some (tySub t "str") := by decide +kernel
theorem e_isi {n : String} (hn : ∀ t ∈ tyNames, kitB t n = some (tySub t n)) (hm : X.mg "isinstance" = none) (ha : VA X (e :: es) T t) (hg : Gl X "isinstance" := by rfl) (hs : St1 X e es pos := by exact ⟨rfl, rfl⟩) (hK : X.K = KK.K := by rfl) : VE X (.Call (.Name "isinstance" p) (e :: es) [] pos) (tCB (rIsi KK.K) T) (vB (dIsi n) t) := by
  rw [← hK]
  exact e_callB call_isi (by rw [hK]; exact lr_isi hn) hg hm (by decide +kernel) ha (by decide) (by decide) hs.1 hs.2
end
end VL

/-! ## VLG -/
/-! VL: +, subscripts, attributes, calls of defs, what is walked, comprehensions. -/
namespace VL
open PySem PySem.Spec L2
open PyProof.Rows hiding St

/-! ### + -/
variable [KK : KLs]
def nsF : Fl → Bool | .s => false | _ => true
def dAdd : RDv := fun x y Q => match x, y with
  | .int i, .int j => Q (.int (i + j))
  | .nd (.lst f) xs, .nd (.lst g) ys => nsF f.ls = true ∧ nsF g.ls = true ∧ xs.length + ys.length ≤ 1000000 ∧ D.alls coF xs = true ∧ D.alls coF ys = true ∧ Q (.lst .o (xs ++ ys))
  | .nd .tup xs, .nd .tup ys => xs.length + ys.length ≤ 1000000 ∧ D.alls coF xs = true ∧ D.alls coF ys = true ∧ Q (.tup (xs ++ ys))
  | .str s, .str t => s.length + t.length ≤ 1000000 ∧ Q (.str (s ++ t))
  | _, _ => False
def rStrCat : R2 := fun x y H Q => ∃ i j, x = .str i ∧ y = .str j ∧ i.length + j.length ≤ sizeLine ∧ Q (.str (i ++ j)) H
def rAddA : R2 := fun x y H Q => rI0 (fun i j => .int (i + j)) x y H Q ∨ (rCat x y H Q ∨ (rCatA KK.K x y H Q ∨ rStrCat x y H Q))
section
variable {Z B H : Hp}
/-- a list that is no locked one stands as a list -/
theorem den_lst' {f : Fl} {xs : List D} {v : V} {F : List Addr} (s : Same B H) (n : nsF f.ls = true) (h : Den Z B H (.lst f xs) v F) : ∃ a vs G, v = .ref a ∧ H a = some (.lst vs) ∧ Dens Z B H xs vs G ∧ F = fp f.ls a G ∧ At Z B H f.ls a (.lst vs) := by
  obtain ⟨a, o, vs, G, e, x, c, q, f'⟩ := h
  have c : o = .lst vs := c
  subst c
  refine ⟨a, vs, G, e, ?_, q, f', x⟩
  have x : At Z B H f.ls a (.lst vs) := x
  revert x n
  have nx := ls_ne f
  revert nx
  cases f.ls <;> intro nx n x
  · exact s _ _ x
  · exact nomatch n
  · exact s _ _ x
  · exact s _ _ x.1
  · exact x
  · exact x
  · exact x.1
  · exact x
  · exact absurd rfl nx
end
theorem lr_add : LR2 rAddA dAdd := by
  intro B0 Z B H σ ρ x y vx vy F G Qd Q R dx dy h k
  unfold dAdd at h
  split at h
  · exact .inl ⟨_, _, dx.1, dy.1, k _ _ _ (Out.of R.sub den_int) h⟩
  · obtain ⟨n1, n2, hl, c1, c2, q⟩ := h
    obtain ⟨a, us, G1, e1, t1, y1, _⟩ := den_lst' R.sub n1 dx
    obtain ⟨b, ws, G2, e2, t2, y2, _⟩ := den_lst' R.sub n2 dy
    refine .inr (.inl ⟨a, b, us, ws, e1, e2, t1, t2, by rw [← y1.len, ← y2.len]; exact Nat.le_of_lt (million hl), fun p hp => k _ _ _ (out_lst ?_ hp) q⟩)
    have f1 := Dens.nofp _ _ _ c1 y1
    have f2 := Dens.nofp _ _ _ c2 y2
    subst f1 f2
    exact ⟨B, [], Grow.refl R.sub, y1.app y2, List.nodup_nil, fun a h => nomatch h⟩
  · obtain ⟨hl, c1, c2, q⟩ := h
    rename_i xs ys
    obtain ⟨a, us, e1, t1, b1, y1⟩ := den_tup R.sub dx
    obtain ⟨b, ws, e2, t2, b2, y2⟩ := den_tup R.sub dy
    have f1 := Dens.nofp _ _ _ c1 y1
    have f2 := Dens.nofp _ _ _ c2 y2
    subst f1 f2
    refine .inr (.inr (.inl ⟨a, b, us, ws, e1, e2, SqT.of t1, SqT.of t2, by rw [← y1.len, ← y2.len]; exact Nat.le_of_lt (million hl), fun z => ?_, fun z z2 => ?_, fun z z2 p hp => k _ _ _ (out_tup ?_ hp) q⟩))
    · have ex : xs = [] := List.eq_nil_of_length_eq_zero (by rw [y1.len, z]; rfl)
      rw [ex, List.nil_append] at q
      rw [e2] at dy
      exact k _ _ _ (Out.of R.sub dy) q
    · have ey : ys = [] := List.eq_nil_of_length_eq_zero (by rw [y2.len, z2]; rfl)
      rw [ey, List.append_nil] at q
      rw [e1] at dx
      exact k _ _ _ (Out.of R.sub dx) q
    · exact ⟨B, [], Grow.refl R.sub, y1.app y2, List.nodup_nil, fun a h => nomatch h⟩
  · exact .inr (.inr (.inr ⟨_, _, dx.1, dy.1, Nat.le_of_lt (million h.1), k _ _ _ (Out.of R.sub den_str) h.2⟩))
  · exact h.elim
section
variable {X : Cx} {a b e : Expr} {pos : Pos} {Ta Tb : TE} {ta tb : TEv} {f : Str}
theorem e_add (ha : VE X a Ta ta) (hb : VE X b Tb tb) (hK : X.K = KK.K := by rfl) : VE X (.BinOp a .Add b pos) (tOp rAddA Ta Tb) (vOp dAdd ta tb) := by
  unfold rAddA
  rw [← hK]
  exact ⟨pe_op (op_add.or (op_cat.or (op_catA.or op_add_str))) ha.pe hb.pe, by rw [hK]; exact lk_op lr_add ha.lk hb.lk⟩
end

/-! ### subscripts -/
def dIx : RDv := fun x y Q => match x, y with
  | .nd .tup xs, .int i => match atI xs i with
    | some d => Q d.bor
    | none => False
  | .nd (.lst _) xs, .int i => match atI xs i with
    | some d => Q d.bor
    | none => False
  | .str z, .int i => z.length ≤ 1000000 ∧ match atI z.cps.toList i with
    | some c => Q (.str ⟨#[c]⟩)
    | none => False
  | _, _ => False
theorem atI_len {α β : Type} {xs : List α} {ys : List β} (h : xs.length = ys.length) {i : Int} {d : α} (e : atI xs i = some d) : ∃ j : Nat, xs[j]? = some d ∧ ∀ y, ys[j]? = some y → atI ys i = some y := by
  unfold atI at e ⊢
  rw [h] at e
  cases q : ixN ys.length i with
  | none => rw [q] at e; cases e
  | some j => rw [q] at e; exact ⟨j, e, fun y h => h⟩
theorem lr_ix : LR2 (rIx KK.K) dIx := by
  intro B0 Z B H σ ρ x y vx vy F G Qd Q R dx dy h k
  unfold dIx at h
  split at h
  · split at h
    · rename_i xs i d e
      obtain ⟨a, us, e1, t1, b1, y1⟩ := den_tup R.sub dx
      obtain ⟨j, h1, h2⟩ := atI_len y1.len e
      obtain ⟨v, G', h3, h4, _⟩ := y1.at h1
      exact .inr (.inl ⟨a, us, _, v, e1, dy.1, SqT.of t1, h2 _ h3, k _ _ _ (Out.of R.sub h4.see) h⟩)
    · exact h.elim
  · split at h
    · rename_i f xs i d e
      obtain ⟨a, us, G1, e1, t1, y1, _⟩ := den_lst R.sub dx
      obtain ⟨j, h1, h2⟩ := atI_len y1.len e
      obtain ⟨v, G', h3, h4, _⟩ := y1.at h1
      exact .inl ⟨a, us, _, v, e1, dy.1, t1, h2 _ h3, k _ _ _ (Out.of R.sub h4.see) h⟩
    · exact h.elim
  · obtain ⟨hl, h⟩ := h
    split at h
    · rename_i z i c e
      exact .inr (.inr ⟨_, _, _, dx.1, dy.1, Nat.le_of_lt (million hl), e, k _ _ _ (Out.of R.sub den_str) h⟩)
    · exact h.elim
  · exact h.elim
section
variable {X : Cx} {a b e : Expr} {pos : Pos} {Ta Tb : TE} {ta tb : TEv} {f : Str}
theorem e_ix (ha : VE X a Ta ta) (hb : VE X b Tb tb) (hs : PlainIx b := by exact fun _ _ => rfl) (hK : X.K = KK.K := by rfl) : VE X (.Subscript a b pos) (tOp (rIx KK.K) Ta Tb) (vOp dIx ta tb) := by
  rw [← hK]
  exact ⟨pe_ix ix_seq ha.pe hb.pe hs, by rw [hK]; exact lk_op lr_ix ha.lk hb.lk⟩
end

/-! ### attributes of objects -/
def dFld (f : Str) : RUv := fun x Q => match x with
  | .nd (.obj _ ns) xs => match (ns.zip xs).lookup f with
    | some d => Q d.bor
    | none => False
  | .nd (.slf .d _ ns) xs => match (ns.zip xs).lookup f with
    | some d => Q d.bor
    | none => False
  | _ => False
theorem lookup_zip {Z B H : Hp} {f : Str} : ∀ {ns : List Str} {xs : List D} {vs : List V} {F : List Addr} {d : D}, ns.length = vs.length → Dens Z B H xs vs F → (ns.zip xs).lookup f = some d → ∃ v G, (ns.zip vs).lookup f = some v ∧ Den Z B H d v G
  | [], xs, vs, F, d, _, _, h => by simp at h
  | n :: ns, [], vs, F, d, _, _, h => by simp at h
  | n :: ns, x :: xs, _, _, d, l, ⟨v, ws, G1, G2, e, y, q, f'⟩, h => by
    subst e
    simp only [List.zip_cons_cons, List.lookup_cons] at h ⊢
    split at h
    · cases h; exact ⟨v, G1, rfl, y⟩
    · exact lookup_zip (by simpa using l) q h
/-- the facts of a class whose attribute f is read or stored -/
structure FldOk (K : PySem.W.Frag) (C : Addr) (f : Str) : Prop where
  cl : Cls K C
  no : NoAttr K C f
def vFld (ok : Addr → Prop) (ta : TEv) (f : Str) : TEv := fun ρ Q => ta ρ fun x => (match x with
  | .nd (.obj C _) _ => ok C
  | .nd (.slf _ C _) _ => ok C
  | _ => False) ∧ dFld f x Q
theorem lk_fld {K : PySem.W.Frag} {f : Str} {ok : Addr → Prop} {Ta : TE} {ta : TEv} (hk : ∀ C, ok C → FldOk K C f) (la : LE Ta ta) : LE (tFld K Ta f) (vFld ok ta f) := by
  intro B0 Z B H σ ρ Qd Q R h k
  refine la B0 Z B H σ ρ _ _ R h fun x vx H1 ⟨B1, F, g, dx, n, fr⟩ ⟨h0, h1⟩ => ?_
  have fin : ∀ d v G, Den Z B1 H1 d v G → Qd d.bor → Q v H1 := fun d v G y q => k _ _ _ ((Out.of g.sub y.see).after g) q
  cases x with
  | nd hd xs =>
    obtain ⟨a, o, vs, G, e, x, c, q, f'⟩ := dx
    cases hd with
    | obj C ns =>
      obtain ⟨l, ddx, c⟩ := c
      subst c
      simp only [dFld] at h1
      split at h1
      · rename_i d e2
        obtain ⟨v, G', e3, y⟩ := lookup_zip l q e2
        exact ⟨a, C, ddx, _, v, e, g.sub _ _ x, (hk C h0).cl, (hk C h0).no, e3, fin d v G' y h1⟩
      · exact h1.elim
    | slf f C ns =>
      obtain ⟨l, ddx, c⟩ := c
      subst c
      cases f with
      | d =>
        simp only [dFld] at h1
        split at h1
        · rename_i d e2
          obtain ⟨v, G', e3, y⟩ := lookup_zip l q e2
          exact ⟨a, C, ddx, _, v, e, x, (hk C h0).cl, (hk C h0).no, e3, fin d v G' y h1⟩
        · exact h1.elim
      | _ => exact h1.elim
    | _ => exact h0.elim
  | _ => exact h0.elim
section
variable {X : Cx} {a b e : Expr} {pos : Pos} {Ta Tb : TE} {ta tb : TEv} {f : Str} {ok : Addr → Prop}
theorem e_fld (hk : ∀ C, ok C → FldOk KK.K C f) (he : VE X e Ta ta) (hb : attributeBase e f X.env (eval e X.env) = eval e X.env := by rfl) (hK : X.K = KK.K := by rfl) : VE X (.Attribute e f pos) (tFld KK.K Ta f) (vFld ok ta f) := by
  rw [← hK]
  exact ⟨pe_fld he.pe hb, by rw [hK]; exact lk_fld hk he.lk⟩
end

/-! ### calls of defs -/
/-- an exception, as data: its class, the names of its attributes, their data -/
abbrev XD := Addr × List Str × List D
def OutX (Z B H : Hp) (x : XD) (cls : Value) (dx : Option Addr) (H' : Hp) : Prop := cls = .ref x.1 ∧ ∃ B', Grow B H B' H' ∧ (x.2.1 = [] ∨ ∃ d vs, dx = some d ∧ B' d = some (.xd (x.2.1.zip vs)) ∧ x.2.1.length = vs.length ∧ Dens Z B' H' x.2.2 vs [])
abbrev PV := List D → (D → Prop) → (XD → Prop) → Prop
/-- a def's promise over data -/
def spV (n : Nat) (P : PV) : Sp := fun vs H Q E => ∃ (B : Hp) (ds : List D) (Qd : D → Prop) (Ed : XD → Prop), ds.length = n ∧ Same B H ∧ Dens H B H ds vs [] ∧ D.alls arF ds = true ∧ P ds Qd Ed ∧
  (∀ d v H', Out H B H d v H' → d.ow2 = true → Qd d → Q v H') ∧ (∀ x cls dx H', OutX H B H x cls dx H' → D.alls puF x.2.2 = true → Ed x → E cls dx H')
theorem maps_id : ∀ ds : List D, D.maps id ds = ds := fun ds =>
  D.rec_1 (motive_1 := fun d => D.map id d = d) (motive_2 := fun ds => D.maps id ds = ds) rfl (fun _ => rfl) (fun _ => rfl) (fun _ => rfl) (fun _ => rfl) (fun h xs ih => by rw [D.map, ih]; cases h <;> rfl) rfl (fun d ds h1 h2 => by rw [D.maps, h1, h2]) ds
theorem Dens.base {Z Z' B B' H : Hp} : ∀ {ds : List D} {vs : List V}, Dens Z B H ds vs [] → D.alls arF ds = true → Dens Z' B H ds vs [] := by
  intro ds vs h n
  have K : FlagOk id Z B H Z' B H arF (fun _ => True) id := ⟨⟨rfl, fun _ => rfl, fun _ => rfl⟩, fun f a o G hf _ x => ⟨by cases f <;> first | exact x | (exact nomatch hf), rfl⟩, rfl, fun _ _ => rfl⟩
  have e : D.maps id ds = ds := maps_id ds
  have := Dens.flag K ds vs [] n (fun _ _ => True.intro) h
  rwa [e] at this
/-- constant defaults -/
def Flat : List D → List V → Prop
  | [], [] => True
  | .non :: ds, .non :: vs => Flat ds vs
  | .bl b :: ds, .bl c :: vs => b = c ∧ Flat ds vs
  | .int b :: ds, .int c :: vs => b = c ∧ Flat ds vs
  | .str b :: ds, .str c :: vs => b = c ∧ Flat ds vs
  | _, _ => False
theorem Flat.dens {Z B H : Hp} : ∀ (ds : List D) (vs : List V), Flat ds vs → Dens Z B H ds vs [] ∧ D.alls arF ds = true
  | [], [], _ => ⟨⟨rfl, rfl⟩, rfl⟩
  | .non :: ds, .non :: vs, h => have ih := Flat.dens (Z := Z) (B := B) (H := H) ds vs h; ⟨⟨_, _, [], [], rfl, den_non, ih.1, rfl⟩, ih.2⟩
  | .bl b :: ds, .bl c :: vs, h => have ih := Flat.dens (Z := Z) (B := B) (H := H) ds vs h.2; ⟨⟨_, _, [], [], rfl, by rw [h.1]; exact den_bl, ih.1, rfl⟩, ih.2⟩
  | .int b :: ds, .int c :: vs, h => have ih := Flat.dens (Z := Z) (B := B) (H := H) ds vs h.2; ⟨⟨_, _, [], [], rfl, by rw [h.1]; exact den_int, ih.1, rfl⟩, ih.2⟩
  | .str b :: ds, .str c :: vs, h => have ih := Flat.dens (Z := Z) (B := B) (H := H) ds vs h.2; ⟨⟨_, _, [], [], rfl, by rw [h.1]; exact den_str, ih.1, rfl⟩, ih.2⟩
theorem ar_arg (ds : List D) : D.alls arF (D.maps fArg ds) = true := by
  have h : ∀ d : D, (d.map fArg).all arF = true := by
    intro d
    refine D.rec (motive_1 := fun d => (d.map fArg).all arF = true) (motive_2 := fun ds => D.alls arF (D.maps fArg ds) = true) rfl (fun _ => rfl) (fun _ => rfl) (fun _ => rfl) (fun _ => rfl) (fun h xs ih => ?_) rfl (fun d ds h1 h2 => ?_) d
    · have e : arF (h.map fArg).fl = true := by rw [Hd.fl_map fArg fok_arg]; cases h.fl <;> rfl
      simp [D.map, D.all, e, ih]
    · simp [D.maps, D.alls, h1, h2]
  rw [D.maps_eq, D.alls_eq]
  simp [h]
/-- the arguments as the callee sees them, and back -/
theorem hand_call {n : Nat} {P : PV} {B0 Z B H B1 H1 : Hp} {σ : L2.St} {ρ : Env} {ds dds : List D} {vs dvs : List V} {F : List Addr} {Qd : D → Prop} {Q : VK} (R : Rep B0 Z B H σ ρ) (g : Grow B H B1 H1) (q : Dens Z B1 H1 ds vs F) (hd : Flat dds dvs)
    (hl : (D.maps fArg ds ++ dds).length = n) (hP : P (D.maps fArg ds ++ dds) (fun d => d.ow = true ∧ Qd d) (fun _ => False)) (k : ∀ d v H', Out Z B H d v H' → Qd d → Q v H') : spV n P (vs ++ dvs) H1 Q E0 := by
  have s1 := argBase_sub g.sub
  have R1 := R.grow g
  refine ⟨argBase B1 H1, D.maps fArg ds ++ dds, fun d => d.ow = true ∧ Qd d, fun _ => False, hl, s1, Dens.app (F := []) (G := []) (Dens.hand g.sub ds vs F q) (hd.dens _ _).1, by rw [alls_app, ar_arg, (hd.dens (Z := Z) (B := B) (H := H) _ _).2]; rfl, hP, fun d v H' o _ ⟨ow, q⟩ => ?_, fun _ _ _ _ _ _ z => z.elim⟩
  obtain ⟨B', G, g', x, ng, f⟩ := o
  have gb := Grow.back g.sub g'
  exact k d v H' ⟨unB B1 H1 B', G, g.trans gb, Den.back g.sub g' R1.z d v G ow x, ng, fun a h => by
    obtain ⟨o, e⟩ := x.live _ _ _ a h
    refine ⟨?_, g.sh.free (f a h).2⟩
    cases hu : unB B1 H1 B' a with
    | none => rfl
    | some o' =>
      have := unB_sub hu
      rw [(f a h).1] at this
      cases this⟩ q
def vCall (n : Nat) (P : PV) (dds : List D) (t : TAv) : TEv := fun ρ Q => t ρ fun ds => (D.maps fArg ds ++ dds).length = n ∧ P (D.maps fArg ds ++ dds) (fun d => d.ow = true ∧ Q d) (fun _ => False)
theorem lk_call {n : Nat} {P : PV} {dds : List D} {dvs : List V} {T : TA} {t : TAv} (hd : Flat dds dvs) (l : LA T t) : LE (tCall (spV n P) dvs E0 T) (vCall n P dds t) := by
  intro B0 Z B H σ ρ Qd Q R h k
  refine l B0 Z B H σ ρ _ _ R h fun ds vs H1 ⟨B1, F, g, q, nd, f⟩ h1 => ?_
  exact hand_call R g q hd h1.1 h1.2 k
/-! ### a call whose arguments are fixed: what it hands back may hold parts of them -/
theorem Dens.handW {Z Z' B H : Hp} {ds : List D} {vs : List V} {F : List Addr} (h : Dens Z B H ds vs F) (n : D.alls fxF ds = true) : Dens Z' B H (D.maps fArg ds) vs [] := by
  have K : FlagOk fArg Z B H Z' B H fxF (fun _ => True) (fun _ => []) := ⟨fok_arg, fun f a o G hf _ x => by
    cases f <;> first | exact ⟨x, rfl⟩ | exact ⟨x.1, rfl⟩ | (exact nomatch hf), rfl, fun _ _ => rfl⟩
  exact Dens.flag K ds vs F n (fun _ _ => True.intro) h
theorem Den.backW {Z H1 B' H' : Hp} {d : D} {v : V} {F : List Addr} (hz : ∀ a, H1 a = none → Z a = none) (h : Den H1 B' H' d v F) (n : d.ow2 = true) : Den Z B' H' d v F := by
  have K : FlagOk id H1 B' H' Z B' H' ow2F (fun _ => True) id := ⟨⟨rfl, fun _ => rfl, fun _ => rfl⟩, fun f a o G hf _ x => by
    cases f <;> first | exact ⟨⟨x.1, hz _ x.2⟩, rfl⟩ | exact ⟨x, rfl⟩ | (exact nomatch hf), rfl, fun _ _ => rfl⟩
  have := Den.flag K d v F n (fun _ _ => True.intro) h
  have e : D.map id d = d := by
    have := maps_id [d]
    rw [D.maps, D.maps] at this
    exact (List.cons.inj this).1
  rwa [e] at this
def vCallW (n : Nat) (P : PV) (dds : List D) (t : TAv) : TEv := fun ρ Q => t ρ fun ds => D.alls fxF ds = true ∧ (D.maps fArg ds ++ dds).length = n ∧ P (D.maps fArg ds ++ dds) Q (fun _ => False)
theorem lk_callW {n : Nat} {P : PV} {dds : List D} {dvs : List V} {T : TA} {t : TAv} (hd : Flat dds dvs) (l : LA T t) : LE (tCall (spV n P) dvs E0 T) (vCallW n P dds t) := by
  intro B0 Z B H σ ρ Qd Q R h k
  refine l B0 Z B H σ ρ _ _ R h fun ds vs H1 ⟨B1, F, g, q, nd, f⟩ ⟨fx, hl, hP⟩ => ?_
  have R1 := R.grow g
  refine ⟨B1, D.maps fArg ds ++ dds, Qd, fun _ => False, hl, g.sub, Dens.app (F := []) (G := []) (q.handW fx) (hd.dens _ _).1, by rw [alls_app, ar_arg, (hd.dens (Z := Z) (B := B) (H := H) _ _).2]; rfl, hP, fun d v H' o ow q => ?_, fun _ _ _ _ _ _ z => z.elim⟩
  obtain ⟨B', G, g', x, ng, f⟩ := o
  exact k d v H' ⟨B', G, g.trans g', x.backW R1.z ow, ng, fun a h => ⟨(f a h).1, g.sh.free (f a h).2⟩⟩ q
/-- a def that may be called by its name -/
structure Fnc (P : Program) (w : World) (K : PySem.W.Frag) (mg : Str → Option Value) (base : Heap) (k : Nat) (x : Str) (n : Nat) (Pv : PV) (dds : List D) : Prop where
  ex : ∃ (f : Addr) (fd : FuncData) (ps : List Str) (ds : List Value) (dvs : List V), FnOk P w K mg base (L2.CX P w) k f fd ps (spV n Pv) ∧ mg x = some (.ref f) ∧ PySem.W.keepIn K (.ref f) = true ∧ Binds K fd ps ds ∧ Vals dvs ds ∧ Flat dds dvs
section
variable {X : Cx} {k j n : Nat} {C : Addr} {x m : Str} {P : PV} {dds : List D} {p pos apos : Pos} {e o : Expr} {es : List Expr} {T : TA} {t : TAv}
theorem e_callW {dvs : List V} {f : Addr} {fd : FuncData} {ps : List Str} {ds : List Value} (F : FnOk X.prog X.w X.K X.mg X.base (L2.CX X.prog X.w) k f fd ps (spV n P)) (hm : X.mg x = some (.ref f)) (kp : PySem.W.keepIn X.K (.ref f) = true) (b : Binds X.K fd ps ds) (d : Vals dvs ds) (hf : Flat dds dvs)
    (hr : Room j X.A) (hk : k ≤ j) (ha : VA X (e :: es) T t) (hg : Gl X x := by rfl)
    (hdb : (x == ("__debug__" : Str)) = false := by decide) (he : starEach (e :: es) X.env = (false, eval e X.env) :: starEach es X.env := by rfl) (hpl : (backTo pos (starEach es X.env)).any (·.1) = false := by rfl) :
    VE X (.Call (.Name x p) (e :: es) [] pos) (tCall (spV n P) dvs E0 T) (vCallW n P dds t) := ⟨pe_call F (hr.mono hk) hg hm kp b d passL ha.pa hdb he hpl, lk_callW hf ha.lk⟩
theorem e_call {dvs : List V} {f : Addr} {fd : FuncData} {ps : List Str} {ds : List Value} (F : FnOk X.prog X.w X.K X.mg X.base (L2.CX X.prog X.w) k f fd ps (spV n P)) (hm : X.mg x = some (.ref f)) (kp : PySem.W.keepIn X.K (.ref f) = true) (b : Binds X.K fd ps ds) (d : Vals dvs ds) (hf : Flat dds dvs)
    (hr : Room j X.A) (hk : k ≤ j) (ha : VA X (e :: es) T t) (hg : Gl X x := by rfl)
    (hdb : (x == ("__debug__" : Str)) = false := by decide) (he : starEach (e :: es) X.env = (false, eval e X.env) :: starEach es X.env := by rfl) (hpl : (backTo pos (starEach es X.env)).any (·.1) = false := by rfl) :
    VE X (.Call (.Name x p) (e :: es) [] pos) (tCall (spV n P) dvs E0 T) (vCall n P dds t) := ⟨pe_call F (hr.mono hk) hg hm kp b d passL ha.pa hdb he hpl, lk_call hf ha.lk⟩
end
end VL

/-! ## VLS -/
/-! VL: statements, loops, comprehensions, a def's body. -/
namespace VL
open PySem PySem.Spec L2
open PyProof.Rows hiding St

variable [KK : KLs]
structure Ev where
  nx : Env → Prop
  rt : D → Prop
  bk : Env → Prop := fun _ => False
  ct : Env → Prop := fun _ => False
abbrev TSv := Ev → Env → Prop
/-- what is wanged over the heap follows from what is wanted over data -/
structure Sim (B0 Z : Hp) (Dv : Ev) (De : Ends) : Prop where
  nx : ∀ B H σ ρ, Rep B0 Z B H σ ρ → Dv.nx ρ → De.nx σ H
  rt : ∀ d v H, Out Z B0 Z d v H → d.ow2 = true → Dv.rt d → De.rt v H
  bk : ∀ B H σ ρ, Rep B0 Z B H σ ρ → Dv.bk ρ → De.bk σ H
  ct : ∀ B H σ ρ, Rep B0 Z B H σ ρ → Dv.ct ρ → De.ct σ H
def LS (T : TS) (t : TSv) : Prop := ∀ (B0 Z B H : Hp) (σ : L2.St) (ρ : Env) (Dv : Ev) (De : Ends), Rep B0 Z B H σ ρ → t Dv ρ → Sim B0 Z Dv De → T De σ H
structure VS (X : Cx) (st : Stmt) (T : TS) (t : TSv) : Prop where
  ps : PS X st T
  lk : LS T t
structure VSs (X : Cx) (sts : List Stmt) (T : TS) (t : TSv) : Prop where
  ps : PSs X sts T
  lk : LS T t

/-! ### rows of statements -/
def vNext : TSv := fun D ρ => D.nx ρ
def vSeq (t u : TSv) : TSv := fun D ρ => t { D with nx := u D } ρ
theorem lk_next : LS tNext vNext := fun B0 Z B H σ ρ Dv De R h S => S.nx _ _ _ _ R h
theorem lk_seq {T U : TS} {t u : TSv} (lt : LS T t) (lu : LS U u) : LS (tSeq T U) (vSeq t u) := fun B0 Z B H σ ρ Dv De R h S =>
  lt B0 Z B H σ ρ _ _ R h ⟨fun B H σ ρ R h => lu B0 Z B H σ ρ Dv De R h S, S.rt, S.bk, S.ct⟩
section
variable {X : Cx} {st : Stmt} {rest : List Stmt} {T U : TS} {t u : TSv}
theorem ss_nil : VSs X [] tNext vNext := ⟨pss_nil, lk_next⟩
theorem ss_cons (h : VS X st T t) (r : VSs X rest U u) : VSs X (st :: rest) (tSeq T U) (vSeq t u) := ⟨pss_cons h.ps r.ps, lk_seq h.lk r.lk⟩
theorem ss_one (h : VS X st T t) : VSs X [st] T t := ⟨pss_one h.ps, h.lk⟩
theorem s_pass {pos} : VS X (.Pass pos) tNext vNext := ⟨ps_pass, lk_next⟩
def vBreak : TSv := fun D ρ => D.bk ρ
def vCont : TSv := fun D ρ => D.ct ρ
theorem s_break {pos} : VS X (.Break pos) tBreak vBreak := ⟨ps_break, fun B0 Z B H σ ρ Dv De R h S => S.bk _ _ _ _ R h⟩
theorem s_cont {pos} : VS X (.Continue pos) tCont vCont := ⟨ps_continue, fun B0 Z B H σ ρ Dv De R h S => S.ct _ _ _ _ R h⟩
def vNever : TSv := fun _ _ => False
theorem s_never : VS X st tNever vNever := ⟨ps_never, fun B0 Z B H σ ρ Dv De R h S => h.elim⟩
theorem ss_never : VSs X rest tNever vNever := ⟨pss_never, fun B0 Z B H σ ρ Dv De R h S => h.elim⟩
end

/-! ### assignment, return, if -/
def vAsg (i : Nat) (te : TEv) : TSv := fun D ρ => te ρ fun d => d.nb = true ∧ D.nx (ρ.set i (some d))
/-- the list in it is not changed later on -/
def vAsgL (i : Nat) (te : TEv) : TSv := fun D ρ => te ρ fun d => d.nb = true ∧ D.nx (ρ.set i (some d.loc))
section
variable {B0 Z B H H' : Hp} {σ : L2.St} {ρ : Env}
/-- what was made is frozen -/
theorem Out.frozen {d : D} {v : V} (hz : ∀ a, H a = none → Z a = none) (h : Out Z B H d v H') (nb : d.nb = true) : ∃ B', Grow B H B' H' ∧ Den Z B' H' d.loc v [] := by
  obtain ⟨B1, F, g, x, n, f⟩ := h
  refine ⟨fun b => if b ∈ F then H' b else B1 b, ⟨fun a o e => ?_, g.sh, fun a o e => ?_, fun a o e n => ?_⟩, ?_⟩
  · have : a ∉ F := fun m => by
      have z := (f a m).1
      rw [g.sb _ _ e] at z; cases z
    show (if a ∈ F then H' a else B1 a) = some o
    rw [if_neg this]; exact g.sb _ _ e
  · have e : (if a ∈ F then H' a else B1 a) = some o := e
    split at e
    · exact e
    · exact g.sub _ _ e
  · have : a ∉ F := fun m => by rw [(f a m).2] at e; cases e
    show (if a ∈ F then H' a else B1 a) = none
    rw [if_neg this]; exact g.old a o e n
  · refine Den.flag (P := fun a => a ∈ F) (flag_loc (F := F) (fun b o e => ?_) (fun a o m e => ?_) (fun a m => hz a (f a m).2)) d v F nb (fun a h => h) x
    · show (if b ∈ F then H' b else B1 b) = some o
      split
      · exact g.sub _ _ e
      · exact e
    · show (if a ∈ F then H' a else B1 a) = some o
      rw [if_pos m]; exact e
end
theorem nb_loc {d : D} (h : d.nb = true) : d.loc.nb = true := D.all_map fok_loc (fun f e => by cases f <;> first | rfl | exact nomatch e) d h
theorem lk_asg {i : Nat} {T : TE} {t : TEv} (l : LE T t) : LS (tAsg T (gName i)) (vAsg i t) := by
  intro B0 Z B H σ ρ Dv De R h S
  refine l B0 Z B H σ ρ _ _ R h fun d v H1 o q => ?_
  obtain ⟨B1, g, R1⟩ := R.set (i := i) o q.1
  exact S.nx _ _ _ _ R1 q.2
theorem lk_asgL {i : Nat} {T : TE} {t : TEv} (l : LE T t) : LS (tAsg T (gName i)) (vAsgL i t) := by
  intro B0 Z B H σ ρ Dv De R h S
  refine l B0 Z B H σ ρ _ _ R h fun d v H1 o q => ?_
  obtain ⟨B1, g, x⟩ := o.frozen R.z q.1
  obtain ⟨B2, g2, R1⟩ := R.set (i := i) (d := d.loc) ⟨B1, [], g, x, List.nodup_nil, fun a h => nomatch h⟩ (nb_loc q.1)
  exact S.nx _ _ _ _ R1 q.2
def vRet (te : TEv) : TSv := fun D ρ => te ρ fun d => d.ow2 = true ∧ D.rt d
theorem Rep.out {B0 Z B H H' : Hp} {σ : L2.St} {ρ : Env} {d : D} {v : V} (R : Rep B0 Z B H σ ρ) (o : Out Z B H d v H') : Out Z B0 Z d v H' := by
  obtain ⟨B1, F, g, x, n, f⟩ := o
  exact ⟨B1, F, R.gr.trans g, x, n, fun a h => ⟨(f a h).1, R.z a (f a h).2⟩⟩
theorem lk_ret {T : TE} {t : TEv} (l : LE T t) : LS (tRet T) (vRet t) := by
  intro B0 Z B H σ ρ Dv De R h S
  exact l B0 Z B H σ ρ _ _ R h fun d v H1 o q => S.rt d v H1 (R.out o) q.1 q.2
/-- return of a name: its own list goes out -/
def vRetV (i : Nat) : TSv := fun D ρ => match ρ[i]? with
  | some (some d) => d.ow2 = true ∧ D.rt d
  | _ => False
theorem lk_retV (i : Nat) : LS (tRet (tVar i)) (vRetV i) := by
  intro B0 Z B H σ ρ Dv De R h S
  unfold vRetV at h
  split at h
  · rename_i d e
    obtain ⟨v, G, h1, h2, h3, h4, h5⟩ := R.get' e
    exact ⟨v, h1, S.rt d v H ⟨B, G, R.gr, h3, h4, h5⟩ h.1 h.2⟩
  · exact h.elim
def vIf (tc : TTv) (t u : TSv) : TSv := fun D ρ => tc ρ fun k => if k = true then t D ρ else u D ρ
theorem lk_if {Tc : TT} {tc : TTv} {T U : TS} {t u : TSv} (lc : LT Tc tc) (lt : LS T t) (lu : LS U u) : LS (tIfS Tc T U) (vIf tc t u) := by
  intro B0 Z B H σ ρ Dv De R h S
  refine lc B0 Z B H σ ρ _ _ R h fun k B1 H1 g q => ?_
  cases k with
  | true => rw [if_pos rfl] at q ⊢; exact lt B0 Z B1 H1 σ ρ Dv De (R.grow g) q S
  | false => rw [if_neg Bool.false_ne_true] at q ⊢; exact lu B0 Z B1 H1 σ ρ Dv De (R.grow g) q S
def vIfE (tc : TTv) (ta tb : TEv) : TEv := fun ρ Q => tc ρ fun k => if k = true then ta ρ Q else tb ρ Q
theorem lk_ifE {Tc : TT} {tc : TTv} {Ta Tb : TE} {ta tb : TEv} (lc : LT Tc tc) (la : LE Ta ta) (lb : LE Tb tb) : LE (tIf Tc Ta Tb) (vIfE tc ta tb) := by
  intro B0 Z B H σ ρ Qd Q R h k
  refine lc B0 Z B H σ ρ _ _ R h fun c B1 H1 g q => ?_
  cases c with
  | true => rw [if_pos rfl] at q ⊢; exact la B0 Z B1 H1 σ ρ _ _ (R.grow g) q fun d v H2 o h => k _ _ _ (o.after g) h
  | false => rw [if_neg Bool.false_ne_true] at q ⊢; exact lb B0 Z B1 H1 σ ρ _ _ (R.grow g) q fun d v H2 o h => k _ _ _ (o.after g) h
def vDrop (te : TEv) : TSv := fun D ρ => te ρ fun _ => D.nx ρ
theorem lk_drop {T : TE} {t : TEv} (l : LE T t) : LS (tDrop T) (vDrop t) := by
  intro B0 Z B H σ ρ Dv De R h S
  exact l B0 Z B H σ ρ _ _ R h fun d v H1 ⟨B1, F, g, _⟩ q => S.nx _ _ _ _ (R.grow g) q
section
variable {X : Cx} {e c a b : Expr} {pos pos' : Pos} {Te Ta Tb : TE} {te ta tb : TEv} {Tc : TT} {tc : TTv} {ss rr : List Stmt} {T U : TS} {t u : TSv} {x : Str}
theorem s_asg (i : Nat) (he : VE X e Te te) (hN : X.N.Nodup) (hi : X.N[i]? = some x := by rfl) (hx : Loc X.env.scope x := by first | exact Or.inl rfl | exact Or.inr rfl) (hs : swapsWith e (some (.Name x pos')) pos.line X.env = pure false := by rfl)
    (hf : X.fn x = true ∨ X.env.scope.names.lookup x = some .local := by first | exact .inl rfl | exact .inr rfl) : VS X (.Assign [.Name x pos'] e pos) (tAsg Te (gName i)) (vAsg i te) := ⟨ps_set hN hi hx he.pe hs hf, lk_asg he.lk⟩
theorem s_asgL (i : Nat) (he : VE X e Te te) (hN : X.N.Nodup) (hi : X.N[i]? = some x := by rfl) (hx : Loc X.env.scope x := by first | exact Or.inl rfl | exact Or.inr rfl) (hs : swapsWith e (some (.Name x pos')) pos.line X.env = pure false := by rfl)
    (hf : X.fn x = true ∨ X.env.scope.names.lookup x = some .local := by first | exact .inl rfl | exact .inr rfl) : VS X (.Assign [.Name x pos'] e pos) (tAsg Te (gName i)) (vAsgL i te) := ⟨ps_set hN hi hx he.pe hs hf, lk_asgL he.lk⟩
theorem s_ret (he : VE X e Te te) : VS X (.Return (some e) pos) (tRet Te) (vRet te) := ⟨ps_ret he.pe, lk_ret he.lk⟩
theorem s_retV (i : Nat) (hN : X.N[i]? = some x := by rfl) (hv : Vis X.env.scope x := by first | exact Or.inl rfl | exact Or.inr (Or.inl rfl) | exact Or.inr (Or.inr rfl)) (hd : (x == ("__debug__" : Str)) = false := by decide)
    (hcd : (x == ("__classdict__" : Str)) = false := by decide) : VS X (.Return (some (.Name x pos')) pos) (tRet (tVar i)) (vRetV i) := ⟨ps_ret (pe_var hN hv hd hcd), lk_retV i⟩
theorem s_if (hc : VT X c Tc tc) (ha : VSs X ss T t) (hb : VSs X rr U u) : VS X (.If c ss rr pos) (tIfS Tc T U) (vIf tc t u) := ⟨ps_if hc.pt ha.ps hb.ps, lk_if hc.lk ha.lk hb.lk⟩
theorem e_ifE (hc : VT X c Tc tc) (ha : VE X a Ta ta) (hb : VE X b Tb tb) : VE X (.IfExp c a b pos) (tIf Tc Ta Tb) (vIfE tc ta tb) := ⟨pe_ifExp hc.pt ha.pe hb.pe, lk_ifE hc.lk ha.lk hb.lk⟩
theorem s_expr (he : VE X e Te te) (hs : swapsWith e none pos.line X.env = pure false := by rfl) : VS X (.Expr e pos) (tDrop Te) (vDrop te) := ⟨ps_expr he.pe hs, lk_drop he.lk⟩
end

/-! ### what is walked -/
abbrev TIv := Env → (List D → Prop) → Prop
def Yields (Z B : Hp) (J : It) (items : List D) : Prop := ∀ B' H', Same B B' → Same B' H' → (∀ (i : Nat) d, items[i]? = some d → J.go i H' ∧ ∀ x H'', J.yld i H' x H'' → Out Z B' H' d x H'') ∧ J.stop items.length H'
def LI (wi : TI) (ti : TIv) : Prop := ∀ (B0 Z B H : Hp) (σ : L2.St) (ρ : Env) (R : List D → Prop) (RR : It → Hp → Prop), Rep B0 Z B H σ ρ → ti ρ R →
  (∀ J B1 H1 items, Grow B H B1 H1 → Yields Z B1 J items → D.alls coF items = true → R items → RR J H1) → wi σ H RR
structure VI (X : Cx) (tg iter : Expr) (wi : TI) (ti : TIv) : Prop where
  pi : PI X tg iter wi
  lk : LI wi ti
/-- a text's sgns -/
def sgns (z : Str) : List D := z.cps.toList.map fun c => D.str ⟨#[c]⟩
def riF : Fl → Bool | .b => false | .c _ => false | .d => false | .x => false | _ => true
/-- a list or a tuple (not one that a name can change) -/
def vIt (te : TEv) : TIv := fun ρ R => te ρ fun d => match d with
  | .nd .tup xs => D.alls coF xs = true ∧ R xs
  | .nd (.lst f) xs => riF f.ls = true ∧ D.alls nbF xs = true ∧ D.alls coF (D.maps fLoc xs) = true ∧ R (D.maps fLoc xs)
  | .str z => R (sgns z)
  | _ => False
def iSeq (K : PySem.W.Frag) (tl : TE) : TI := fun σ H R => tl σ H fun x H1 => (∃ a, x = .ref a ∧ (∃ ys, SqT K H1 a ys) ∧ R (Itt K a) H1) ∨ (∃ a, x = .ref a ∧ (∃ ys, SqL K H1 a ys) ∧ R (Itl K a) H1) ∨ ∃ z, x = .str z ∧ R (Its z) H1
omit KK in
theorem pi_seq {X : Cx} {tg l : Expr} {tl : TE} (hl : PE X l tl) : PI X tg l (iSeq X.K tl) := by
  refine ⟨fun pins s σ H R I h => ?_⟩
  refine thn (hl.run pins s σ H _ I h) fun v s1 ⟨x, H1, I1, r1, q1⟩ => ?_
  rcases q1 with ⟨a, e, ⟨xs, hq⟩, q⟩ | ⟨a, e, ⟨xs, hq⟩, q⟩ | ⟨z, e, q⟩
  · subst e
    cases r1
    obtain ⟨its, rv, p, hz⟩ := I1.tuple hq
    refine wpAny_pyIter_tuple (show s1.heap.IsTuple a its.toArray from p) ?_
    refine ⟨s1.heap.objs.size, [s1.heap.objs.size], _, _, H1, rfl, I1.kept (t' := s1.toks) fun b o e => Heap.get?_push_of_some _ e, turn_tuple a _, ⟨_, Heap.get?_push_size _ rfl, rfl, rfl⟩, fun b hb => ?_, q⟩
    have e : b = s1.heap.objs.size := by simpa using hb
    subst e
    exact I1.fpOk (Nat.le_refl _) (I1.hok.fresh (Nat.le_refl _))
  · subst e
    cases r1
    obtain ⟨its, rv, p, hz⟩ := I1.list hq
    refine wpAny_pyIter_list p.isList ?_
    refine ⟨s1.heap.objs.size, [s1.heap.objs.size], _, _, H1, rfl, I1.kept (t' := s1.toks) fun b o e => Heap.get?_push_of_some _ e, turn_list a _, ⟨_, Heap.get?_push_size _ rfl, rfl, rfl⟩, fun b hb => ?_, q⟩
    have e : b = s1.heap.objs.size := by simpa using hb
    subst e
    exact I1.fpOk (Nat.le_refl _) (I1.hok.fresh (Nat.le_refl _))
  · subst e
    obtain ⟨t, rfl⟩ := r1
    cases ha : z.cps.all (· < 128)
    · exact wpAny_pyIter_wide ha (pi_one (tk := s1.toks) I1 _ (turn_str _ z t "str_iterator" (.inr rfl)) ⟨_, Heap.get?_push_size _ rfl, rfl, rfl⟩ q)
    · exact wpAny_pyIter_ascii ha (pi_one (tk := s1.toks) I1 _ (turn_str _ z t "str_ascii_iterator" (.inl rfl)) ⟨_, Heap.get?_push_size _ rfl, rfl, rfl⟩ q)
theorem out_item {Z B H : Hp} {d : D} {v : V} {F : List Addr} (s : Same B H) (h : Den Z B H d v F) (n : d.all coF = true) : Out Z B H d v H := by
  have e := Den.nofp d v F n h
  subst e
  exact Out.of s h
theorem alls_at {p : Fl → Bool} {xs : List D} {i : Nat} {d : D} (h : D.alls p xs = true) (e : xs[i]? = some d) : d.all p = true := by
  rw [D.alls_eq, List.all_eq_true] at h
  exact h d (List.mem_of_getElem? e)
theorem fixed_at {Z B B' H H' : Hp} {f : Fl} {a : Addr} {o : HO} (n : coF f = true) (sb : Same B B') (x : At Z B H f a o) : At Z B' H' f a o := by
  cases f with
  | i => exact sb _ _ x
  | s => exact x.imp (fun ⟨ob, x⟩ => ⟨ob, sb _ _ x⟩) id
  | a => exact sb _ _ x
  | l => exact ⟨sb _ _ x.1, x.2⟩
  | b => exact nomatch n
  | o => exact nomatch n
  | c y => exact nomatch n
  | d => exact nomatch n
  | x => exact True.intro
mutual
/-- what has no own list in it leans on what is fixed alone -/
theorem Den.fixed {Z B B' H H' : Hp} (sb : Same B B') : ∀ (d : D) (v : V) (F : List Addr), d.all coF = true → Den Z B H d v F → Den Z B' H' d v F
  | .non, _, _, _, h => h
  | .bl _, _, _, _, h => h
  | .int _, _, _, _, h => h
  | .str _, _, _, _, h => h
  | .cst _, _, _, _, h => h
  | .nd h ds, _, _, n, ⟨a, o, vs, G, e, x, c, q, f⟩ => by
    have n' : coF h.fl = true ∧ D.alls coF ds = true := by simpa [D.all] using n
    exact ⟨a, o, vs, G, e, fixed_at n'.1 sb x, c, Dens.fixed sb ds vs G n'.2 q, f⟩
theorem Dens.fixed {Z B B' H H' : Hp} (sb : Same B B') : ∀ (ds : List D) (vs : List V) (F : List Addr), D.alls coF ds = true → Dens Z B H ds vs F → Dens Z B' H' ds vs F
  | [], _, _, _, h => h
  | d :: ds, _, _, n, ⟨v, ws, G1, G2, e, x, q, f⟩ => by
    have n' : d.all coF = true ∧ D.alls coF ds = true := by simpa [D.alls] using n
    exact ⟨v, ws, G1, G2, e, Den.fixed sb d v G1 n'.1 x, Dens.fixed sb ds ws G2 n'.2 q, f⟩
end
theorem yields_tup {Z B H : Hp} {a : Addr} {xs : List D} {vs : List V} {F : List Addr} (hb : B a = some (.tup vs)) (q : Dens Z B H xs vs F) (n : D.alls coF xs = true) : Yields Z B (Itt KK.K a) xs := by
  intro B' H' sb s
  have hs : SqT KK.K H' a vs := SqT.of (s _ _ (sb _ _ hb))
  refine ⟨fun i d e => ?_, ⟨vs, hs, Nat.le_of_eq q.len.symm⟩⟩
  obtain ⟨v, G, h1, h2, _⟩ := q.at e
  refine ⟨⟨vs, v, hs, h1⟩, fun x H'' y => ?_⟩
  obtain ⟨e1, e2⟩ := y
  subst e1
  have e3 := e2 vs hs
  rw [h1] at e3
  cases e3
  have nd := alls_at n e
  exact out_item s (Den.fixed (H' := H'') sb d v G nd h2) nd
theorem yields_lst {Z B H : Hp} {a : Addr} {xs : List D} {vs : List V} {F : List Addr} (hb : ∀ H', Same B H' → SqL KK.K H' a vs) (q : Dens Z B H xs vs F) (n : D.alls coF xs = true) : Yields Z B (Itl KK.K a) xs := by
  intro B' H' sb s
  have hs : SqL KK.K H' a vs := hb H' (sb.trans s)
  refine ⟨fun i d e => ?_, ⟨vs, hs, Nat.le_of_eq q.len.symm⟩⟩
  obtain ⟨v, G, h1, h2, _⟩ := q.at e
  refine ⟨⟨vs, v, hs, h1⟩, fun x H'' y => ?_⟩
  obtain ⟨e1, e2⟩ := y
  subst e1
  have e3 := e2 vs hs
  rw [h1] at e3
  cases e3
  have nd := alls_at n e
  exact out_item s (Den.fixed (H' := H'') sb d v G nd h2) nd
theorem yields_str {Z B : Hp} (z : Str) : Yields Z B (Its z) (sgns z) := by
  intro B' H' sb s
  have hl : (sgns z).length = z.cps.size := by simp [sgns]
  refine ⟨fun i d e => ?_, by rw [hl]; exact Nat.le_refl _⟩
  have hi : i < z.cps.size := by have := (List.getElem?_eq_some_iff.mp e).1; omega
  refine ⟨hi, fun x H'' y => ?_⟩
  obtain ⟨e1, c, e2, e3⟩ := y
  subst e1 e3
  have ed : d = .str ⟨#[c]⟩ := by
    have : (sgns z)[i]? = some (.str ⟨#[c]⟩) := by simp [sgns, e2]
    rw [this] at e
    exact (Option.some.inj e).symm
  subst ed
  exact Out.of s den_str
theorem sgns_co (z : Str) : D.alls coF (sgns z) = true := by
  rw [D.alls_eq, List.all_eq_true]
  intro d h
  obtain ⟨c, _, rfl⟩ := List.mem_map.mp h
  rfl
theorem lk_it {Te : TE} {te : TEv} (l : LE Te te) : LI (iSeq KK.K Te) (vIt te) := by
  intro B0 Z B H σ ρ R RR Rp h k
  refine l B0 Z B H σ ρ _ _ Rp h fun d v H1 o q => ?_
  split at q
  · rename_i xs
    obtain ⟨n, q⟩ := q
    obtain ⟨B1, F, g, x, nf, fr⟩ := o
    obtain ⟨a, vs, e, t, tb, y⟩ := den_tup g.sub x
    exact .inl ⟨a, e, ⟨vs, SqT.of t⟩, k _ B1 H1 xs g (yields_tup tb y n) n q⟩
  · rename_i f xs
    obtain ⟨n1, n2, n3, q⟩ := q
    have nb : D.nb (.lst f xs) = true := by
      show (nbF f.ls && D.alls nbF xs) = true
      rw [n2]
      revert n1
      cases f.ls <;> intro n1 <;> first | rfl | exact nomatch n1
    obtain ⟨B1, g, x⟩ := o.frozen Rp.z nb
    obtain ⟨a, o', vs, G, e, x, c, y, f'⟩ := x
    have c : o' = .lst vs := c
    subst c
    have x : At Z B1 H1 (fLoc f).ls a (.lst vs) := x
    have rd : ∀ H', Same B1 H' → SqL KK.K H' a vs := by
      rw [fok_loc.s] at x
      intro H' s'
      revert x n1
      have nx := ls_ne f
      have hi : f.ls ≠ .i := ls_ni f
      revert nx hi
      cases f.ls <;> intro nx hi n1 x
      · exact absurd rfl hi
      · rcases x with ⟨ob, x⟩ | ⟨ys, e, x⟩
        · exact .inl (.inr ⟨ob, s' _ _ x⟩)
        · cases e; exact .inr x
      · exact .inl (.inl (s' _ _ x))
      · exact .inl (.inl (s' _ _ x.1))
      · exact nomatch n1
      · exact .inl (.inl (s' _ _ x.1))
      · exact nomatch n1
      · exact nomatch n1
      · exact nomatch n1
    exact .inr (.inl ⟨a, e, ⟨vs, rd H1 g.sub⟩, k _ B1 H1 _ g (yields_lst rd y n3) n3 q⟩)
  · rename_i z
    obtain ⟨B1, F, g, x, nf, fr⟩ := o
    exact .inr (.inr ⟨z, x.1, k _ B1 H1 _ g (yields_str z) (sgns_co z) q⟩)
  · exact q.elim
/-- lo, lo + 1, .. -/
def upTo (lo : Int) (n : Nat) : List D := (List.range n).map fun (i : Nat) => D.int (lo + (i : Int))
theorem upTo_co (lo : Int) (n : Nat) : D.alls coF (upTo lo n) = true := by
  rw [D.alls_eq, List.all_eq_true]
  intro d h
  obtain ⟨c, _, rfl⟩ := List.mem_map.mp h
  rfl
theorem yields_rng {Z B : Hp} (lo : Int) (n : Nat) : Yields Z B (Itr lo n) (upTo lo n) := by
  intro B' H' sb s
  have hl : (upTo lo n).length = n := by simp [upTo]
  refine ⟨fun i d e => ?_, by rw [hl]; exact Nat.le_refl _⟩
  have hi : i < n := by have := (List.getElem?_eq_some_iff.mp e).1; omega
  refine ⟨hi, fun x H'' y => ?_⟩
  obtain ⟨e1, e2⟩ := y
  subst e1 e2
  have ed : d = .int (lo + (i : Int)) := by
    have : (upTo lo n)[i]? = some (.int (lo + (i : Int))) := by simp [upTo, hi]
    rw [this] at e
    exact (Option.some.inj e).symm
  subst ed
  exact Out.of s den_int
def bigI (i : Int) : Prop := -4611686018427387904 ≤ i ∧ i < 4611686018427387904
def vRng1 (te : TEv) : TIv := fun ρ R => te ρ fun d => match d with
  | .int j => bigI j ∧ R (upTo 0 j.toNat)
  | _ => False
def vRng2 (ta tb : TEv) : TIv := fun ρ R => ta ρ fun d => tb ρ fun e => match d, e with
  | .int i, .int j => bigI i ∧ bigI j ∧ R (upTo i (j - i).toNat)
  | _, _ => False
theorem lk_rng1 {Te : TE} {te : TEv} (l : LE Te te) : LI (iRng1 (tCons Te tNil)) (vRng1 te) := by
  intro B0 Z B H σ ρ R RR Rp h k
  refine l B0 Z B H σ ρ _ _ Rp h fun d v H1 ⟨B1, F, g, x, _, _⟩ q => ?_
  split at q
  · exact ⟨_, by rw [x.1], q.1.1, q.1.2, k _ B1 H1 _ g (yields_rng _ _) (upTo_co _ _) q.2⟩
  · exact q.elim
theorem lk_rng2 {Ta Tb : TE} {ta tb : TEv} (la : LE Ta ta) (lb : LE Tb tb) : LI (iRng2 (tCons Ta (tCons Tb tNil))) (vRng2 ta tb) := by
  intro B0 Z B H σ ρ R RR Rp h k
  refine la B0 Z B H σ ρ _ _ Rp h fun d v H1 ⟨B1, F, g, x, _, _⟩ q => ?_
  refine lb B0 Z B1 H1 σ ρ _ _ (Rp.grow g) q fun e w H2 ⟨B2, G, g2, y, _, _⟩ q => ?_
  split at q
  · exact ⟨_, _, by rw [x.1, y.1], ⟨q.1.1, q.1.2, q.2.1.1, q.2.1.2⟩, k _ B2 H2 _ (g.trans g2) (yields_rng _ _) (upTo_co _ _) q.2.2⟩
  · exact q.elim
section
variable {X : Cx} {tg e a b : Expr} {pos p : Pos} {Te Ta Tb : TE} {te ta tb : TEv}
theorem i_seq (he : VE X e Te te) (hK : X.K = KK.K := by rfl) : VI X tg e (iSeq KK.K Te) (vIt te) := by
  rw [← hK]
  exact ⟨pi_seq he.pe, by rw [hK]; exact lk_it he.lk⟩
theorem i_rng1 (hm : X.mg "range" = none) (he : VE X e Te te) (hg : Gl X "range" := by rfl) (hs : starEach [e] X.env = [(false, eval e X.env)] := by rfl) : VI X tg (.Call (.Name "range" p) [e] [] pos) (iRng1 (tCons Te tNil)) (vRng1 te) := ⟨pi_range1 hg hm (pa_cons he.pe pa_nil hs) hs, lk_rng1 he.lk⟩
theorem i_rng2 (hm : X.mg "range" = none) (ha : VE X a Ta ta) (hb : VE X b Tb tb) (hg : Gl X "range" := by rfl) (hs : starEach [a, b] X.env = [(false, eval a X.env), (false, eval b X.env)] := by rfl) (hs2 : starEach [b] X.env = [(false, eval b X.env)] := by rfl) (hs3 : starEach [a, b] X.env = (false, eval a X.env) :: starEach [b] X.env := by rfl) : VI X tg (.Call (.Name "range" p) [a, b] [] pos) (iRng2 (tCons Ta (tCons Tb tNil))) (vRng2 ta tb) := ⟨pi_range2 hg hm (pa_cons ha.pe (pa_cons hb.pe pa_nil hs2) hs3) hs hs2, lk_rng2 ha.lk hb.lk⟩
end

/-! ### targets -/
abbrev TGv := D → Env → (Env → Prop) → Prop
def LG (g : TG) (gv : TGv) (vs : List Nat) : Prop := ∀ (B0 Z B H : Hp) (σ : L2.St) (ρ : Env) (d : D) (v : V) (Qd : Env → Prop) (Q : L2.St → Hp → Prop), Rep B0 Z B H σ ρ → Den Z B H d v [] → d.nb = true → gv d ρ Qd →
  (∀ σ' ρ', Rep B0 Z B H σ' ρ' → (∀ i, i ∉ vs → σ'[i]? = σ[i]?) → σ'.length = σ.length → Qd ρ' → Q σ' H) → g v σ H Q
structure VG (X : Cx) (tg : Expr) (g : TG) (gv : TGv) (vs : List Nat) : Prop where
  pg : PG X tg g
  lk : LG g gv vs
def vgName (i : Nat) : TGv := fun d ρ Q => Q (ρ.set i (some d))
theorem lk_gname (i : Nat) : LG (gName i) (vgName i) [i] := by
  intro B0 Z B H σ ρ d v Qd Q R x nb h k
  obtain ⟨F, q, n, z⟩ := R.ex
  obtain ⟨F', h1, h2, h3⟩ := q.set i n nb x List.nodup_nil (fun a h => nomatch h)
  refine k _ _ ⟨R.gr, F', h1, h2, fun a h => ?_⟩ (fun j hj => ?_) List.length_set h
  · rcases h3 a h with m | m
    · exact z a m
    · cases m
  · rw [List.getElem?_set_ne (fun e => hj (by rw [e]; exact List.mem_singleton_self _))]
def LGs (g : TGs) (gv : List D → Env → (Env → Prop) → Prop) (vs : List Nat) : Prop := ∀ (B0 Z B H : Hp) (σ : L2.St) (ρ : Env) (ds : List D) (us : List V) (Qd : Env → Prop) (Q : L2.St → Hp → Prop), Rep B0 Z B H σ ρ → Dens Z B H ds us [] → D.alls nbF ds = true → gv ds ρ Qd →
  (∀ σ' ρ', Rep B0 Z B H σ' ρ' → (∀ i, i ∉ vs → σ'[i]? = σ[i]?) → σ'.length = σ.length → Qd ρ' → Q σ' H) → g us σ H Q
structure VGs (X : Cx) (tgs : List Expr) (g : TGs) (gv : List D → Env → (Env → Prop) → Prop) (vs : List Nat) : Prop where
  pg : PGs X tgs g
  lk : LGs g gv vs
def vgNil : List D → Env → (Env → Prop) → Prop := fun ds ρ Q => match ds with
  | [] => Q ρ
  | _ => False
def vgCons (g : TGv) (gs : List D → Env → (Env → Prop) → Prop) : List D → Env → (Env → Prop) → Prop := fun ds ρ Q => match ds with
  | d :: ds => g d ρ fun ρ' => gs ds ρ' Q
  | [] => False
theorem lk_gnil : LGs gNil vgNil [] := by
  intro B0 Z B H σ ρ ds us Qd Q R x nb h k
  cases ds with
  | nil => exact ⟨x.1, k _ _ R (fun _ _ => rfl) rfl h⟩
  | cons d ds => exact h.elim
theorem lk_gcons {g : TG} {gv : TGv} {gs : TGs} {gsv : List D → Env → (Env → Prop) → Prop} {v1 v2 : List Nat} (l : LG g gv v1) (ls : LGs gs gsv v2) : LGs (gCons g gs) (vgCons gv gsv) (v1 ++ v2) := by
  intro B0 Z B H σ ρ ds us Qd Q R x nb h k
  cases ds with
  | nil => exact h.elim
  | cons d ds =>
    obtain ⟨v, ws, G1, G2, e, x1, x2, f⟩ := x
    subst e
    have f1 : G1 = [] := (List.append_eq_nil_iff.mp f.symm).1
    have f2 : G2 = [] := (List.append_eq_nil_iff.mp f.symm).2
    subst f1 f2
    have nb' : d.nb = true ∧ D.alls nbF ds = true := by simpa [D.alls] using nb
    refine ⟨v, ws, rfl, l B0 Z B H σ ρ d v _ _ R x1 nb'.1 h fun σ' ρ' R' e1 e2 h' => ?_⟩
    refine ls B0 Z B H σ' ρ' ds ws _ _ R' x2 nb'.2 h' fun σ2 ρ2 R2 e3 e4 h2 => k _ _ R2 (fun i hi => ?_) (e4.trans e2) h2
    rw [e3 i (fun m => hi (List.mem_append_right _ m)), e1 i (fun m => hi (List.mem_append_left _ m))]
def vgTup (n : Nat) (gs : List D → Env → (Env → Prop) → Prop) : TGv := fun d ρ Q => match d with
  | .nd .tup xs => xs.length = n ∧ gs xs ρ Q
  | _ => False
theorem lk_gtup {K : PySem.W.Frag} {n : Nat} {gs : TGs} {gsv : List D → Env → (Env → Prop) → Prop} {vs : List Nat} (l : LGs gs gsv vs) : LG (gTup K n gs) (vgTup n gsv) vs := by
  intro B0 Z B H σ ρ d v Qd Q R x nb h k
  unfold vgTup at h
  split at h
  · obtain ⟨a, us, e, t, _, y⟩ := den_tup R.sub x
    have nb' : D.alls nbF _ = true := (by simpa [D.all] using nb : _ ∧ _).2
    exact ⟨a, us, e, SqT.of t, by rw [← y.len]; exact h.1, l B0 Z B H σ ρ _ us _ _ R y nb' h.2 k⟩
  · exact h.elim
section
variable {X : Cx} {tg : Expr} {tgs : List Expr} {x : Str} {pos : Pos} {g : TG} {gv : TGv} {gs : TGs} {gsv : List D → Env → (Env → Prop) → Prop} {v1 v2 : List Nat} {k n : Nat}
theorem g_name (i : Nat) (hN : X.N.Nodup) (hi : X.N[i]? = some x := by rfl) (hx : Loc X.env.scope x := by first | exact Or.inl rfl | exact Or.inr rfl) (hf : X.fn x = true ∨ X.env.scope.names.lookup x = some .local := by first | exact .inl rfl | exact .inr rfl) : VG X (.Name x pos) (gName i) (vgName i) [i] := ⟨pg_name hN hi hx hf, lk_gname i⟩
theorem gs_nil : VGs X [] gNil vgNil [] := ⟨pgs_nil, lk_gnil⟩
theorem gs_cons (h : VG X tg g gv v1) (r : VGs X tgs gs gsv v2) (hs : (assignEach (tg :: tgs) X.env).map (·.2) = assign tg X.env :: (assignEach tgs X.env).map (·.2) := by rfl) : VGs X (tg :: tgs) (gCons g gs) (vgCons gv gsv) (v1 ++ v2) := ⟨pgs_cons h.pg r.pg hs, lk_gcons h.lk r.lk⟩
theorem g_tup (hc : X.calm = true) (h : VGs X tgs gs gsv v1) (hn : (assignEach tgs X.env).length = n := by rfl) (hst : (assignEach tgs X.env).findIdx? (·.1) = none := by rfl) (hK : X.K = KK.K := by rfl) : VG X (.Tuple tgs k pos) (gTup KK.K n gs) (vgTup n gsv) v1 := by
  rw [← hK]
  exact ⟨pg_tup hc h.pg hn hst, lk_gtup h.lk⟩
end

/-! ### for -/
theorem Rep.rebase {B0 Z B H : Hp} {σ : L2.St} {ρ : Env} (R : Rep B0 Z B H σ ρ) : Rep B Z B H σ ρ := ⟨⟨Same.refl _, R.gr.sh, R.sub, fun _ _ _ n => n⟩, R.ex⟩
theorem Rep.unbase {B0 B1 H1 Z B H : Hp} {σ : L2.St} {ρ : Env} (g : Grow B0 Z B1 H1) (R : Rep B1 Z B H σ ρ) : Rep B0 Z B H σ ρ := ⟨⟨g.sb.trans R.gr.sb, R.gr.sh, R.gr.sub, fun a o e n => R.gr.old a o e (g.old a o e n)⟩, R.ex⟩
theorem Out.unbase {B0 B1 H1 Z H : Hp} {d : D} {v : V} (g : Grow B0 Z B1 H1) (o : Out Z B1 Z d v H) : Out Z B0 Z d v H := by
  obtain ⟨B', F, g', x, n, f⟩ := o
  exact ⟨B', F, ⟨g.sb.trans g'.sb, g'.sh, g'.sub, fun a o e n => g'.old a o e (g.old a o e n)⟩, x, n, f⟩
def forL (g : TGv) (tb : TSv) : List D → TSv
  | [] => fun D ρ => D.nx ρ
  | x :: xs => fun D ρ => g x ρ fun ρ' => tb { nx := forL g tb xs D, rt := D.rt, bk := D.nx, ct := forL g tb xs D } ρ'
def vFor (ti : TIv) (g : TGv) (tb : TSv) : TSv := fun D ρ => ti ρ fun items => forL g tb items D ρ
theorem co_nb {d : D} (h : d.all coF = true) : d.nb = true := D.all_imp (fun f e => by cases f <;> first | rfl | exact nomatch e) d h
theorem lk_for {wi : TI} {ti : TIv} {g : TG} {gv : TGv} {vs : List Nat} {T : TS} {t : TSv} (li : LI wi ti) (lg : LG g gv vs) (lt : LS T t) : LS (tFor wi g T) (vFor ti gv t) := by
  intro B0 Z B H σ ρ Dv De R h S
  refine li B0 Z B H σ ρ _ _ R h fun J B1 H1 items gr Y nc h => ?_
  refine ⟨fun i m σ' H' => m = items.length - i ∧ i ≤ items.length ∧ ∃ B' ρ', Rep B0 Z B' H' σ' ρ' ∧ Same B1 B' ∧ forL gv t (items.drop i) Dv ρ', ⟨items.length, by simp, Nat.zero_le _, B1, ρ, R.grow gr, Same.refl _, by simpa using h⟩, ?_⟩
  rintro i m σ' H' ⟨rfl, hi, B', ρ', R', sb, h'⟩
  have y := Y B' H' sb R'.sub
  by_cases hlt : i < items.length
  · refine .inr ?_
    have e : items[i]? = some items[i] := List.getElem?_eq_getElem hlt
    obtain ⟨h1, h2⟩ := y.1 i _ e
    have hd : items.drop i = items[i] :: items.drop (i + 1) := List.drop_eq_getElem_cons hlt
    rw [hd] at h'
    refine ⟨h1, fun σ2 H2 => ∃ B2 ρ2, Rep B0 Z B2 H2 σ2 ρ2 ∧ Same B1 B2 ∧ forL gv t (items.drop (i + 1)) Dv ρ2, fun σ2 H2 ⟨B2, ρ2, R2, s2, q⟩ => ⟨items.length - (i + 1), by omega, rfl, hlt, B2, ρ2, R2, s2, q⟩, fun x H'' hy => ?_⟩
    obtain ⟨B'', F, g2, dx, nf, fr⟩ := h2 x H'' hy
    have nd := alls_at nc e
    have ef := Den.nofp _ _ _ nd dx
    subst ef
    have R'' := R'.grow g2
    refine lg B0 Z B'' H'' σ' ρ' _ x _ _ R'' dx (co_nb nd) h' fun σ3 ρ3 R3 _ _ h3 => ?_
    -- the base at hand: what the loop walks stays fixed
    refine lt B'' Z B'' H'' σ3 ρ3 _ _ R3.rebase h3 ⟨fun B2 H2 σ2 ρ2 R2 q => ?_, fun d v H2 o ow q => ?_, fun B2 H2 σ2 ρ2 R2 q => ?_, fun B2 H2 σ2 ρ2 R2 q => ?_⟩
    · exact ⟨B2, ρ2, R2.unbase R''.gr, (sb.trans g2.sb).trans R2.gr.sb, q⟩
    · exact S.rt d v H2 (o.unbase R''.gr) ow q
    · exact S.nx _ _ _ _ (R2.unbase R''.gr) q
    · exact ⟨B2, ρ2, R2.unbase R''.gr, (sb.trans g2.sb).trans R2.gr.sb, q⟩
  · have e : i = items.length := by omega
    subst e
    refine .inl ⟨y.2, ?_⟩
    rw [List.drop_length] at h'
    exact S.nx _ _ _ _ R' h'
end VL

/-! ## VLT -/
/-! VL: for as a rule, comprehensions, changes of lists, a def's body, objects made. -/
namespace VL
open PySem PySem.Spec L2
open PyProof.Rows hiding St
variable [KK : KLs]
section
variable {X : Cx} {tg iter : Expr} {body : List Stmt} {wi : TI} {ti : TIv} {g : TG} {gv : TGv} {vs : List Nat} {T : TS} {t : TSv} {pos : Pos}
theorem s_for (hc : X.calm = true) (hp : PassesOwn (model X.prog X.w) X.A X.env X.xe) (hi : VI X tg iter wi ti) (hg : VG X tg g gv vs) (hb : VSs X body T t) (hs : ∀ x, foldedSetIterable iter X.env x = pure x := by intro _; rfl) : VS X (.For tg iter body [] pos) (tFor wi g T) (vFor ti gv t) := ⟨ps_for hp hc hi.pi hg.pg hb.ps hs, lk_for hi.lk hg.lk hb.lk⟩
end

/-! ### comprehensions -/
def wipeD (ρ : Env) : List Nat → Env
  | [] => ρ
  | v :: vs => (wipeD ρ vs).set v none
theorem Rep.wipe {B0 Z B H : Hp} {σ : L2.St} {ρ : Env} (R : Rep B0 Z B H σ ρ) : ∀ vs : List Nat, Rep B0 Z B H (wipe σ vs) (wipeD ρ vs)
  | [] => R
  | v :: vs => (R.wipe vs).drop v
theorem wipe_ext {σ τ : L2.St} (hl : τ.length = σ.length) : ∀ (vs : List Nat), (∀ i, i ∉ vs → τ[i]? = σ[i]?) → wipe τ vs = wipe σ vs := by
  intro vs h
  apply List.ext_getElem?
  intro i
  by_cases m : i ∈ vs
  · have key : ∀ (α : L2.St) (vs : List Nat), i ∈ vs → (wipe α vs)[i]? = if i < α.length then some none else none := by
      intro α vs
      induction vs with
      | nil => intro h; cases h
      | cons v vs ih =>
        intro h
        unfold L2.wipe
        by_cases e : v = i
        · subst e
          by_cases hv : v < α.length
          · rw [List.getElem?_set_self (by rw [wipe_length]; exact hv), if_pos hv]
          · rw [if_neg hv]
            exact List.getElem?_eq_none (by rw [List.length_set, wipe_length]; omega)
        · rw [List.getElem?_set_ne e]
          exact ih (by rcases List.mem_cons.mp h with h | h; exact absurd h.symm e; exact h)
    rw [key τ vs m, key σ vs m, hl]
  · rw [wipe_out m, wipe_out m]
    exact h i m
def lcL (g : TGv) (tt : TTv) (te : TEv) (ρ : Env) : List D → List D → (D → Prop) → Prop
  | [], acc, Q => Q (.lst .o acc)
  | x :: xs, acc, Q => g x ρ fun ρ2 => tt ρ2 fun k => if k = true then te ρ2 fun d => d.nb = true ∧ lcL g tt te ρ xs (acc ++ [d]) Q else lcL g tt te ρ xs acc Q
def vLc (ti : TIv) (g : TGv) (tt : TTv) (te : TEv) (vs : List Nat) : TEv := fun ρ Q => ti ρ fun items => items.length ≤ 1000000 ∧ lcL g tt te (wipeD ρ vs) items [] Q
def vYes : TTv := fun _ Q => Q true
theorem lk_yes : LT tYes vYes := by
  intro B0 Z B H σ ρ Qd Q R h k
  exact k _ _ _ (Grow.refl R.sub) h
theorem lk_lc {wi : TI} {ti : TIv} {g : TG} {gv : TGv} {vg vs : List Nat} {Tt : TT} {tt : TTv} {Te : TE} {te : TEv} (li : LI wi ti) (lg : LG g gv vg) (hv : ∀ i ∈ vg, i ∈ vs) (lt : LT Tt tt) (le : LE Te te) : LE (tLc wi g Tt Te vs) (vLc ti gv tt te vs) := by
  intro B0 Z B H σ ρ Qd Q R h k
  refine li B0 Z B H σ ρ _ _ R h fun J B1 H1 items gr Y nc h => ?_
  obtain ⟨hlen, h⟩ := h
  have R1 := R.grow gr
  intro Da hD
  have bD : B1 Da = none := gr.sub.free hD
  refine ⟨fun i m H' => m = items.length - i ∧ i ≤ items.length ∧ ∃ B' acc us F, Grow B1 H1 B' H' ∧ B' Da = none ∧ H' Da = some (.lst us) ∧ Dens Z B' H' acc us F ∧ F.Nodup ∧ Da ∉ F ∧ (∀ a ∈ F, B' a = none ∧ H1 a = none) ∧ D.alls nbF acc = true ∧ acc.length ≤ i ∧ lcL gv tt te (wipeD ρ vs) (items.drop i) acc Qd,
    ⟨items.length, by simp, Nat.zero_le _, B1, [], [], [], Grow.new gr.sub hD, bD, upd_same, ⟨rfl, rfl⟩, List.nodup_nil, (fun z => nomatch z), (fun a h => nomatch h), rfl, Nat.zero_le _, by simpa using h⟩, ?_⟩
  rintro i m H' ⟨rfl, hi, B', acc, us, F, g1, b1, hD1, da, nF, dF, fF, nba, hacc, h'⟩
  have y := Y B' H' g1.sb g1.sub
  by_cases hlt : i < items.length
  · refine .inr ?_
    have e : items[i]? = some items[i] := List.getElem?_eq_getElem hlt
    obtain ⟨h1, h2⟩ := y.1 i _ e
    have hd : items.drop i = items[i] :: items.drop (i + 1) := List.drop_eq_getElem_cons hlt
    rw [hd] at h'
    refine ⟨h1, fun H2 => ∃ B2 acc us F, Grow B1 H1 B2 H2 ∧ B2 Da = none ∧ H2 Da = some (.lst us) ∧ Dens Z B2 H2 acc us F ∧ F.Nodup ∧ Da ∉ F ∧ (∀ a ∈ F, B2 a = none ∧ H1 a = none) ∧ D.alls nbF acc = true ∧ acc.length ≤ i + 1 ∧ lcL gv tt te (wipeD ρ vs) (items.drop (i + 1)) acc Qd,
      fun H2 q => ⟨items.length - (i + 1), by omega, rfl, hlt, q⟩, fun x H'' hy => ?_⟩
    obtain ⟨B2, F2, g2, dx, nf, fr⟩ := h2 x H'' hy
    have nd := alls_at nc e
    have ef := Den.nofp _ _ _ nd dx
    subst ef
    have R2 := ((R1.grow g1).grow g2).wipe vs
    refine lg B0 Z B2 H'' (wipe σ vs) (wipeD ρ vs) _ x _ _ R2 dx (co_nb nd) h' fun σ3 ρ3 R3 e3 l3 h3 => ?_
    refine ⟨?_, ?_⟩
    · have z : wipe σ3 vs = wipe (wipe σ vs) vs := wipe_ext l3 vs fun i hi => e3 i fun m => hi (hv i m)
      rw [z]
      refine (wipe_ext (wipe_length σ vs) vs fun i hi => ?_)
      exact wipe_out hi
    refine lt B0 Z B2 H'' σ3 ρ3 _ _ R3 h3 fun c B3 H3 g3 h4 => ?_
    have gg3 := (g1.trans g2).trans g3
    have g23 := g2.trans g3
    cases c with
    | false =>
      rw [if_neg Bool.false_ne_true] at h4 ⊢
      refine ⟨B3, acc, us, F, gg3, g23.old _ _ hD1 b1, g23.sh _ _ hD1, Dens.grow g23.sb g23.sh _ _ _ da, nF, dF, fun a h => ?_, nba, Nat.le_succ_of_le hacc, h4⟩
      obtain ⟨o, eo⟩ := Dens.live _ _ _ da a h
      exact ⟨g23.old a o eo (fF a h).1, (fF a h).2⟩
    | true =>
      rw [if_pos rfl] at h4 ⊢
      refine le B0 Z B3 H3 σ3 ρ3 _ _ (R3.grow g3) h4 fun d v H4 o q => ?_
      obtain ⟨B4, G, g4, xd, nG, fG⟩ := o
      obtain ⟨nbd, h5⟩ := q
      have g24 := g23.trans g4
      have gg4 := gg3.trans g4
      have hD4 : H4 Da = some (.lst us) := g24.sh _ _ hD1
      have bD4 : B4 Da = none := g24.old _ _ hD1 b1
      refine ⟨us, hD4, by rw [← da.len]; exact million (by omega), B4, acc ++ [d], us ++ [v], F ++ G, ?_, bD4, upd_same, ?_, ?_, ?_, fun a h => ?_, ?_, ?_, h5⟩
      · refine ⟨gg4.sb, fun a o e => ?_, fun a o e => ?_, gg4.old⟩
        · rw [upd_ne (ne_of_none e hD)]; exact gg4.sh _ _ e
        · rw [upd_ne (fun z => by rw [z, bD4] at e; cases e)]; exact gg4.sub _ _ e
      · have dG : Da ∉ G := fun m => by
          have z := (fG Da m).2
          rw [g23.sh _ _ hD1] at z; cases z
        have k1 : ∀ a ∈ F, upd H4 Da (.lst (us ++ [v])) a = H4 a := fun a h => upd_ne fun z => dF (z ▸ h)
        have k2 : ∀ a ∈ G, upd H4 Da (.lst (us ++ [v])) a = H4 a := fun a h => upd_ne fun z => dG (z ▸ h)
        exact Dens.app (Dens.keep _ _ _ nba k1 (Dens.grow g24.sb g24.sh _ _ _ da)) (Dens.one (Den.keep _ _ _ nbd k2 xd))
      · refine List.nodup_append.mpr ⟨nF, nG, fun a h b h' z => ?_⟩
        subst z
        obtain ⟨o, eo⟩ := Dens.live _ _ _ da a h
        have z := (fG a h').2
        rw [g23.sh _ _ eo] at z
        cases z
      · intro m
        rcases List.mem_append.mp m with m | m
        · exact dF m
        · have z := (fG Da m).2
          rw [g23.sh _ _ hD1] at z; cases z
      · rcases List.mem_append.mp h with m | m
        · obtain ⟨o, eo⟩ := Dens.live _ _ _ da a m
          exact ⟨g24.old a o eo (fF a m).1, (fF a m).2⟩
        · exact ⟨(fG a m).1, gg3.sh.free (fG a m).2⟩
      · rw [alls_app, nba]; simp [D.alls, nbd]
      · rw [List.length_append, List.length_singleton]; omega
  · have e : i = items.length := by omega
    subst e
    refine .inl ⟨y.2, ?_⟩
    rw [List.drop_length] at h'
    have h' : Qd (.lst .o acc) := h'
    refine k (.lst .o acc) _ _ ⟨B', Da :: F, gr.trans g1, ⟨Da, _, us, F, rfl, hD1, rfl, da, rfl⟩, List.nodup_cons.mpr ⟨dF, nF⟩, fun a h => ?_⟩ h'
    rcases List.mem_cons.mp h with z | z
    · subst z
      exact ⟨b1, gr.sh.free hD⟩
    · exact ⟨(fF a z).1, gr.sh.free (fF a z).2⟩
section
variable {X : Cx} {elt tg iter : Expr} {ifs : List Expr} {scope : Scope} {own : List (Str × Nat)} {pos : Pos} {wi : TI} {ti : TIv} {g : TG} {gv : TGv} {vg : List Nat} {Tt : TT} {tt : TTv} {Te : TE} {te : TEv}
/-- the tests of a comprehension -/
structure VTs (X : Cx) (ts : List Expr) (T : TT) (t : TTv) : Prop where
  pt : PTs X ts T
  lk : LT T t
theorem ts_nil : VTs X [] tYes vYes := ⟨pts_nil, lk_yes⟩
theorem ts_one {e : Expr} (h : VT X e Tt tt) : VTs X [e] Tt tt := ⟨pts_one h.pt, h.lk⟩
theorem e_lc (hc : X.calm = true) (hN : X.N.Nodup) (hi : VI X tg iter wi ti) (ok : BlkOk X.N X.env.scope scope own)
    (hg : ∀ (s : Shared) (H : Hp) (C : Addr) (cl : List (Str × Addr)) (fp : List Addr), VG (X.blk s H scope (compEnvC scope cl C X.env) fp) tg g gv vg) (hv : ∀ i ∈ vg, i ∈ own.map (·.2))
    (ht : ∀ (s : Shared) (H : Hp) (C : Addr) (cl : List (Str × Addr)) (fp : List Addr), VTs (X.blk s H scope (compEnvC scope cl C X.env) fp) ifs Tt tt)
    (he : ∀ (s : Shared) (H : Hp) (C : Addr) (cl : List (Str × Addr)) (fp : List Addr), VE (X.blk s H scope (compEnvC scope cl C X.env) fp) elt Te te) (hs : ∀ x, foldedSetIterable iter X.env x = pure x := by intro _; rfl) :
    VE X (.ListComp elt [⟨tg, iter, ifs, 0⟩] scope pos) (tLc wi g Tt Te (own.map (·.2))) (vLc ti gv tt te (own.map (·.2))) :=
  ⟨pe_lc hc hN hi.pi ok (fun s H C cl fp => (hg s H C cl fp).pg) (fun s H C cl fp => (ht s H C cl fp).pt) (fun s H C cl fp => (he s H C cl fp).pe) hs, lk_lc hi.lk (hg X.s_0 X.H_0 0 [] []).lk hv (ht X.s_0 X.H_0 0 [] []).lk (he X.s_0 X.H_0 0 [] []).lk⟩
end
end VL

/-! ## VLU -/
/-! VL: a def's body; changes of lists; objects made. -/
namespace VL
open PySem PySem.Spec L2
open PyProof.Rows hiding St
variable [KK : KLs]

/-! ### a def by its body -/
def startD (m : Nat) (ds : List D) : Env := ds.map some ++ List.replicate (m - ds.length) none
theorem ar_nb {ds : List D} (h : D.alls arF ds = true) : D.alls nbF ds = true := D.alls_imp (fun f e => by cases f <;> first | rfl | exact nomatch e) ds h
theorem slots_none {Z B H : Hp} : ∀ n : Nat, Slots Z B H (List.replicate n none) (List.replicate n none) []
  | 0 => ⟨rfl, rfl⟩
  | n + 1 => ⟨none, _, rfl, slots_none n⟩
theorem slots_start {Z B H : Hp} {m : Nat} : ∀ {ds : List D} {vs : List V}, Dens Z B H ds vs [] → D.alls nbF ds = true → Slots Z B H (ds.map some ++ List.replicate m none) (vs.map some ++ List.replicate m none) []
  | [], _, ⟨e, _⟩, _ => by subst e; exact slots_none m
  | d :: ds, _, ⟨v, ws, G1, G2, e, x, q, f⟩, n => by
    subst e
    have f1 : G1 = [] := (List.append_eq_nil_iff.mp f.symm).1
    have f2 : G2 = [] := (List.append_eq_nil_iff.mp f.symm).2
    subst f1 f2
    have n' : d.nb = true ∧ D.alls nbF ds = true := by simpa [D.alls] using n
    exact ⟨v, _, [], [], rfl, n'.1, x, slots_start q n'.2, rfl⟩
theorem rep_start {B H : Hp} {N : List Str} {ds : List D} {vs : List V} (s : Same B H) (q : Dens H B H ds vs []) (n : D.alls arF ds = true) : Rep B H B H (L2.start N vs) (startD N.length ds) := by
  refine ⟨Grow.refl s, [], ?_, List.nodup_nil, fun a h => nomatch h⟩
  unfold L2.start startD
  rw [q.len]
  exact slots_start q (ar_nb n)
section
variable {P : Program} {w : World} {mg : Str → Option Value} {base : Heap} {x qual : Str} {params : Arguments} {body : List Stmt} {scope : Scope} {dvs : List V} {kws : List (Str × V)} {f : Addr} {fd : FuncData} {N ps : List Str} {k n : Nat} {Pv : PV} {t : TSv}
/-- a def that raises nothing -/
theorem fn_v (F : FunD KK.K x qual params body scope dvs kws f fd) (S : FnScope N ps scope) (hn : ps.length = n)
    (hb : ∀ (cdv : Value) (A : Around) (outer : List PySem.Env) (s : Shared) (H : Hp) (E : XK), Room k (A.deeper (envOfC qual scope s.heap.objs.size f cdv)) → ∃ T, VSs (cxOf (L2.CX P w) P w KK.K mg base N qual scope f cdv A outer s H E).nox body T t)
    (hm : ∀ ds Q Ed, ds.length = n → Pv ds Q Ed → t { nx := fun _ => Q .non, rt := Q } (startD N.length ds)) : FnOk P w KK.K mg base (L2.CX P w) (k + 1) f fd ps (spV n Pv) := by
  refine F.ok S (fun vs H Q E h => ?_) fun cdv A outer s H vs Q E hr h => ?_
  · obtain ⟨B, ds, Qd, Ed, e, _, q, _⟩ := h
    rw [← q.len, e, hn]
  · obtain ⟨B, ds, Qd, Ed, e, sB, q, na, hP, hq, hx⟩ := h
    obtain ⟨T, hT⟩ := hb cdv A outer s H E hr
    refine ⟨T, hT.ps.nox, ?_⟩
    refine hT.lk B H B H (L2.start N vs) (startD N.length ds) _ _ (rep_start sB q na) (hm ds Qd Ed e hP) ⟨fun B' H' σ ρ R h => ?_, fun d v H' o ow h => hq d v H' o ow h, fun _ _ _ _ _ h => h.elim, fun _ _ _ _ _ h => h.elim⟩
    exact hq .non .non H' ⟨B', [], R.gr, den_non, List.nodup_nil, fun a h => nomatch h⟩ rfl h
end

/-! ### changes of a name's own list -/
theorem length_of_get {α : Type} {l : List α} {i : Nat} {x : α} (h : l[i]? = some x) : i < l.length := (List.getElem?_eq_some_iff.mp h).1
section
variable {B0 Z B H : Hp} {σ : L2.St} {ρ : Env}
/-- the own list of a name gets another content, with what was made besides -/
theorem Rep.write {i : Nat} {h : Hd} {ds : List D} (R : Rep B0 Z B H σ ρ) (e : ρ[i]? = some (some (.nd h ds))) (hf : h.fl = .o ∨ ∃ y, h.fl = .c y) :
    ∃ a o0 vs G, σ[i]? = some (some (.ref a)) ∧ H a = some o0 ∧ Cont h o0 vs ∧ Dens Z B H ds vs G ∧ D.alls nbF ds = true ∧ G.Nodup ∧ a ∉ G ∧ (∀ b ∈ G, B b = none ∧ Z b = none) ∧
      ∀ (h' : Hd) (es : List D) (o : HO) (B' H' : Hp) (us : List V) (G' : List Addr), h'.fl = h.fl → Grow B H B' H' → Cont h' o us → Dens Z B' H' es us G' → G'.Nodup → D.alls nbF es = true → (∀ b ∈ G', b ∈ G ∨ (B' b = none ∧ H b = none)) → Rep B0 Z B' (upd H' a o) σ (ρ.set i (some (.nd h' es))) := by
  obtain ⟨F, q, n, z⟩ := R.ex
  obtain ⟨v, G0, Rr, h1, h2, h3, h4, h5, h6, h7, h8⟩ := q.part n e
  obtain ⟨a, o0, vs, G, ev, x, c, y, f'⟩ := h3
  subst ev
  have nb : nbF h.fl = true ∧ D.alls nbF ds = true := by simpa [D.all] using h2
  have hx : H a = some o0 := by
    rcases hf with hf | ⟨z, hf⟩
    · rw [hf] at x; exact x
    · rw [hf] at x; exact x.1
  have hG : G0 = a :: G := by
    rcases hf with hf | ⟨z, hf⟩ <;> (rw [hf] at f'; exact f')
  subst hG
  have ng := List.nodup_cons.mp h4
  refine ⟨a, o0, vs, G, h1, hx, c, y, nb.2, ng.2, ng.1, fun b hb => z b (h6 b (.inl (List.mem_cons_of_mem _ hb))), fun h' es o B' H' us G' hf' g c' y' n' nbe fr => ?_⟩
  have za := z a (h6 a (.inl List.mem_cons_self))
  have ba : B' a = none := g.old a _ hx za.1
  have aG : a ∉ G' := fun m => by
    rcases fr a m with m | m
    · exact ng.1 m
    · rw [m.2] at hx; cases hx
  have gr2 : Grow B0 Z B' (upd H' a o) := by
    have g2 := R.gr.trans g
    refine ⟨g2.sb, fun b ob e => ?_, fun b ob e => ?_, g2.old⟩
    · rw [upd_ne (fun q => by rw [q, za.2] at e; cases e)]; exact g2.sh _ _ e
    · rw [upd_ne (fun q => by rw [q, ba] at e; cases e)]; exact g2.sub _ _ e
  have live : ∀ b ∈ Rr, ∃ ob, H b = some ob := h8.live
  have rest : Slots Z B' (upd H' a o) (ρ.set i none) σ Rr := (h8.grow g.sb g.sh).keep fun b hb => upd_ne fun q => h5 a List.mem_cons_self (q ▸ hb)
  have den : Den Z B' (upd H' a o) (.nd h' es) (.ref a) (a :: G') := by
    refine ⟨a, o, us, G', rfl, ?_, c', Dens.keep _ _ _ nbe (fun b hb => upd_ne fun q => aG (q ▸ hb)) y', ?_⟩
    · rw [hf']
      rcases hf with hf | ⟨z, hf⟩
      · rw [hf]; exact upd_same
      · rw [hf] at x ⊢; exact ⟨upd_same, x.2⟩
    · rw [hf']; rcases hf with hf | ⟨z, hf⟩ <;> (rw [hf]; rfl)
  have nbn : D.nb (.nd h' es) = true := by
    show (nbF h'.fl && D.alls nbF es) = true
    rw [hf', nb.1, nbe]; rfl
  obtain ⟨F', k1, k2, k3⟩ := rest.fill (length_of_get e) h1 h7 nbn den (List.nodup_cons.mpr ⟨aG, n'⟩) (fun b hb m => by
    rcases List.mem_cons.mp hb with q | hb
    · subst q; exact h5 b List.mem_cons_self m
    · rcases fr b hb with q | q
      · exact h5 b (List.mem_cons_of_mem _ q) m
      · obtain ⟨ob, eo⟩ := live b m
        rw [q.2] at eo; cases eo)
  refine ⟨gr2, F', k1, k2, fun b hb => ?_⟩
  rcases k3 b hb with m | m
  · obtain ⟨ob, eo⟩ := live b m
    exact ⟨g.old b ob eo (z b (h6 b (.inr m))).1, (z b (h6 b (.inr m))).2⟩
  · rcases List.mem_cons.mp m with q | m
    · subst q; exact ⟨ba, za.2⟩
    · rcases fr b m with q | q
      · obtain ⟨ob, eo⟩ := Dens.live _ _ _ y b q
        have zz := z b (h6 b (.inl (List.mem_cons_of_mem _ q)))
        exact ⟨g.old b ob eo zz.1, zz.2⟩
      · exact ⟨q.1, R.z b q.2⟩
end
/-- x.append(e), x a name -/
def vApp (i : Nat) (te : TEv) : TSv := fun D ρ => match ρ[i]? with
  | some (some (.nd (.lst .o) xs)) => te ρ fun d => d.nb = true ∧ xs.length < 1000000 ∧ D.nx (ρ.set i (some (.lst .o (xs ++ [d]))))
  | _ => False
theorem lk_app {i : Nat} {Te : TE} {te : TEv} (l : LE Te te) : LS (tDrop (tBM KK.K "list" rAppend (tVar i) (tCons Te tNil))) (vApp i te) := by
  intro B0 Z B H σ ρ Dv De R h S
  unfold vApp at h
  split at h
  · rename_i xs e
    obtain ⟨a, o0, vs, G, h1, hx, c, y, nb, ng, aG, fG, W⟩ := R.write (h := .lst .o) e (.inl rfl)
    have c : o0 = .lst vs := c
    subst c
    refine ⟨_, h1, .inl ⟨rfl, _, .inl (.inl hx)⟩, ?_⟩
    refine l B0 Z B H σ ρ _ _ R h fun d v H1 ⟨B1, F, g, x, nF, fF⟩ ⟨nbd, hl, q⟩ => ?_
    refine ⟨a, vs, v, rfl, rfl, g.sh _ _ hx, by rw [← y.len]; exact million (Nat.le_of_lt hl), ?_⟩
    refine S.nx _ _ _ _ (W (.lst .o) (xs ++ [d]) (.lst (vs ++ [v])) B1 H1 (vs ++ [v]) (G ++ F) rfl g rfl (Dens.app (Dens.grow g.sb g.sh _ _ _ y) (Dens.one x)) (List.nodup_append.mpr ⟨ng, nF, fun b hb b' hb' z => ?_⟩) (by rw [alls_app, nb]; simp [D.alls, nbd]) (fun b hb => ?_)) q
    · subst z
      obtain ⟨o, eo⟩ := Dens.live _ _ _ y b hb
      rw [(fF b hb').2] at eo
      cases eo
    · rcases List.mem_append.mp hb with m | m
      · exact .inl m
      · exact .inr (fF b m)
  · exact h.elim
/-- x[k] = e, x a name -/
def vSetIx (i : Nat) (tk te : TEv) : TSv := fun W ρ => te ρ fun d => match ρ[i]? with
  | some (some (.nd (.lst .o) xs)) => tk ρ fun y => match y with
    | .int k => d.nb = true ∧ D.alls coF xs = true ∧ ∃ j, ixN xs.length k = some j ∧ W.nx (ρ.set i (some (.lst .o (xs.set j d))))
    | _ => False
  | _ => False
theorem Dens.set {Z B H : Hp} {d : D} {v : V} {G : List Addr} : ∀ {ds : List D} {vs : List V} (j : Nat), Dens Z B H ds vs [] → Den Z B H d v G → j < ds.length → Dens Z B H (ds.set j d) (vs.set j v) G
  | [], _, j, _, _, h => by simp at h
  | d0 :: ds, _, 0, ⟨w, ws, G1, G2, e, x, q, f⟩, y, h => by
    subst e
    have f2 : G2 = [] := (List.append_eq_nil_iff.mp f.symm).2
    subst f2
    exact ⟨v, ws, G, [], rfl, y, q, (List.append_nil _).symm⟩
  | d0 :: ds, _, j + 1, ⟨w, ws, G1, G2, e, x, q, f⟩, y, h => by
    subst e
    have f1 : G1 = [] := (List.append_eq_nil_iff.mp f.symm).1
    have f2 : G2 = [] := (List.append_eq_nil_iff.mp f.symm).2
    subst f1 f2
    exact ⟨w, ws.set j v, [], G, rfl, x, Dens.set j q y (by simpa using h), rfl⟩
theorem alls_set {p : Fl → Bool} {d : D} : ∀ {ds : List D} (j : Nat), D.alls p ds = true → d.all p = true → D.alls p (ds.set j d) = true
  | [], _, h, _ => h
  | d0 :: ds, 0, h, h2 => by
    have n' : d0.all p = true ∧ D.alls p ds = true := by simpa [D.alls] using h
    simp [D.alls, h2, n'.2]
  | d0 :: ds, j + 1, h, h2 => by
    have n' : d0.all p = true ∧ D.alls p ds = true := by simpa [D.alls] using h
    simp [D.alls, n'.1, alls_set j n'.2 h2]
theorem ixN_lt {n : Nat} {k : Int} {j : Nat} (h : ixN n k = some j) : j < n := by
  unfold ixN at h
  split at h
  · split at h
    · cases h; omega
    · cases h
  · split at h
    · cases h; omega
    · cases h
theorem lk_setIx {i : Nat} {Te Tk : TE} {te tk : TEv} (l : LE Te te) (lk : LE Tk tk) : LS (tAsg Te (gSub (tVar i) Tk rSetL)) (vSetIx i tk te) := by
  intro B0 Z B H σ ρ Dv De R h S
  refine l B0 Z B H σ ρ _ _ R h fun d v H1 ⟨B1, F, g, x, nF, fF⟩ h => ?_
  split at h
  · rename_i xs e
    obtain ⟨a, o0, vs, G, h1, hx, c, y, nb, ng, aG, fG, W⟩ := R.write (h := .lst .o) e (.inl rfl)
    have c : o0 = .lst vs := c
    subst c
    refine ⟨_, h1, ?_⟩
    refine lk B0 Z B1 H1 σ ρ _ _ (R.grow g) h fun ky kv H2 ⟨B2, F2, g2, x2, _, _⟩ h => ?_
    split at h
    · obtain ⟨nbd, co, j, hj, q⟩ := h
      have hjl := ixN_lt hj
      have g12 := g.trans g2
      have eG := Dens.nofp _ _ _ co y
      subst eG
      refine ⟨a, vs, _, j, rfl, x2.1, g12.sh _ _ hx, by rw [← y.len]; exact hj, ?_⟩
      refine S.nx _ _ _ _ (W (.lst .o) (xs.set j d) (.lst (vs.set j v)) B2 H2 (vs.set j v) F rfl g12 rfl (Dens.set j (Dens.grow g12.sb g12.sh _ _ _ y) (x.grow g2.sb g2.sh) hjl) nF (alls_set j nb nbd) (fun b hb => .inr ?_)) q
      obtain ⟨o, eo⟩ := x.live _ _ _ b hb
      exact ⟨g2.old b o eo (fF b hb).1, (fF b hb).2⟩
    · exact h.elim
  · exact h.elim
section
variable {X : Cx} {e k : Expr} {pos p1 p2 p3 p4 p5 : Pos} {Te Tk : TE} {te tk : TEv} {x : Str}
theorem s_app (i : Nat) (he : VE X e Te te) (hN : X.N[i]? = some x := by rfl) (hv : Vis X.env.scope x := by first | exact Or.inl rfl | exact Or.inr (Or.inl rfl) | exact Or.inr (Or.inr rfl)) (hd : (x == ("__debug__" : Str)) = false := by decide) (hcd : (x == ("__classdict__" : Str)) = false := by decide)
    (hbase : attributeBase (.Name x p1) "append" X.env (eval (.Name x p1) X.env) = eval (.Name x p1) X.env := by rfl)
    (hfew : ((backTo p3 (starEach [e] X.env)).all (fun x => !x.1) && (backToKw p3 (keywordEach [] X.env)).all (fun x => x.1.isSome)
      && decide (([e] : List Expr).length + ([] : List Keyword).length + (if ([] : List Keyword).isEmpty then 0 else 1) < 30)) = true := by rfl)
    (hline : (p2.endLine == p3.line) = true := by rfl) (hs : starEach [e] X.env = (false, eval e X.env) :: starEach [] X.env := by rfl) (hplain : (backTo p3 (starEach [] X.env)).any (·.1) = false := by rfl)
    (hsw : swapsWith (.Call (.Attribute (.Name x p1) "append" p2) [e] [] p3) none p4.line X.env = pure false := by rfl) (hK : X.K = KK.K := by rfl) :
    VS X (.Expr (.Call (.Attribute (.Name x p1) "append" p2) [e] [] p3) p4) (tDrop (tBM KK.K "list" rAppend (tVar i) (tCons Te tNil))) (vApp i te) := by
  rw [← hK]
  exact ⟨ps_expr (pe_bm PySem.F.plainAttrs_list PySem.F.slot_list_append PySem.F.type_list_append mt_append (pe_var hN hv hd hcd) (pa_cons he.pe pa_nil hs) hbase hfew hline hs hplain) hsw, by rw [hK]; exact lk_app he.lk⟩
end
end VL

/-! ## VLV -/
/-! VL: objects made: __init__, C(..). -/
namespace VL
open PySem PySem.Spec L2
open PyProof.Rows hiding St
variable [KK : KLs]

/-! ### self.f = e in an __init__ -/
def vSetF (i : Nat) (ok : Addr → Prop) (f : Str) (te : TEv) : TSv := fun W ρ => te ρ fun d => match ρ[i]? with
  | some (some (.nd (.slf (.c y) C ns) xs)) => ok C ∧ (ns.all fun n => !decide (n = f)) = true ∧ ns.length ≤ 100 ∧ d.nb = true ∧ W.nx (ρ.set i (some (.slf (.c y) C (ns ++ [f]) (xs ++ [d]))))
  | _ => False
theorem putF_new {f : Str} {y : V} : ∀ {ns : List Str} {vs : List V}, ns.length = vs.length → (ns.all fun n => !decide (n = f)) = true → putF f y (ns.zip vs) = (ns ++ [f]).zip (vs ++ [y])
  | [], [], _, _ => rfl
  | [], _ :: _, h, _ => by simp at h
  | _ :: _, [], h, _ => by simp at h
  | n :: ns, v :: vs, h, a => by
    simp only [List.all_cons, Bool.and_eq_true, Bool.not_eq_true', decide_eq_false_iff_not] at a
    show (if n = f then (n, y) :: ns.zip vs else (n, v) :: putF f y (ns.zip vs)) = _
    rw [if_neg a.1, putF_new (by simpa using h) a.2]
    rfl
theorem lk_setF {i : Nat} {ok : Addr → Prop} {f : Str} {Te : TE} {te : TEv} (hk : ∀ C, ok C → FldOk KK.K C f) (l : LE Te te) : LS (sFld KK.K (tVar i) Te f) (vSetF i ok f te) := by
  intro B0 Z B H σ ρ Dv De R h S
  refine l B0 Z B H σ ρ _ _ R h fun d v H1 ⟨B1, F, g, x, nF, fF⟩ h => ?_
  split at h
  · rename_i y C ns xs e
    obtain ⟨hC, ha, hl, nbd, q⟩ := h
    obtain ⟨a, o0, vs, G, h1, hx, c, yd, nb, ng, aG, fG, W⟩ := R.write (h := .slf (.c y) C ns) e (.inr ⟨y, rfl⟩)
    obtain ⟨hlen, dx, c⟩ := c
    subst c
    refine ⟨_, h1, a, C, dx, _, rfl, g.sh _ _ hx, (hk C hC).cl, (hk C hC).no, by rw [List.length_zip, hlen, Nat.min_self, ← hlen]; omega, ?_⟩
    have ep := putF_new (f := f) (y := v) hlen ha
    rw [ep]
    refine S.nx _ _ _ _ (W (.slf (.c y) C (ns ++ [f])) (xs ++ [d]) (.ins C dx ((ns ++ [f]).zip (vs ++ [v]))) B1 H1 (vs ++ [v]) (G ++ F) rfl g ⟨by simp [hlen], dx, rfl⟩ (Dens.app (Dens.grow g.sb g.sh _ _ _ yd) (Dens.one x)) (List.nodup_append.mpr ⟨ng, nF, fun b hb b' hb' z => ?_⟩) (by rw [alls_app, nb]; simp [D.alls, nbd]) (fun b hb => ?_)) q
    · subst z
      obtain ⟨o, eo⟩ := Dens.live _ _ _ yd b hb
      rw [(fF b hb').2] at eo
      cases eo
    · rcases List.mem_append.mp hb with m | m
      · exact .inl m
      · exact .inr (fF b m)
  · exact h.elim
section
variable {X : Cx} {e : Expr} {pos p1 p2 : Pos} {Te : TE} {te : TEv} {x f : Str} {ok : Addr → Prop}
theorem s_setF (i : Nat) (hk : ∀ C, ok C → FldOk KK.K C f) (he : VE X e Te te) (hN : X.N[i]? = some x := by rfl) (hv : Vis X.env.scope x := by first | exact Or.inl rfl | exact Or.inr (Or.inl rfl) | exact Or.inr (Or.inr rfl)) (hd : (x == ("__debug__" : Str)) = false := by decide) (hcd : (x == ("__classdict__" : Str)) = false := by decide)
    (hs : swapsWith e (some (.Attribute (.Name x p1) f p2)) pos.line X.env = pure false := by rfl) (hK : X.K = KK.K := by rfl) : VS X (.Assign [.Attribute (.Name x p1) f p2] e pos) (sFld KK.K (tVar i) Te f) (vSetF i ok f te) := by
  rw [← hK]
  exact ⟨ps_fld (pe_var hN hv hd hcd) he.pe hs, by rw [hK]; exact lk_setF hk he.lk⟩
end

/-! ### an __init__'s promise -/
abbrev PI' := Addr → List D → (List Str → List D → Prop) → (XD → Prop) → Prop
def spI (n : Nat) (P : PI') : Sp := fun vs H Q E => ∃ (Z B : Hp) (x C dx : Addr) (ds : List D) (ws : List V) (Qd : List Str → List D → Prop) (Ed : XD → Prop), vs = .ref x :: ws ∧ H x = some (.ins C dx []) ∧ Same Z H ∧ Same B Z ∧ Z x = none ∧ ds.length = n ∧
  Dens Z B H ds ws [] ∧ D.alls arF ds = true ∧ P C ds Qd Ed ∧
  (∀ ns xs us dx' B' H', Grow B Z B' H' → B' x = none → H' x = some (.ins C dx' (ns.zip us)) → ns.length = us.length → Dens Z B' H' xs us [] → D.alls puF xs = true → Qd ns xs → Q .non H') ∧
  (∀ e cls dx H', OutX Z B Z e cls dx H' → D.alls puF e.2.2 = true → Ed e → E cls dx H')
def initEnd (C : Addr) (Qd : List Str → List D → Prop) (y : Addr) : VL.Env → Prop := fun ρ => match (ρ[0]? : Option (Option D)) with
  | some (some (.nd (.slf (.c y') C' ns) xs)) => y' = y ∧ C' = C ∧ D.alls puF xs = true ∧ Qd ns xs
  | _ => False
section
variable {P : Program} {w : World} {mg : Str → Option Value} {base : Heap} {x qual : Str} {params : Arguments} {body : List Stmt} {scope : Scope} {dvs : List V} {kws : List (Str × V)} {f : Addr} {fd : FuncData} {N ps : List Str} {k n : Nat} {Pv : PI'} {t : TSv}
theorem pu_fp {Z B H : Hp} {ds : List D} {vs : List V} {F : List Addr} (h : Dens Z B H ds vs F) (p : D.alls puF ds = true) : F = [] :=
  Dens.nofp ds vs F (D.alls_imp (fun f e => by cases f <;> first | rfl | exact nomatch e) ds p) h
/-- an __init__ that raises nothing -/
theorem fn_i (F : FunD KK.K x qual params body scope dvs kws f fd) (S : FnScope N ps scope) (hn : ps.length = n + 1)
    (hb : ∀ (cdv : Value) (A : Around) (outer : List PySem.Env) (s : Shared) (H : Hp) (E : XK), Room k (A.deeper (envOfC qual scope s.heap.objs.size f cdv)) → ∃ T, VSs (cxOf (L2.CX P w) P w KK.K mg base N qual scope f cdv A outer s H E).nox body T t)
    (hm : ∀ y C ds Qd Ed, ds.length = n → Pv C ds Qd Ed → t { nx := initEnd C Qd y, rt := fun _ => False } (startD N.length (.slf (.c y) C [] [] :: ds))) : FnOk P w KK.K mg base (L2.CX P w) (k + 1) f fd ps (spI n Pv) := by
  refine F.ok S (fun vs H Q E h => ?_) fun cdv A outer s H vs Q E hr h => ?_
  · obtain ⟨Z, B, y, C, dx, ds, ws, Qd, Ed, e, _, _, _, _, en, q, _⟩ := h
    rw [e, List.length_cons, ← q.len, en, hn]
  · obtain ⟨Z, B, y, C, dx, ds, ws, Qd, Ed, e, hx, sZ, sB, zy, en, q, na, hP, hq, _⟩ := h
    subst e
    obtain ⟨T, hT⟩ := hb cdv A outer s H E hr
    refine ⟨T, hT.ps.nox, ?_⟩
    have by' : B y = none := sB.free zy
    have R : Rep B Z B H (L2.start N (.ref y :: ws)) (startD N.length (.slf (.c y) C [] [] :: ds)) := by
      refine ⟨⟨Same.refl _, sZ, sB.trans sZ, fun _ _ _ n => n⟩, [y], ?_, List.nodup_cons.mpr ⟨List.not_mem_nil, List.nodup_nil⟩, fun a h => ?_⟩
      · have hs := slots_start (m := N.length - (.slf (.c y) C [] [] :: ds).length) q (ar_nb na)
        have hl : N.length - (V.ref y :: ws).length = N.length - (D.slf (.c y) C [] [] :: ds).length := by rw [List.length_cons, List.length_cons, q.len]
        unfold L2.start startD
        rw [hl]
        refine ⟨.ref y, _, [y], [], rfl, rfl, ?_, hs, rfl⟩
        exact ⟨y, _, [], [], rfl, ⟨hx, rfl⟩, ⟨rfl, dx, rfl⟩, ⟨rfl, rfl⟩, rfl⟩
      · have e := List.mem_singleton.mp h
        subst e
        exact ⟨by', zy⟩
    refine hT.lk B Z B H _ _ _ _ R (hm y C ds Qd Ed en hP) ⟨fun B' H' σ ρ R' h => ?_, fun d v H' o ow h => h.elim, fun _ _ _ _ _ h => h.elim, fun _ _ _ _ _ h => h.elim⟩
    have hI : initEnd C Qd y ρ := h
    unfold initEnd at hI
    split at hI
    · rename_i y' C' ns xs e
      obtain ⟨rfl, rfl, pu, hI⟩ := hI
      obtain ⟨F', qs, nd, z⟩ := R'.ex
      obtain ⟨v, G, Rr, h1, h2, h3, h4, h5, h6, h7, h8⟩ := qs.part nd e
      obtain ⟨a, o0, us, G2, ev, x, c, y, f'⟩ := h3
      obtain ⟨hl, dx', c⟩ := c
      subst c
      have xx : H' a = some (.ins C' dx' (ns.zip us)) ∧ a = y' := x
      obtain ⟨x1, rfl⟩ := xx
      have f' : G = a :: G2 := f'
      subst f'
      have eG := pu_fp y pu
      subst eG
      exact hq ns xs us dx' B' H' R'.gr (z a (h6 a (.inl List.mem_cons_self))).1 x1 hl y pu hI
    · exact hI.elim
end

/-! ### C(..) -/
section
variable {B0 Z B H B1 H1 : Hp} {σ : L2.St} {ρ : Env}
/-- the new object, as data, behind its __init__ -/
theorem made_out {n : Nat} {P : PI'} {C : Addr} {x dx : Addr} {ds : List D} {vs : List V} {F : List Addr} {Qd : D → Prop} {Q : VK} (R : Rep B0 Z B H σ ρ) (g : Grow B H B1 H1) (q : Dens Z B1 H1 ds vs F)
    (hx : H1 x = none) (hdx : H1 dx = none) (ne : dx ≠ x) (hl : ds.length = n) (hP : P C (D.maps fArg ds) (fun ns xs => Qd (.obj C ns xs)) (fun _ => False)) (k : ∀ d v H', Out Z B H d v H' → Qd d → Q v H') :
    spI n P (.ref x :: vs) (upd (upd H1 dx (.own x)) x (.ins C dx [])) (fun v H2 => v = .non ∧ Q (.ref x) H2) E0 := by
  have s1 := argBase_sub g.sub
  have up : Same H1 (upd (upd H1 dx (.own x)) x (.ins C dx [])) := fun b o e => by
    rw [upd_ne (ne_of_none e hx), upd_ne (ne_of_none e hdx)]; exact e
  refine ⟨H1, argBase B1 H1, x, C, dx, D.maps fArg ds, vs, fun ns xs => Qd (.obj C ns xs), fun _ => False, rfl, upd_same, up, s1, hx, by rw [D.maps_eq, List.length_map, hl], Dens.grow (Same.refl _) up _ _ _ (Dens.hand g.sub ds vs F q), ar_arg _, hP, ?_, fun _ _ _ _ _ _ z => z.elim⟩
  intro ns xs us dx' B' H' gr bx hx' hlen dn pu h
  refine ⟨rfl, ?_⟩
  have gb := Grow.back g.sub gr
  have R1 := R.grow g
  -- the object is fixed from here on
  have ux : unB B1 H1 B' x = none := by
    cases hu : unB B1 H1 B' x with
    | none => rfl
    | some o => have := unB_sub hu; rw [bx] at this; cases this
  refine k (.obj C ns xs) (.ref x) H' ⟨upd (unB B1 H1 B') x (.ins C dx' (ns.zip us)), [], ⟨fun b o e => ?_, g.sh.trans gb.sh, fun b o e => ?_, fun b o e nb => ?_⟩, ?_, List.nodup_nil, fun a h => nomatch h⟩ h
  · have e2 := (g.trans gb).sb _ _ e
    rw [upd_ne (fun z => by rw [z, ux] at e2; cases e2)]; exact e2
  · by_cases z : b = x
    · subst z; rw [upd_same] at e; rw [hx']; exact e
    · rw [upd_ne z] at e; exact gb.sub _ _ e
  · have z : b ≠ x := fun z => by rw [z] at e; rw [g.sh _ _ e] at hx; cases hx
    rw [upd_ne z]
    exact (g.trans gb).old b o e nb
  · refine ⟨x, _, us, [], rfl, upd_same, ⟨hlen, dx', rfl⟩, ?_, rfl⟩
    have ow : D.alls owF xs = true := D.alls_imp (fun f e => by cases f <;> first | rfl | exact nomatch e) xs pu
    have d2 := Dens.back g.sub gr R1.z xs us [] ow dn
    refine Dens.grow (fun b o e => ?_) (Same.refl _) _ _ _ d2
    rw [upd_ne (fun z => by rw [z, ux] at e; cases e)]; exact e
end
/-- C(e, .., k = v, ..): the arguments in the parameters' order, by gv; m1, m2: how many are written without and with a name -/
def vMake (n m1 m2 : Nat) (P : PI') (C : Addr) (gv : List D → List D → List D) (t tk : TAv) : TEv := fun ρ Q => t ρ fun ds => tk ρ fun es => ds.length = m1 ∧ es.length = m2 ∧ (gv ds es).length = n ∧ P C (D.maps fArg (gv ds es)) (fun ns xs => Q (.obj C ns xs)) (fun _ => False)
/-- how the arguments are put in order, over data and over values -/
def Puts (m1 m2 : Nat) (gv : List D → List D → List D) (gV : List V → List V → List V) : Prop := ∀ (Z B H : Hp) (ds : List D) (vs : List V) (F : List Addr) (es : List D) (us : List V) (G : List Addr), Dens Z B H ds vs F → Dens Z B H es us G → ds.length = m1 → es.length = m2 →
  ∃ ws F', Dens Z B H (gv ds es) ws F' ∧ ∀ x, gV (.ref x :: vs) us = .ref x :: ws
theorem lk_make {n m1 m2 : Nat} {P : PI'} {C : Addr} {gv : List D → List D → List D} {gV : List V → List V → List V} {T Tk : TA} {t tk : TAv} (hg : Puts m1 m2 gv gV) (l : LA T t) (lk : LA Tk tk) : LE (tMakeK C m1 m2 (spI n P) gV E0 T Tk) (vMake n m1 m2 P C gv t tk) := by
  intro B0 Z B H σ ρ Qd Q R h k
  refine l B0 Z B H σ ρ _ _ R h fun ds vs H1 ⟨B1, F, g, q, nd, f⟩ h => ?_
  refine lk B0 Z B1 H1 σ ρ _ _ (R.grow g) h fun es us H2 ⟨B2, G, g2, q2, nd2, f2⟩ ⟨e1, e2, h⟩ => ?_
  refine ⟨by rw [← q.len]; exact e1, by rw [← q2.len]; exact e2, fun x dx hx hdx ne => ?_⟩
  obtain ⟨ws, F', dw, hw⟩ := hg Z B2 H2 ds vs F es us G (Dens.grow g2.sb g2.sh _ _ _ q) q2 e1 e2
  rw [hw x]
  exact made_out R (g.trans g2) dw hx hdx ne h.1 h.2 k
theorem lk_make0 {n : Nat} {P : PI'} {C : Addr} {dds : List D} {dvs : List V} {T : TA} {t : TAv} (hd : Flat dds dvs) (l : LA T t) : LE (tMake C (spI n P) dvs E0 T) (fun ρ Q => t ρ fun ds => (ds ++ dds).length = n ∧ P C (D.maps fArg (ds ++ dds)) (fun ns xs => Q (.obj C ns xs)) (fun _ => False)) := by
  intro B0 Z B H σ ρ Qd Q R h k
  refine l B0 Z B H σ ρ _ _ R h fun ds vs H1 ⟨B1, F, g, q, nd, f⟩ h => ?_
  intro x dx hx hdx ne
  exact made_out R g (Dens.app q (hd.dens _ _).1) hx hdx ne h.1 h.2 k
def vMake0 (n : Nat) (P : PI') (C : Addr) (dds : List D) (t : TAv) : TEv := fun ρ Q => t ρ fun ds => (ds ++ dds).length = n ∧ P C (D.maps fArg (ds ++ dds)) (fun ns xs => Q (.obj C ns xs)) (fun _ => False)
section
variable {X : Cx} {x : Str} {p pos kpos : Pos} {e : Expr} {es : List Expr} {kws : List Keyword} {T Tk : TA} {t tk : TAv} {k j n m1 : Nat} {ks : List Str} {P : PI'} {C f : Addr} {fd : FuncData} {ps : List Str} {g : List Value → List Value → List Value} {gV : List V → List V → List V} {gv : List D → List D → List D} {Te : TE} {te : TEv} {nm : Option Str}
structure VK (X : Cx) (kws : List Keyword) (T : TA) (t : TAv) : Prop where
  pk : PK X kws T
  lk : LA T t
theorem k_nil : VK X [] tNil vNil := ⟨pk_nil, lk_nil⟩
theorem k_cons (ha : VE X e Te te) (hr : VK X kws T t) : VK X (⟨nm, e, kpos⟩ :: kws) (tCons Te T) (vCons te t) := ⟨pk_cons ha.pe hr.pk, lk_cons ha.lk hr.lk⟩
theorem e_makeK (M : Mk KK.K C f) (F : FnOk X.prog X.w KK.K X.mg X.base (L2.CX X.prog X.w) k f fd ps (spI n P)) (hb : KBn KK.K fd ps (m1 + 1) ks g gV) (hgv : Puts m1 ks.length gv gV) (hm : X.mg x = some (.ref C)) (hr : Room j X.A) (hk : k + 1 ≤ j) (ha : VA X (e :: es) T t) (hkw : VK X kws Tk tk) (hg : Gl X x := by rfl)
    (hall : (backToKw pos (keywordEach kws X.env)).all (·.1.isSome) = true := by rfl) (hks : (backToKw pos (keywordEach kws X.env)).filterMap (·.1) = ks := by rfl) (hdb : (x == ("__debug__" : Str)) = false := by decide)
    (he : starEach (e :: es) X.env = (false, eval e X.env) :: starEach es X.env := by rfl) (hpl : ((backTo pos (starEach (e :: es) X.env)).any (·.1) || (backToKw pos (keywordEach kws X.env)).any (·.1.isNone)) = false := by rfl) (hK : X.K = KK.K := by rfl) :
    VE X (.Call (.Name x p) (e :: es) kws pos) (tMakeK C m1 ks.length (spI n P) gV E0 T Tk) (vMake n m1 ks.length P C gv t tk) := by
  rw [← hK] at M F hb
  exact ⟨pe_makeK M F (hr.mono hk) hg hm hb passL ha.pa hkw.pk hall hks hdb he hpl, lk_make hgv ha.lk hkw.lk⟩
theorem e_make {dds : List D} {dvs : List V} {ds : List Value} (M : Mk KK.K C f) (F : FnOk X.prog X.w KK.K X.mg X.base (L2.CX X.prog X.w) k f fd ps (spI n P)) (hb : Binds KK.K fd ps ds) (hd : Vals dvs ds) (hf : Flat dds dvs) (hm : X.mg x = some (.ref C)) (hr : Room j X.A) (hk : k + 1 ≤ j) (ha : VA X (e :: es) T t) (hg : Gl X x := by rfl)
    (hdb : (x == ("__debug__" : Str)) = false := by decide) (he : starEach (e :: es) X.env = (false, eval e X.env) :: starEach es X.env := by rfl) (hpl : (backTo pos (starEach es X.env)).any (·.1) = false := by rfl) (hK : X.K = KK.K := by rfl) :
    VE X (.Call (.Name x p) (e :: es) [] pos) (tMake C (spI n P) dvs E0 T) (vMake0 n P C dds t) := by
  rw [← hK] at M F hb
  exact ⟨pe_make M F (hr.mono hk) hg hm hb hd passL ha.pa hdb he hpl, lk_make0 hf ha.lk⟩
end
/-! ### list(range(..)) -/
def vLstRg2 (ta tb : TEv) : TEv := fun ρ Q => ta ρ fun x => tb ρ fun y => match x, y with
  | .int i, .int j => bigI i ∧ bigI j ∧ (j - i).toNat ≤ 1000000 ∧ Q (.lst .o (upTo i (j - i).toNat))
  | _, _ => False
theorem upTo_dens {Z B H : Hp} (i : Int) : ∀ n : Nat, Dens Z B H (upTo i n) ((List.range n).map fun k : Nat => V.int (i + (k : Int))) [] := by
  intro n
  unfold upTo
  generalize List.range n = l
  induction l with
  | nil => exact ⟨rfl, rfl⟩
  | cons a l ih => exact ⟨_, _, [], [], rfl, den_int, ih, rfl⟩
theorem lk_lstRg2 {Ta Tb : TE} {ta tb : TEv} (la : LE Ta ta) (lb : LE Tb tb) : LE (tLstRg (tRg2 Ta Tb)) (vLstRg2 ta tb) := by
  intro B0 Z B H σ ρ Qd Q R h k
  refine la B0 Z B H σ ρ _ _ R h fun x vx H1 ⟨B1, F, g, dx, n, f⟩ h => ?_
  refine lb B0 Z B1 H1 σ ρ _ _ (R.grow g) h fun y vy H2 ⟨B2, F2, g2, dy, n2, f2⟩ h => ?_
  split at h
  · obtain ⟨b1, b2, b3, q⟩ := h
    refine ⟨_, _, dx.1, dy.1, ⟨b1.1, b1.2, b2.1, b2.2, by omega⟩, fun p hp => ?_⟩
    exact k _ _ _ (out_lst (ds := upTo _ _) ⟨B2, [], g.trans g2, upTo_dens _ _, List.nodup_nil, fun a h => nomatch h⟩ hp) q
  · exact h.elim
section
variable {X : Cx} {a b : Expr} {p p2 pos pos2 : Pos} {Ta Tb : TE} {ta tb : TEv}
theorem e_lstRg2 (hc : X.calm = true) (hl : X.mg "list" = none) (hm : X.mg "range" = none) (ha : VE X a Ta ta) (hb : VE X b Tb tb) (hg : Gl X "list" := by rfl) (hg2 : Gl X "range" := by rfl)
    (na : starEach [a, b] X.env = (false, eval a X.env) :: starEach [b] X.env := by rfl) (nb : starEach [b] X.env = (false, eval b X.env) :: starEach [] X.env := by rfl) (hp : (backTo pos2 (starEach [b] X.env)).any (·.1) = false := by rfl)
    (nc : starEach [.Call (.Name "range" p2) [a, b] [] pos2] X.env = (false, eval (.Call (.Name "range" p2) [a, b] [] pos2) X.env) :: starEach [] X.env := by rfl) :
    VE X (.Call (.Name "list" p) [.Call (.Name "range" p2) [a, b] [] pos2] [] pos) (tLstRg (tRg2 Ta Tb)) (vLstRg2 ta tb) := ⟨pe_listRg hc hg hl (prg_2 hg2 hm ha.pe hb.pe na nb hp) nc, lk_lstRg2 ha.lk hb.lk⟩
end
/-! ### y = [..] on one line; a tuple's names; x op= e -/
section
variable {X : Cx} {elt tg iter e : Expr} {ifs : List Expr} {scope : Scope} {own : List (Str × Nat)} {pos py spos : Pos} {wi : TI} {ti : TIv} {g : TG} {gv : TGv} {vg : List Nat} {Tt : TT} {tt : TTv} {Te : TE} {te : TEv} {y x : Str}
theorem s_lcL (i : Nat) (hc : X.calm = true) (hN : X.N.Nodup) (hi : VI X tg iter wi ti) (ok : BlkOk X.N X.env.scope scope own)
    (hg : ∀ (s : Shared) (H : Hp) (C : Addr) (cl : List (Str × Addr)) (fp : List Addr), VG (X.blk s H scope (compEnvC scope cl C X.env) fp) tg g gv vg) (hv : ∀ i ∈ vg, i ∈ own.map (·.2))
    (ht : ∀ (s : Shared) (H : Hp) (C : Addr) (cl : List (Str × Addr)) (fp : List Addr), VTs (X.blk s H scope (compEnvC scope cl C X.env) fp) ifs Tt tt)
    (he : ∀ (s : Shared) (H : Hp) (C : Addr) (cl : List (Str × Addr)) (fp : List Addr), VE (X.blk s H scope (compEnvC scope cl C X.env) fp) elt Te te)
    (hy : X.N[i]? = some y := by rfl) (hyl : X.env.scope.names.lookup y = some .local := by rfl)
    (hsw : swapsWith (.ListComp elt [⟨tg, iter, ifs, 0⟩] scope pos) (some (.Name y py)) spos.line X.env = pure true := by exact sw_true rfl rfl rfl (by decide +kernel)) (hs : ∀ x, foldedSetIterable iter X.env x = pure x := by intro _; rfl) :
    VS X (.Assign [.Name y py] (.ListComp elt [⟨tg, iter, ifs, 0⟩] scope pos) spos) (tAsg (tLc wi g Tt Te (own.map (·.2))) (gName i)) (vAsgL i (vLc ti gv tt te (own.map (·.2)))) :=
  ⟨ps_setLc hc hN hy hyl hsw hi.pi ok (fun s H C cl fp => (hg s H C cl fp).pg) (fun s H C cl fp => (ht s H C cl fp).pt) (fun s H C cl fp => (he s H C cl fp).pe) hs, lk_asgL (lk_lc hi.lk (hg X.s_0 X.H_0 0 [] []).lk hv (ht X.s_0 X.H_0 0 [] []).lk (he X.s_0 X.H_0 0 [] []).lk)⟩
theorem s_lc (i : Nat) (hc : X.calm = true) (hN : X.N.Nodup) (hi : VI X tg iter wi ti) (ok : BlkOk X.N X.env.scope scope own)
    (hg : ∀ (s : Shared) (H : Hp) (C : Addr) (cl : List (Str × Addr)) (fp : List Addr), VG (X.blk s H scope (compEnvC scope cl C X.env) fp) tg g gv vg) (hv : ∀ i ∈ vg, i ∈ own.map (·.2))
    (ht : ∀ (s : Shared) (H : Hp) (C : Addr) (cl : List (Str × Addr)) (fp : List Addr), VTs (X.blk s H scope (compEnvC scope cl C X.env) fp) ifs Tt tt)
    (he : ∀ (s : Shared) (H : Hp) (C : Addr) (cl : List (Str × Addr)) (fp : List Addr), VE (X.blk s H scope (compEnvC scope cl C X.env) fp) elt Te te)
    (hy : X.N[i]? = some y := by rfl) (hyl : X.env.scope.names.lookup y = some .local := by rfl)
    (hsw : swapsWith (.ListComp elt [⟨tg, iter, ifs, 0⟩] scope pos) (some (.Name y py)) spos.line X.env = pure true := by exact sw_true rfl rfl rfl (by decide +kernel)) (hs : ∀ x, foldedSetIterable iter X.env x = pure x := by intro _; rfl) :
    VS X (.Assign [.Name y py] (.ListComp elt [⟨tg, iter, ifs, 0⟩] scope pos) spos) (tAsg (tLc wi g Tt Te (own.map (·.2))) (gName i)) (vAsg i (vLc ti gv tt te (own.map (·.2)))) :=
  ⟨ps_setLc hc hN hy hyl hsw hi.pi ok (fun s H C cl fp => (hg s H C cl fp).pg) (fun s H C cl fp => (ht s H C cl fp).pt) (fun s H C cl fp => (he s H C cl fp).pe) hs, lk_asg (lk_lc hi.lk (hg X.s_0 X.H_0 0 [] []).lk hv (ht X.s_0 X.H_0 0 [] []).lk (he X.s_0 X.H_0 0 [] []).lk)⟩
def vAsgG (gv : TGv) (te : TEv) : TSv := fun W ρ => te ρ fun d => d.nb = true ∧ gv d.loc ρ W.nx
theorem lk_asgG {vs : List Nat} (l : LE Te te) (lg : LG g gv vs) : LS (tAsg Te g) (vAsgG gv te) := by
  intro B0 Z B H σ ρ Dv De R h S
  refine l B0 Z B H σ ρ _ _ R h fun d v H1 o q => ?_
  obtain ⟨B1, gr, x⟩ := o.frozen R.z q.1
  exact lg B0 Z B1 H1 σ ρ _ v _ _ (R.grow gr) x (nb_loc q.1) q.2 fun σ' ρ' R' _ _ h => S.nx _ _ _ _ R' h
theorem s_asgG (he : VE X e Te te) (hg : VG X tg g gv vg) (hs : swapsWithSole [tg] e pos.line X.env = pure false := by rfl) (hw : swappedStores [tg] e X.env = pure none := by rfl) (h1 : (assignEach [tg] X.env).map (·.2) = [assign tg X.env] := by rfl) : VS X (.Assign [tg] e pos) (tAsg Te g) (vAsgG gv te) := ⟨ps_asg he.pe hg.pg hs hw h1, lk_asgG he.lk hg.lk⟩
def vAugI (i : Nat) (f : Int → Int → Int) (te : TEv) : TSv := fun W ρ => match ρ[i]? with
  | some (some (.int a)) => te ρ fun d => match d with
    | .int b => W.nx (ρ.set i (some (.int (f a b))))
    | _ => False
  | _ => False
theorem lk_augI {i : Nat} {f : Int → Int → Int} (l : LE Te te) : LS (tAug i Te (ipI f)) (vAugI i f te) := by
  intro B0 Z B H σ ρ Dv De R h S
  unfold vAugI at h
  split at h
  · rename_i a e
    obtain ⟨v, G, h1, h2, h3, h4, h5⟩ := R.get' e
    refine ⟨v, h1, l B0 Z B H σ ρ _ _ R h fun d w H1 o h => ?_⟩
    obtain ⟨B1, F, g, x, nF, fF⟩ := o
    split at h
    · rename_i b
      refine ⟨a, b, h3.1, x.1, ?_⟩
      obtain ⟨B2, g2, R2⟩ := (R.grow g).set (i := i) (d := .int (f a b)) (Out.of g.sub den_int) rfl
      exact S.nx _ _ _ _ R2 h
    · exact h.elim
  · exact h.elim
theorem s_addI (i : Nat) (he : VE X e Te te) (hN : X.N.Nodup) (hi : X.N[i]? = some x := by rfl) (hx : Loc X.env.scope x := by first | exact Or.inl rfl | exact Or.inr rfl) (hf : X.fn x = true ∨ X.env.scope.names.lookup x = some .local := by first | exact .inl rfl | exact .inr rfl) :
    VS X (.AugAssign (.Name x py) .Add e pos) (tAug i Te (ipI fun i j => i + j)) (vAugI i (fun a b => a + b) te) := ⟨ps_aug hN hi hx he.pe ip_add hf, lk_augI he.lk⟩
theorem s_subI (i : Nat) (he : VE X e Te te) (hN : X.N.Nodup) (hi : X.N[i]? = some x := by rfl) (hx : Loc X.env.scope x := by first | exact Or.inl rfl | exact Or.inr rfl) (hf : X.fn x = true ∨ X.env.scope.names.lookup x = some .local := by first | exact .inl rfl | exact .inr rfl) :
    VS X (.AugAssign (.Name x py) .Sub e pos) (tAug i Te (ipI fun i j => i - j)) (vAugI i (fun a b => a - b) te) := ⟨ps_aug hN hi hx he.pe ip_sub hf, lk_augI he.lk⟩
end
/-- a name's own list is not changed any more -/
def vFrz (i : Nat) (t : TSv) : TSv := fun W ρ => match ρ[i]? with
  | some (some d) => t W (ρ.set i (some d.loc))
  | _ => False
theorem Rep.freeze {B0 Z B H : Hp} {σ : L2.St} {ρ : VL.Env} {i : Nat} {d : D} (R : Rep B0 Z B H σ ρ) (e : ρ[i]? = some (some d)) : ∃ B', Rep B0 Z B' H σ (ρ.set i (some d.loc)) := by
  obtain ⟨F, q, n, z⟩ := R.ex
  obtain ⟨v, G, Rr, h1, h2, h3, h4, h5, h6, h7, h8⟩ := q.part n e
  let B' : Hp := fun b => if b ∈ G then H b else B b
  have sb : Same B B' := fun a o e => by
    have : a ∉ G := fun m => by
      have y := (z a (h6 a (.inl m))).1
      rw [e] at y; cases y
    show (if a ∈ G then H a else B a) = some o
    rw [if_neg this]; exact e
  have sub : Same B' H := fun a o e => by
    have e : (if a ∈ G then H a else B a) = some o := e
    split at e
    · exact e
    · exact R.sub _ _ e
  have x : Den Z B' H d.loc v [] := Den.flag (P := fun a => a ∈ G) (flag_loc (F := G) sb (fun a o m e => by
    show (if a ∈ G then H a else B a) = some o
    rw [if_pos m]; exact e) (fun a m => (z a (h6 a (.inl m))).2)) d v G h2 (fun a h => h) h3
  obtain ⟨F', k1, k2, k3⟩ := (h8.grow sb (Same.refl _)).fill (length_of_get e) h1 h7 (nb_loc h2) x List.nodup_nil (fun a h => nomatch h)
  refine ⟨B', ⟨R.gr.sb.trans sb, R.gr.sh, sub, fun a o e n => ?_⟩, F', k1, k2, fun a m => ?_⟩
  · have : a ∉ G := fun m => by
      have y := (z a (h6 a (.inl m))).2
      rw [e] at y; cases y
    show (if a ∈ G then H a else B a) = none
    rw [if_neg this]; exact R.gr.old a o e n
  · rcases k3 a m with m | m
    · have hz := z a (h6 a (.inr m))
      refine ⟨?_, hz.2⟩
      show (if a ∈ G then H a else B a) = none
      rw [if_neg (fun m' => h5 a m' m)]; exact hz.1
    · cases m
theorem lk_frz {i : Nat} {T : TS} {t : TSv} (l : LS T t) : LS T (vFrz i t) := by
  intro B0 Z B H σ ρ Dv De R h S
  unfold vFrz at h
  split at h
  · rename_i d e
    obtain ⟨B', R'⟩ := R.freeze e
    exact l B0 Z B' H σ _ Dv De R' h S
  · exact h.elim
theorem s_frz {X : Cx} {st : Stmt} {T : TS} {t : TSv} (i : Nat) (h : VS X st T t) : VS X st T (vFrz i t) := ⟨h.ps, lk_frz h.lk⟩
/-! ### the law's end -/
/-- what is asked of a law's def: True for every script -/
def LawP : PV := fun ds Q _ => ∃ ns : List Int, ds = [.lst .s (ns.map D.int)] ∧ ns.length ≤ 63 ∧ Q (.bl true)
theorem ints_dens {Z B H : Hp} : ∀ ns : List Int, Dens Z B H (ns.map D.int) (ns.map V.int) []
  | [] => ⟨rfl, rfl⟩
  | n :: ns => ⟨_, _, [], [], rfl, den_int, ints_dens ns, rfl⟩
theorem ints_ar : ∀ ns : List Int, D.alls arF (ns.map D.int) = true
  | [] => rfl
  | n :: ns => by simp [D.alls, D.all, ints_ar ns]
omit KK in
theorem law_start {K : PySem.W.Frag} {H : Hp} {a : Addr} {ns : List Int} (hl : ns.length ≤ 63) (hO : Only H) (hS : SqL K H a (ns.map V.int)) : @spV ⟨K⟩ 1 (@LawP) [.ref a] H (fun v _ => v = .bl true) fun _ _ _ => False := by
  letI : KLs := ⟨K⟩
  refine ⟨H, [.lst .s (ns.map D.int)], fun d => d = .bl true, fun _ => False, rfl, Same.refl _, ⟨_, _, [], [], rfl, ⟨a, .lst (ns.map V.int), ns.map V.int, [], rfl, ?_, rfl, ints_dens ns, rfl⟩, ⟨rfl, rfl⟩, rfl⟩, by simp [D.alls, D.all, ints_ar, Hd.fl, Fl.ls, arF], ⟨ns, rfl, hl, rfl⟩, ?_, fun _ _ _ _ _ _ z => z.elim⟩
  · rcases hS with (h | ⟨o, h⟩) | h
    · rcases hO a with z | ⟨o, xs, z⟩
      · rw [h] at z; cases z
      · rw [h] at z; cases z
    · exact .inl ⟨o, h⟩
    · exact .inr ⟨_, rfl, h⟩
  · intro d v H' o ow e
    subst e
    obtain ⟨_, _, _, x, _⟩ := o
    exact x.1
omit KK in
theorem law_walk {l : PySem.W.OpenLaw} {k : Nat} {q : Program} {loose : List Str} {XP : (Str → Option Value) → Heap → Prop} {YP : World → Heap → Prop} {d : DefRec} {K : Params → PySem.W.Frag}
    (hn : l.most = some 63) (hdf : d.params.defaults = []) (hr : Room k callerA) (hY : ∀ (w : World) (h : Heap), YP w h → (K w.params).In h)
    (F : ∀ (w : World) (mg : Str → Option Value) (fa : Addr) (h : Heap), (K w.params).In h → h.Ns mainGlobals mg → mg d.name = some (.ref fa) →
      ∃ fd : FuncData, (∀ (s : Shared) (u : Value), BindsTo s fd ⟨[u], []⟩ [("script", u)]) ∧
        ∀ base : Heap, (K w.params).In base → base.Ns mainGlobals mg → FnOk l.prog w (K w.params) mg base (L2.CX l.prog w) k fa fd ["script"] (@spV ⟨K w.params⟩ 1 (@LawP))) :
    PySem.W.WalkO q loose XP YP l.row.toRowW d [] (fun f vs => PySem.call f vs) :=
  L2.walk_of (n := 63) (CX := fun w => L2.CX l.prog w) (sp := fun w => @spV ⟨K w.params⟩ 1 (@LawP)) hn (by decide) hdf hr hY F (fun w H a ns hl hO hS => law_start hl hO hS) fun w H s e s' hx => by
    obtain ⟨_, _, _, _, _, _, _, _, _, _, _, _, z⟩ := hx
    exact z.elim
end VL

/-! ## VLW -/
/-! VL: slices, stores at a place, a bare return, is and in. -/
namespace VL
open PySem PySem.Spec L2
open PyProof.Rows hiding St
variable [KK : KLs]
/-! ### slices -/
def cutD (xs : List D) (lo hi : Option Int) : List D := (xs.drop (HT.sIx xs.length 0 lo)).take (HT.sIx xs.length xs.length hi - HT.sIx xs.length 0 lo)
section
variable {Z B H : Hp}
theorem Dens.drop : ∀ (n : Nat) {ds : List D} {vs : List V}, Dens Z B H ds vs [] → Dens Z B H (ds.drop n) (vs.drop n) []
  | 0, _, _, h => h
  | n + 1, [], _, h => by rw [h.1]; exact ⟨rfl, rfl⟩
  | n + 1, d :: ds, _, ⟨v, ws, G1, G2, e, x, q, f⟩ => by
    subst e
    have f2 : G2 = [] := (List.append_eq_nil_iff.mp f.symm).2
    subst f2
    exact Dens.drop n q
theorem Dens.take : ∀ (n : Nat) {ds : List D} {vs : List V}, Dens Z B H ds vs [] → Dens Z B H (ds.take n) (vs.take n) []
  | 0, _, _, _ => ⟨rfl, rfl⟩
  | n + 1, [], _, h => by rw [h.1]; exact ⟨rfl, rfl⟩
  | n + 1, d :: ds, _, ⟨v, ws, G1, G2, e, x, q, f⟩ => by
    subst e
    have f1 : G1 = [] := (List.append_eq_nil_iff.mp f.symm).1
    have f2 : G2 = [] := (List.append_eq_nil_iff.mp f.symm).2
    subst f1 f2
    exact ⟨v, ws.take n, [], [], rfl, x, Dens.take n q, rfl⟩
theorem Dens.cut {ds : List D} {vs : List V} (h : Dens Z B H ds vs []) (lo hi : Option Int) : Dens Z B H (cutD ds lo hi) (cutV vs lo hi) [] := by
  unfold cutD cutV
  rw [h.len]
  exact Dens.take _ (Dens.drop _ h)
end
omit KK in
theorem alls_cut {p : Fl → Bool} {ds : List D} (h : D.alls p ds = true) (lo hi : Option Int) : D.alls p (cutD ds lo hi) = true := by
  rw [D.alls_eq, List.all_eq_true] at h ⊢
  intro x hx
  exact h x (List.mem_of_mem_drop (List.mem_of_mem_take hx))
omit KK in
theorem cut_all (ds : List D) {lo hi : Option Int} (h : HT.sIx ds.length 0 lo = 0 ∧ HT.sIx ds.length ds.length hi = ds.length) : cutD ds lo hi = ds := by
  unfold cutD
  rw [h.1, h.2]
  simp
abbrev TOv := Env → (Option Int → Prop) → Prop
def vNo : TOv := fun _ Q => Q none
def vPt (te : TEv) : TOv := fun ρ Q => te ρ fun d => match d with
  | .int i => Q (some i)
  | _ => False
def LO (T : TO) (t : TOv) : Prop := ∀ (B0 Z B H : Hp) (σ : L2.St) (ρ : Env) (Qd : Option Int → Prop) (Q : Option Int → Hp → Prop), Rep B0 Z B H σ ρ → t ρ Qd → (∀ o B' H', Grow B H B' H' → Qd o → Q o H') → T σ H Q
structure VO (X : Cx) (e : Option Expr) (T : TO) (t : TOv) : Prop where
  po : PO X e T
  lk : LO T t
theorem o_no {X : Cx} : VO X none tNoPart vNo := ⟨po_none, fun _ _ _ _ _ _ _ _ R h k => k _ _ _ (Grow.refl R.sub) h⟩
theorem o_pt {X : Cx} {e : Expr} {Te : TE} {te : TEv} (he : VE X e Te te) : VO X (some e) (tPart Te) (vPt te) := ⟨po_some he.pe, by
  intro B0 Z B H σ ρ Qd Q R h k
  refine he.lk B0 Z B H σ ρ _ _ R h fun d v H1 ⟨B1, F, g, x, n, f⟩ h => ?_
  split at h
  · exact ⟨_, x.1, k _ _ _ g h⟩
  · exact h.elim⟩
def vSl (te : TEv) (tl th : TOv) : TEv := fun ρ Q => te ρ fun d => tl ρ fun l => th ρ fun u => match d with
  | .nd .tup xs => D.alls coF xs = true ∧ Q (.tup (cutD xs l u))
  | .nd (.lst _) xs => D.alls coF xs = true ∧ Q (.lst .o (cutD xs l u))
  | _ => False
def rSlD (K : PySem.W.Frag) : V → Option Int → Option Int → Hp → L2.VK → Prop := fun x lo hi H Q => rSlL K x lo hi H Q ∨ rSlA K x lo hi H Q
theorem lk_sl {Te : TE} {te : TEv} {Tl Th : TO} {tl th : TOv} (le : LE Te te) (ll : LO Tl tl) (lh : LO Th th) : LE (tSl (rSlD KK.K) Te Tl Th) (vSl te tl th) := by
  intro B0 Z B H σ ρ Qd Q R h k
  refine le B0 Z B H σ ρ _ _ R h fun d v H1 ⟨B1, F, g1, x, n, f⟩ h => ?_
  refine ll B0 Z B1 H1 σ ρ _ _ (R.grow g1) h fun l B2 H2 g2 h => ?_
  refine lh B0 Z B2 H2 σ ρ _ _ ((R.grow g1).grow g2) h fun u B3 H3 g3 h => ?_
  have gr := g1.trans (g2.trans g3)
  have x3 := x.grow (g2.trans g3).sb (g2.trans g3).sh
  have sub := ((R.grow g1).grow g2 |>.grow g3).sub
  split at h
  · rename_i xs _ _ _
    obtain ⟨a, us, e1, t1, b1, y1⟩ := den_tup sub x3
    subst e1
    have ef := Dens.nofp _ _ _ h.1 y1
    subst ef
    refine .inr ⟨a, us, rfl, SqT.of t1, fun w => ?_, fun w p hp => ?_⟩
    · refine k (.tup (cutD xs l u)) _ _ ((Out.of sub ?_).after gr) h.2
      rw [cut_all xs (by rw [y1.len]; exact w)]
      exact ⟨a, _, us, [], rfl, b1, rfl, y1, rfl⟩
    · exact k _ _ _ ((out_tup (Outs.of sub (alls_cut h.1 l u) (y1.cut l u)) hp).after gr) h.2
  · rename_i f xs _ _ _
    obtain ⟨a, us, G, e1, t1, y1, _⟩ := den_lst sub x3
    subst e1
    have ef := Dens.nofp _ _ _ h.1 y1
    subst ef
    exact .inl ⟨a, us, rfl, t1, fun p hp => k _ _ _ ((out_lst (Outs.of sub (alls_cut h.1 l u) (y1.cut l u)) hp).after gr) h.2⟩
  · exact h.elim
section
variable {X : Cx} {e k a b : Expr} {lo hi : Option Expr} {pos p1 p2 p3 p4 : Pos} {Te Tk Ta Tb : TE} {te tk ta tb : TEv} {Tl Th : TO} {tl th : TOv} {x : Str} {n : Nat}
theorem e_sl (he : VE X e Te te) (hl : VO X lo Tl tl) (hh : VO X hi Th th) (hK : X.K = KK.K := by rfl) : VE X (.Subscript e (.Slice lo hi none p2) pos) (tSl (rSlD KK.K) Te Tl Th) (vSl te tl th) := by
  unfold rSlD
  rw [← hK]
  exact ⟨pe_slice (sl_list.or sl_tupA) he.pe hl.po hh.po, by rw [hK]; exact lk_sl he.lk hl.lk hh.lk⟩
/-! ### x[k] = e, return -/
theorem s_setIx (i : Nat) (he : VE X e Te te) (hk : VE X k Tk tk) (hN : X.N[i]? = some x := by rfl) (hv : Vis X.env.scope x := by first | exact Or.inl rfl | exact Or.inr (Or.inl rfl) | exact Or.inr (Or.inr rfl)) (hd : (x == ("__debug__" : Str)) = false := by decide) (hcd : (x == ("__classdict__" : Str)) = false := by decide)
    (hs : swapsWithSole [.Subscript (.Name x p1) k p2] e pos.line X.env = pure false := by rfl) (hw : swappedStores [.Subscript (.Name x p1) k p2] e X.env = pure none := by rfl)
    (ha : ∀ v, assign (.Subscript (.Name x p1) k p2) X.env v = (do
      let ov ← holding [v] (eval (.Name x p1) X.env)
      let iv ← holding [v, ov] (eval k X.env)
      standAt p2
      holding [v, ov, iv] (setItem ov iv v)
      release [v, ov, iv] []) := by intro _; rfl) :
    VS X (.Assign [.Subscript (.Name x p1) k p2] e pos) (tAsg Te (gSub (tVar i) Tk rSetL)) (vSetIx i tk te) :=
  ⟨ps_asg he.pe (pg_sub (pe_var hN hv hd hcd) hk.pe set_list ha) hs hw rfl, lk_setIx he.lk hk.lk⟩
def vRetN : TSv := fun W ρ => W.rt .non
theorem s_retN : VS X (.Return none pos) tRetN vRetN := ⟨ps_retN, by
  intro B0 Z B H σ ρ Dv De R h S
  exact S.rt .non .non H ⟨B, [], R.gr, den_non, List.nodup_nil, fun a h => nomatch h⟩ rfl h⟩
/-! ### is of bools -/
def dIsB (neg : Bool) : RDv := fun x y Q => match x, y with
  | .bl i, .bl j => Q (.bl (if neg then !decide (i = j) else decide (i = j)))
  | _, _ => False
theorem lr_isB : LR2 rIsB (dIsB false) := by
  intro B0 Z B H σ ρ x y vx vy F G Qd Q R dx dy h k
  unfold dIsB at h
  split at h
  · exact ⟨_, _, dx.1, dy.1, k _ _ _ (Out.of R.sub den_bl) h⟩
  · exact h.elim
theorem lr_notB : LR2 rNotB (dIsB true) := by
  intro B0 Z B H σ ρ x y vx vy F G Qd Q R dx dy h k
  unfold dIsB at h
  split at h
  · exact ⟨_, _, dx.1, dy.1, k _ _ _ (Out.of R.sub den_bl) h⟩
  · exact h.elim
theorem e_isB (ha : VE X a Ta ta) (hb : VE X b Tb tb) : VE X (.Compare a [.Is] [b] pos) (tOp rIsB Ta Tb) (vOp (dIsB false) ta tb) := ⟨pe_cmpR op_isBl ha.pe hb.pe (nomark _), lk_op lr_isB ha.lk hb.lk⟩
theorem e_notB (ha : VE X a Ta ta) (hb : VE X b Tb tb) : VE X (.Compare a [.IsNot] [b] pos) (tOp rNotB Ta Tb) (vOp (dIsB true) ta tb) := ⟨pe_cmpR op_notBl ha.pe hb.pe (nomark _), lk_op lr_notB ha.lk hb.lk⟩
/-! ### in, not in: plain data -/
def inB (x : D) (ys : List D) : Bool := (D.pys ys).any fun z => PyData.eqv z x.py
def dInN (neg : Bool) : RDv := fun x y Q => match x, y with
  | .int i, .nd .tup ys => match ints? ys with
    | some js => Q (.bl (if neg then !decide (i ∈ js) else decide (i ∈ js)))
    | none => False
  | .int i, .nd (.lst _) ys => match ints? ys with
    | some js => Q (.bl (if neg then !decide (i ∈ js) else decide (i ∈ js)))
    | none => False
  | x, .nd (.lst _) ys => x.okEq ∧ (D.lst .i ys).okEq ∧ Q (.bl (if neg then !inB x ys else inB x ys))
  | _, _ => False
abbrev dIn : RDv := dInN false
abbrev dNin : RDv := dInN true
def rInA : R2 := fun x y H Q => rIn KK.K false x y H Q ∨ rInD KK.K x y H Q
def rNinA : R2 := fun x y H Q => rIn KK.K true x y H Q ∨ rNotInD KK.K x y H Q
omit KK in
theorem flat_ints : ∀ js : List Int, (js.map V.int).all flatV = true
  | [] => rfl
  | j :: js => by rw [List.map_cons, List.all_cons, flat_ints js]; rfl
omit KK in
theorem inV_ints (i : Int) : ∀ js : List Int, inV (.int i) (js.map V.int) = decide (i ∈ js)
  | [] => rfl
  | j :: js => by
    have e := inV_ints i js
    unfold inV at e ⊢
    rw [List.map_cons, List.any_cons, e]
    by_cases h : i = j
    · subst h; simp [eqV]
    · have : (eqV (.int j) (.int i)) = false := by simp [eqV]; exact fun z => h z.symm
      rw [this]; simp [h]
theorem lr_in : LR2 rInA dIn := by
  intro B0 Z B H σ ρ x y vx vy F G Qd Q R dx dy h k
  unfold dIn dInN at h
  split at h
  · split at h
    · rename_i i ys _ js e
      obtain ⟨a, us, e1, t1, b1, y1⟩ := den_tup R.sub dy
      rw [ints_of e] at y1
      rw [dens_ints y1] at t1
      refine .inl ⟨a, _, e1, .inr (SqT.of t1), by rw [dx.1]; rfl, flat_ints js, k _ _ _ (Out.of R.sub ?_) h⟩
      rw [dx.1, inV_ints]; exact den_bl
    · exact h.elim
  · split at h
    · rename_i i f ys _ js e
      obtain ⟨a, us, G1, e1, t1, y1, _⟩ := den_lst R.sub dy
      rw [ints_of e] at y1
      rw [dens_ints y1] at t1
      refine .inl ⟨a, _, e1, .inl t1, by rw [dx.1]; rfl, flat_ints js, k _ _ _ (Out.of R.sub ?_) h⟩
      rw [dx.1, inV_ints]; exact den_bl
    · exact h.elim
  · rename_i f ys _
    obtain ⟨h1, h2, q⟩ := h
    have py : Dp KK.K H vy (.list (D.pys ys)) := Den.dp R.sub (.nd (.lst f) ys) vy _ (show D.plains ys = true from h2.1) dy
    exact .inr ⟨x.py, D.pys ys, dx.dp R.sub _ _ _ h1.1, py, h1.2, h2.2, k _ _ _ (Out.of R.sub den_bl) q⟩
  · exact h.elim
theorem lr_nin : LR2 rNinA dNin := by
  intro B0 Z B H σ ρ x y vx vy F G Qd Q R dx dy h k
  unfold dNin dInN at h
  split at h
  · split at h
    · rename_i i ys _ js e
      obtain ⟨a, us, e1, t1, b1, y1⟩ := den_tup R.sub dy
      rw [ints_of e] at y1
      rw [dens_ints y1] at t1
      refine .inl ⟨a, _, e1, .inr (SqT.of t1), by rw [dx.1]; rfl, flat_ints js, k _ _ _ (Out.of R.sub ?_) h⟩
      rw [dx.1, inV_ints]; exact den_bl
    · exact h.elim
  · split at h
    · rename_i i f ys _ js e
      obtain ⟨a, us, G1, e1, t1, y1, _⟩ := den_lst R.sub dy
      rw [ints_of e] at y1
      rw [dens_ints y1] at t1
      refine .inl ⟨a, _, e1, .inl t1, by rw [dx.1]; rfl, flat_ints js, k _ _ _ (Out.of R.sub ?_) h⟩
      rw [dx.1, inV_ints]; exact den_bl
    · exact h.elim
  · rename_i f ys _
    obtain ⟨h1, h2, q⟩ := h
    have py : Dp KK.K H vy (.list (D.pys ys)) := Den.dp R.sub (.nd (.lst f) ys) vy _ (show D.plains ys = true from h2.1) dy
    exact .inr ⟨x.py, D.pys ys, dx.dp R.sub _ _ _ h1.1, py, h1.2, h2.2, k _ _ _ (Out.of R.sub den_bl) q⟩
  · exact h.elim
theorem e_in (hr : Room n X.A) (ha : VE X a Ta ta) (hb : VE X b Tb tb) (hm : behindInMarks .In b = false := by rfl) (hK : X.K = KK.K := by rfl) : VE X (.Compare a [.In] [b] pos) (tOp rInA Ta Tb) (vOp dIn ta tb) := by
  unfold rInA
  rw [← hK]
  exact ⟨pe_cmpR (op_in_seq.or (op_inD (by have := hr.un; omega))) ha.pe hb.pe hm, by rw [hK]; exact lk_op lr_in ha.lk hb.lk⟩
theorem e_nin (hr : Room n X.A) (ha : VE X a Ta ta) (hb : VE X b Tb tb) (hm : behindInMarks .NotIn b = false := by rfl) (hK : X.K = KK.K := by rfl) : VE X (.Compare a [.NotIn] [b] pos) (tOp rNinA Ta Tb) (vOp dNin ta tb) := by
  unfold rNinA
  rw [← hK]
  exact ⟨pe_cmpR (op_notIn_seq.or (op_notInD (by have := hr.un; omega))) ha.pe hb.pe hm, by rw [hK]; exact lk_op lr_nin ha.lk hb.lk⟩
theorem t_in (hr : Room n X.A) (ha : VE X a Ta ta) (hb : VE X b Tb tb) (hm : behindInMarks .In b = false := by rfl) (hK : X.K = KK.K := by rfl) : VT X (.Compare a [.In] [b] pos) (tTest (tOp rInA Ta Tb)) (vTest (vOp dIn ta tb)) := by
  unfold rInA
  rw [← hK]
  exact ⟨pt_cmpR (op_in_seq.or (op_inD (by have := hr.un; omega))) ha.pe hb.pe hm, by rw [hK]; exact lk_test (lk_op lr_in ha.lk hb.lk)⟩
theorem t_nin (hr : Room n X.A) (ha : VE X a Ta ta) (hb : VE X b Tb tb) (hm : behindInMarks .NotIn b = false := by rfl) (hK : X.K = KK.K := by rfl) : VT X (.Compare a [.NotIn] [b] pos) (tTest (tOp rNinA Ta Tb)) (vTest (vOp dNin ta tb)) := by
  unfold rNinA
  rw [← hK]
  exact ⟨pt_cmpR (op_notIn_seq.or (op_notInD (by have := hr.un; omega))) ha.pe hb.pe hm, by rw [hK]; exact lk_test (lk_op lr_nin ha.lk hb.lk)⟩
theorem t_isB (ha : VE X a Ta ta) (hb : VE X b Tb tb) : VT X (.Compare a [.Is] [b] pos) (tTest (tOp rIsB Ta Tb)) (vTest (vOp (dIsB false) ta tb)) := ⟨pt_cmpR op_isBl ha.pe hb.pe (nomark _), lk_test (lk_op lr_isB ha.lk hb.lk)⟩
theorem t_notB (ha : VE X a Ta ta) (hb : VE X b Tb tb) : VT X (.Compare a [.IsNot] [b] pos) (tTest (tOp rNotB Ta Tb)) (vTest (vOp (dIsB true) ta tb)) := ⟨pt_cmpR op_notBl ha.pe hb.pe (nomark _), lk_test (lk_op lr_notB ha.lk hb.lk)⟩
end
end VL

/-! ## VLX -/
/-! VL: dicts whose keys are ints and texts. -/
namespace VL
open PySem PySem.Spec L2
open PyProof.Rows hiding St
variable [KK : KLs]
/-! ### tables -/
def kD : Key → D
  | .inl i => .int i
  | .inr x => .str x
/-- what stands at a key -/
def kfind {κ α : Type} [DecidableEq κ] : List κ → List α → κ → Option α
  | k0 :: ks, x :: xs, k => if k0 = k then some x else kfind ks xs k
  | _, _, _ => none
def D.key : D → Option Key
  | .int i => some (.inl i)
  | .str x => some (.inr x)
  | _ => none
omit KK in
theorem valV_zip {κ : Type} [DecidableEq κ] {k : κ} : ∀ (ks : List κ) (vs : List V), valV (ks.zip vs) k = kfind ks vs k
  | [], vs => by simp [valV, kfind]
  | k0 :: ks, [] => by simp [valV, kfind]
  | k0 :: ks, v :: vs => by
    rw [List.zip_cons_cons, kfind]
    by_cases e : k0 = k
    · rw [valV_pos (p := (k0, v)) e, if_pos e]
    · rw [valV_neg (p := (k0, v)) e, valV_zip ks vs, if_neg e]
section
variable {Z B H : Hp}
theorem lookup_key {κ : Type} [DecidableEq κ] {k : κ} : ∀ {ks : List κ} {xs : List D} {vs : List V} {F : List Addr} {d : D}, Dens Z B H xs vs F → kfind ks xs k = some d → ∃ v G, kfind ks vs k = some v ∧ Den Z B H d v G
  | [], xs, vs, F, d, _, h => by simp [kfind] at h
  | n :: ns, [], vs, F, d, _, h => by simp [kfind] at h
  | n :: ns, x :: xs, _, _, d, ⟨v, ws, G1, G2, e, y, q, f'⟩, h => by
    subst e
    rw [kfind] at h ⊢
    by_cases e : n = k
    · rw [if_pos e] at h ⊢; cases h; exact ⟨v, G1, rfl, y⟩
    · rw [if_neg e] at h ⊢; exact lookup_key q h
theorem lookup_key_none {κ : Type} [DecidableEq κ] {k : κ} : ∀ {ks : List κ} {xs : List D} {vs : List V} {F : List Addr}, Dens Z B H xs vs F → kfind ks xs k = none → kfind ks vs k = none
  | [], xs, vs, F, _, h => by simp [kfind]
  | n :: ns, [], vs, F, q, h => by rw [q.1]; simp [kfind]
  | n :: ns, x :: xs, _, _, ⟨v, ws, G1, G2, e, y, q, f'⟩, h => by
    subst e
    rw [kfind] at h ⊢
    by_cases e : n = k
    · rw [if_pos e] at h; cases h
    · rw [if_neg e] at h ⊢; exact lookup_key_none q h
theorem D.key_den {y : D} {v : V} {F : List Addr} {k : Key} (h : Den Z B H y v F) (e : y.key = some k) : v = kV k := by
  cases y with
  | int i => cases e; exact h.1
  | str x => cases e; exact h.1
  | _ => exact nomatch e
/-- a dict that can be read -/
theorem den_dct {f : Fl} {ks : List Key} {xs : List D} {v : V} {F : List Addr} (s : Same B H) (n : f.ls ≠ .x) (h : Den Z B H (.nd (.dct f ks) xs) v F) : ∃ a vs G, v = .ref a ∧ Rd H a (.dK (ks.zip vs)) ∧ ks.length = vs.length ∧ Dens Z B H xs vs G := by
  obtain ⟨a, o, vs, G, e, x, c, q, f'⟩ := h
  obtain ⟨l, c⟩ := c
  subst c
  refine ⟨a, vs, G, e, ?_, l, q⟩
  have x : At Z B H f.ls a (.dK (ks.zip vs)) := x
  rcases x.rd s n with h | ⟨us, e, _⟩
  · exact h
  · cases e
end
def rdF (f : Fl) : Bool := match f.ls with | .x => false | _ => true
theorem rdF_ok {f : Fl} (h : rdF f = true) : f.ls ≠ .x := ls_ne f
/-- d[k] -/
def vDGet (td ty : TEv) : TEv := fun ρ Q => td ρ fun d => ty ρ fun y => match d, y.key with
  | .nd (.dct f ks) xs, some k => rdF f = true ∧ match kfind ks xs k with
    | some d => Q d.bor
    | none => False
  | _, _ => False
theorem lk_dget {Td Ty : TE} {td ty : TEv} (ld : LE Td td) (ly : LE Ty ty) : LE (tDGet Td Ty) (vDGet td ty) := by
  intro B0 Z B H σ ρ Qd Q R h k
  refine ld B0 Z B H σ ρ _ _ R h fun x vx H1 ⟨B1, F, g, dx, n, fr⟩ h => ?_
  refine ly B0 Z B1 H1 σ ρ _ _ (R.grow g) h fun y vy H2 ⟨B2, F2, g2, dy, n2, fr2⟩ h => ?_
  split at h
  · rename_i f ks xs k' e1 _ _
    obtain ⟨hf, h⟩ := h
    split at h
    · rename_i d e2
      obtain ⟨a, vs, G, ev, rd, l, q⟩ := den_dct g2.sub (rdF_ok hf) (dx.grow g2.sb g2.sh)
      obtain ⟨v, G', e3, y3⟩ := lookup_key q e2
      refine ⟨a, v, ev, .inl ⟨_, k', rd, D.key_den dy e1, ?_⟩, k _ _ _ ((Out.of g2.sub y3.see).after (g.trans g2)) h⟩
      rw [valV_zip, e3]
    · exact h.elim
  · exact h.elim
/-- k in d, k not in d -/
def vDIn (neg : Bool) (ty td : TEv) : TEv := fun ρ Q => ty ρ fun y => td ρ fun d => match d, y.key with
  | .nd (.dct f ks) xs, some k => rdF f = true ∧ Q (.bl (if neg then !(kfind ks xs k).isSome else (kfind ks xs k).isSome))
  | _, _ => False
theorem din_get {Z B H : Hp} {f : Fl} {ks : List Key} {xs : List D} {vx vy : V} {F G : List Addr} {y : D} {k : Key} (s : Same B H) (hf : rdF f = true) (dx : Den Z B H (.nd (.dct f ks) xs) vx F) (dy : Den Z B H y vy G) (e : y.key = some k) : ∃ a o, vx = .ref a ∧ DGet H a vy o ∧ o.isSome = (kfind ks xs k).isSome := by
  obtain ⟨a, vs, G, ev, rd, l, q⟩ := den_dct s (rdF_ok hf) dx
  refine ⟨a, _, ev, .inl ⟨_, k, rd, D.key_den dy e, rfl⟩, ?_⟩
  rw [valV_zip]
  cases h : kfind ks xs k with
  | none => rw [lookup_key_none q h]; rfl
  | some d => obtain ⟨v, G', e3, _⟩ := lookup_key q h; rw [e3]; rfl
theorem lk_din {Td Ty : TE} {td ty : TEv} (ly : LE Ty ty) (ld : LE Td td) : LE (tDIn Ty Td) (vDIn false ty td) := by
  intro B0 Z B H σ ρ Qd Q R h k
  refine ly B0 Z B H σ ρ _ _ R h fun y vy H1 ⟨B1, F, g, dy, n, fr⟩ h => ?_
  refine ld B0 Z B1 H1 σ ρ _ _ (R.grow g) h fun x vx H2 ⟨B2, F2, g2, dx, n2, fr2⟩ h => ?_
  split at h
  · rename_i f ks xs k' e1 _
    obtain ⟨a, o, ev, gt, eo⟩ := din_get g2.sub h.1 dx (dy.grow g2.sb g2.sh) e1
    refine ⟨a, o, ev, gt, k _ _ _ ((Out.of g2.sub ?_).after (g.trans g2)) h.2⟩
    rw [eo]; exact den_bl
  · exact h.elim
theorem lk_dnin {Td Ty : TE} {td ty : TEv} (ly : LE Ty ty) (ld : LE Td td) : LE (tDNotIn Ty Td) (vDIn true ty td) := by
  intro B0 Z B H σ ρ Qd Q R h k
  refine ly B0 Z B H σ ρ _ _ R h fun y vy H1 ⟨B1, F, g, dy, n, fr⟩ h => ?_
  refine ld B0 Z B1 H1 σ ρ _ _ (R.grow g) h fun x vx H2 ⟨B2, F2, g2, dx, n2, fr2⟩ h => ?_
  split at h
  · rename_i f ks xs k' e1 _
    obtain ⟨a, o, ev, gt, eo⟩ := din_get g2.sub h.1 dx (dy.grow g2.sb g2.sh) e1
    refine ⟨a, o, ev, gt, k _ _ _ ((Out.of g2.sub ?_).after (g.trans g2)) h.2⟩
    rw [eo]; exact den_bl
  · exact h.elim
/-! ### displays -/
def LP (trs : List (TE × TE)) (ks : List Key) (t : TAv) : Prop := ∀ (B0 Z B H : Hp) (σ : L2.St) (ρ : Env) (Qd : List D → Prop) (Q : List (V × V) → Hp → Prop), Rep B0 Z B H σ ρ → t ρ Qd →
  (∀ ds vs H', Outs Z B H ds vs H' → Qd ds → vs.length = ks.length → Q ((ks.zip vs).map fun kv => (kV kv.1, kv.2)) H') → tPairs trs σ H Q
structure VP (X : Cx) (pos : Pos) (keys : List (Option Expr)) (values : List Expr) (trs : List (TE × TE)) (ks : List Key) (t : TAv) : Prop where
  pp : PPs X pos keys values trs
  lk : LP trs ks t
theorem p_nil {X : Cx} {pos : Pos} : VP X pos [] [] [] [] vNil := ⟨pps_nil, fun _ _ _ _ _ _ _ _ R h k => k [] [] _ (Outs.nil R.sub) h rfl⟩
theorem p_str {X : Cx} {pos p0 : Pos} {x : Str} {j : Nat} {v : Expr} {kes : List (Option Expr)} {vs : List Expr} {Tv : TE} {tv : TEv} {trs : List (TE × TE)} {ks : List Key} {t : TAv} (hv : VE X v Tv tv) (hr : VP X pos kes vs trs ks t) :
    VP X pos (some (.Constant (.str x) j p0) :: kes) (v :: vs) ((tC (.str x), Tv) :: trs) (.inr x :: ks) (vCons tv t) := ⟨pps_cons pe_str hv.pe hr.pp, by
  intro B0 Z B H σ ρ Qd Q R h k
  refine hv.lk B0 Z B H σ ρ _ _ R h fun d v H1 ⟨B1, F, g, dx, n, f⟩ h => ?_
  exact hr.lk B0 Z B1 H1 σ ρ _ _ (R.grow g) h fun ds vs H2 o q l => k (d :: ds) (v :: vs) H2 (Outs.cons g dx n f o) q (by simp [l])⟩
omit KK in
theorem merge_zip : ∀ (kvs acc : List (Key × V)), (kvs.map (·.1)).Nodup → (∀ p ∈ kvs, ∀ q ∈ acc, q.1 ≠ p.1) → mergeK acc kvs = acc ++ kvs
  | [], acc, _, _ => by simp [mergeK]
  | p :: r, acc, nd, h => by
    have e : putK acc p.1 p.2 = acc ++ [p] := by
      unfold putK
      rw [if_neg]
      intro z
      rw [List.any_eq_true] at z
      obtain ⟨q, hq, e⟩ := z
      exact h p List.mem_cons_self q hq (of_decide_eq_true e)
    rw [List.map_cons, List.nodup_cons] at nd
    have := merge_zip r (acc ++ [p]) nd.2 fun a ha q hq => by
      rcases List.mem_append.mp hq with hq | hq
      · exact h a (List.mem_cons_of_mem _ ha) q hq
      · have : q = p := by simpa using hq
        subst this
        exact fun z => nd.1 (by rw [z]; exact List.mem_map.mpr ⟨a, ha, rfl⟩)
    show mergeK (putK acc p.1 p.2) r = acc ++ p :: r
    rw [e, this, List.append_assoc]; rfl
omit KK in
theorem zip_fst : ∀ (ks : List Key) (vs : List V), vs.length = ks.length → (ks.zip vs).map (·.1) = ks
  | [], _, _ => by simp
  | k :: ks, [], h => by simp at h
  | k :: ks, v :: vs, h => by rw [List.zip_cons_cons, List.map_cons, zip_fst ks vs (by simpa using h)]
def vDisp (ks : List Key) (t : TAv) : TEv := fun ρ Q => t ρ fun ds => D.alls nbF ds = true ∧ Q (.dct .o ks ds)
theorem lk_disp {trs : List (TE × TE)} {ks : List Key} {t : TAv} (l : LP trs ks t) (nd : ks.Nodup) (h15 : ks.length ≤ 15) : LE (tDisp trs) (vDisp ks t) := by
  intro B0 Z B H σ ρ Qd Q R h k p hp
  have g0 := Grow.new (o := .dK []) R.sub hp
  refine l B0 Z B _ σ ρ _ _ (R.grow g0) h fun ds vs H2 ⟨B1, F, g, q, n, f⟩ ⟨nb, h⟩ lv => ?_
  have h2p : H2 p = some (.dK []) := g.sh _ _ upd_same
  refine ⟨h2p, ks.zip vs, rfl, by rw [List.length_zip]; omega, ?_⟩
  rw [merge_zip _ _ (by rw [zip_fst ks vs lv]; exact nd) (fun _ _ q hq => absurd hq List.not_mem_nil), List.nil_append]
  have ne : ∀ a ∈ F, a ≠ p := fun a h e => by
    have := (f a h).2
    rw [e, upd_same] at this
    cases this
  have b1p : B1 p = none := g.old p _ upd_same (R.sub.free hp)
  refine k (.dct .o ks ds) _ _ ⟨B1, p :: F, ⟨g.sb, fun b o e => ?_, fun b o e => ?_, fun a o e1 e2 => ?_⟩, ⟨p, _, vs, F, rfl, upd_same, ⟨lv.symm, rfl⟩, ?_, rfl⟩, List.nodup_cons.mpr ⟨fun h => ne p h rfl, n⟩, fun a h => ?_⟩ h
  · rw [upd_ne (ne_of_none e hp)]
    exact (g0.trans g).sh _ _ e
  · have bp : b ≠ p := fun z => by rw [z, b1p] at e; cases e
    rw [upd_ne bp]; exact g.sub _ _ e
  · exact (g0.trans g).old a o e1 e2
  · exact Dens.keep _ _ _ nb (fun a ha => upd_ne (ne a ha)) q
  · rcases List.mem_cons.mp h with e | h
    · subst e
      exact ⟨b1p, hp⟩
    · have e := (f a h).2
      rw [upd_ne (ne a h)] at e
      exact ⟨(f a h).1, e⟩
section
variable {X : Cx} {d i e : Expr} {pos p1 p2 : Pos} {Td Ti Te : TE} {td ti te : TEv} {n : Nat} {keys : List (Option Expr)} {values : List Expr} {trs : List (TE × TE)} {ks : List Key} {t : TAv} {x : Str}
theorem e_disp (h : VP X pos keys values trs ks t) (nd : ks.Nodup := by decide +kernel) (hl15 : ks.length ≤ 15 := by decide) (hall : keys.all (·.isSome) = true := by rfl) (hl : keys.length = values.length := by rfl) (h0 : keys ≠ [] := by exact fun z => nomatch z) (h15 : keys.length ≤ 15 := by decide) : VE X (.Dict keys values pos) (tDisp trs) (vDisp ks t) := ⟨pe_disp h.pp hall hl h0 h15, lk_disp h.lk nd hl15⟩
theorem e_dget (hr : Room n X.A) (hd : VE X d Td td) (hi : VE X i Ti ti) (hs : NoSl i := by exact fun _ _ => rfl) : VE X (.Subscript d i pos) (tDGet Td Ti) (vDGet td ti) := ⟨pe_dget (by have := hr.un; omega) hd.pe hi.pe hs, lk_dget hd.lk hi.lk⟩
theorem e_din (hr : Room n X.A) (hi : VE X i Ti ti) (hd : VE X d Td td) (h1 : behindInMarks .In d = false := by rfl) : VE X (.Compare i [.In] [d] pos) (tDIn Ti Td) (vDIn false ti td) := ⟨pe_cmp (pc_din (by have := hr.un; omega) hi.pe hd.pe) h1, lk_din hi.lk hd.lk⟩
theorem e_dnin (hr : Room n X.A) (hi : VE X i Ti ti) (hd : VE X d Td td) (h1 : behindInMarks .NotIn d = false := by rfl) : VE X (.Compare i [.NotIn] [d] pos) (tDNotIn Ti Td) (vDIn true ti td) := ⟨pe_cmp (pc_dnotin (by have := hr.un; omega) hi.pe hd.pe) h1, lk_dnin hi.lk hd.lk⟩
end
/-! ### d[k] = e, d a name -/
def kput {κ α : Type} [DecidableEq κ] : List κ → List α → κ → α → List α
  | k0 :: ks, x :: xs, k, d => if k0 = k then d :: xs else x :: kput ks xs k d
  | _, _, _, d => [d]
def kadd {κ : Type} [DecidableEq κ] : List κ → κ → List κ
  | k0 :: ks, k => if k0 = k then k0 :: ks else k0 :: kadd ks k
  | [], k => [k]
omit KK in
theorem map_other {κ : Type} [DecidableEq κ] {k : κ} {v : V} : ∀ (ks : List κ) (vs : List V), k ∉ ks → ((ks.zip vs).map fun kv => if kv.1 = k then (kv.1, v) else kv) = ks.zip vs
  | [], vs, _ => by simp
  | k0 :: ks, [], _ => by simp
  | k0 :: ks, x :: vs, h => by
    rw [List.zip_cons_cons, List.map_cons, map_other ks vs fun z => h (List.mem_cons_of_mem _ z), if_neg (fun z => h (by rw [← z]; exact List.mem_cons_self))]
omit KK in
theorem any_other {κ : Type} [DecidableEq κ] {k : κ} : ∀ (ks : List κ) (vs : List V), k ∉ ks → ((ks.zip vs).any fun kv => decide (kv.1 = k)) = false
  | [], vs, _ => by simp
  | k0 :: ks, [], _ => by simp
  | k0 :: ks, x :: vs, h => by
    rw [List.zip_cons_cons, List.any_cons, any_other ks vs fun z => h (List.mem_cons_of_mem _ z), decide_eq_false (fun z => h (by rw [← z]; exact List.mem_cons_self))]; rfl
omit KK in
theorem put_zip {κ : Type} [DecidableEq κ] {k : κ} {v : V} : ∀ (ks : List κ) (vs : List V), ks.length = vs.length → ks.Nodup → putK (ks.zip vs) k v = (kadd ks k).zip (kput ks vs k v)
  | [], vs, l, _ => by
    cases vs with
    | nil => rfl
    | cons _ _ => simp at l
  | k0 :: ks, [], l, _ => by simp at l
  | k0 :: ks, x :: vs, l, nd => by
    rw [List.nodup_cons] at nd
    have ih := put_zip (k := k) (v := v) ks vs (by simpa using l) nd.2
    rw [kadd, kput]
    unfold putK at ih ⊢
    rw [List.zip_cons_cons, List.any_cons, List.map_cons]
    by_cases e : k0 = k
    · subst e
      rw [if_pos rfl, if_pos rfl, decide_eq_true (show (k0, x).1 = k0 from rfl), Bool.true_or, if_pos rfl, if_pos rfl, map_other _ _ nd.1]
      rfl
    · rw [if_neg e, if_neg e, decide_eq_false (show ¬ (k0, x).1 = k from e), Bool.false_or, if_neg (show ¬ (k0, x).1 = k from e)]
      rw [List.zip_cons_cons, ← ih]
      split <;> rfl
theorem Dens.kput {κ : Type} [DecidableEq κ] {Z B H : Hp} {d : D} {v : V} {F : List Addr} {k : κ} (x : Den Z B H d v F) : ∀ {ks : List κ} {ds : List D} {vs : List V} {G : List Addr}, ks.length = vs.length → Dens Z B H ds vs G → G.Nodup → F.Nodup → (∀ b ∈ F, b ∉ G) →
    ∃ G', Dens Z B H (kput ks ds k d) (kput ks vs k v) G' ∧ G'.Nodup ∧ ∀ b ∈ G', b ∈ G ∨ b ∈ F
  | [], ds, vs, G, l, q, nG, nF, dj => by
    have : vs = [] := List.length_eq_zero_iff.mp l.symm
    subst this
    have : ds = [] := List.length_eq_zero_iff.mp q.len
    subst this
    exact ⟨F, Dens.one x, nF, fun b hb => .inr hb⟩
  | k0 :: ks, [], vs, G, l, q, _, _, _ => by
    have := q.1
    subst this
    simp at l
  | k0 :: ks, d0 :: ds, _, G, l, ⟨w, ws, G1, G2, e, y, q, f⟩, nG, nF, dj => by
    subst e f
    have nd := List.nodup_append.mp nG
    rw [VL.kput, VL.kput]
    by_cases e : k0 = k
    · rw [if_pos e, if_pos e]
      refine ⟨F ++ G2, ⟨v, ws, F, G2, rfl, x, q, rfl⟩, List.nodup_append.mpr ⟨nF, nd.2.1, fun a ha b hb z => ?_⟩, fun b hb => ?_⟩
      · subst z; exact dj a ha (List.mem_append.mpr (.inr hb))
      · rcases List.mem_append.mp hb with h | h
        · exact .inr h
        · exact .inl (List.mem_append.mpr (.inr h))
    · rw [if_neg e, if_neg e]
      obtain ⟨G', q', n', s'⟩ := Dens.kput x (ks := ks) (by simpa using l) q nd.2.1 nF fun b hb z => dj b hb (List.mem_append.mpr (.inr z))
      refine ⟨G1 ++ G', ⟨w, _, G1, G', rfl, y, q', rfl⟩, List.nodup_append.mpr ⟨nd.1, n', fun a ha b hb z => ?_⟩, fun b hb => ?_⟩
      · subst z
        rcases s' a hb with h | h
        · exact nd.2.2 a ha a h rfl
        · exact dj a h (List.mem_append.mpr (.inl ha))
      · rcases List.mem_append.mp hb with h | h
        · exact .inl (List.mem_append.mpr (.inl h))
        · rcases s' b h with h | h
          · exact .inl (List.mem_append.mpr (.inr h))
          · exact .inr h
omit KK in
theorem alls_kput {κ : Type} [DecidableEq κ] {p : Fl → Bool} {d : D} {k : κ} : ∀ {ks : List κ} {ds : List D}, D.alls p ds = true → d.all p = true → D.alls p (kput ks ds k d) = true
  | [], ds, h, h2 => by unfold kput; simp [D.alls, h2]
  | k0 :: ks, [], h, h2 => by unfold kput; simp [D.alls, h2]
  | k0 :: ks, d0 :: ds, h, h2 => by
    have n' : d0.all p = true ∧ D.alls p ds = true := by simpa [D.alls] using h
    rw [kput]
    split
    · simp [D.alls, h2, n'.2]
    · simp [D.alls, n'.1, alls_kput (ks := ks) (k := k) n'.2 h2]
omit KK in
theorem kput_len {κ α : Type} [DecidableEq κ] {k : κ} {v : α} : ∀ (ks : List κ) (vs : List α), ks.length = vs.length → (kadd ks k).length = (kput ks vs k v).length
  | [], vs, l => by
    have : vs = [] := List.length_eq_zero_iff.mp l.symm
    subst this; rfl
  | k0 :: ks, [], l => by simp at l
  | k0 :: ks, x :: vs, l => by
    rw [kadd, kput]
    split
    · simpa using l
    · rw [List.length_cons, List.length_cons, kput_len ks vs (by simpa using l)]
def vDPut (i : Nat) (ti te : TEv) : TSv := fun W ρ => te ρ fun d => match ρ[i]? with
  | some (some (.nd (.dct .o ks) xs)) => ti ρ fun y => match y.key with
    | some k => d.nb = true ∧ ks.Nodup ∧ ks.length < 1000000 ∧ W.nx (ρ.set i (some (.dct .o (kadd ks k) (kput ks xs k d))))
    | _ => False
  | _ => False
theorem lk_dput {i : Nat} {Te Ti : TE} {te ti : TEv} (l : LE Te te) (li : LE Ti ti) : LS (sDPut (tVar i) Ti Te) (vDPut i ti te) := by
  intro B0 Z B H σ ρ Dv De R h S
  refine l B0 Z B H σ ρ _ _ R h fun d v H1 ⟨B1, F, g, x, nF, fF⟩ h => ?_
  split at h
  · rename_i ks xs e
    obtain ⟨a, o0, vs, G, h1, hx, c, y, nb, ng, aG, fG, W⟩ := R.write (h := .dct .o ks) e (.inl rfl)
    obtain ⟨lk, c⟩ := c
    subst c
    refine ⟨_, h1, ?_⟩
    refine li B0 Z B1 H1 σ ρ _ _ (R.grow g) h fun ky kv H2 ⟨B2, F2, g2, x2, _, _⟩ h => ?_
    split at h
    · rename_i k ek
      obtain ⟨nbd, nk, hl, q⟩ := h
      have g12 := g.trans g2
      have live : ∀ b ∈ G, ∃ o, H b = some o := Dens.live _ _ _ y
      obtain ⟨G', q', n', s'⟩ := Dens.kput (k := k) (x.grow g2.sb g2.sh) (ks := ks) lk (Dens.grow g12.sb g12.sh _ _ _ y) ng nF fun b hb z => by
        obtain ⟨o, eo⟩ := live b z
        rw [(fF b hb).2] at eo; cases eo
      refine ⟨a, _, rfl, .inl ⟨_, k, g12.sh _ _ hx, D.key_den x2 ek, by rw [List.length_zip]; exact million (by omega), rfl⟩, ?_⟩
      rw [put_zip ks vs lk nk]
      refine S.nx _ _ _ _ (W (.dct .o (kadd ks k)) (kput ks xs k d) _ B2 H2 (kput ks vs k v) G' rfl g12 ⟨kput_len ks vs lk, rfl⟩ q' n' (alls_kput nb nbd) (fun b hb => ?_)) q
      rcases s' b hb with h | h
      · exact .inl h
      · obtain ⟨o, eo⟩ := x.live _ _ _ b h
        exact .inr ⟨g2.old b o eo (fF b h).1, (fF b h).2⟩
    · exact h.elim
  · exact h.elim
section
variable {X : Cx} {k e : Expr} {pos p1 p2 : Pos} {Tk Te : TE} {tk te : TEv} {n : Nat} {x : Str}
theorem s_dput (hr : Room n X.A) (i : Nat) (he : VE X e Te te) (hk : VE X k Tk tk) (hN : X.N[i]? = some x := by rfl) (hv : Vis X.env.scope x := by first | exact Or.inl rfl | exact Or.inr (Or.inl rfl) | exact Or.inr (Or.inr rfl)) (hd : (x == ("__debug__" : Str)) = false := by decide) (hcd : (x == ("__classdict__" : Str)) = false := by decide)
    (hs : swapsWith e (some (.Subscript (.Name x p1) k p2)) pos.line X.env = pure false := by rfl) : VS X (.Assign [.Subscript (.Name x p1) k p2] e pos) (sDPut (tVar i) Tk Te) (vDPut i tk te) :=
  ⟨ps_dput (by have := hr.un; omega) (pe_var hN hv hd hcd) hk.pe he.pe hs, lk_dput he.lk hk.lk⟩
end
end VL

/-! ## VLZ -/
/-! VL: zip of tuples. -/
namespace VL
open PySem PySem.Spec L2
open PyProof.Rows hiding St
variable [KK : KLs]
def pairsD (xs ys : List D) : List D := List.zipWith (fun x y => D.tup [x, y]) xs ys
theorem pairsD_get {xs ys : List D} {i : Nat} {d : D} (h : (pairsD xs ys)[i]? = some d) : ∃ x y, xs[i]? = some x ∧ ys[i]? = some y ∧ d = .tup [x, y] := by
  unfold pairsD at h
  rw [List.getElem?_zipWith] at h
  split at h
  · rename_i x y hx hy
    exact ⟨x, y, hx, hy, (Option.some.inj h).symm⟩
  · cases h
theorem pairsD_co {xs ys : List D} (h1 : D.alls coF xs = true) (h2 : D.alls coF ys = true) : D.alls coF (pairsD xs ys) = true := by
  rw [D.alls_eq, List.all_eq_true]
  intro d hd
  obtain ⟨i, hi⟩ := List.getElem?_of_mem hd
  obtain ⟨x, y, hx, hy, rfl⟩ := pairsD_get hi
  have a := alls_at h1 hx
  have b := alls_at h2 hy
  simp [D.all, D.alls, Hd.fl, coF] at a b ⊢
  exact ⟨a, b⟩
theorem yields_zipT {Z B H : Hp} {a b : Addr} {xs ys : List D} {vs ws : List V} {F G : List Addr} (ha : B a = some (.tup vs)) (hb : B b = some (.tup ws)) (q1 : Dens Z B H xs vs F) (q2 : Dens Z B H ys ws G) (n1 : D.alls coF xs = true) (n2 : D.alls coF ys = true) : Yields Z B (RZ.ItzT KK.K a b) (pairsD xs ys) := by
  intro B' H' sb s
  have h1 : SqT KK.K H' a vs := SqT.of (s _ _ (sb _ _ ha))
  have h2 : SqT KK.K H' b ws := SqT.of (s _ _ (sb _ _ hb))
  have l1 := q1.len
  have l2 := q2.len
  have hl : (pairsD xs ys).length = min xs.length ys.length := by simp [pairsD]
  refine ⟨fun i d e => ?_, ⟨vs, ws, h1, h2, by rw [hl]; omega⟩⟩
  obtain ⟨x, y, hx, hy, rfl⟩ := pairsD_get e
  obtain ⟨v, G1, e1, d1, _⟩ := q1.at hx
  obtain ⟨w, G2, e2, d2, _⟩ := q2.at hy
  refine ⟨⟨vs, ws, v, w, h1, h2, e1, e2⟩, fun z H'' yy => ?_⟩
  obtain ⟨T, x', y', rfl, hT, rfl, k1, k2⟩ := yy
  have e3 := k1 vs h1
  rw [e1] at e3
  cases e3
  have e4 := k2 ws h2
  rw [e2] at e4
  cases e4
  have nx := alls_at n1 hx
  have ny := alls_at n2 hy
  have dx := Den.fixed (H' := H') sb x v G1 nx d1
  have dy := Den.fixed (H' := H') sb y w G2 ny d2
  have co : D.alls coF [x, y] = true := by simp [D.alls]; exact ⟨nx, ny⟩
  exact out_tup (Outs.of s co ⟨v, [w], G1, G2, rfl, dx, Dens.one dy, rfl⟩) hT
def vZip (ta tb : TEv) : TIv := fun ρ R => ta ρ fun d => tb ρ fun e => match d, e with
  | .nd .tup xs, .nd .tup ys => D.alls coF xs = true ∧ D.alls coF ys = true ∧ R (pairsD xs ys)
  | _, _ => False
theorem lk_zip {Ta Tb : TE} {ta tb : TEv} (la : LE Ta ta) (lb : LE Tb tb) : LI (RZ.iZipA KK.K (tCons Ta (tCons Tb tNil))) (vZip ta tb) := by
  intro B0 Z B H σ ρ R RR Rp h k
  refine la B0 Z B H σ ρ _ _ Rp h fun d v H1 ⟨B1, F, g, x, n, f⟩ q => ?_
  refine lb B0 Z B1 H1 σ ρ _ _ (Rp.grow g) q fun e w H2 ⟨B2, G, g2, y, n2, f2⟩ q => ?_
  split at q
  · rename_i xs ys
    obtain ⟨c1, c2, q⟩ := q
    obtain ⟨a, vs, e1, t1, b1, y1⟩ := den_tup g.sub x
    obtain ⟨b, ws, e2, t2, b2, y2⟩ := den_tup g2.sub y
    refine ⟨a, b, vs, ws, by rw [e1, e2], .inr ⟨SqT.of (g2.sh _ _ t1), SqT.of t2, ?_⟩⟩
    exact k _ B2 H2 _ (g.trans g2) (yields_zipT (g2.sb _ _ b1) b2 (Dens.grow g2.sb g2.sh _ _ _ y1) y2 c1 c2) (pairsD_co c1 c2) q
  · exact q.elim
theorem i_zip {X : Cx} {a b : Expr} {Ta Tb : TE} {ta tb : TEv} {p pos tpos : Pos} {elts : List Expr} {kk : Nat} (hm : X.mg "zip" = none) (ha : VE X a Ta ta) (hb : VE X b Tb tb) (hg : Gl X "zip" := by rfl)
    (hs : starEach [a, b] X.env = (false, eval a X.env) :: starEach [b] X.env := by rfl) (hs2 : starEach [b] X.env = [(false, eval b X.env)] := by rfl) (hpl : (backTo pos (starEach [b] X.env)).any (·.1) = false := by rfl) (hK : X.K = KK.K := by rfl) :
    VI X (.Tuple elts kk tpos) (.Call (.Name "zip" p) [a, b] [] pos) (RZ.iZipA KK.K (tCons Ta (tCons Tb tNil))) (vZip ta tb) := by
  rw [← hK]
  exact ⟨RZ.pi_zipA hg hm (pa_cons ha.pe (pa_cons hb.pe pa_nil hs2) hs) hs hpl, by rw [hK]; exact lk_zip ha.lk hb.lk⟩
end VL

/-! ## VLY -/
/-! VL: an own dict locked while it is walked; {}; sorted. -/
namespace VL
open PySem PySem.Spec L2
open PyProof.Rows hiding St
variable [KK : KLs]
/-! ### the lock -/
/-- what may be handed on behind a lock -/
def unF : Fl → Bool | .i => true | .o => true | .l => true | .a => true | _ => false
def cutB (B : Hp) (a : Addr) : Hp := fun b => if b = a then none else B b
omit KK in
theorem cutB_ne {B : Hp} {a b : Addr} (h : b ≠ a) : cutB B a b = B b := if_neg h
omit KK in
theorem cutB_same {B : Hp} {a : Addr} : cutB B a a = none := if_pos rfl
omit KK in
theorem Cont.nofrz {h : Hd} {o : HO} {vs : List V} (c : Cont h o vs) : ∀ ob u, o ≠ .frz ob u := by
  intro ob u e
  subst e
  cases h with
  | tup => cases c
  | lst f => cases c
  | dct f ks => cases c.2
  | dtt f ks => cases c.2
  | obj C ns => obtain ⟨_, dx, e⟩ := c; cases e
  | slf f C ns => obtain ⟨_, dx, e⟩ := c; cases e
  | lsk f => cases c
section
variable {Z B H : Hp} {a : Addr} {ob : Obj} {u o : HO}
theorem At.unlock (hB : B a = some (.frz ob u)) (hH : H a = some (.frz ob u)) {f : Fl} {b : Addr} {o' : HO} (nf : ∀ ob u, o' ≠ .frz ob u) (n : unF f = true) (x : At Z B H f b o') : At Z (cutB B a) (upd H a o) f b o' := by
  have nB : ∀ {X : Hp}, X a = some (.frz ob u) → X b = some o' → b ≠ a := fun h1 h2 e => by
    subst e; rw [h1] at h2; exact nf _ _ (Option.some.inj h2).symm
  cases f with
  | i => exact (cutB_ne (nB hB x)).trans x
  | a => exact (cutB_ne (nB hB x)).trans x
  | l => exact ⟨(cutB_ne (nB hB x.1)).trans x.1, x.2⟩
  | o => exact (upd_ne (nB hH x)).trans x
  | s => exact nomatch n
  | b => exact nomatch n
  | c y => exact nomatch n
  | d => exact nomatch n
  | x => exact nomatch n
mutual
theorem Den.unlock (hB : B a = some (.frz ob u)) (hH : H a = some (.frz ob u)) : ∀ (d : D) (v : V) (F : List Addr), d.all unF = true → Den Z B H d v F → Den Z (cutB B a) (upd H a o) d v F
  | .non, _, _, _, h => h
  | .bl _, _, _, _, h => h
  | .int _, _, _, _, h => h
  | .str _, _, _, _, h => h
  | .cst _, _, _, _, h => h
  | .nd h ds, _, _, n, ⟨b, o', vs, G, e, x, c, q, f⟩ => by
    have n' : unF h.fl = true ∧ D.alls unF ds = true := by simpa [D.all] using n
    exact ⟨b, o', vs, G, e, At.unlock hB hH c.nofrz n'.1 x, c, Dens.unlock hB hH ds vs G n'.2 q, f⟩
theorem Dens.unlock (hB : B a = some (.frz ob u)) (hH : H a = some (.frz ob u)) : ∀ (ds : List D) (vs : List V) (F : List Addr), D.alls unF ds = true → Dens Z B H ds vs F → Dens Z (cutB B a) (upd H a o) ds vs F
  | [], _, _, _, h => h
  | d :: ds, _, _, n, ⟨v, ws, G1, G2, e, x, q, f⟩ => by
    have n' : d.all unF = true ∧ D.alls unF ds = true := by simpa [D.alls] using n
    exact ⟨v, ws, G1, G2, e, Den.unlock hB hH d v G1 n'.1 x, Dens.unlock hB hH ds ws G2 n'.2 q, f⟩
end
end
theorem Rep.lock {B0 Z B H : Hp} {σ : L2.St} {ρ : VL.Env} {i : Nat} {ks : List Key} {xs : List D} (R : Rep B0 Z B H σ ρ) (e : ρ[i]? = some (some (.dct .o ks xs))) (co : D.alls coF xs = true) :
    ∃ a vs, ks.length = vs.length ∧ H a = some (.dK (ks.zip vs)) ∧ B a = none ∧ ∀ od, Rep B0 Z (upd B a (.frz od (.dK (ks.zip vs)))) (upd H a (.frz od (.dK (ks.zip vs)))) σ (ρ.set i (some (.dct .s ks xs))) := by
  obtain ⟨F, q, n, z⟩ := R.ex
  obtain ⟨v, G, Rr, h1, h2, h3, h4, h5, h6, h7, h8⟩ := q.part n e
  obtain ⟨a, o, vs, G', ev, x, c, y, f⟩ := h3
  have x : H a = some o := x
  obtain ⟨l, c⟩ := c
  subst c
  have eG := Dens.nofp xs vs G' co y
  subst eG
  have f : G = [a] := f
  subst f
  have za := z a (h6 a (.inl List.mem_cons_self))
  refine ⟨a, vs, l, x, za.1, fun od => ?_⟩
  have sb : Same B (upd B a (.frz od (.dK (ks.zip vs)))) := fun b o' eb => by
    have : b ≠ a := fun hb => by subst hb; rw [za.1] at eb; cases eb
    rw [upd_ne this]; exact eb
  have kH : ∀ b, b ≠ a → upd H a (.frz od (.dK (ks.zip vs))) b = H b := fun b hb => upd_ne hb
  have sub : Same (upd B a (.frz od (.dK (ks.zip vs)))) (upd H a (.frz od (.dK (ks.zip vs)))) := fun b o' eb => by
    by_cases hb : b = a
    · subst hb; rw [upd_same] at eb ⊢; exact eb
    · rw [upd_ne hb] at eb ⊢; exact R.sub _ _ eb
  have y2 : Dens Z (upd B a (.frz od (.dK (ks.zip vs)))) (upd H a (.frz od (.dK (ks.zip vs)))) xs vs [] := Dens.fixed sb xs vs [] co y
  have x2 : Den Z (upd B a (.frz od (.dK (ks.zip vs)))) (upd H a (.frz od (.dK (ks.zip vs)))) (.dct .s ks xs) v [] := ⟨a, _, vs, [], ev, .inl ⟨od, upd_same⟩, ⟨l, rfl⟩, y2, rfl⟩
  have q2 := (h8.grow sb (Same.refl _)).keep (H' := upd H a (.frz od (.dK (ks.zip vs)))) fun b hb => kH b fun e2 => h5 a List.mem_cons_self (e2 ▸ hb)
  have nb : D.nb (.dct .s ks xs) = true := by
    have := D.alls_imp (p := coF) (q := nbF) (fun f e => by cases f <;> first | rfl | exact nomatch e) xs co
    show (nbF .s && D.alls nbF xs) = true
    rw [this]; rfl
  obtain ⟨F', k1, k2, k3⟩ := q2.fill (length_of_get e) h1 h7 nb x2 List.nodup_nil (fun a h => nomatch h)
  refine ⟨⟨R.gr.sb.trans sb, fun b o' eb => ?_, sub, fun b o' eb nbb => ?_⟩, F', k1, k2, fun b hb => ?_⟩
  · have hb : b ≠ a := fun hb => by subst hb; rw [za.2] at eb; cases eb
    rw [kH b hb]; exact R.gr.sh _ _ eb
  · have hb : b ≠ a := fun hb => by subst hb; rw [za.2] at eb; cases eb
    rw [upd_ne hb]; exact R.gr.old _ _ eb nbb
  · rcases k3 b hb with m | m
    · have hz := z b (h6 b (.inr m))
      have hba : b ≠ a := fun e2 => h5 a List.mem_cons_self (e2 ▸ m)
      exact ⟨by rw [upd_ne hba]; exact hz.1, hz.2⟩
    · cases m
theorem Out.unlock {Z B H H2 : Hp} {a : Addr} {od : Obj} {u : HO} {d : D} {v : V} (hu : H a = some u) (hb : B a = none) (n : d.all unF = true) (o : Out Z (upd B a (.frz od u)) (upd H a (.frz od u)) d v H2) : Out Z B H d v (upd H2 a u) := by
  obtain ⟨B2, F, g, x, nf, fr⟩ := o
  have b2 : B2 a = some (.frz od u) := g.sb _ _ upd_same
  have h2 : H2 a = some (.frz od u) := g.sh _ _ upd_same
  refine ⟨cutB B2 a, F, ⟨fun b o' e => ?_, fun b o' e => ?_, fun b o' e => ?_, fun b o' e nb => ?_⟩, Den.unlock b2 h2 d v F n x, nf, fun b m => ?_⟩
  · have hba : b ≠ a := fun z => by subst z; rw [hb] at e; cases e
    rw [cutB_ne hba]
    exact g.sb _ _ (by rw [upd_ne hba]; exact e)
  · by_cases hba : b = a
    · subst hba; rw [upd_same, ← hu]; exact e
    · rw [upd_ne hba]
      exact g.sh _ _ (by rw [upd_ne hba]; exact e)
  · have hba : b ≠ a := fun z => by subst z; rw [cutB_same] at e; cases e
    rw [cutB_ne hba] at e
    rw [upd_ne hba]; exact g.sub _ _ e
  · by_cases hba : b = a
    · subst hba; exact cutB_same
    · rw [cutB_ne hba]
      exact g.old b o' (by rw [upd_ne hba]; exact e) (by rw [upd_ne hba]; exact nb)
  · have z := fr b m
    have hba : b ≠ a := fun e => by subst e; rw [upd_same] at z; cases z.2
    rw [cutB_ne hba]
    refine ⟨z.1, ?_⟩
    have := z.2
    rw [upd_ne hba] at this
    exact this
def vLock (i : Nat) (te : TEv) : TEv := fun ρ Q => match ρ[i]? with
  | some (some (.nd (.dct .o ks) xs)) => D.alls coF xs = true ∧ te (ρ.set i (some (.dct .s ks xs))) fun d => d.all unF = true ∧ Q d
  | _ => False
theorem lk_lock {i : Nat} {T : TE} {t : TEv} (l : LE T t) : LE (tLockE T) (vLock i t) := by
  intro B0 Z B H σ ρ Qd Q R h k
  unfold vLock at h
  split at h
  · rename_i ks xs e
    obtain ⟨co, h⟩ := h
    obtain ⟨a, vs, hl, ha, hb, L⟩ := R.lock e co
    refine ⟨a, _, ha, True.intro, fun od => ?_⟩
    refine l B0 Z _ _ σ _ _ _ (L od) h fun d v H2 o q => ⟨?_, ?_⟩
    · obtain ⟨B2, F, g, _⟩ := o
      exact g.sh _ _ upd_same
    · exact k d v _ (Out.unlock ha hb q.1 o) q.2
  · exact h.elim
theorem e_lock {X : Cx} {e : Expr} {T : TE} {t : TEv} (i : Nat) (h : VE X e T t) : VE X e (tLockE T) (vLock i t) := ⟨pe_lock h.pe, lk_lock h.lk⟩
/-! ### the walk -/
def vItD (te : TEv) : TIv := fun ρ R => te ρ fun d => match d with
  | .nd (.dct .s ks) _ => R (ks.map kD)
  | _ => False
theorem kD_co (ks : List Key) : D.alls coF (ks.map kD) = true := by
  rw [D.alls_eq, List.all_eq_true]
  intro d hd
  obtain ⟨k, _, rfl⟩ := List.mem_map.mp hd
  cases k <;> rfl
theorem den_kD {Z B H : Hp} (k : Key) : Den Z B H (kD k) (kV k) [] := by
  cases k with
  | inl i => exact ⟨rfl, rfl⟩
  | inr x => exact ⟨rfl, rfl⟩
theorem yields_keys {Z B : Hp} {a : Addr} {ob : Obj} {ks : List Key} {vs : List V} (hl : ks.length = vs.length) (hb : B a = some (.frz ob (.dK (ks.zip vs)))) : Yields Z B (Itk a ob (ks.zip vs)) (ks.map kD) := by
  intro B' H' sb s
  have hs : H' a = some (.frz ob (.dK (ks.zip vs))) := s _ _ (sb _ _ hb)
  have lz : (ks.zip vs).length = ks.length := by rw [List.length_zip]; omega
  refine ⟨fun i d e => ?_, ⟨hs, by rw [lz, List.length_map]; exact Nat.le_refl _⟩⟩
  have hi : i < ks.length := by have := (List.getElem?_eq_some_iff.mp e).1; rwa [List.length_map] at this
  refine ⟨⟨hs, by rw [lz]; exact hi⟩, fun x H'' y => ?_⟩
  obtain ⟨rfl, k, v, e2, rfl⟩ := y
  rw [List.getElem?_map, List.getElem?_eq_getElem hi] at e
  have ed : kD ks[i] = d := Option.some.inj e
  have ek : k = ks[i] := by
    have h2 : i < vs.length := by omega
    rw [List.getElem?_eq_getElem (by rw [lz]; exact hi)] at e2
    have := Option.some.inj e2
    rw [List.getElem_zip] at this
    exact (congrArg Prod.fst this).symm
  subst ed ek
  exact Out.of s (den_kD _)
theorem lk_itD {Te : TE} {te : TEv} (l : LE Te te) : LI (iKeys Te) (vItD te) := by
  intro B0 Z B H σ ρ R RR Rp h k
  refine l B0 Z B H σ ρ _ _ Rp h fun d v H1 o q => ?_
  split at q
  · rename_i ks xs
    obtain ⟨B1, F, g, x, nf, fr⟩ := o
    obtain ⟨a, o', vs, G, e, x, c, y, f⟩ := x
    obtain ⟨hl, c⟩ := c
    subst c
    rcases (show (∃ ob, B1 a = some (.frz ob (.dK (ks.zip vs)))) ∨ ∃ xs, HO.dK (ks.zip vs) = .lst xs ∧ KLst a xs from x) with ⟨ob, hb⟩ | ⟨us, e2, _⟩
    · exact ⟨a, ob, e, .inl ⟨_, g.sub _ _ hb, k _ B1 H1 _ g (yields_keys hl hb) (kD_co ks) q⟩⟩
    · cases e2
  · exact q.elim
theorem i_keys {X : Cx} {tg e : Expr} {Te : TE} {te : TEv} (he : VE X e Te te) : VI X tg e (iKeys Te) (vItD te) := ⟨pi_keys he.pe, lk_itD he.lk⟩
/-! ### {} -/
def vDct0 : TEv := fun _ Q => Q (.dct .o [] [])
theorem lk_dct0 : LE tDNewK vDct0 := by
  intro B0 Z B H σ ρ Qd Q R h k p hp
  refine k _ _ _ ?_ h
  have g := Grow.new (o := HO.dK []) R.sub hp
  refine ⟨B, [p], g, ⟨p, _, [], [], rfl, upd_same, ⟨rfl, rfl⟩, ⟨rfl, rfl⟩, rfl⟩, by simp, fun a h => ?_⟩
  have e : a = p := by simpa using h
  subst e
  exact ⟨R.sub.free hp, hp⟩
theorem e_dct0 {X : Cx} {pos : Pos} : VE X (.Dict [] [] pos) tDNewK vDct0 := ⟨pe_dnewK, lk_dct0⟩
/-! ### sorted: ints; pairs of ints -/
def pairs? : List D → Option (List (Int × Int))
  | [] => some []
  | .nd .tup [.int i, .int j] :: ds => (pairs? ds).map ((i, j) :: ·)
  | _ => none
abbrev pD (p : Int × Int) : D := .tup [.int p.1, .int p.2]
theorem pairs_of : ∀ {ds : List D} {ns : List (Int × Int)}, pairs? ds = some ns → ds = ns.map pD := by
  intro ds
  induction ds with
  | nil => intro ns h; cases h; rfl
  | cons d ds ih =>
    intro ns h
    unfold pairs? at h
    split at h
    · rename_i e; cases e
    · rename_i i j ds' e
      injection e with e1 e2
      subst e1 e2
      cases q : pairs? ds with
      | none => rw [q] at h; cases h
      | some ms =>
        rw [q] at h
        cases h
        rw [ih q]; rfl
    · cases h
theorem pairs_map : ∀ ns : List (Int × Int), pairs? (ns.map pD) = some ns
  | [] => rfl
  | n :: ns => by rw [List.map_cons, pairs?, pairs_map ns]; rfl
/-- sorted by the first, then by the second -/
def leP (x y : Int × Int) : Prop := x.1 < y.1 ∨ (x.1 = y.1 ∧ x.2 ≤ y.2)
def dSorted : RNv := fun ds Q => match ds with
  | [.nd (.lst _) xs] => match ints? xs with
    | some ns => ∀ ms : List Int, ms.Perm ns → ms.Pairwise (· ≤ ·) → Q (.lst .o (ms.map .int))
    | none => False
  | _ => False
def dSortedP : RNv := fun ds Q => match ds with
  | [.nd (.lst _) xs] => match pairs? xs with
    | some ns => ∀ ms : List (Int × Int), ms.Perm ns → ms.Pairwise leP → Q (.lst .o (ms.map pD))
    | none => False
  | _ => False
section
variable {Z B H : Hp}
theorem int_dens : ∀ (ns : List Int), Dens Z B H (ns.map D.int) (ns.map V.int) []
  | [] => ⟨rfl, rfl⟩
  | n :: ns => ⟨_, _, [], [], rfl, ⟨rfl, rfl⟩, int_dens ns, rfl⟩
end
theorem lr_sorted : LRn (rSortedI KK.K) dSorted := by
  intro B0 Z B H σ ρ ds vs F Qd Q R q h k
  unfold dSorted at h
  split at h
  · split at h
    · rename_i f xs ns e
      obtain ⟨v, e1, x⟩ := dens_one q
      obtain ⟨a, ws, G, e2, t, y, _⟩ := den_lst R.sub x
      subst e2
      rw [ints_of e] at y
      rw [dens_ints y] at t
      refine ⟨a, ns, e1, t, fun ns' p pm pw hp => k _ _ _ (out_lst ?_ hp) (h ns' pm pw)⟩
      exact ⟨B, [], Grow.refl R.sub, int_dens ns', List.nodup_nil, fun a h => nomatch h⟩
    · exact h.elim
  · exact h.elim
theorem dens_pairs {Z B H : Hp} (s : Same B H) : ∀ {ns : List (Int × Int)} {vs : List V} {F : List Addr}, Dens Z B H (ns.map pD) vs F → ∃ k : V → Int × Int, ∀ x, x ∈ vs → ∃ t, x = V.ref t ∧ H t = some (.tup [.int (k x).1, .int (k x).2]) := by
  intro ns vs F q
  let k : V → Int × Int := fun x => match x with
    | .ref t => match H t with
      | some (.tup [.int i, .int j]) => (i, j)
      | _ => (0, 0)
    | _ => (0, 0)
  refine ⟨k, ?_⟩
  induction ns generalizing vs F with
  | nil => intro x hx; rw [q.1] at hx; cases hx
  | cons n ns ih =>
    obtain ⟨v, ws, G1, G2, e, x, q, f⟩ := q
    subst e
    intro y hy
    rcases List.mem_cons.mp hy with rfl | hy
    · obtain ⟨a, us, e2, t, tb, yy⟩ := den_tup s x
      subst e2
      have eu := dens_int2 yy
      subst eu
      exact ⟨a, rfl, by show H a = some (.tup [.int (k (.ref a)).1, .int (k (.ref a)).2]); have : k (.ref a) = (n.1, n.2) := by
                          show (match H a with | some (.tup [.int i, .int j]) => (i, j) | _ => (0, 0)) = _
                          rw [t]
                        rw [this]; exact t⟩
    · exact ih q y hy
/-- a list of items in any order: each item's own datum -/
theorem dens_perm_map {Z B H : Hp} {α : Type} {emb : α → D} (co : ∀ a, (emb a).all coF = true) {f : V → α} : ∀ {ws : List V} , (∀ w, w ∈ ws → Den Z B H (emb (f w)) w []) → Dens Z B H ((ws.map f).map emb) ws []
  | [], _ => ⟨rfl, rfl⟩
  | w :: ws, h => ⟨w, ws, [], [], rfl, h w List.mem_cons_self, dens_perm_map co fun v hv => h v (List.mem_cons_of_mem _ hv), rfl⟩
theorem lr_sortedP : LRn (rSortedPO KK.K) dSortedP := by
  intro B0 Z B H σ ρ ds vs F Qd Q R q h k
  unfold dSortedP at h
  split at h
  · split at h
    · rename_i f xs ns e
      obtain ⟨v, e1, x⟩ := dens_one q
      obtain ⟨a, ws, G, e2, t, y, _⟩ := den_lst R.sub x
      subst e2
      rw [pairs_of e] at y
      obtain ⟨kf, hk⟩ := dens_pairs R.sub y
      refine ⟨a, ws, kf, e1, t, hk, fun ys p hs hb hp => ?_⟩
      -- each item of ws with its datum
      have key : ∀ {ms : List (Int × Int)} {us : List V} {G : List Addr}, Dens Z B H (ms.map pD) us G → (∀ x, x ∈ us → ∃ t, x = V.ref t ∧ H t = some (.tup [.int (kf x).1, .int (kf x).2])) → us.map kf = ms ∧ ∀ w, w ∈ us → Den Z B H (pD (kf w)) w [] := by
        intro ms
        induction ms with
        | nil => intro us G d _; rw [d.1]; exact ⟨rfl, fun w h => nomatch h⟩
        | cons m ms ih =>
          intro us G d hk
          obtain ⟨v, us', G1, G2, e, x, d, f⟩ := d
          subst e
          obtain ⟨i1, i2⟩ := ih d fun x hx => hk x (List.mem_cons_of_mem _ hx)
          have nf := Den.nofp (pD m) v G1 rfl x
          subst nf
          have em : kf v = m := by
            obtain ⟨t, e, ht⟩ := hk v List.mem_cons_self
            obtain ⟨a, zs, e2, t2, tb, yy⟩ := den_tup R.sub x
            have ez := dens_int2 yy
            subst ez
            rw [e2] at e
            cases e
            rw [t2] at ht
            have h3 := Option.some.inj ht
            injection h3 with h3
            injection h3 with h4 h5
            injection h5 with h5 h6
            injection h4 with h4
            injection h5 with h5
            exact Prod.ext h4.symm h5.symm
          refine ⟨by rw [List.map_cons, i1, em], fun w hw => ?_⟩
          rcases List.mem_cons.mp hw with rfl | hw
          · rw [em]; exact x
          · exact i2 w hw
      obtain ⟨k1, k2⟩ := key y hk
      have pm : ys.Perm ws := hb.perm
      refine k _ _ _ (out_lst (ds := (ys.map kf).map pD) ?_ hp) (h (ys.map kf) ?_ ?_)
      · exact ⟨B, [], Grow.refl R.sub, dens_perm_map (fun _ => rfl) fun w hw => k2 w (pm.mem_iff.mp hw), List.nodup_nil, fun a h => nomatch h⟩
      · rw [← k1]; exact pm.map kf
      · rw [List.pairwise_map]
        refine List.Pairwise.imp ?_ hs
        intro x y hxy
        have := SrtO.lexB_no.mp hxy
        unfold leP
        omega
    · exact h.elim
  · exact h.elim
section
variable {X : Cx} {p pos : Pos} {e : Expr} {es : List Expr} {T : TA} {t : TAv}
theorem e_sorted (hm : X.mg "sorted" = none) (ha : VA X (e :: es) T t) (hg : Gl X "sorted" := by rfl)
    (he : starEach (e :: es) X.env = (false, eval e X.env) :: starEach es X.env := by rfl) (hpl : (backTo pos (starEach es X.env)).any (·.1) = false := by rfl) (hK : X.K = KK.K := by rfl) : VE X (.Call (.Name "sorted" p) (e :: es) [] pos) (tCB (rSortedI KK.K) T) (vB dSorted t) := by
  rw [← hK]
  exact e_callB cr_sortedI (by rw [hK]; exact lr_sorted) hg hm (by decide +kernel) ha (by decide) (by decide) he hpl
theorem e_sortedP (hm : X.mg "sorted" = none) (ha : VA X (e :: es) T t) (hg : Gl X "sorted" := by rfl)
    (he : starEach (e :: es) X.env = (false, eval e X.env) :: starEach es X.env := by rfl) (hpl : (backTo pos (starEach es X.env)).any (·.1) = false := by rfl) (hK : X.K = KK.K := by rfl) : VE X (.Call (.Name "sorted" p) (e :: es) [] pos) (tCB (rSortedPO KK.K) T) (vB dSortedP t) := by
  rw [← hK]
  exact e_callB cr_sortedPO (by rw [hK]; exact lr_sortedP) hg hm (by decide +kernel) ha (by decide) (by decide) he hpl
end
/-! ### x = [.. for .. in an own dict] -/
theorem lk_asgK {i : Nat} {T : TE} {t : TEv} (l : LE (tLockE T) t) : LS (tLock (tAsg T (gName i))) (vAsg i t) := by
  intro B0 Z B H σ ρ Dv De R h S
  have := l B0 Z B H σ ρ _ (fun v H' => De.nx (σ.set i (some v)) H') R h fun d v H1 o q => by
    obtain ⟨B1, g, R1⟩ := R.set (i := i) o q.1
    exact S.nx _ _ _ _ R1 q.2
  exact this
theorem lk_asgLK {i : Nat} {T : TE} {t : TEv} (l : LE (tLockE T) t) : LS (tLock (tAsg T (gName i))) (vAsgL i t) := by
  intro B0 Z B H σ ρ Dv De R h S
  have := lk_asgL (i := i) l B0 Z B H σ ρ Dv De R h S
  exact this
section
variable {X : Cx} {elt tg iter e : Expr} {ifs : List Expr} {scope : Scope} {own : List (Str × Nat)} {pos py spos : Pos} {wi : TI} {ti : TIv} {g : TG} {gv : TGv} {vg : List Nat} {Tt : TT} {tt : TTv} {Te : TE} {te : TEv} {y x : Str}
theorem s_lcDL (dd i : Nat) (hc : X.calm = true) (hN : X.N.Nodup) (hi : VI X tg iter wi ti) (ok : BlkOk X.N X.env.scope scope own)
    (hg : ∀ (s : Shared) (H : Hp) (C : Addr) (cl : List (Str × Addr)) (fp : List Addr), VG (X.blk s H scope (compEnvC scope cl C X.env) fp) tg g gv vg) (hv : ∀ i ∈ vg, i ∈ own.map (·.2))
    (ht : ∀ (s : Shared) (H : Hp) (C : Addr) (cl : List (Str × Addr)) (fp : List Addr), VTs (X.blk s H scope (compEnvC scope cl C X.env) fp) ifs Tt tt)
    (he : ∀ (s : Shared) (H : Hp) (C : Addr) (cl : List (Str × Addr)) (fp : List Addr), VE (X.blk s H scope (compEnvC scope cl C X.env) fp) elt Te te)
    (hy : X.N[i]? = some y := by rfl) (hyl : X.env.scope.names.lookup y = some .local := by rfl)
    (hsw : swapsWith (.ListComp elt [⟨tg, iter, ifs, 0⟩] scope pos) (some (.Name y py)) spos.line X.env = pure true := by exact sw_true rfl rfl rfl (by decide +kernel)) (hs : ∀ x, foldedSetIterable iter X.env x = pure x := by intro _; rfl) :
    VS X (.Assign [.Name y py] (.ListComp elt [⟨tg, iter, ifs, 0⟩] scope pos) spos) (tLock (tAsg (tLc wi g Tt Te (own.map (·.2))) (gName i))) (vAsgL i (vLock dd (vLc ti gv tt te (own.map (·.2))))) :=
  ⟨ps_lock (ps_setLc hc hN hy hyl hsw hi.pi ok (fun s H C cl fp => (hg s H C cl fp).pg) (fun s H C cl fp => (ht s H C cl fp).pt) (fun s H C cl fp => (he s H C cl fp).pe) hs), lk_asgLK (lk_lock (lk_lc hi.lk (hg X.s_0 X.H_0 0 [] []).lk hv (ht X.s_0 X.H_0 0 [] []).lk (he X.s_0 X.H_0 0 [] []).lk))⟩
theorem s_lcD (dd i : Nat) (hc : X.calm = true) (hN : X.N.Nodup) (hi : VI X tg iter wi ti) (ok : BlkOk X.N X.env.scope scope own)
    (hg : ∀ (s : Shared) (H : Hp) (C : Addr) (cl : List (Str × Addr)) (fp : List Addr), VG (X.blk s H scope (compEnvC scope cl C X.env) fp) tg g gv vg) (hv : ∀ i ∈ vg, i ∈ own.map (·.2))
    (ht : ∀ (s : Shared) (H : Hp) (C : Addr) (cl : List (Str × Addr)) (fp : List Addr), VTs (X.blk s H scope (compEnvC scope cl C X.env) fp) ifs Tt tt)
    (he : ∀ (s : Shared) (H : Hp) (C : Addr) (cl : List (Str × Addr)) (fp : List Addr), VE (X.blk s H scope (compEnvC scope cl C X.env) fp) elt Te te)
    (hy : X.N[i]? = some y := by rfl) (hyl : X.env.scope.names.lookup y = some .local := by rfl)
    (hsw : swapsWith (.ListComp elt [⟨tg, iter, ifs, 0⟩] scope pos) (some (.Name y py)) spos.line X.env = pure true := by exact sw_true rfl rfl rfl (by decide +kernel)) (hs : ∀ x, foldedSetIterable iter X.env x = pure x := by intro _; rfl) :
    VS X (.Assign [.Name y py] (.ListComp elt [⟨tg, iter, ifs, 0⟩] scope pos) spos) (tLock (tAsg (tLc wi g Tt Te (own.map (·.2))) (gName i))) (vAsg i (vLock dd (vLc ti gv tt te (own.map (·.2))))) :=
  ⟨ps_lock (ps_setLc hc hN hy hyl hsw hi.pi ok (fun s H C cl fp => (hg s H C cl fp).pg) (fun s H C cl fp => (ht s H C cl fp).pt) (fun s H C cl fp => (he s H C cl fp).pe) hs), lk_asgK (lk_lock (lk_lc hi.lk (hg X.s_0 X.H_0 0 [] []).lk hv (ht X.s_0 X.H_0 0 [] []).lk (he X.s_0 X.H_0 0 [] []).lk))⟩
end
section
variable {X : Cx} {d i : Expr} {pos : Pos} {Td Ti : TE} {td ti : TEv} {n : Nat}
theorem t_din (hr : Room n X.A) (hi : VE X i Ti ti) (hd : VE X d Td td) (h1 : behindInMarks .In d = false := by rfl) : VT X (.Compare i [.In] [d] pos) (tB (tDIn Ti Td)) (vTest (vDIn false ti td)) := ⟨pt_cmp (pc_din (by have := hr.un; omega) hi.pe hd.pe) h1, lk_val (lk_din hi.lk hd.lk)⟩
theorem t_dnin (hr : Room n X.A) (hi : VE X i Ti ti) (hd : VE X d Td td) (h1 : behindInMarks .NotIn d = false := by rfl) : VT X (.Compare i [.NotIn] [d] pos) (tB (tDNotIn Ti Td)) (vTest (vDIn true ti td)) := ⟨pt_cmp (pc_dnotin (by have := hr.un; omega) hi.pe hd.pe) h1, lk_val (lk_dnin hi.lk hd.lk)⟩
end
end VL

/-! ## VLQ -/
/-! VL: x[k].append(e), x an own list of own lists. -/
namespace VL
open PySem PySem.Spec L2
open PyProof.Rows hiding St
variable [KK : KLs]
theorem Dens.poke {Z B H : Hp} : ∀ {xs : List D} {vs : List V} {G : List Addr} {j : Nat} {ys : List D}, Dens Z B H xs vs G → G.Nodup → D.alls nbF xs = true → xs[j]? = some (.lst .o ys) → D.alls coF ys = true →
    ∃ aj us, vs[j]? = some (.ref aj) ∧ aj ∈ G ∧ H aj = some (.lst us) ∧ Dens Z B H ys us [] ∧
      ∀ (B' H' : Hp) (ds' : List D) (us' : List V), Same B B' → (∀ b, b ≠ aj → b ∈ G → H' b = H b) → H' aj = some (.lst us') → Dens Z B' H' ds' us' [] → Dens Z B' H' (xs.set j (.lst .o ds')) vs G
  | [], _, _, j, _, _, _, _, e, _ => by simp at e
  | d0 :: ds, _, _, 0, ys, ⟨v, ws, G1, G2, ev, x, q, f⟩, n, nb, e, co => by
    subst ev f
    simp at e
    subst e
    obtain ⟨a, o, us, G', ea, xa, c, y, f'⟩ := x
    subst ea
    have c : o = .lst us := c
    subst c
    have xa : H a = some (.lst us) := xa
    have eG := Dens.nofp ys us G' co y
    subst eG
    have f' : G1 = [a] := f'
    subst f'
    have nb' : D.alls nbF ds = true := by
      have : nbF (Hd.lst Fl.o).fl && D.alls nbF ys && D.alls nbF ds = true := by simpa [D.alls, D.all] using nb
      simp at this; exact this.2
    refine ⟨a, us, rfl, by simp, xa, y, fun B' H' ds' us' sb k h' y' => ?_⟩
    have an : a ∉ G2 := fun m => by
      have := (List.nodup_append.mp n).2.2 a (by simp) a m
      exact this rfl
    have q2 : Dens Z B' H' ds ws G2 := Dens.keep _ _ _ nb' (fun b hb => k b (fun z => an (z ▸ hb)) (List.mem_append_right _ hb)) (Dens.grow sb (Same.refl _) _ _ _ q)
    exact ⟨.ref a, ws, [a], G2, rfl, ⟨a, _, us', [], rfl, h', rfl, y', rfl⟩, q2, rfl⟩
  | d0 :: ds, _, _, j + 1, ys, ⟨v, ws, G1, G2, ev, x, q, f⟩, n, nb, e, co => by
    subst ev f
    have nb2 : d0.all nbF = true ∧ D.alls nbF ds = true := by simpa [D.alls] using nb
    have n2 := List.nodup_append.mp n
    obtain ⟨aj, us, h1, h2, h3, h4, h5⟩ := Dens.poke (j := j) q n2.2.1 nb2.2 (by simpa using e) co
    refine ⟨aj, us, by simpa using h1, List.mem_append_right _ h2, h3, h4, fun B' H' ds' us' sb k h' y' => ?_⟩
    have an : aj ∉ G1 := fun m => n2.2.2 aj m aj h2 rfl
    refine ⟨v, ws, G1, G2, rfl, Den.keep _ _ _ nb2.1 (fun b hb => k b (fun z => an (z ▸ hb)) (List.mem_append_left _ hb)) (x.grow sb (Same.refl _)), ?_, rfl⟩
    exact h5 B' H' ds' us' sb (fun b hb m => k b hb (List.mem_append_right _ m)) h' y'
/-- x[k].append(e) -/
def vAppIx (i : Nat) (tk te : TEv) : TSv := fun W ρ => match ρ[i]? with
  | some (some (.nd (.lst .o) xs)) => tk ρ fun y => match y with
    | .int k => ∃ j ys, ixN xs.length k = some j ∧ xs[j]? = some (.lst .o ys) ∧ D.alls coF ys = true ∧ te ρ fun d => d.all coF = true ∧ ys.length < 1000000 ∧ W.nx (ρ.set i (some (.lst .o (xs.set j (.lst .o (ys ++ [d]))))))
    | _ => False
  | _ => False
theorem lk_appIx {i : Nat} {Tk Te : TE} {tk te : TEv} (lk : LE Tk tk) (l : LE Te te) : LS (tDrop (tBM KK.K "list" rAppend (tOp (rIx KK.K) (tVar i) Tk) (tCons Te tNil))) (vAppIx i tk te) := by
  intro B0 Z B H σ ρ Dv De R h S
  unfold vAppIx at h
  split at h
  · rename_i xs e
    obtain ⟨w, e1, _⟩ := R.get e
    obtain ⟨a0, o0, vs0, G0, h1, hx0, c0, y0, nb0, ng0, aG0, fG0, _⟩ := R.write (h := .lst .o) e (.inl rfl)
    have c0 : o0 = .lst vs0 := c0
    subst c0
    refine ⟨_, h1, ?_⟩
    refine lk B0 Z B H σ ρ _ _ R h fun ky kv H1 ⟨B1, F1, g1, x1, _, _⟩ h => ?_
    split at h
    · rename_i k _
      obtain ⟨j, ys, hj, hxj, co, h⟩ := h
      have R1 := R.grow g1
      have hjl := ixN_lt hj
      obtain ⟨F, q, n, z⟩ := R1.ex
      obtain ⟨v, G, Rr, p1, p2, p3, p4, p5, p6, p7, p8⟩ := q.part n e
      obtain ⟨a, o, vs, G', ev, xa, c, y, f⟩ := p3
      have c : o = .lst vs := c
      subst c
      have xa : H1 a = some (.lst vs) := xa
      have f : G = a :: G' := f
      subst f ev
      have ng := List.nodup_cons.mp p4
      have nb : D.alls nbF xs = true := by
        have : nbF (Hd.lst Fl.o).fl && D.alls nbF xs = true := by simpa [D.all] using p2
        simp at this; exact this.2
      obtain ⟨aj, us, k1, k2, k3, k4, k5⟩ := y.poke ng.2 nb hxj co
      have ea : a0 = a := by
        rw [h1] at p1
        have := Option.some.inj (Option.some.inj p1)
        exact V.ref.inj this
      subst ea
      refine .inl ⟨a0, vs, k, .ref aj, rfl, x1.1, .inl (.inl xa), ?_, .inl ⟨rfl, _, .inl (.inl k3)⟩, ?_⟩
      · unfold atI
        rw [← y.len, hj]; exact k1
      · refine l B0 Z B1 H1 σ ρ _ _ R1 h fun d dv H2 ⟨B2, F2, g2, x2, nF2, fF2⟩ ⟨cod, hl, hq⟩ => ?_
        have ef := Den.nofp d dv F2 cod x2
        subst ef
        refine ⟨aj, us, dv, rfl, rfl, g2.sh _ _ k3, by rw [← k4.len]; exact million (Nat.le_of_lt hl), ?_⟩
        have aja : aj ≠ a0 := fun z => ng.1 (z ▸ k2)
        have zj := z aj (p6 aj (.inl (List.mem_cons_of_mem _ k2)))
        have za := z a0 (p6 a0 (.inl List.mem_cons_self))
        have bj : B2 aj = none := g2.old aj _ k3 zj.1
        have kH : ∀ b, b ≠ aj → upd H2 aj (.lst (us ++ [dv])) b = H2 b := fun b hb => upd_ne hb
        have den' : Dens Z B2 (upd H2 aj (.lst (us ++ [dv]))) (ys ++ [d]) (us ++ [dv]) [] :=
          Dens.app (F := []) (G := []) (Dens.fixed g2.sb _ _ _ co k4) (Dens.one (Den.fixed (Same.refl _) d dv [] cod x2))
        have new := k5 B2 (upd H2 aj (.lst (us ++ [dv]))) (ys ++ [d]) (us ++ [dv]) g2.sb (fun b hb m => by
          rw [kH b hb]
          obtain ⟨ob, eo⟩ := Dens.live _ _ _ y b m
          rw [eo]; exact g2.sh _ _ eo) upd_same den'
        have nbn : D.nb (.lst .o (xs.set j (.lst .o (ys ++ [d])))) = true := by
          have c1 := D.alls_imp (p := coF) (q := nbF) (fun f e => by cases f <;> first | rfl | exact nomatch e) ys co
          have c2 := D.all_imp (p := coF) (q := nbF) (fun f e => by cases f <;> first | rfl | exact nomatch e) d cod
          have c3 : D.all nbF (.lst .o (ys ++ [d])) = true := by
            show (nbF .o && D.alls nbF (ys ++ [d])) = true
            rw [alls_app, c1]; simp [D.alls, c2]; rfl
          show (nbF .o && D.alls nbF (xs.set j (.lst .o (ys ++ [d])))) = true
          rw [alls_set j nb c3]; rfl
        have live : ∀ b ∈ Rr, ∃ ob, H1 b = some ob := p8.live
        have rest : Slots Z B2 (upd H2 aj (.lst (us ++ [dv]))) (ρ.set i none) σ Rr := (p8.grow g2.sb g2.sh).keep fun b hb => kH b fun q => p5 aj (List.mem_cons_of_mem _ k2) (q ▸ hb)
        have den : Den Z B2 (upd H2 aj (.lst (us ++ [dv]))) (.lst .o (xs.set j (.lst .o (ys ++ [d])))) (.ref a0) (a0 :: G') :=
          ⟨a0, _, vs, G', rfl, by show upd H2 aj (.lst (us ++ [dv])) a0 = _; rw [kH a0 (Ne.symm aja)]; exact g2.sh _ _ xa, rfl, new, rfl⟩
        obtain ⟨F', w1, w2, w3⟩ := rest.fill (length_of_get e) p1 p7 nbn den p4 (fun b hb m => p5 b hb m)
        have gr1 := R1.gr.trans g2
        refine S.nx _ _ _ _ (show Rep B0 Z B2 (upd H2 aj (.lst (us ++ [dv]))) σ _ from ⟨⟨gr1.sb, fun b ob eb => ?_, fun b ob eb => ?_, gr1.old⟩, F', w1, w2, fun b hb => ?_⟩) hq
        · rw [kH b fun q => by rw [q, zj.2] at eb; cases eb]; exact gr1.sh _ _ eb
        · rw [kH b fun q => by rw [q, bj] at eb; cases eb]; exact gr1.sub _ _ eb
        · rcases w3 b hb with m | m
          · obtain ⟨ob, eo⟩ := live b m
            exact ⟨g2.old b ob eo (z b (p6 b (.inr m))).1, (z b (p6 b (.inr m))).2⟩
          · have zz := z b (p6 b (.inl m))
            obtain ⟨ob, eo⟩ : ∃ ob, H1 b = some ob := by
              rcases List.mem_cons.mp m with q | q
              · exact ⟨_, by rw [q]; exact xa⟩
              · exact Dens.live _ _ _ y b q
            exact ⟨g2.old b ob eo zz.1, zz.2⟩
    · exact h.elim
  · exact h.elim
section
variable {X : Cx} {e k : Expr} {pos p0 p1 p2 p3 p4 p5 : Pos} {Te Tk : TE} {te tk : TEv} {x : Str}
theorem s_appIx (i : Nat) (hk : VE X k Tk tk) (he : VE X e Te te) (hN : X.N[i]? = some x := by rfl) (hv : Vis X.env.scope x := by first | exact Or.inl rfl | exact Or.inr (Or.inl rfl) | exact Or.inr (Or.inr rfl)) (hd : (x == ("__debug__" : Str)) = false := by decide) (hcd : (x == ("__classdict__" : Str)) = false := by decide)
    (hsub : PlainIx k := by exact fun _ _ => rfl)
    (hbase : attributeBase (.Subscript (.Name x p1) k p0) "append" X.env (eval (.Subscript (.Name x p1) k p0) X.env) = eval (.Subscript (.Name x p1) k p0) X.env := by rfl)
    (hfew : ((backTo p3 (starEach [e] X.env)).all (fun x => !x.1) && (backToKw p3 (keywordEach [] X.env)).all (fun x => x.1.isSome)
      && decide (([e] : List Expr).length + ([] : List Keyword).length + (if ([] : List Keyword).isEmpty then 0 else 1) < 30)) = true := by rfl)
    (hline : (p2.endLine == p3.line) = true := by rfl) (hs : starEach [e] X.env = (false, eval e X.env) :: starEach [] X.env := by rfl) (hplain : (backTo p3 (starEach [] X.env)).any (·.1) = false := by rfl)
    (hsw : swapsWith (.Call (.Attribute (.Subscript (.Name x p1) k p0) "append" p2) [e] [] p3) none p4.line X.env = pure false := by rfl) (hK : X.K = KK.K := by rfl) :
    VS X (.Expr (.Call (.Attribute (.Subscript (.Name x p1) k p0) "append" p2) [e] [] p3) p4) (tDrop (tBM KK.K "list" rAppend (tOp (rIx KK.K) (tVar i) Tk) (tCons Te tNil))) (vAppIx i tk te) := by
  rw [← hK]
  exact ⟨ps_expr (pe_bm PySem.F.plainAttrs_list PySem.F.slot_list_append PySem.F.type_list_append mt_append (pe_ix ix_seq (pe_var hN hv hd hcd) hk.pe hsub) (pa_cons he.pe pa_nil hs) hbase hfew hline hs hplain) hsw, by rw [hK]; exact lk_appIx hk.lk he.lk⟩
end
/-! ### < of tuples of ints -/
def dLtT : RDv := fun x y Q => match x, y with
  | .nd .tup xs, .nd .tup ys => match ints? xs, ints? ys with
    | some ns, some ms => Q (.bl (HT.lexLt ns ms))
    | _, _ => False
  | _, _ => False
theorem lr_ltT : LR2 (rLtT KK.K) dLtT := by
  intro B0 Z B H σ ρ x y vx vy F G Qd Q R dx dy h k
  unfold dLtT at h
  split at h
  · split at h
    · rename_i xs ys ns ms e1 e2
      obtain ⟨a, us, ea, t1, b1, y1⟩ := den_tup R.sub dx
      obtain ⟨b, ws, eb, t2, b2, y2⟩ := den_tup R.sub dy
      rw [ints_of e1] at y1
      rw [ints_of e2] at y2
      rw [dens_ints y1] at t1
      rw [dens_ints y2] at t2
      exact ⟨a, b, ns, ms, ea, eb, SqT.of t1, SqT.of t2, k _ _ _ (Out.of R.sub den_bl) h⟩
    · exact h.elim
  · exact h.elim
section
variable {X : Cx} {a b : Expr} {pos : Pos} {Ta Tb : TE} {ta tb : TEv} {n : Nat}
theorem e_ltT (hr : Room n X.A) (ha : VE X a Ta ta) (hb : VE X b Tb tb) (hK : X.K = KK.K := by rfl) : VE X (.Compare a [.Lt] [b] pos) (tOp (rLtT KK.K) Ta Tb) (vOp dLtT ta tb) := by
  rw [← hK]
  exact ⟨pe_cmpR (op_ltT (by have := hr.units; omega)) ha.pe hb.pe (nomark _), by rw [hK]; exact lk_op lr_ltT ha.lk hb.lk⟩
theorem t_ltT (hr : Room n X.A) (ha : VE X a Ta ta) (hb : VE X b Tb tb) (hK : X.K = KK.K := by rfl) : VT X (.Compare a [.Lt] [b] pos) (tTest (tOp (rLtT KK.K) Ta Tb)) (vTest (vOp dLtT ta tb)) := by
  rw [← hK]
  exact t_cmp (op_ltT (by have := hr.units; omega)) (by rw [hK]; exact lr_ltT) ha hb (nomark _)
end
theorem n_ltT3 {a b c d e f : Int} {Q : D → Prop} : dLtT (.nd .tup [.int a, .int b, .int c]) (.nd .tup [.int d, .int e, .int f]) Q = Q (.bl (HT.lexLt [a, b, c] [d, e, f])) := rfl
/-! ### x.clear() -/
def vClear (i : Nat) : TSv := fun W ρ => match ρ[i]? with
  | some (some (.nd (.lst .o) _)) => W.nx (ρ.set i (some (.lst .o [])))
  | _ => False
theorem lk_clear {i : Nat} : LS (tDrop (tBM0 KK.K "list" rClear (tVar i))) (vClear i) := by
  intro B0 Z B H σ ρ Dv De R h S
  unfold vClear at h
  split at h
  · rename_i xs e
    obtain ⟨a, o0, vs, G, h1, hx, c, y, nb, ng, aG, fG, W⟩ := R.write (h := .lst .o) e (.inl rfl)
    have c : o0 = .lst vs := c
    subst c
    refine ⟨_, h1, .inl ⟨rfl, _, .inl (.inl hx)⟩, a, vs, rfl, rfl, hx, ?_⟩
    exact S.nx _ _ _ _ (W (.lst .o) [] (.lst []) B H [] [] rfl (Grow.refl R.sub) rfl ⟨rfl, rfl⟩ List.nodup_nil rfl (fun b hb => nomatch hb)) h
  · exact h.elim
section
variable {X : Cx} {p1 p2 p3 p4 : Pos} {x : Str}
theorem s_clear (i : Nat) (hN : X.N[i]? = some x := by rfl) (hv : Vis X.env.scope x := by first | exact Or.inl rfl | exact Or.inr (Or.inl rfl) | exact Or.inr (Or.inr rfl)) (hd : (x == ("__debug__" : Str)) = false := by decide) (hcd : (x == ("__classdict__" : Str)) = false := by decide)
    (hbase : attributeBase (.Name x p1) "clear" X.env (eval (.Name x p1) X.env) = eval (.Name x p1) X.env := by rfl)
    (hline : (p2.endLine == p3.line) = true := by rfl)
    (hsw : swapsWith (.Call (.Attribute (.Name x p1) "clear" p2) [] [] p3) none p4.line X.env = pure false := by rfl) (hK : X.K = KK.K := by rfl) :
    VS X (.Expr (.Call (.Attribute (.Name x p1) "clear" p2) [] [] p3) p4) (tDrop (tBM0 KK.K "list" rClear (tVar i))) (vClear i) := by
  rw [← hK]
  exact ⟨ps_expr (pe_bm0 PySem.F.plainAttrs_list PySem.F.slot_list_clear PySem.F.type_list_clear mt_clear (pe_var hN hv hd hcd) hbase hline) hsw, by rw [hK]; exact lk_clear⟩
end
/-- no promise: below the deepest call -/
def noP : PV := fun _ _ _ => False
theorem fn_no {P : Program} {w : World} {mg : Str → Option Value} {base : Heap} {f : Addr} {fd : FuncData} {ps : List Str} {n k : Nat} : FnOk P w KK.K mg base (L2.CX P w) k f fd ps (spV n noP) :=
  ⟨fun vs H Q E h => by obtain ⟨_, _, _, _, _, _, _, _, h, _⟩ := h; exact h.elim, fun A outer s H args us vs Q E _ _ _ _ h => by obtain ⟨_, _, _, _, _, _, _, _, h, _⟩ := h; exact h.elim⟩
/-! ### a frozen list of fixed things goes out of its frame as an own one -/
section
variable {Z B H : Hp} {a : Addr} {vs0 : List V}
mutual
theorem Den.thaw (hH : H a = some (.lst vs0)) (sb : Same B H) : ∀ (d : D) (v : V) (F : List Addr), d.all puF = true → Den Z B H d v F → Den Z (cutB B a) H d v F
  | .non, _, _, _, h => h
  | .bl _, _, _, _, h => h
  | .int _, _, _, _, h => h
  | .str _, _, _, _, h => h
  | .cst _, _, _, _, h => h
  | .nd h ds, _, _, n, ⟨b, o', vs, G, e, x, c, q, f⟩ => by
    have n' : puF h.fl = true ∧ D.alls puF ds = true := by simpa [D.all] using n
    refine ⟨b, o', vs, G, e, ?_, c, Dens.thaw hH sb ds vs G n'.2 q, f⟩
    have key : h.fl = .i → B b = some o' → b ≠ a := fun hi hb e2 => by
      subst e2
      have := sb _ _ hb
      rw [hH] at this
      have eo := Option.some.inj this
      subst eo
      cases h with
      | tup => cases c
      | lst f2 => cases f2 <;> exact nomatch (show _ = Fl.i from hi)
      | dct f2 ks => cases f2 <;> exact nomatch (show _ = Fl.i from hi)
      | dtt f2 ks => cases f2 <;> exact nomatch (show _ = Fl.i from hi)
      | obj C ns => obtain ⟨_, dx, e⟩ := c; cases e
      | slf f C ns => obtain ⟨_, dx, e⟩ := c; cases e
      | lsk f2 => cases f2 <;> exact nomatch (show _ = Fl.i from hi)
    revert x key n'
    cases h.fl <;> intro x n' key
    all_goals first | exact (cutB_ne (key rfl x)).trans x | exact nomatch n'.1
theorem Dens.thaw (hH : H a = some (.lst vs0)) (sb : Same B H) : ∀ (ds : List D) (vs : List V) (F : List Addr), D.alls puF ds = true → Dens Z B H ds vs F → Dens Z (cutB B a) H ds vs F
  | [], _, _, _, h => h
  | d :: ds, _, _, n, ⟨v, ws, G1, G2, e, x, q, f⟩ => by
    have n' : d.all puF = true ∧ D.alls puF ds = true := by simpa [D.alls] using n
    exact ⟨v, ws, G1, G2, e, Den.thaw hH sb d v G1 n'.1 x, Dens.thaw hH sb ds ws G2 n'.2 q, f⟩
end
end
theorem Out.thaw {Z B H' : Hp} {xs : List D} {v : V} (sB : Same B Z) (o : Out Z B Z (.lst .l xs) v H') (p : D.alls puF xs = true) : Out Z B Z (.lst .o xs) v H' := by
  obtain ⟨B', F, g, ⟨a, o, vs, G', ev, x, c, y, f⟩, n, fr⟩ := o
  have c : o = .lst vs := c
  subst c
  have x : B' a = some (.lst vs) ∧ Z a = none := x
  have co : D.alls coF xs = true := D.alls_imp (p := puF) (q := coF) (fun f e => by cases f <;> first | rfl | exact nomatch e) xs p
  have eG := Dens.nofp xs vs G' co y
  subst eG
  have hH : H' a = some (.lst vs) := g.sub _ _ x.1
  refine ⟨cutB B' a, [a], ⟨fun b o' eb => ?_, g.sh, fun b o' eb => ?_, fun b o' eb nb => ?_⟩, ⟨a, _, vs, [], ev, hH, rfl, Dens.thaw hH g.sub xs vs [] p y, rfl⟩, by simp, fun b m => ?_⟩
  · have hb : b ≠ a := fun hb => by
      subst hb
      have := sB _ _ eb
      rw [x.2] at this; cases this
    rw [cutB_ne hb]; exact g.sb _ _ eb
  · by_cases hb : b = a
    · subst hb; rw [cutB_same] at eb; cases eb
    · rw [cutB_ne hb] at eb; exact g.sub _ _ eb
  · by_cases hb : b = a
    · subst hb; exact cutB_same
    · rw [cutB_ne hb]; exact g.old _ _ eb nb
  · have : b = a := by simpa using m
    subst this
    exact ⟨cutB_same, x.2⟩
/-- a def that hands back a list that no name of it can change any more: the caller owns it -/
def thaw (Q : D → Prop) : D → Prop := fun d => match d with
  | .nd (.lst .l) xs => D.alls puF xs = true ∧ Q (.lst .o xs)
  | _ => False
section
variable {P : Program} {w : World} {mg : Str → Option Value} {base : Heap} {x qual : Str} {params : Arguments} {body : List Stmt} {scope : Scope} {dvs : List V} {kws : List (Str × V)} {f : Addr} {fd : FuncData} {N ps : List Str} {k n : Nat} {Pv : PV} {t : TSv}
theorem fn_vU (F : FunD KK.K x qual params body scope dvs kws f fd) (S : FnScope N ps scope) (hn : ps.length = n)
    (hb : ∀ (cdv : Value) (A : Around) (outer : List PySem.Env) (s : Shared) (H : Hp) (E : XK), Room k (A.deeper (envOfC qual scope s.heap.objs.size f cdv)) → ∃ T, VSs (cxOf (L2.CX P w) P w KK.K mg base N qual scope f cdv A outer s H E).nox body T t)
    (hm : ∀ ds Q Ed, ds.length = n → Pv ds Q Ed → t { nx := fun _ => Q .non, rt := thaw Q } (startD N.length ds)) : FnOk P w KK.K mg base (L2.CX P w) (k + 1) f fd ps (spV n Pv) := by
  refine F.ok S (fun vs H Q E h => ?_) fun cdv A outer s H vs Q E hr h => ?_
  · obtain ⟨B, ds, Qd, Ed, e, _, q, _⟩ := h
    rw [← q.len, e, hn]
  · obtain ⟨B, ds, Qd, Ed, e, sB, q, na, hP, hq, hx⟩ := h
    obtain ⟨T, hT⟩ := hb cdv A outer s H E hr
    refine ⟨T, hT.ps.nox, ?_⟩
    refine hT.lk B H B H (L2.start N vs) (startD N.length ds) _ _ (rep_start sB q na) (hm ds Qd Ed e hP) ⟨fun B' H' σ ρ R h => ?_, fun d v H' o ow h => ?_, fun _ _ _ _ _ h => h.elim, fun _ _ _ _ _ h => h.elim⟩
    · exact hq .non .non H' ⟨B', [], R.gr, den_non, List.nodup_nil, fun a h => nomatch h⟩ rfl h
    · have h : thaw Qd d := h
      unfold thaw at h
      split at h
      · rename_i d2 xs h0
        have h := h0
        refine hq (.lst .o xs) v H' (Out.thaw sB o h.1) ?_ h.2
        have := D.alls_imp (p := puF) (q := ow2F) (fun f e => by cases f <;> first | rfl | exact nomatch e) xs h.1
        show (ow2F .o && D.alls ow2F xs) = true
        rw [this]; rfl
      · exact h.elim
end
end VL

/-! ## VLM -/
/-! VL: lemmas for the plain part: loops and comprehensions over data. -/
namespace VL
open PySem PySem.Spec L2
open PyProof.Rows hiding St
variable [KK : KLs]
theorem maps_ints (g : Fl → Fl) : ∀ ns : List Int, D.maps g (ns.map D.int) = ns.map D.int
  | [] => rfl
  | n :: ns => by rw [List.map_cons, D.maps, maps_ints g ns]; rfl
theorem alls_ints (p : Fl → Bool) : ∀ ns : List Int, D.alls p (ns.map D.int) = true
  | [] => rfl
  | n :: ns => by rw [List.map_cons, D.alls, alls_ints p ns]; rfl
theorem if_dec {c A B : Prop} [Decidable c] (h1 : c → A) (h2 : ¬ c → B) : if decide c = true then A else B := by
  by_cases h : c
  · rw [if_pos (decide_eq_true h)]; exact h1 h
  · rw [if_neg (by rw [decide_eq_false h]; exact Bool.false_ne_true)]; exact h2 h
theorem if_bool {b : Bool} {A B : Prop} (h1 : b = true → A) (h2 : b = false → B) : if b = true then A else B := by
  cases b with
  | true => rw [if_pos rfl]; exact h1 rfl
  | false => rw [if_neg Bool.false_ne_true]; exact h2 rfl
section
variable {g : TGv} {tb : TSv} {W : Ev} {ρ : VL.Env}
/-- a for by an invariant over the turn -/
theorem forL_ix (I : Nat → VL.Env → Prop) : ∀ (items : List D) (n : Nat) (ρ : VL.Env), I n ρ →
    (∀ (i : Nat) x, items[i]? = some x → ∀ ρ, I (n + i) ρ → ∀ N : VL.Env → Prop, (∀ ρ', I (n + i + 1) ρ' → N ρ') → g x ρ fun ρ' => tb { nx := N, rt := W.rt, bk := W.nx, ct := N } ρ') →
    (∀ ρ, I (n + items.length) ρ → W.nx ρ) → forL g tb items W ρ
  | [], n, ρ, h, _, hd => hd ρ h
  | x :: xs, n, ρ, h, hs, hd => by
    refine hs 0 x rfl ρ h (forL g tb xs W) fun ρ' h' => ?_
    refine forL_ix I xs (n + 1) ρ' h' (fun i y hy ρ2 h2 N hN => ?_) (fun ρ2 h2 => hd ρ2 ?_)
    · refine hs (i + 1) y (by simpa using hy) ρ2 ?_ N fun ρ3 h3 => hN ρ3 ?_
      · have e : n + (i + 1) = n + 1 + i := by omega
        rw [e]; exact h2
      · have e : n + 1 + i + 1 = n + (i + 1) + 1 := by omega
        rw [e]; exact h3
    · have e : n + (x :: xs).length = n + 1 + xs.length := by rw [List.length_cons]; omega
      rw [e]; exact h2
theorem forL_list (I : Nat → VL.Env → Prop) {items : List D} (h0 : I 0 ρ)
    (hs : ∀ (i : Nat) x, items[i]? = some x → ∀ ρ, I i ρ → ∀ N : VL.Env → Prop, (∀ ρ', I (i + 1) ρ' → N ρ') → g x ρ fun ρ' => tb { nx := N, rt := W.rt, bk := W.nx, ct := N } ρ')
    (hd : ∀ ρ, I items.length ρ → W.nx ρ) : forL g tb items W ρ :=
  forL_ix I items 0 ρ h0 (fun i x hx ρ h N hN => hs i x hx ρ (by simpa using h) N fun ρ' h' => hN ρ' (by simpa using h')) (fun ρ h => hd ρ (by simpa using h))
theorem upTo_get {lo : Int} {n i : Nat} {x : D} (h : (upTo lo n)[i]? = some x) : i < n ∧ x = .int (lo + (i : Int)) := by
  have hl : (upTo lo n).length = n := by simp [upTo]
  have hi : i < n := by have := (List.getElem?_eq_some_iff.mp h).1; omega
  refine ⟨hi, ?_⟩
  have : (upTo lo n)[i]? = some (.int (lo + (i : Int))) := by simp [upTo, hi]
  rw [this] at h
  exact (Option.some.inj h).symm
theorem upTo_len (lo : Int) (n : Nat) : (upTo lo n).length = n := by simp [upTo]
theorem forL_range (I : Nat → VL.Env → Prop) {lo : Int} {n : Nat} (h0 : I 0 ρ)
    (hs : ∀ i : Nat, i < n → ∀ ρ, I i ρ → ∀ N : VL.Env → Prop, (∀ ρ', I (i + 1) ρ' → N ρ') → g (.int (lo + (i : Int))) ρ fun ρ' => tb { nx := N, rt := W.rt, bk := W.nx, ct := N } ρ')
    (hd : ∀ ρ, I n ρ → W.nx ρ) : forL g tb (upTo lo n) W ρ :=
  forL_list I h0 (fun i x hx ρ h N hN => by
    obtain ⟨hi, rfl⟩ := upTo_get hx
    exact hs i hi ρ h N hN) (fun ρ h => hd ρ (by rwa [upTo_len] at h))
/-- a for over any items whose turn keeps I -/
theorem forL_keep (I : VL.Env → Prop) {items : List D} (h0 : I ρ)
    (hs : ∀ x, x ∈ items → ∀ ρ, I ρ → ∀ N : VL.Env → Prop, (∀ ρ', I ρ' → N ρ') → g x ρ fun ρ' => tb { nx := N, rt := W.rt, bk := W.nx, ct := N } ρ')
    (hd : ∀ ρ, I ρ → W.nx ρ) : forL g tb items W ρ :=
  forL_list (fun _ => I) h0 (fun i x hx => hs x (List.mem_of_getElem? hx)) hd
end
section
variable {g : TGv} {tt : TTv} {te : TEv} {ρ : VL.Env}
/-- a comprehension: what it keeps of each item -/
theorem lc_fm (F : D → Option D) {Q : D → Prop} : ∀ (items acc : List D),
    (∀ x, x ∈ items → ∀ (N : D → Prop) (M : Prop), (∀ d, F x = some d → N d) → (F x = none → M) → g x ρ fun ρ2 => tt ρ2 fun k => if k = true then te ρ2 fun d => d.nb = true ∧ N d else M) →
    Q (.lst .o (acc ++ items.filterMap F)) → lcL g tt te ρ items acc Q
  | [], acc, _, h => by
    rw [List.filterMap_nil, List.append_nil] at h
    exact h
  | x :: xs, acc, hs, h => by
    refine hs x List.mem_cons_self (fun d => lcL g tt te ρ xs (acc ++ [d]) Q) (lcL g tt te ρ xs acc Q) (fun d e => ?_) (fun e => ?_)
    · refine lc_fm F xs _ (fun y hy => hs y (List.mem_cons_of_mem _ hy)) ?_
      rw [List.filterMap_cons, e] at h
      rw [List.append_assoc]
      exact h
    · refine lc_fm F xs _ (fun y hy => hs y (List.mem_cons_of_mem _ hy)) ?_
      rw [List.filterMap_cons, e] at h
      exact h
/-- without a test -/
theorem lc_map (f : D → D) {Q : D → Prop} {items : List D}
    (hs : ∀ x, x ∈ items → ∀ (N : D → Prop), N (f x) → g x ρ fun ρ2 => te ρ2 fun d => d.nb = true ∧ N d)
    (h : Q (.lst .o (items.map f))) : lcL g vYes te ρ items [] Q := by
  refine lc_fm (fun x => some (f x)) items [] (fun x hx N M h1 h2 => ?_) ?_
  · have e : (fun ρ2 => vYes ρ2 fun k => if k = true then te ρ2 fun d => d.nb = true ∧ N d else M) = fun ρ2 => te ρ2 fun d => d.nb = true ∧ N d := by
      funext ρ2
      simp [vYes]
    rw [e]
    exact hs x hx N (h1 _ rfl)
  · rw [List.nil_append, show (items.filterMap fun x => some (f x)) = items.map f from by simp]
    exact h
end
theorem atI_ok {α : Type} {xs : List α} {i : Int} (h0 : 0 ≤ i) (h1 : i < xs.length) : ∃ j : Nat, (j : Int) = i ∧ atI xs i = xs[j]? := by
  refine ⟨i.toNat, by omega, ?_⟩
  unfold atI ixN
  rw [if_pos h0, if_pos h1]
  rfl
theorem atI_ints {ns : List Int} {i : Int} (h0 : 0 ≤ i) (h1 : i < ns.length) : ∃ c, atI (ns.map D.int) i = some (.int c) := by
  obtain ⟨j, e, h⟩ := atI_ok (xs := ns.map D.int) h0 (by simpa using h1)
  have hj : j < ns.length := by omega
  exact ⟨ns[j], by rw [h, List.getElem?_map, List.getElem?_eq_getElem hj]; rfl⟩
/-! ### subscripts of written lists -/
theorem at_nat {α : Type} (xs : List α) (j : Nat) : atI xs (j : Int) = xs[j]? := by
  unfold atI ixN
  rw [if_pos (by omega)]
  by_cases h : j < xs.length
  · rw [if_pos (by omega)]; rfl
  · rw [if_neg (by omega), List.getElem?_eq_none (by omega)]; rfl
theorem at0 {α : Type} (a : α) (l : List α) : atI (a :: l) 0 = some a := at_nat _ 0
theorem at1 {α : Type} (a b : α) (l : List α) : atI (a :: b :: l) 1 = some b := at_nat _ 1
theorem at2 {α : Type} (a b c : α) (l : List α) : atI (a :: b :: c :: l) 2 = some c := at_nat _ 2
theorem at3 {α : Type} (a b c d : α) (l : List α) : atI (a :: b :: c :: d :: l) 3 = some d := at_nat _ 3
theorem at4 {α : Type} (a b c d e : α) (l : List α) : atI (a :: b :: c :: d :: e :: l) 4 = some e := at_nat _ 4
theorem at5 {α : Type} (a b c d e f : α) (l : List α) : atI (a :: b :: c :: d :: e :: f :: l) 5 = some f := at_nat _ 5
/-! ### == of ints in a list -/
theorem pys_ints : ∀ is : List Int, D.pys (is.map D.int) = is.map PyData.int
  | [] => rfl
  | i :: is => by rw [List.map_cons, D.pys, pys_ints is]; rfl
theorem plains_ints : ∀ is : List Int, D.plains (is.map D.int) = true
  | [] => rfl
  | i :: is => by rw [List.map_cons, D.plains, plains_ints is]; rfl
theorem lay_ints : ∀ is : List Int, PyData.canLayAll0 (is.map PyData.int) = true
  | [] => rfl
  | i :: is => by rw [List.map_cons, PyData.canLayAll0, lay_ints is]; rfl
theorem deep_ints : ∀ is : List Int, PyData.depthAll (is.map PyData.int) ≤ 1
  | [] => by rw [List.map_nil, PyData.depthAll]; omega
  | i :: is => by have := deep_ints is; rw [List.map_cons, PyData.depthAll, PyData.depth]; omega
theorem eqvAll_ints : ∀ is js : List Int, PyData.eqvAll (is.map PyData.int) (js.map PyData.int) = decide (is = js)
  | [], [] => rfl
  | [], j :: js => rfl
  | i :: is, [] => rfl
  | i :: is, j :: js => by
    rw [List.map_cons, List.map_cons, PyData.eqvAll, eqvAll_ints is js, PyData.eqv]
    by_cases h : i = j
    · subst h; simp
    · simp [h]
theorem okEq_lst_ints (f : Fl) (is : List Int) : D.okEq (.lst f (is.map D.int)) := ⟨by rw [D.plain, plains_ints], by
  rw [D.py, pys_ints]; · unfold SeqAt.shaped; rw [PyData.canLay0, lay_ints, PyData.depth, decide_eq_true (by have := deep_ints is; omega)]; rfl
  · intro h; cases h⟩
theorem okEq_tup_ints (is : List Int) : D.okEq (.tup (is.map D.int)) := ⟨by rw [D.plain, plains_ints], by
  rw [D.py, pys_ints]; unfold SeqAt.shaped; rw [PyData.canLay0, lay_ints, PyData.depth, decide_eq_true (by have := deep_ints is; omega)]; rfl⟩
theorem eqv_lst_ints (f g : Fl) (is js : List Int) : D.eqv (.lst f (is.map D.int)) (.lst g (js.map D.int)) = decide (is = js) := by
  unfold D.eqv; rw [D.py, D.py, pys_ints, pys_ints, PyData.eqv, eqvAll_ints] <;> (intro h; cases h)
theorem eqv_tup_ints (is js : List Int) : D.eqv (.tup (is.map D.int)) (.tup (js.map D.int)) = decide (is = js) := by
  unfold D.eqv; rw [D.py, D.py, pys_ints, pys_ints, PyData.eqv, eqvAll_ints]
theorem upTo_succ (lo : Int) (n : Nat) : upTo lo (n + 1) = upTo lo n ++ [.int (lo + n)] := by
  simp [upTo, List.range_succ]
theorem upTo_zero (lo : Int) : upTo lo 0 = [] := rfl
theorem maps_upTo (g : Fl → Fl) (lo : Int) (n : Nat) : D.maps g (upTo lo n) = upTo lo n := by
  have := maps_ints g ((List.range n).map fun i : Nat => lo + (i : Int))
  rw [List.map_map] at this
  exact this
theorem alls_upTo (p : Fl → Bool) (lo : Int) (n : Nat) : D.alls p (upTo lo n) = true := by
  have := alls_ints p ((List.range n).map fun i : Nat => lo + (i : Int))
  rw [List.map_map] at this
  exact this
theorem upTo_at {lo i : Int} {n : Nat} (h0 : 0 ≤ i) (h1 : i < n) : atI (upTo lo n) i = some (.int (lo + i)) := by
  obtain ⟨j, rfl⟩ := Int.eq_ofNat_of_zero_le h0
  rw [at_nat]
  have : j < n := by omega
  simp [upTo, this]
/-! ### classes of values -/
theorem ty_int_int : tySub "int" "int" = true := by decide
theorem ty_int_bool : tySub "int" "bool" = false := by decide
theorem ty_bool_int : tySub "bool" "int" = true := by decide
theorem ty_bool_bool : tySub "bool" "bool" = true := by decide
theorem ty_tuple_tuple : tySub "tuple" "tuple" = true := by decide
theorem ty_list_list : tySub "list" "list" = true := by decide
theorem ty_non_tuple : tySub "NoneType" "tuple" = false := by decide
theorem ty_non_int : tySub "NoneType" "int" = false := by decide
omit KK in
theorem str_inj {a b : String} (h : Str.ofString a = Str.ofString b) : a = b := by
  rw [Str.ofString_eq_toList, Str.ofString_eq_toList] at h
  have h2 : a.toList.map Char.toNat = b.toList.map Char.toNat := by
    have := congrArg (fun z : Str => z.cps.toList) h
    simpa using this
  exact String.toList_inj.mp ((List.map_inj_right fun x y e => Char.toNat_inj.mp e).mp h2)
omit KK in
theorem str_beq (a b : String) : (Str.ofString a == Str.ofString b) = decide (a = b) := by
  by_cases h : a = b
  · subst h; simp
  · rw [decide_eq_false h]
    exact beq_false_of_ne fun e => h (str_inj e)
omit KK in
theorem str_eqv (a b : String) : (Str.ofString a = Str.ofString b) = (a = b) := propext ⟨str_inj, fun e => by rw [e]⟩
/-! ### lists of ints -/
def rngI (lo : Int) (n : Nat) : List Int := (List.range n).map fun (i : Nat) => lo + (i : Int)
theorem upTo_ints (lo : Int) (n : Nat) : upTo lo n = (rngI lo n).map D.int := by unfold upTo rngI; rw [List.map_map]; rfl
omit KK in
theorem rngI_len (lo : Int) (n : Nat) : (rngI lo n).length = n := by simp [rngI]
omit KK in
theorem mem_rngI {lo x : Int} {n : Nat} : x ∈ rngI lo n ↔ lo ≤ x ∧ x < lo + n := by
  unfold rngI
  rw [List.mem_map]
  constructor
  · rintro ⟨a, ha, rfl⟩; have := List.mem_range.mp ha; omega
  · intro h; exact ⟨(x - lo).toNat, List.mem_range.mpr (by omega), by omega⟩
theorem cut_ints (xs : List Int) (lo hi : Option Int) : cutD (xs.map D.int) lo hi = ((xs.drop (HT.sIx xs.length 0 lo)).take (HT.sIx xs.length xs.length hi - HT.sIx xs.length 0 lo)).map D.int := by
  unfold cutD
  rw [List.length_map, List.map_take, List.map_drop]
omit KK in
theorem sIx_pos {n d : Nat} {v : Int} (h : 0 ≤ v) : HT.sIx n d (some v) = min v.toNat n := by
  show (if v < 0 then (v + (n : Int)).toNat else min v.toNat n) = min v.toNat n
  rw [if_neg (by omega)]
section
variable {g : TGv} {tt : TTv} {te : TEv} {ρ : VL.Env}
theorem lc_ints (p : Int → Bool) (f : Int → Int) {Q : D → Prop} {xs : List Int}
    (hs : ∀ i, i ∈ xs → ∀ (N : D → Prop) (M : Prop), (p i = true → N (.int (f i))) → (p i = false → M) → g (.int i) ρ fun ρ2 => tt ρ2 fun k => if k = true then te ρ2 fun d => d.nb = true ∧ N d else M)
    (h : Q (.lst .o (((xs.filter p).map f).map D.int))) : lcL g tt te ρ (xs.map D.int) [] Q := by
  refine lc_fm (fun x => match x with | .int i => if p i = true then some (.int (f i)) else none | _ => none) _ _ (fun x hx N M h1 h2 => ?_) ?_
  · obtain ⟨i, hi, rfl⟩ := List.mem_map.mp hx
    refine hs i hi N M (fun e => h1 _ ?_) (fun e => h2 ?_)
    · simp only [e, if_true]
    · simp only [e]; rfl
  · have e : ∀ ys : List Int, (ys.map D.int).filterMap (fun x => match x with | .int i => if p i = true then some (D.int (f i)) else none | _ => none) = ((ys.filter p).map f).map D.int := by
      intro ys
      induction ys with
      | nil => rfl
      | cons y ys ih =>
        rw [List.map_cons, List.filterMap_cons, List.filter_cons]
        cases hp : p y with
        | true => simp only [hp, if_true, List.map_cons]; rw [ih]
        | false => simp only [hp, Bool.false_eq_true, if_false]; rw [ih]
    rw [List.nil_append, e]
    exact h
theorem lc_int1 (f : Int → Int) {Q : D → Prop} {xs : List Int}
    (hs : ∀ i, i ∈ xs → ∀ (N : D → Prop), N (.int (f i)) → g (.int i) ρ fun ρ2 => te ρ2 fun d => d.nb = true ∧ N d)
    (h : Q (.lst .o ((xs.map f).map D.int))) : lcL g vYes te ρ (xs.map D.int) [] Q := by
  refine lc_ints (fun _ => true) f (fun i hi N M h1 _ => ?_) (by rw [List.filter_eq_self.mpr fun _ _ => rfl]; exact h)
  have e : (fun ρ2 => vYes ρ2 fun k => if k = true then te ρ2 fun d => d.nb = true ∧ N d else M) = fun ρ2 => te ρ2 fun d => d.nb = true ∧ N d := by
    funext ρ2; simp [vYes]
  rw [e]
  exact hs i hi N (h1 rfl)
end
theorem at_ints {xs : List Int} {i : Int} (h0 : 0 ≤ i) (h1 : i.toNat < xs.length) : atI (xs.map D.int) i = some (.int (xs[i.toNat]'h1)) := by
  obtain ⟨j, rfl⟩ := Int.eq_ofNat_of_zero_le h0
  rw [at_nat]
  have : j < xs.length := by simpa using h1
  simp [this]
omit KK in
theorem ixN_pos {n : Nat} {i : Int} (h0 : 0 ≤ i) (h1 : i < n) : ixN n i = some i.toNat := by
  unfold ixN
  rw [if_pos h0, if_pos h1]
section
variable {g : TGv} {tb : TSv} {W : Ev}
/-- a for over ints that folds a state -/
theorem forL_fold {S : Type} (f : S → Int → S) (I : S → VL.Env → Prop) : ∀ (xs : List Int) (s0 : S) {ρ : VL.Env}, I s0 ρ →
    (∀ s i, i ∈ xs → ∀ ρ, I s ρ → ∀ N : VL.Env → Prop, (∀ ρ', I (f s i) ρ' → N ρ') → g (.int i) ρ fun ρ' => tb { nx := N, rt := W.rt, bk := W.nx, ct := N } ρ') →
    (∀ ρ, I (xs.foldl f s0) ρ → W.nx ρ) → forL g tb (xs.map D.int) W ρ
  | [], s0, ρ, h0, _, hd => hd ρ h0
  | x :: xs, s0, ρ, h0, hs, hd => hs s0 x List.mem_cons_self ρ h0 (forL g tb (xs.map D.int) W) fun ρ' h' => forL_fold f I xs (f s0 x) h' (fun s i hi => hs s i (List.mem_cons_of_mem _ hi)) hd
end
/-! ### walks over things that stand for α -/
section
variable {α : Type} {g : TGv} {tb : TSv} {W : Ev} {tt : TTv} {te : TEv} {ρ : VL.Env}
theorem forL_emb {S : Type} (emb : α → D) (f : S → α → S) (I : Nat → S → VL.Env → Prop) : ∀ (xs : List α) (n : Nat) (s0 : S) {ρ : VL.Env}, I n s0 ρ →
    (∀ m s i, i ∈ xs → m < n + xs.length → ∀ ρ, I m s ρ → ∀ N : VL.Env → Prop, (∀ ρ', I (m + 1) (f s i) ρ' → N ρ') → g (emb i) ρ fun ρ' => tb { nx := N, rt := W.rt, bk := W.nx, ct := N } ρ') →
    (∀ ρ, I (n + xs.length) (xs.foldl f s0) ρ → W.nx ρ) → forL g tb (xs.map emb) W ρ
  | [], n, s0, ρ, h0, _, hd => hd ρ h0
  | x :: xs, n, s0, ρ, h0, hs, hd => hs n s0 x List.mem_cons_self (by rw [List.length_cons]; omega) ρ h0 (forL g tb (xs.map emb) W) fun ρ' h' => forL_emb emb f I xs (n + 1) (f s0 x) h' (fun m s i hi hm => hs m s i (List.mem_cons_of_mem _ hi) (by rw [List.length_cons]; omega)) fun ρ h => hd ρ (by rw [List.length_cons, show n + (xs.length + 1) = n + 1 + xs.length by omega]; exact h)
theorem lc_emb (emb : α → D) (p : α → Bool) (f : α → D) {Q : D → Prop} : ∀ {xs : List α} {acc : List D},
    (∀ i, i ∈ xs → ∀ (N : D → Prop) (M : Prop), (p i = true → N (f i)) → (p i = false → M) → g (emb i) ρ fun ρ2 => tt ρ2 fun k => if k = true then te ρ2 fun d => d.nb = true ∧ N d else M) →
    Q (.lst .o (acc ++ (xs.filter p).map f)) → lcL g tt te ρ (xs.map emb) acc Q
  | [], acc, _, h => by rw [List.filter_nil, List.map_nil, List.append_nil] at h; exact h
  | x :: xs, acc, hs, h => by
    refine hs x List.mem_cons_self (fun d => lcL g tt te ρ (xs.map emb) (acc ++ [d]) Q) (lcL g tt te ρ (xs.map emb) acc Q) (fun e => ?_) (fun e => ?_)
    · refine lc_emb emb p f (fun y hy => hs y (List.mem_cons_of_mem _ hy)) ?_
      rw [List.filter_cons, e] at h
      rw [List.append_assoc]
      exact h
    · refine lc_emb emb p f (fun y hy => hs y (List.mem_cons_of_mem _ hy)) ?_
      rw [List.filter_cons, e] at h
      exact h
theorem lc_emb1 (emb : α → D) (f : α → D) {Q : D → Prop} {xs : List α}
    (hs : ∀ i, i ∈ xs → ∀ (N : D → Prop), N (f i) → g (emb i) ρ fun ρ2 => te ρ2 fun d => d.nb = true ∧ N d)
    (h : Q (.lst .o (xs.map f))) : lcL g vYes te ρ (xs.map emb) [] Q := by
  refine lc_emb emb (fun _ => true) f (fun i hi N M h1 _ => ?_) (by rw [List.filter_eq_self.mpr fun _ _ => rfl]; exact h)
  have e : (fun ρ2 => vYes ρ2 fun k => if k = true then te ρ2 fun d => d.nb = true ∧ N d else M) = fun ρ2 => te ρ2 fun d => d.nb = true ∧ N d := by
    funext ρ2; simp [vYes]
  rw [e]
  exact hs i hi N (h1 rfl)
/-- a comprehension whose items are told only so far -/
theorem lc_some (A : D → Prop) {Q : D → Prop} : ∀ {items acc : List D},
    (∀ x, x ∈ items → ∀ (N : D → Prop), (∀ d, A d → d.nb = true → N d) → g x ρ fun ρ2 => te ρ2 fun d => d.nb = true ∧ N d) →
    (∀ ys : List D, ys.length = items.length → (∀ y, y ∈ ys → A y) → Q (.lst .o (acc ++ ys))) → lcL g vYes te ρ items acc Q
  | [], acc, _, h => by
    have := h [] rfl (fun y hy => nomatch hy)
    rw [List.append_nil] at this; exact this
  | x :: xs, acc, hs, h => by
    have e : ∀ (N : D → Prop) (M : Prop), (fun ρ2 => vYes ρ2 fun k => if k = true then te ρ2 fun d => d.nb = true ∧ N d else M) = fun ρ2 => te ρ2 fun d => d.nb = true ∧ N d := fun N M => by
      funext ρ2; simp [vYes]
    rw [lcL, e]
    refine hs x List.mem_cons_self _ fun d hd _ => ?_
    refine lc_some A (fun y hy => hs y (List.mem_cons_of_mem _ hy)) fun ys hl hy => ?_
    have := h (d :: ys) (by simp [hl]) (fun y hy2 => by rcases List.mem_cons.mp hy2 with rfl | h; exact hd; exact hy y h)
    rw [List.append_assoc]; exact this
end
theorem ints_ex (A : Int → Prop) : ∀ {ys : List D}, (∀ y, y ∈ ys → ∃ i, A i ∧ y = .int i) → ∃ is : List Int, ys = is.map .int ∧ ∀ i, i ∈ is → A i
  | [], _ => ⟨[], rfl, fun _ h => nomatch h⟩
  | y :: ys, h => by
    obtain ⟨i, hi, e⟩ := h y List.mem_cons_self
    obtain ⟨is, e2, h2⟩ := ints_ex A (ys := ys) fun z hz => h z (List.mem_cons_of_mem _ hz)
    exact ⟨i :: is, by rw [e, e2]; rfl, fun j hj => by rcases List.mem_cons.mp hj with rfl | hj; exact hi; exact h2 j hj⟩
omit KK in
theorem foldl_filter {α β : Type} (t : α → Bool) (f : α → β) : ∀ (xs : List α) (acc : List β), xs.foldl (fun acc s => if t s = true then acc ++ [f s] else acc) acc = acc ++ (xs.filter t).map f
  | [], acc => by simp
  | x :: xs, acc => by
    rw [List.foldl_cons, foldl_filter t f xs, List.filter_cons]
    split <;> simp
omit KK in
theorem foldl_flat {α β : Type} (f : α → List β) : ∀ (xs : List α) (acc : List β), xs.foldl (fun acc s => acc ++ f s) acc = acc ++ xs.flatMap f
  | [], acc => by simp
  | x :: xs, acc => by rw [List.foldl_cons, foldl_flat f xs]; simp
end VL

/-! ## VLA -/
/-! VL: x.pop(), x.remove(k), sorted(x, reverse=True) of a list or a tuple of ints. -/
namespace VL
open PySem PySem.Spec L2
open PyProof.Rows hiding St
variable [KK : KLs]
/-! ### x.pop() -/
def vPop (i : Nat) : TSv := fun W ρ => match ρ[i]? with
  | some (some (.nd (.lst .o) xs)) => 0 < xs.length ∧ D.alls coF xs = true ∧ W.nx (ρ.set i (some (.lst .o (xs.take (xs.length - 1)))))
  | _ => False
theorem lk_pop {i : Nat} : LS (tDrop (tBM0 KK.K "list" rPop (tVar i))) (vPop i) := by
  intro B0 Z B H σ ρ Dv De R h S
  unfold vPop at h
  split at h
  · rename_i xs e
    obtain ⟨hn, co, h⟩ := h
    obtain ⟨a, o0, vs, G, h1, hx, c, y, nb, ng, aG, fG, W⟩ := R.write (h := .lst .o) e (.inl rfl)
    have c : o0 = .lst vs := c
    subst c
    have eG := Dens.nofp xs vs G co y
    subst eG
    have el : xs.length = vs.length := y.len
    have hv : vs.length - 1 < vs.length := by omega
    refine ⟨_, h1, .inl ⟨rfl, _, .inl (.inl hx)⟩, a, vs, vs[vs.length - 1], rfl, rfl, hx, List.getElem?_eq_getElem hv, ?_⟩
    rw [List.dropLast_eq_take]
    refine S.nx _ _ _ _ (W (.lst .o) (xs.take (xs.length - 1)) (.lst (vs.take (vs.length - 1))) B H (vs.take (vs.length - 1)) [] rfl (Grow.refl R.sub) rfl (by rw [el]; exact Dens.take _ y) List.nodup_nil ?_ (fun b hb => nomatch hb)) h
    rw [D.alls_eq, List.all_eq_true] at nb ⊢
    exact fun d hd => nb d (List.mem_of_mem_take hd)
  · exact h.elim
/-! ### x.remove(k) -/
def vRem (i : Nat) (te : TEv) : TSv := fun W ρ => match ρ[i]? with
  | some (some (.nd (.lst .o) xs)) => te ρ fun d => match d, ints? xs with
    | .int k, some ns => k ∈ ns ∧ W.nx (ρ.set i (some (.lst .o ((ns.erase k).map .int))))
    | _, _ => False
  | _ => False
def noX : WX := fun _ _ _ _ => False
theorem takes_no {X : Cx} : Takes X noX := fun u s' ⟨a, B, sI, pins, σ, H, cls, d, e, I, nb, up, sky, na, os, ag, w⟩ => w.elim
theorem lk_rem {i : Nat} {Te : TE} {te : TEv} (l : LE Te te) : LS (tDrop (tRemX KK.K noX (tVar i) Te)) (vRem i te) := by
  intro B0 Z B H σ ρ Dv De R h S
  unfold vRem at h
  split at h
  · rename_i xs e
    obtain ⟨a, o0, vs, G, h1, hx, c, y, nb, ng, aG, fG, W⟩ := R.write (h := .lst .o) e (.inl rfl)
    have c : o0 = .lst vs := c
    subst c
    refine ⟨_, h1, .inl ⟨rfl, _, .inl (.inl hx)⟩, ?_⟩
    refine l B0 Z B H σ ρ _ _ R h fun d v H1 ⟨B1, F, g, x, nF, fF⟩ q => ?_
    split at q
    · rename_i k ns en o
      have ex := ints_of en
      subst ex
      have ev := dens_ints y
      subst ev
      have x1 : v = .int k := x.1
      subst x1
      refine ⟨a, ns, k, rfl, rfl, g.sh _ _ hx, fun hk => ?_, fun hk => absurd q.1 hk⟩
      exact S.nx _ _ _ _ (W (.lst .o) ((ns.erase k).map .int) (.lst ((ns.erase k).map V.int)) B1 H1 ((ns.erase k).map V.int) [] rfl g rfl (int_dens _) List.nodup_nil (alls_ints nbF _) (fun b hb => nomatch hb)) q.2
    · exact q.elim
  · exact h.elim
section
variable {X : Cx} {p1 p2 p3 p4 : Pos} {x : Str} {e : Expr} {Te : TE} {te : TEv}
theorem s_pop (i : Nat) (hN : X.N[i]? = some x := by rfl) (hv : Vis X.env.scope x := by first | exact Or.inl rfl | exact Or.inr (Or.inl rfl) | exact Or.inr (Or.inr rfl)) (hd : (x == ("__debug__" : Str)) = false := by decide) (hcd : (x == ("__classdict__" : Str)) = false := by decide)
    (hbase : attributeBase (.Name x p1) "pop" X.env (eval (.Name x p1) X.env) = eval (.Name x p1) X.env := by rfl)
    (hline : (p2.endLine == p3.line) = true := by rfl)
    (hsw : swapsWith (.Call (.Attribute (.Name x p1) "pop" p2) [] [] p3) none p4.line X.env = pure false := by rfl) (hK : X.K = KK.K := by rfl) :
    VS X (.Expr (.Call (.Attribute (.Name x p1) "pop" p2) [] [] p3) p4) (tDrop (tBM0 KK.K "list" rPop (tVar i))) (vPop i) := by
  rw [← hK]
  exact ⟨ps_expr (pe_bm0 PySem.F.plainAttrs_list PySem.F.slot_list_pop PySem.F.type_list_pop mt_pop (pe_var hN hv hd hcd) hbase hline) hsw, by rw [hK]; exact lk_pop⟩
theorem s_rem (i : Nat) (hc : X.calm = true) (he : VE X e Te te) (hN : X.N[i]? = some x := by rfl) (hv : Vis X.env.scope x := by first | exact Or.inl rfl | exact Or.inr (Or.inl rfl) | exact Or.inr (Or.inr rfl)) (hd : (x == ("__debug__" : Str)) = false := by decide) (hcd : (x == ("__classdict__" : Str)) = false := by decide)
    (hbase : attributeBase (.Name x p1) "remove" X.env (eval (.Name x p1) X.env) = eval (.Name x p1) X.env := by rfl)
    (hfew : ((backTo p3 (starEach [e] X.env)).all (fun x => !x.1) && (backToKw p3 (keywordEach [] X.env)).all (fun x => x.1.isSome)
      && decide (([e] : List Expr).length + ([] : List Keyword).length + (if ([] : List Keyword).isEmpty then 0 else 1) < 30)) = true := by rfl)
    (hline : (p2.endLine == p3.line) = true := by rfl) (hs : starEach [e] X.env = (false, eval e X.env) :: starEach [] X.env := by rfl) (hplain : (backTo p3 (starEach [] X.env)).any (·.1) = false := by rfl)
    (hsw : swapsWith (.Call (.Attribute (.Name x p1) "remove" p2) [e] [] p3) none p4.line X.env = pure false := by rfl) (hK : X.K = KK.K := by rfl) :
    VS X (.Expr (.Call (.Attribute (.Name x p1) "remove" p2) [e] [] p3) p4) (tDrop (tRemX KK.K noX (tVar i) Te)) (vRem i te) := by
  rw [← hK]
  exact ⟨ps_expr (pe_remX hc takes_no (pe_var hN hv hd hcd) he.pe hbase hfew hline hs hplain) hsw, by rw [hK]; exact lk_rem he.lk⟩
end
/-! ### list(range(n)) -/
def vLstRg1 (ta : TEv) : TEv := fun ρ Q => ta ρ fun x => match x with
  | .int j => bigI j ∧ j.toNat ≤ 1000000 ∧ Q (.lst .o (upTo 0 j.toNat))
  | _ => False
theorem lk_lstRg1 {Ta : TE} {ta : TEv} (la : LE Ta ta) : LE (tLstRg (tRg1 Ta)) (vLstRg1 ta) := by
  intro B0 Z B H σ ρ Qd Q R h k
  refine la B0 Z B H σ ρ _ _ R h fun x vx H1 ⟨B1, F, g, dx, n, f⟩ h => ?_
  split at h
  · rename_i j o
    obtain ⟨b1, b3, q⟩ := h
    refine ⟨_, dx.1, ⟨by decide, by decide, b1.1, b1.2, by omega⟩, fun p hp => ?_⟩
    have := upTo_dens (Z := Z) (B := B1) (H := H1) 0 (j - 0).toNat
    refine k _ _ _ (out_lst (ds := upTo 0 j.toNat) ⟨B1, [], g, ?_, List.nodup_nil, fun a h => nomatch h⟩ hp) q
    rw [show (j - 0).toNat = j.toNat by omega] at this
    unfold rgV
    rw [show (j - 0).toNat = j.toNat by omega]
    exact this
  · exact h.elim
section
variable {X : Cx} {a : Expr} {p p2 pos pos2 : Pos} {Ta : TE} {ta : TEv}
theorem e_lstRg1 (hc : X.calm = true) (hl : X.mg "list" = none) (hm : X.mg "range" = none) (ha : VE X a Ta ta) (hg : Gl X "list" := by rfl) (hg2 : Gl X "range" := by rfl)
    (na : starEach [a] X.env = (false, eval a X.env) :: starEach [] X.env := by rfl)
    (nc : starEach [.Call (.Name "range" p2) [a] [] pos2] X.env = (false, eval (.Call (.Name "range" p2) [a] [] pos2) X.env) :: starEach [] X.env := by rfl) :
    VE X (.Call (.Name "list" p) [.Call (.Name "range" p2) [a] [] pos2] [] pos) (tLstRg (tRg1 Ta)) (vLstRg1 ta) := ⟨pe_listRg hc hg hl (prg_1 hg2 hm ha.pe na) nc, lk_lstRg1 ha.lk⟩
end
end VL
/-! ### sorted(x, reverse=b) of a tuple -/
namespace VLS
open PySem PyProof.Rows Srt SrtO SrtR
section
variable {prog : Program} {w : World} {A : Around} {E : Value → Shared → Prop} {s : Shared}
theorem collect_tup {l : Addr} {vs : List Value} {Q : List Value → Shared → Prop} (hl : IsTup s.heap l vs.toArray) (hsz : vs.length ≤ sizeLine)
    (h : Q vs { s with heap := (s.heap.push (seqObj "list" #[] 0)).update s.heap.objs.size (Obj.mapSeq (· ++ vs.toArray)) }) :
    wpAny (model prog w) A (collect (.ref l)) Q E s := by
  obtain ⟨o, ho, hc, n, hd⟩ := id hl
  have ho' : (s.heap.push (seqObj "list" #[] 0)).get? l = some o := Heap.get?_push_of_some _ ho
  have hn : (s.heap.push (seqObj "list" #[] 0)).get? s.heap.objs.size = some (seqObj "list" #[] 0) := Heap.get?_push_size _ rfl
  unfold collect
  refine wpAny_bind (wpAny_runValue (codeAny_builtin entry_proto_collect' ?_))
  refine wpAny_bind (wpAny_newList (wpAny_pure ⟨Code.quiet_builtin _ (by decide +kernel), codeAny_builtin entry_list_iadd' ?_⟩))
  show wpAny _ _ (Builtin.List.listExtendWith (.ref s.heap.objs.size) (.ref l) (.ref s.heap.objs.size)) _ _ { s with heap := s.heap.push (seqObj "list" #[] 0) }
  unfold Builtin.List.listExtendWith
  refine wpAny_bind (wpAny_typeOf (T := "tuple") ⟨o, ho', hc⟩ ?_)
  have ht : (Value.type "tuple" == Value.type "tuple") = true := by rfl
  rw [if_pos (by rw [ht]; simp)]
  refine wpAny_bind (listItems_at ho' hd (wpAny_bind (listItems_at (xs := #[]) (n := 0) hn rfl ?_)))
  rw [if_neg (by simp)]
  refine wpAny_bind (listUpdate_at (xs := #[]) (n := 0) hn rfl (wpAny_pure ?_) (Nat.zero_le _) (by show (#[] ++ vs.toArray).size ≤ sizeLine + 1; simp only [Array.size_append, List.size_toArray, List.length_nil]; omega))
  refine wpAny_bind (wpAny_load (get?_update_seq hn _) ?_)
  have e : ((#[] : Array Value) ++ vs.toArray).toList = vs := by simp
  show wpAny _ _ (pure ((#[] : Array Value) ++ vs.toArray).toList) Q E _
  rw [e]
  exact wpAny_pure h
theorem sorted_tup {l : Addr} {vs : List Value} {b : Bool} {ltv : Value → Value → Bool} {Q : Value → Shared → Prop} (O : Swo ltv) (hl : IsTup s.heap l vs.toArray) (hz : vs.length ≤ sizeLine)
    (hS : 2 ≤ vs.length → ∀ (h₁ : Heap) (a : Addr), h₁.get? a = some (seqObj "list" vs.toArray 0) → (∀ b o, s.heap.get? b = some o → b ≠ a ∧ h₁.get? b = some o) → SortableO prog w A.in1.in1 { s with heap := h₁ } a vs ltv)
    (h : ∀ out : List Value, Srtd ltv out → Stb ltv out (if b = true then vs.reverse else vs) → Q (.ref (s.heap.objs.size + 1)) { s with heap := sortedAll s.heap vs (if b = true then out.toArray.reverse else out.toArray) }) :
    wpAny (model prog w) A (call (.builtin "sorted") [.ref l] [(Str.ofString "reverse", .bool b)]) Q E s := by
  have hsz : ((s.heap.push (seqObj "list" #[] 0)).update s.heap.objs.size (Obj.mapSeq (· ++ vs.toArray))).objs.size = s.heap.objs.size + 1 := by
    rw [Heap.size_update, size_push']
  have hL : (((s.heap.push (seqObj "list" #[] 0)).update s.heap.objs.size (Obj.mapSeq (· ++ vs.toArray))).push (seqObj "list" vs.toArray 0)).get? (s.heap.objs.size + 1) = some (seqObj "list" vs.toArray 0) := by
    rw [← hsz]
    exact Heap.get?_push_size _ rfl
  have keep : ∀ b o, s.heap.get? b = some o → b ≠ s.heap.objs.size + 1 ∧ (((s.heap.push (seqObj "list" #[] 0)).update s.heap.objs.size (Obj.mapSeq (· ++ vs.toArray))).push (seqObj "list" vs.toArray 0)).get? b = some o := fun b o q => by
    have hlt : b < s.heap.objs.size := Heap.lt_size q
    refine ⟨Nat.ne_of_lt (Nat.lt_succ_of_lt hlt), Heap.get?_push_of_some _ ?_⟩
    rw [Heap.get?_update_ne _ _ _ _ (Nat.ne_of_lt hlt)]
    exact Heap.get?_push_of_some _ q
  refine call_function_entry_kw kind_sorted plain_sorted entry_sorted (args_sorted_rev _ _) ?_
  unfold Builtin.«sorted»
  refine wpAny_bind (m := checkCount "sorted" 1 1 _) (wpAny_pure ?_)
  refine wpAny_bind (collect_tup hl hz (wpAny_bind (wpAny_newList ?_ hz)))
  show wpAny _ _ _ _ _ { s with heap := ((s.heap.push (seqObj "list" #[] 0)).update s.heap.objs.size (Obj.mapSeq (· ++ vs.toArray))).push (seqObj "list" vs.toArray 0) }
  rw [hsz]
  refine wpAny_bind (wpAny_holding (wpAny_call_entry_kw slot_list_sort ⟨_, hL, rfl⟩ entry_list_sort ?_ (args_list_sort_rev _ _)))
  exact list_sort_ordR O hL hz (fun h2 => hS h2 _ _ hL keep) fun out hs hb => ⟨_, rfl, wpAny_pure ⟨_, rfl, h out hs hb⟩⟩
end
end VLS
namespace VL
open PySem PySem.Spec L2
open PyProof.Rows hiding St
variable [KK : KLs]
/-- sorted(x, reverse=b), x a list or a tuple of ints -/
def rSortB (K : PySem.W.Frag) (b : Bool) : List V → List V → Hp → L2.VK → Prop := fun vs zs H Q => ∃ (a : Addr) (ns : List Int), vs = [V.ref a] ∧ zs = [.bl b] ∧ (SqL K H a (ns.map V.int) ∨ SqT K H a (ns.map V.int)) ∧
  ∀ (ns' : List Int) (p : Addr), ns'.Perm ns → OrdB b ns' → H p = none → Q (.ref p) (upd H p (.lst (ns'.map V.int)))
theorem cr_sortB {X : Cx} {b : Bool} : CallRK X (.builtin "sorted") [Str.ofString "reverse"] (rSortB X.K b) := by
  intro pins s σ H vs zs us ws Q I r rz h
  obtain ⟨a, ns, rfl, rfl, hs | hs, q⟩ := h
  · exact cr_sortedRev pins s σ H _ _ us ws Q I r rz ⟨a, ns, rfl, rfl, hs, q⟩
  · obtain rfl := Vals.ref1 r
    obtain ⟨w1, rfl, e1⟩ := vals1 rz
    obtain rfl : w1 = Value.bool b := e1
    obtain ⟨its, rv, hl, hz⟩ := I.tuple hs
    have hi := rv.ints
    refine VLS.sorted_tup SrtO.swo_int hl (by rw [← rv.length]; exact hz) (fun h2 h₁ a' _ _ => SrtO.ints_sortable hi h2) fun out h1 h2 => ?_
    obtain ⟨ns', k1, k2, k3⟩ := SrtR.ints_outR hi h1 h2
    obtain ⟨ep, he'⟩ := PyProof.Rows.sortedAll_at s.heap its (if b = true then out.toArray.reverse else out.toArray)
    have hlen : (ns'.map V.int).length ≤ sizeLine := by
      rw [List.length_map, k2.length_eq]
      rw [List.length_map] at hz
      exact hz
    have e0 : ((if b = true then out.toArray.reverse else out.toArray).toList).toArray = (if b = true then out.toArray.reverse else out.toArray) := by rw [Array.toArray_toList]
    exact ⟨.ref _, upd H (s.heap.objs.size + 1) (.lst (ns'.map V.int)), I.laid (t' := s.toks) (fun _ _ => PyProof.Rows.sortedAll_old) (Nat.le_succ _) ⟨hlen, _, ep, vals_of_ints k1, by rw [e0]; exact he'⟩, rfl, q _ _ k2 k3 (I.hok.fresh (Nat.le_succ _))⟩
def dSortedR : RNv := fun ds Q => match ds with
  | [.nd (.lst _) xs] => match ints? xs with
    | some ns => ∀ ms : List Int, ms.Perm ns → ms.Pairwise (· ≥ ·) → Q (.lst .o (ms.map .int))
    | none => False
  | [.nd .tup xs] => match ints? xs with
    | some ns => ∀ ms : List Int, ms.Perm ns → ms.Pairwise (· ≥ ·) → Q (.lst .o (ms.map .int))
    | none => False
  | _ => False
theorem lr_sortedR : LRn (fun vs H Q => rSortB KK.K true vs [.bl true] H Q) dSortedR := by
  intro B0 Z B H σ ρ ds vs F Qd Q R q h k
  unfold dSortedR at h
  split at h
  · split at h
    · rename_i f xs ns e
      obtain ⟨v, e1, x⟩ := dens_one q
      obtain ⟨a, ws, G, e2, t, y, _⟩ := den_lst R.sub x
      subst e2
      rw [ints_of e] at y
      rw [dens_ints y] at t
      refine ⟨a, ns, e1, rfl, .inl t, fun ns' p pm pw hp => k _ _ _ (out_lst ?_ hp) (h ns' pm pw)⟩
      exact ⟨B, [], Grow.refl R.sub, int_dens ns', List.nodup_nil, fun a h => nomatch h⟩
    · exact h.elim
  · split at h
    · rename_i xs ns e
      obtain ⟨v, e1, x⟩ := dens_one q
      obtain ⟨a, ws, e2, t, _, y⟩ := den_tup R.sub x
      subst e2
      rw [ints_of e] at y
      rw [dens_ints y] at t
      refine ⟨a, ns, e1, rfl, .inr (.inl (.inl t)), fun ns' p pm pw hp => k _ _ _ (out_lst ?_ hp) (h ns' pm pw)⟩
      exact ⟨B, [], Grow.refl R.sub, int_dens ns', List.nodup_nil, fun a h => nomatch h⟩
    · exact h.elim
  · exact h.elim
theorem lk_sortedR {T : TA} {t : TAv} (l : LA T t) : LE (tCKw (rSortB KK.K true) T (tCons (tC (.bl true)) tNil)) (vB dSortedR t) := by
  intro B0 Z B H σ ρ Qd Q R h k
  refine l B0 Z B H σ ρ _ _ R h fun ds vs H1 ⟨B1, F, g, q, n, f⟩ h1 => ?_
  exact lr_sortedR B0 Z B1 H1 σ ρ ds vs F Qd Q (R.grow g) q h1 fun d v H2 o q => k _ _ _ (o.after g) q
section
variable {X : Cx} {p pos : Pos} {e : Expr} {T : TA} {t : TAv} {j : Nat} {kp kpos : Pos}
theorem e_sortedR (hm : X.mg "sorted" = none) (ha : VA X [e] T t) (hg : Gl X "sorted" := by rfl) (hK : X.K = KK.K := by rfl)
    (he : backTo pos (starEach [e] X.env) = (false, eval e X.env) :: backTo pos (starEach [] X.env) := by rfl) (hpl : (backTo pos (starEach [e] X.env)).any (·.1) = false := by rfl)
    (hall : (backToKw pos (keywordEach [⟨some "reverse", .Constant (.bool true) j kp, kpos⟩] X.env)).all (·.1.isSome) = true := by rfl) (hnone : (backToKw pos (keywordEach [⟨some "reverse", .Constant (.bool true) j kp, kpos⟩] X.env)).any (·.1.isNone) = false := by rfl) (hks : (backToKw pos (keywordEach [⟨some "reverse", .Constant (.bool true) j kp, kpos⟩] X.env)).filterMap (·.1) = [Str.ofString "reverse"] := by rfl) :
    VE X (.Call (.Name "sorted" p) [e] [⟨some "reverse", .Constant (.bool true) j kp, kpos⟩] pos) (tCKw (rSortB KK.K true) T (tCons (tC (.bl true)) tNil)) (vB dSortedR t) := by
  rw [← hK]
  exact ⟨pe_callBK cr_sortB hg hm (by decide +kernel) ha.pa (pk_cons pe_bl pk_nil) (by decide) (by decide) he hpl hall hnone hks, by rw [hK]; exact lk_sortedR ha.lk⟩
end
end VL

/-! ## VLA2 -/
/-! VL: a walk over an own list that can be changed again behind the walk. -/
namespace VL
open PySem PySem.Spec L2
open PyProof.Rows hiding St
variable [KK : KLs]
theorem for_go {g : TG} {gv : TGv} {vs : List Nat} {T : TS} {t : TSv} (lg : LG g gv vs) (lt : LS T t) {J : It} {items : List D} {B0 Z B1 H1 : Hp} {σ : L2.St} {ρ : VL.Env} {Dv : Ev} {De : Ends}
    (Y : Yields Z B1 J items) (nc : D.alls coF items = true) (R1 : Rep B0 Z B1 H1 σ ρ) (h : forL gv t items Dv ρ) (S : Sim B0 Z Dv De) : tFor (fun _ H RR => RR J H) g T De σ H1 := by
  refine ⟨fun i m σ' H' => m = items.length - i ∧ i ≤ items.length ∧ ∃ B' ρ', Rep B0 Z B' H' σ' ρ' ∧ Same B1 B' ∧ forL gv t (items.drop i) Dv ρ', ⟨items.length, by simp, Nat.zero_le _, B1, ρ, R1, Same.refl _, by simpa using h⟩, ?_⟩
  rintro i m σ' H' ⟨rfl, hi, B', ρ', R', sb, h'⟩
  have y := Y B' H' sb R'.sub
  by_cases hlt : i < items.length
  · refine .inr ?_
    have e : items[i]? = some items[i] := List.getElem?_eq_getElem hlt
    obtain ⟨h1, h2⟩ := y.1 i _ e
    have hd : items.drop i = items[i] :: items.drop (i + 1) := List.drop_eq_getElem_cons hlt
    rw [hd] at h'
    refine ⟨h1, fun σ2 H2 => ∃ B2 ρ2, Rep B0 Z B2 H2 σ2 ρ2 ∧ Same B1 B2 ∧ forL gv t (items.drop (i + 1)) Dv ρ2, fun σ2 H2 ⟨B2, ρ2, R2, s2, q⟩ => ⟨items.length - (i + 1), by omega, rfl, hlt, B2, ρ2, R2, s2, q⟩, fun x H'' hy => ?_⟩
    obtain ⟨B'', F, g2, dx, nf, fr⟩ := h2 x H'' hy
    have nd := alls_at nc e
    have ef := Den.nofp _ _ _ nd dx
    subst ef
    have R'' := R'.grow g2
    refine lg B0 Z B'' H'' σ' ρ' _ x _ _ R'' dx (co_nb nd) h' fun σ3 ρ3 R3 _ _ h3 => ?_
    refine lt B'' Z B'' H'' σ3 ρ3 _ _ R3.rebase h3 ⟨fun B2 H2 σ2 ρ2 R2 q => ?_, fun d v H2 o ow q => ?_, fun B2 H2 σ2 ρ2 R2 q => ?_, fun B2 H2 σ2 ρ2 R2 q => ?_⟩
    · exact ⟨B2, ρ2, R2.unbase R''.gr, (sb.trans g2.sb).trans R2.gr.sb, q⟩
    · exact S.rt d v H2 (o.unbase R''.gr) ow q
    · exact S.nx _ _ _ _ (R2.unbase R''.gr) q
    · exact ⟨B2, ρ2, R2.unbase R''.gr, (sb.trans g2.sb).trans R2.gr.sb, q⟩
  · have e : i = items.length := by omega
    subst e
    refine .inl ⟨y.2, ?_⟩
    rw [List.drop_length] at h'
    exact S.nx _ _ _ _ R' h'
/-- nothing in it can be what is locked -/
def envUn (ρ : VL.Env) : Bool := ρ.all fun o => match o with | none => true | some d => d.all unF
def vForO (i : Nat) (g : TGv) (tb : TSv) : TSv := fun W ρ => match ρ[i]? with
  | some (some (.nd (.lst .o) xs)) => D.alls puF xs = true ∧ ∀ a : Addr, forL g tb xs
      { nx := fun ρ' => ρ'[i]? = some (some (.cst (.ref a))) ∧ envUn (ρ'.set i none) = true ∧ W.nx (ρ'.set i (some (.lst .o xs))), rt := fun d => d.all unF = true ∧ W.rt d, bk := fun _ => False, ct := fun _ => False } (ρ.set i (some (.cst (.ref a))))
  | _ => False
theorem Slots.unlock {Z B H : Hp} {a : Addr} {ob : Obj} {u o : HO} (hB : B a = some (.frz ob u)) (hH : H a = some (.frz ob u)) : ∀ {ρ : VL.Env} {σ : List (Option V)} {F : List Addr}, envUn ρ = true → Slots Z B H ρ σ F → Slots Z (cutB B a) (upd H a o) ρ σ F
  | [], _, _, _, h => h
  | none :: ρ, _, _, n, ⟨v, σ', e, q⟩ => ⟨v, σ', e, Slots.unlock hB hH (by simpa [envUn] using n) q⟩
  | some d :: ρ, _, _, n, ⟨v, σ', G1, G2, e, nb, x, q, f⟩ => by
    have n2 : d.all unF = true ∧ envUn ρ = true := by simpa [envUn] using n
    exact ⟨v, σ', G1, G2, e, nb, Den.unlock hB hH d v G1 n2.1 x, Slots.unlock hB hH n2.2 q, f⟩
theorem lk_forO {i : Nat} {g : TG} {gv : TGv} {vs : List Nat} {T : TS} {t : TSv} (lg : LG g gv vs) (lt : LS T t) : LS (tLock (tFor (iSeq KK.K (tVar i)) g T)) (vForO i gv t) := by
  intro B0 Z B H σ ρ Dv De R h S
  unfold vForO at h
  split at h
  · rename_i xs e
    obtain ⟨pu, h⟩ := h
    have co : D.alls coF xs = true := D.alls_imp (p := puF) (q := coF) (fun f e => by cases f <;> first | rfl | exact nomatch e) xs pu
    have un : D.alls unF xs = true := D.alls_imp (p := puF) (q := unF) (fun f e => by cases f <;> first | rfl | exact nomatch e) xs pu
    have nbx : D.alls nbF xs = true := D.alls_imp (p := puF) (q := nbF) (fun f e => by cases f <;> first | rfl | exact nomatch e) xs pu
    obtain ⟨F, q, n, z⟩ := R.ex
    obtain ⟨v, G, Rr, h1, h2, h3, h4, h5, h6, h7, h8⟩ := q.part n e
    obtain ⟨a, o, ws, G', ev, x, c, y, f⟩ := h3
    have x : H a = some o := x
    have c : o = .lst ws := c
    subst c ev
    have eG := Dens.nofp xs ws G' co y
    subst eG
    have f : G = [a] := f
    subst f
    have za := z a (h6 a (.inl List.mem_cons_self))
    refine ⟨a, .lst ws, x, True.intro, fun od => ?_⟩
    have sb : Same B (upd B a (.frz od (.lst ws))) := fun b o' eb => by
      have : b ≠ a := fun hb => by subst hb; rw [za.1] at eb; cases eb
      rw [upd_ne this]; exact eb
    have kH : ∀ b, b ≠ a → upd H a (.frz od (.lst ws)) b = H b := fun b hb => upd_ne hb
    have sub : Same (upd B a (.frz od (.lst ws))) (upd H a (.frz od (.lst ws))) := fun b o' eb => by
      by_cases hb : b = a
      · subst hb; rw [upd_same] at eb ⊢; exact eb
      · rw [upd_ne hb] at eb ⊢; exact R.sub _ _ eb
    have y2 : Dens Z (upd B a (.frz od (.lst ws))) (upd H a (.frz od (.lst ws))) xs ws [] := Dens.fixed sb xs ws [] co y
    have q2 := (h8.grow sb (Same.refl _)).keep (H' := upd H a (.frz od (.lst ws))) fun b hb => kH b fun e2 => h5 a List.mem_cons_self (e2 ▸ hb)
    obtain ⟨F', k1, k2, k3⟩ := q2.fill (d := .cst (.ref a)) (v := .ref a) (G := []) (length_of_get e) h1 h7 rfl ⟨rfl, rfl⟩ List.nodup_nil (fun a h => nomatch h)
    have RB : Rep (upd B a (.frz od (.lst ws))) Z (upd B a (.frz od (.lst ws))) (upd H a (.frz od (.lst ws))) σ (ρ.set i (some (.cst (.ref a)))) := by
      refine ⟨⟨Same.refl _, fun b o' eb => ?_, sub, fun _ _ _ n => n⟩, F', k1, k2, fun b hb => ?_⟩
      · have hb : b ≠ a := fun hb => by subst hb; rw [za.2] at eb; cases eb
        rw [kH b hb]; exact R.gr.sh _ _ eb
      · rcases k3 b hb with m | m
        · have hz := z b (h6 b (.inr m))
          have hba : b ≠ a := fun e2 => h5 a List.mem_cons_self (e2 ▸ m)
          exact ⟨by rw [upd_ne hba]; exact hz.1, hz.2⟩
        · cases m
    have Y : Yields Z (upd B a (.frz od (.lst ws))) (Itl KK.K a) xs := yields_lst (fun H' s' => .inl (.inr ⟨od, s' _ _ upd_same⟩)) y2 co
    refine ⟨_, h1, .inr (.inl ⟨a, rfl, ⟨ws, .inl (.inr ⟨od, upd_same⟩)⟩, ?_⟩)⟩
    refine for_go lg lt Y co RB (h a) ⟨fun B' H' σ' ρ' R' w => ?_, fun d v H' ou ow w => ?_, fun _ _ _ _ _ w => w.elim, fun _ _ _ _ _ w => w.elim⟩
    · have b2 : B' a = some (.frz od (.lst ws)) := R'.gr.sb _ _ upd_same
      have hh : H' a = some (.frz od (.lst ws)) := R'.sub _ _ b2
      refine ⟨hh, S.nx (cutB B' a) (upd H' a (.lst ws)) σ' _ ⟨⟨fun b o' eb => ?_, fun b o' eb => ?_, fun b o' eb => ?_, fun b o' eb nb => ?_⟩, ?_⟩ w.2.2⟩
      · have bb := R.gr.sb _ _ eb
        have hb : b ≠ a := fun hb => by subst hb; rw [za.1] at bb; cases bb
        rw [cutB_ne hb]
        exact R'.gr.sb _ _ (by rw [upd_ne hb]; exact bb)
      · have hb : b ≠ a := fun hb => by subst hb; rw [za.2] at eb; cases eb
        rw [upd_ne hb]; exact R'.gr.sh _ _ eb
      · have hb : b ≠ a := fun hb => by subst hb; rw [cutB_same] at eb; cases eb
        rw [cutB_ne hb] at eb
        rw [upd_ne hb]; exact R'.sub _ _ eb
      · have hb : b ≠ a := fun hb => by subst hb; rw [za.2] at eb; cases eb
        rw [cutB_ne hb]
        exact R'.gr.old _ _ eb (by rw [upd_ne hb]; exact R.gr.old _ _ eb nb)
      · obtain ⟨F2, q', n', z'⟩ := R'.ex
        obtain ⟨v', G2, Rr2, j1, j2, j3, j4, j5, j6, j7, j8⟩ := q'.part n' w.1
        have ev2 : v' = .ref a := j3.1
        have eG2 : G2 = [] := j3.2
        subst ev2 eG2
        have aR : a ∉ Rr2 := fun m => by
          have := (z' a (j6 a (.inr m))).1
          rw [b2] at this; cases this
        have u8 := Slots.unlock (o := .lst ws) b2 hh w.2.1 j8
        have yy : Dens Z (cutB B' a) (upd H' a (.lst ws)) xs ws [] := Dens.unlock b2 hh xs ws [] un (Dens.fixed (sb.trans R'.gr.sb) xs ws [] co y)
        obtain ⟨F3, l1, l2, l3⟩ := u8.fill (d := .lst .o xs) (v := .ref a) (G := [a]) (length_of_get w.1) j1 j7 (by show (nbF .o && D.alls nbF xs) = true; rw [nbx]; rfl) ⟨a, _, ws, [], rfl, upd_same, rfl, yy, rfl⟩ (by simp) (fun b m => by rw [List.mem_singleton.mp m]; exact aR)
        refine ⟨F3, l1, l2, fun b m => ?_⟩
        rcases l3 b m with m | m
        · have hz := z' b (j6 b (.inr m))
          have hb : b ≠ a := fun e2 => aR (e2 ▸ m)
          exact ⟨by rw [cutB_ne hb]; exact hz.1, hz.2⟩
        · rw [List.mem_singleton.mp m]
          exact ⟨cutB_same, za.2⟩
    · obtain ⟨B2, F2, g, x2, nf, fr⟩ := ou
      have b2 : B2 a = some (.frz od (.lst ws)) := g.sb _ _ upd_same
      have hh : H' a = some (.frz od (.lst ws)) := g.sub _ _ b2
      refine ⟨hh, S.rt d v (upd H' a (.lst ws)) ⟨cutB B2 a, F2, ⟨fun b o' eb => ?_, fun b o' eb => ?_, fun b o' eb => ?_, fun b o' eb nb => ?_⟩, Den.unlock b2 hh d v F2 w.1 x2, nf, fun b m => ?_⟩ ow w.2⟩
      · have bb := R.gr.sb _ _ eb
        have hb : b ≠ a := fun hb => by subst hb; rw [za.1] at bb; cases bb
        rw [cutB_ne hb]
        exact g.sb _ _ (by rw [upd_ne hb]; exact bb)
      · have hb : b ≠ a := fun hb => by subst hb; rw [za.2] at eb; cases eb
        rw [upd_ne hb]; exact g.sh _ _ eb
      · have hb : b ≠ a := fun hb => by subst hb; rw [cutB_same] at eb; cases eb
        rw [cutB_ne hb] at eb
        rw [upd_ne hb]; exact g.sub _ _ eb
      · have hb : b ≠ a := fun hb => by subst hb; rw [za.2] at eb; cases eb
        rw [cutB_ne hb]
        exact g.old _ _ eb (by rw [upd_ne hb]; exact R.gr.old _ _ eb nb)
      · have zz := fr b m
        have hb : b ≠ a := fun hb => by subst hb; rw [b2] at zz; cases zz.1
        exact ⟨by rw [cutB_ne hb]; exact zz.1, zz.2⟩
  · exact h.elim
section
variable {X : Cx} {tg iter : Expr} {body : List Stmt} {pos : Pos} {ti : TIv} {g : TG} {gv : TGv} {vs : List Nat} {T : TS} {t : TSv}
theorem s_forO (i : Nat) (hc : X.calm = true) (hp : PassesOwn (model X.prog X.w) X.A X.env X.xe) (hi : VI X tg iter (iSeq KK.K (tVar i)) ti) (hg : VG X tg g gv vs) (hb : VSs X body T t) (hs : ∀ x, foldedSetIterable iter X.env x = pure x := by intro _; rfl) :
    VS X (.For tg iter body [] pos) (tLock (tFor (iSeq KK.K (tVar i)) g T)) (vForO i gv t) := ⟨ps_lock (ps_for hp hc hi.pi hg.pg hb.ps hs), lk_forO hg.lk hb.lk⟩
end
end VL

/-! ## VLC -/
/-! VL: dicts whose keys are tuples of ints and texts; x.extend(y); a list times an int. -/
namespace VL
open PySem PySem.Spec L2
open PyProof.Rows hiding St
variable [KK : KLs]
/-! ### keys -/
def keys? : List D → Option (List Key)
  | [] => some []
  | d :: ds => match d.key, keys? ds with
    | some k, some ks => some (k :: ks)
    | _, _ => none
def D.tkey : D → Option (List Key)
  | .nd .tup xs => keys? xs
  | _ => none
section
variable {Z B H : Hp}
theorem keys_den : ∀ {xs : List D} {ks : List Key} {vs : List V} {F : List Addr}, Dens Z B H xs vs F → keys? xs = some ks → vs = ks.map kV
  | [], ks, vs, F, q, e => by cases e; exact q.1
  | d :: ds, ks, _, F, ⟨v, ws, G1, G2, ev, x, q, f⟩, e => by
    subst ev
    unfold keys? at e
    split at e
    · rename_i k ks' e1 e2
      cases e
      rw [D.key_den x e1, keys_den q e2]; rfl
    · cases e
theorem D.tkey_den {y : D} {v : V} {F : List Addr} {k : List Key} (s : Same B H) (h : Den Z B H y v F) (e : y.tkey = some k) : ∃ b, v = .ref b ∧ H b = some (.tup (k.map kV)) := by
  cases y with
  | nd hd xs =>
    cases hd with
    | tup =>
      obtain ⟨a, us, e2, t, tb, yy⟩ := den_tup s h
      exact ⟨a, e2, by rw [t, keys_den yy e]⟩
    | _ => exact nomatch e
  | _ => exact nomatch e
theorem den_dtt {f : Fl} {ks : List (List Key)} {xs : List D} {v : V} {F : List Addr} (s : Same B H) (n : f.ls ≠ .x) (h : Den Z B H (.nd (.dtt f ks) xs) v F) : ∃ a vs G, v = .ref a ∧ Rd H a (.dT (ks.zip vs)) ∧ ks.length = vs.length ∧ Dens Z B H xs vs G := by
  obtain ⟨a, o, vs, G, e, x, c, q, f'⟩ := h
  obtain ⟨l, c⟩ := c
  subst c
  refine ⟨a, vs, G, e, ?_, l, q⟩
  have x : At Z B H f.ls a (.dT (ks.zip vs)) := x
  rcases x.rd s n with h | ⟨us, e, _⟩
  · exact h
  · cases e
end
omit KK in
theorem valV_zipT {k : List Key} (ks : List (List Key)) (vs : List V) : valV (ks.zip vs) k = kfind ks vs k := valV_zip ks vs
/-- d[k] -/
def vTGet (td ty : TEv) : TEv := fun ρ Q => td ρ fun d => ty ρ fun y => match d, y.tkey with
  | .nd (.dtt f ks) xs, some k => rdF f = true ∧ match kfind ks xs k with
    | some d => Q d.bor
    | none => False
  | _, _ => False
theorem lk_tget {Td Ty : TE} {td ty : TEv} (ld : LE Td td) (ly : LE Ty ty) : LE (tDGet Td Ty) (vTGet td ty) := by
  intro B0 Z B H σ ρ Qd Q R h k
  refine ld B0 Z B H σ ρ _ _ R h fun x vx H1 ⟨B1, F, g, dx, n, fr⟩ h => ?_
  refine ly B0 Z B1 H1 σ ρ _ _ (R.grow g) h fun y vy H2 ⟨B2, F2, g2, dy, n2, fr2⟩ h => ?_
  split at h
  · rename_i f ks xs k' e1 _ _
    obtain ⟨hf, h⟩ := h
    split at h
    · rename_i d e2
      obtain ⟨a, vs, G, ev, rd, l, q⟩ := den_dtt g2.sub (rdF_ok hf) (dx.grow g2.sb g2.sh)
      obtain ⟨v, G', e3, y3⟩ := lookup_key q e2
      obtain ⟨b, eb, hb⟩ := D.tkey_den g2.sub dy e1
      refine ⟨a, v, ev, .inr ⟨_, k', b, rd, eb, hb, ?_⟩, k _ _ _ ((Out.of g2.sub y3.see).after (g.trans g2)) h⟩
      rw [valV_zipT, e3]
    · exact h.elim
  · exact h.elim
/-- d.get(k, e) -/
def vTGet2 (td ty te : TEv) : TEv := fun ρ Q => td ρ fun d => match d with
  | .nd (.dtt f ks) xs => rdF f = true ∧ ty ρ fun y => te ρ fun z => match y.tkey with
    | some k => Q (((kfind ks xs k).getD z).bor)
    | none => False
  | _ => False
theorem lk_tget2 {Td Ty Te : TE} {td ty te : TEv} (ld : LE Td td) (ly : LE Ty ty) (le : LE Te te) : LE (tDGet2 Td Ty Te) (vTGet2 td ty te) := by
  intro B0 Z B H σ ρ Qd Q R h k
  refine ld B0 Z B H σ ρ _ _ R h fun x vx H1 ⟨B1, F, g, dx, n, fr⟩ h => ?_
  split at h
  · rename_i f ks xs _
    obtain ⟨hf, h⟩ := h
    obtain ⟨a0, vs0, G0, ev0, rd0, _, _⟩ := den_dtt g.sub (rdF_ok hf) dx
    refine ⟨a0, ev0, .inr ⟨_, rd0⟩, ?_⟩
    refine ly B0 Z B1 H1 σ ρ _ _ (R.grow g) h fun y vy H2 ⟨B2, F2, g2, dy, n2, fr2⟩ h => ?_
    refine le B0 Z B2 H2 σ ρ _ _ ((R.grow g).grow g2) h fun z vz H3 ⟨B3, F3, g3, dz, n3, fr3⟩ h => ?_
    split at h
    · rename_i k' e1
      have g23 := g2.trans g3
      obtain ⟨a, vs, G, ev, rd, l, q⟩ := den_dtt g23.sub (rdF_ok hf) (dx.grow g23.sb g23.sh)
      cases ev0.symm.trans ev
      obtain ⟨b, eb, hb⟩ := D.tkey_den g3.sub (dy.grow g3.sb g3.sh) e1
      refine ⟨_, .inr ⟨_, k', b, rd, eb, hb, rfl⟩, ?_⟩
      rw [valV_zipT]
      cases e2 : kfind ks xs k' with
      | none =>
        rw [e2] at h
        rw [lookup_key_none q e2]
        exact k _ _ _ ((Out.of g3.sub dz.see).after (g.trans g23)) h
      | some d =>
        rw [e2] at h
        obtain ⟨v, G', e3, y3⟩ := lookup_key q e2
        rw [e3]
        exact k _ _ _ ((Out.of g3.sub y3.see).after (g.trans g23)) h
    · exact h.elim
  · exact h.elim
/-- d[k] = e, d a name -/
def vTPut (i : Nat) (ti te : TEv) : TSv := fun W ρ => te ρ fun d => match ρ[i]? with
  | some (some (.nd (.dtt .o ks) xs)) => ti ρ fun y => match y.tkey with
    | some k => d.nb = true ∧ ks.Nodup ∧ ks.length < 1000000 ∧ W.nx (ρ.set i (some (.dtt .o (kadd ks k) (kput ks xs k d))))
    | _ => False
  | _ => False
theorem lk_tput {i : Nat} {Te Ti : TE} {te ti : TEv} (l : LE Te te) (li : LE Ti ti) : LS (sDPut (tVar i) Ti Te) (vTPut i ti te) := by
  intro B0 Z B H σ ρ Dv De R h S
  refine l B0 Z B H σ ρ _ _ R h fun d v H1 ⟨B1, F, g, x, nF, fF⟩ h => ?_
  split at h
  · rename_i ks xs e
    obtain ⟨a, o0, vs, G, h1, hx, c, y, nb, ng, aG, fG, W⟩ := R.write (h := .dtt .o ks) e (.inl rfl)
    obtain ⟨lk, c⟩ := c
    subst c
    refine ⟨_, h1, ?_⟩
    refine li B0 Z B1 H1 σ ρ _ _ (R.grow g) h fun ky kv H2 ⟨B2, F2, g2, x2, _, _⟩ h => ?_
    split at h
    · rename_i k ek
      obtain ⟨nbd, nk, hl, q⟩ := h
      have g12 := g.trans g2
      have live : ∀ b ∈ G, ∃ o, H b = some o := Dens.live _ _ _ y
      obtain ⟨G', q', n', s'⟩ := Dens.kput (k := k) (x.grow g2.sb g2.sh) (ks := ks) lk (Dens.grow g12.sb g12.sh _ _ _ y) ng nF fun b hb z => by
        obtain ⟨o, eo⟩ := live b z
        rw [(fF b hb).2] at eo; cases eo
      obtain ⟨b, eb, hb⟩ := D.tkey_den g2.sub x2 ek
      refine ⟨a, _, rfl, .inr ⟨_, k, b, g12.sh _ _ hx, eb, hb, by rw [List.length_zip]; exact million (by omega), rfl⟩, ?_⟩
      rw [put_zip ks vs lk nk]
      refine S.nx _ _ _ _ (W (.dtt .o (kadd ks k)) (kput ks xs k d) _ B2 H2 (kput ks vs k v) G' rfl g12 ⟨kput_len ks vs lk, rfl⟩ q' n' (alls_kput nb nbd) (fun b hb => ?_)) q
      rcases s' b hb with h | h
      · exact .inl h
      · obtain ⟨o, eo⟩ := x.live _ _ _ b h
        exact .inr ⟨g2.old b o eo (fF b h).1, (fF b h).2⟩
    · exact h.elim
  · exact h.elim
/-- {} -/
def vTct0 : TEv := fun _ Q => Q (.dtt .o [] [])
theorem lk_tct0 : LE tDNewT vTct0 := by
  intro B0 Z B H σ ρ Qd Q R h k p hp
  refine k _ _ _ ?_ h
  have g := Grow.new (o := HO.dT []) R.sub hp
  refine ⟨B, [p], g, ⟨p, _, [], [], rfl, upd_same, ⟨rfl, rfl⟩, ⟨rfl, rfl⟩, rfl⟩, by simp, fun a h => ?_⟩
  have e : a = p := by simpa using h
  subst e
  exact ⟨R.sub.free hp, hp⟩
section
variable {X : Cx} {d i e f k : Expr} {pos apos p1 p2 : Pos} {Td Ti Te Tk : TE} {td ti te tk : TEv} {n : Nat} {x : Str}
theorem e_tct0 : VE X (.Dict [] [] pos) tDNewT vTct0 := ⟨pe_dnewT, lk_tct0⟩
theorem e_tget (hr : Room n X.A) (hd : VE X d Td td) (hi : VE X i Ti ti) (hs : NoSl i := by exact fun _ _ => rfl) : VE X (.Subscript d i pos) (tDGet Td Ti) (vTGet td ti) := ⟨pe_dget (by have := hr.un; omega) hd.pe hi.pe hs, lk_tget hd.lk hi.lk⟩
theorem e_tget2 (hr : Room n X.A) (hd : VE X d Td td) (hi : VE X e Ti ti) (hf : VE X f Te te) (m : M2 X d "get" apos e f pos := by exact ⟨rfl, rfl, rfl, rfl⟩) : VE X (.Call (.Attribute d "get" apos) [e, f] [] pos) (tDGet2 Td Ti Te) (vTGet2 td ti te) := ⟨pe_dget2 (by have := hr.un; omega) hd.pe hi.pe hf.pe m, lk_tget2 hd.lk hi.lk hf.lk⟩
theorem s_tput (hr : Room n X.A) (i : Nat) (he : VE X e Te te) (hk : VE X k Tk tk) (hN : X.N[i]? = some x := by rfl) (hv : Vis X.env.scope x := by first | exact Or.inl rfl | exact Or.inr (Or.inl rfl) | exact Or.inr (Or.inr rfl)) (hd : (x == ("__debug__" : Str)) = false := by decide) (hcd : (x == ("__classdict__" : Str)) = false := by decide)
    (hs : swapsWith e (some (.Subscript (.Name x p1) k p2)) pos.line X.env = pure false := by rfl) : VS X (.Assign [.Subscript (.Name x p1) k p2] e pos) (sDPut (tVar i) Tk Te) (vTPut i tk te) :=
  ⟨ps_dput (by have := hr.un; omega) (pe_var hN hv hd hcd) hk.pe he.pe hs, lk_tput he.lk hk.lk⟩
end
/-! ### the lock -/
theorem Rep.lockT {B0 Z B H : Hp} {σ : L2.St} {ρ : VL.Env} {i : Nat} {ks : List (List Key)} {xs : List D} (R : Rep B0 Z B H σ ρ) (e : ρ[i]? = some (some (.dtt .o ks xs))) (co : D.alls coF xs = true) :
    ∃ a vs, ks.length = vs.length ∧ H a = some (.dT (ks.zip vs)) ∧ B a = none ∧ ∀ od, Rep B0 Z (upd B a (.frz od (.dT (ks.zip vs)))) (upd H a (.frz od (.dT (ks.zip vs)))) σ (ρ.set i (some (.dtt .s ks xs))) := by
  obtain ⟨F, q, n, z⟩ := R.ex
  obtain ⟨v, G, Rr, h1, h2, h3, h4, h5, h6, h7, h8⟩ := q.part n e
  obtain ⟨a, o, vs, G', ev, x, c, y, f⟩ := h3
  have x : H a = some o := x
  obtain ⟨l, c⟩ := c
  subst c
  have eG := Dens.nofp xs vs G' co y
  subst eG
  have f : G = [a] := f
  subst f
  have za := z a (h6 a (.inl List.mem_cons_self))
  refine ⟨a, vs, l, x, za.1, fun od => ?_⟩
  have sb : Same B (upd B a (.frz od (.dT (ks.zip vs)))) := fun b o' eb => by
    have : b ≠ a := fun hb => by subst hb; rw [za.1] at eb; cases eb
    rw [upd_ne this]; exact eb
  have kH : ∀ b, b ≠ a → upd H a (.frz od (.dT (ks.zip vs))) b = H b := fun b hb => upd_ne hb
  have sub : Same (upd B a (.frz od (.dT (ks.zip vs)))) (upd H a (.frz od (.dT (ks.zip vs)))) := fun b o' eb => by
    by_cases hb : b = a
    · subst hb; rw [upd_same] at eb ⊢; exact eb
    · rw [upd_ne hb] at eb ⊢; exact R.sub _ _ eb
  have y2 : Dens Z (upd B a (.frz od (.dT (ks.zip vs)))) (upd H a (.frz od (.dT (ks.zip vs)))) xs vs [] := Dens.fixed sb xs vs [] co y
  have x2 : Den Z (upd B a (.frz od (.dT (ks.zip vs)))) (upd H a (.frz od (.dT (ks.zip vs)))) (.dtt .s ks xs) v [] := ⟨a, _, vs, [], ev, .inl ⟨od, upd_same⟩, ⟨l, rfl⟩, y2, rfl⟩
  have q2 := (h8.grow sb (Same.refl _)).keep (H' := upd H a (.frz od (.dT (ks.zip vs)))) fun b hb => kH b fun e2 => h5 a List.mem_cons_self (e2 ▸ hb)
  have nb : D.nb (.dtt .s ks xs) = true := by
    have := D.alls_imp (p := coF) (q := nbF) (fun f e => by cases f <;> first | rfl | exact nomatch e) xs co
    show (nbF .s && D.alls nbF xs) = true
    rw [this]; rfl
  obtain ⟨F', k1, k2, k3⟩ := q2.fill (length_of_get e) h1 h7 nb x2 List.nodup_nil (fun a h => nomatch h)
  refine ⟨⟨R.gr.sb.trans sb, fun b o' eb => ?_, sub, fun b o' eb nbb => ?_⟩, F', k1, k2, fun b hb => ?_⟩
  · have hb : b ≠ a := fun hb => by subst hb; rw [za.2] at eb; cases eb
    rw [kH b hb]; exact R.gr.sh _ _ eb
  · have hb : b ≠ a := fun hb => by subst hb; rw [za.2] at eb; cases eb
    rw [upd_ne hb]; exact R.gr.old _ _ eb nbb
  · rcases k3 b hb with m | m
    · have hz := z b (h6 b (.inr m))
      have hba : b ≠ a := fun e2 => h5 a List.mem_cons_self (e2 ▸ m)
      exact ⟨by rw [upd_ne hba]; exact hz.1, hz.2⟩
    · cases m
def vLockT (i : Nat) (te : TEv) : TEv := fun ρ Q => match ρ[i]? with
  | some (some (.nd (.dtt .o ks) xs)) => D.alls coF xs = true ∧ te (ρ.set i (some (.dtt .s ks xs))) fun d => d.all unF = true ∧ Q d
  | _ => False
theorem lk_lockT {i : Nat} {T : TE} {t : TEv} (l : LE T t) : LE (tLockE T) (vLockT i t) := by
  intro B0 Z B H σ ρ Qd Q R h k
  unfold vLockT at h
  split at h
  · rename_i ks xs e
    obtain ⟨co, h⟩ := h
    obtain ⟨a, vs, hl, ha, hb, L⟩ := R.lockT e co
    refine ⟨a, _, ha, True.intro, fun od => ?_⟩
    refine l B0 Z _ _ σ _ _ _ (L od) h fun d v H2 o q => ⟨?_, ?_⟩
    · obtain ⟨B2, F, g, _⟩ := o
      exact g.sh _ _ upd_same
    · exact k d v _ (Out.unlock ha hb q.1 o) q.2
  · exact h.elim
theorem e_lockT {X : Cx} {e : Expr} {T : TE} {t : TEv} (i : Nat) (h : VE X e T t) : VE X e (tLockE T) (vLockT i t) := ⟨pe_lock h.pe, lk_lockT h.lk⟩
/-! ### x.extend(y) -/
def vExt (i : Nat) (te : TEv) : TSv := fun W ρ => match ρ[i]? with
  | some (some (.nd (.lst .o) xs)) => te ρ fun d => match d with
    | .nd (.lst f) ys => nsF f.ls = true ∧ D.alls coF ys = true ∧ D.alls nbF ys = true ∧ xs.length + ys.length < 1000000 ∧ W.nx (ρ.set i (some (.lst .o (xs ++ ys))))
    | _ => False
  | _ => False
theorem lk_ext {i : Nat} {Te : TE} {te : TEv} (l : LE Te te) : LS (tDrop (tBM KK.K "list" rExtend (tVar i) (tCons Te tNil))) (vExt i te) := by
  intro B0 Z B H σ ρ Dv De R h S
  unfold vExt at h
  split at h
  · rename_i xs e
    obtain ⟨a, o0, vs, G, h1, hx, c, y, nb, ng, aG, fG, W⟩ := R.write (h := .lst .o) e (.inl rfl)
    have c : o0 = .lst vs := c
    subst c
    refine ⟨_, h1, .inl ⟨rfl, _, .inl (.inl hx)⟩, ?_⟩
    refine l B0 Z B H σ ρ _ _ R h fun d v H1 ⟨B1, F, g, x, nF, fF⟩ q => ?_
    split at q
    · rename_i f ys _
      obtain ⟨nf, co, nby, hl, q⟩ := q
      obtain ⟨b, us, G2, ev, hb, y2, _, _⟩ := den_lst' g.sub nf x
      have e2 := Dens.nofp _ _ _ co y2
      subst e2
      refine ⟨a, b, vs, us, rfl, by rw [ev], g.sh _ _ hx, hb, by rw [← y.len, ← y2.len]; exact Nat.le_of_lt (million (Nat.le_of_lt hl)), ?_⟩
      refine S.nx _ _ _ _ (W (.lst .o) (xs ++ ys) (.lst (vs ++ us)) B1 H1 (vs ++ us) (G ++ []) rfl g rfl (Dens.app (Dens.grow g.sb g.sh _ _ _ y) y2) (by rw [List.append_nil]; exact ng) (by rw [alls_app, nb, nby]; rfl) (fun b hb => ?_)) q
      rw [List.append_nil] at hb
      exact .inl hb
    · exact q.elim
  · exact h.elim
/-! ### a list times an int -/
def dRep : RDv := fun x y Q => match x, y with
  | .nd (.lst f) xs, .int k => nsF f.ls = true ∧ D.alls coF xs = true ∧ bigI k ∧ xs.length * k.toNat ≤ 1000000 ∧ Q (.lst .o (List.replicate k.toNat xs).flatten)
  | _, _ => False
theorem dens_rep {Z B H : Hp} {xs : List D} {vs : List V} (q : Dens Z B H xs vs []) : ∀ n : Nat, Dens Z B H (List.replicate n xs).flatten (List.replicate n vs).flatten []
  | 0 => ⟨rfl, rfl⟩
  | n + 1 => by
    rw [List.replicate_succ, List.replicate_succ, List.flatten_cons, List.flatten_cons]
    exact Dens.app q (dens_rep q n)
theorem lr_rep : LR2 rRep dRep := by
  intro B0 Z B H σ ρ x y vx vy F G Qd Q R dx dy h k
  unfold dRep at h
  split at h
  · obtain ⟨n1, c1, b, hl, q⟩ := h
    obtain ⟨a, us, G1, e1, t1, y1, _⟩ := den_lst' R.sub n1 dx
    have f1 := Dens.nofp _ _ _ c1 y1
    subst f1
    unfold bigI at b
    refine ⟨a, _, us, e1, dy.1, t1, by omega, by omega, by rw [← y1.len]; exact Nat.le_of_lt (million hl), fun p hp => k _ _ _ (out_lst ?_ hp) q⟩
    exact ⟨B, [], Grow.refl R.sub, dens_rep y1 _, List.nodup_nil, fun a h => nomatch h⟩
  · exact h.elim
section
variable {X : Cx} {a b e : Expr} {pos p1 p2 p3 p4 : Pos} {Ta Tb Te : TE} {ta tb te : TEv} {x : Str}
theorem e_rep (ha : VE X a Ta ta) (hb : VE X b Tb tb) : VE X (.BinOp a .Mult b pos) (tOp rRep Ta Tb) (vOp dRep ta tb) := ⟨pe_op op_rep ha.pe hb.pe, lk_op lr_rep ha.lk hb.lk⟩
theorem s_ext (i : Nat) (he : VE X e Te te) (hN : X.N[i]? = some x := by rfl) (hv : Vis X.env.scope x := by first | exact Or.inl rfl | exact Or.inr (Or.inl rfl) | exact Or.inr (Or.inr rfl)) (hd : (x == ("__debug__" : Str)) = false := by decide) (hcd : (x == ("__classdict__" : Str)) = false := by decide)
    (hbase : attributeBase (.Name x p1) "extend" X.env (eval (.Name x p1) X.env) = eval (.Name x p1) X.env := by rfl)
    (hfew : ((backTo p3 (starEach [e] X.env)).all (fun x => !x.1) && (backToKw p3 (keywordEach [] X.env)).all (fun x => x.1.isSome)
      && decide (([e] : List Expr).length + ([] : List Keyword).length + (if ([] : List Keyword).isEmpty then 0 else 1) < 30)) = true := by rfl)
    (hline : (p2.endLine == p3.line) = true := by rfl) (hs : starEach [e] X.env = (false, eval e X.env) :: starEach [] X.env := by rfl) (hplain : (backTo p3 (starEach [] X.env)).any (·.1) = false := by rfl)
    (hsw : swapsWith (.Call (.Attribute (.Name x p1) "extend" p2) [e] [] p3) none p4.line X.env = pure false := by rfl) (hK : X.K = KK.K := by rfl) :
    VS X (.Expr (.Call (.Attribute (.Name x p1) "extend" p2) [e] [] p3) p4) (tDrop (tBM KK.K "list" rExtend (tVar i) (tCons Te tNil))) (vExt i te) := by
  rw [← hK]
  exact ⟨ps_expr (pe_bm PySem.F.plainAttrs_list PySem.F.slot_list_extend PySem.F.type_list_extend mt_extend (pe_var hN hv hd hcd) (pa_cons he.pe pa_nil hs) hbase hfew hline hs hplain) hsw, by rw [hK]; exact lk_ext he.lk⟩
end
/-! ### [k for k in d if d[k] > c[k[0]]], d locked -/
def ovE (ks : List (List Key)) (xs cs : List D) (k : List Key) : Option Bool := match k, kfind ks xs k with
  | .inl a :: _, some (.int x) => match atI cs a with
    | some (.int c) => some (decide (c < x))
    | _ => none
  | _, _ => none
def vKeyC (i c j : Nat) : TEv := fun ρ Q => match ρ[i]?, ρ[c]? with
  | some (some (.nd (.dtt .s ks) xs)), some (some (.nd .tup cs)) => j < ρ.length ∧ ks.Nodup ∧ xs.length = ks.length ∧ ks.length ≤ 1000000 ∧ ∃ f : List Key → Bool, (∀ k, k ∈ ks → ovE ks xs cs k = some (f k)) ∧ ∀ vs : List V, (vs = [] ↔ ∀ k, k ∈ ks → f k = false) → Q (.lst .o (vs.map .cst))
  | _, _ => False
theorem dens_csts {Z B H : Hp} : ∀ vs : List V, Dens Z B H (vs.map D.cst) vs []
  | [] => ⟨rfl, rfl⟩
  | v :: vs => ⟨v, vs, [], [], rfl, ⟨rfl, rfl⟩, dens_csts vs, rfl⟩
theorem lk_keyC {i c j : Nat} (hic : i ≠ j) (hcj : c ≠ j) : LE (tLc (iKeys (tVar i)) (gName j) (tTest (tOp (rI0 fun a b => .bl (decide (b < a))) (tDGet (tVar i) (tVar j)) (tOp (rIx KK.K) (tVar c) (tOp (rIx KK.K) (tVar j) (tC (.int 0)))))) (tVar j) [j]) (vKeyC i c j) := by
  intro B0 Z B H σ ρ Qd Q R h k
  unfold vKeyC at h
  split at h
  · rename_i ks xs cs ei ec
    obtain ⟨hj, nd, hlx, hl, f, hf, h⟩ := h
    obtain ⟨v, G, s1, nb, dx, _⟩ := R.get' ei
    obtain ⟨w, G2, s2, _, dc, _⟩ := R.get' ec
    obtain ⟨a, o, vs, G', ev, x, ⟨hlk, ceq⟩, y, fe⟩ := dx
    subst ceq
    obtain ⟨p, us, ew, tp, bp, yc⟩ := den_tup R.sub dc
    rw [R.len] at hj
    rcases (show (∃ ob, B a = some (.frz ob (.dT (ks.zip vs)))) ∨ ∃ xs, HO.dT (ks.zip vs) = .lst xs ∧ KLst a xs from x) with ⟨ob, hb⟩ | ⟨us, e2, _⟩
    · have ha : H a = some (.frz ob (.dT (ks.zip vs))) := R.sub _ _ hb
      have lz : (ks.zip vs).length = ks.length := by rw [List.length_zip]; omega
      refine ⟨v, s1, a, ob, ev, .inr ⟨_, ha, ?_⟩⟩
      intro Da hD
      have ne : ∀ b o, H b = some o → b ≠ Da := fun b o e z => by rw [z, hD] at e; cases e
      refine ⟨fun n m H' => m = ks.length - n ∧ n ≤ ks.length ∧ ∃ rs : List V, rs.length ≤ n ∧ (rs = [] ↔ ∀ q, q ∈ ks.take n → f q = false) ∧ H' = upd H Da (.lst rs), ⟨ks.length, rfl, Nat.zero_le _, [], by simp, by simp, rfl⟩, ?_⟩
      rintro n m H' ⟨rfl, hn, rs, hrs, hrf, rfl⟩
      have ha' : upd H Da (.lst rs) a = some (.frz ob (.dT (ks.zip vs))) := by rw [upd_ne (ne a _ ha)]; exact ha
      by_cases hlt : n < ks.length
      · refine .inr ⟨⟨ha', by rw [lz]; exact hlt⟩, fun H2 => ∃ rs : List V, rs.length ≤ n + 1 ∧ (rs = [] ↔ ∀ q, q ∈ ks.take (n + 1) → f q = false) ∧ H2 = upd H Da (.lst rs), fun H2 q => ⟨ks.length - (n + 1), by omega, rfl, hlt, q⟩, fun z H'' hy => ?_⟩
        obtain ⟨rfl, kk, vv, q, e3, ez, hq⟩ := hy
        have hn2 : n < vs.length := by omega
        have e4 : (ks.zip vs)[n]? = some (ks[n], vs[n]) := by
          rw [List.getElem?_eq_getElem (by rw [lz]; exact hlt), List.getElem_zip]
        rw [e4] at e3
        have e5 := Option.some.inj e3
        have ek : ks[n] = kk := congrArg Prod.fst e5
        have kf := hf _ (List.getElem_mem hlt)
        rw [ek] at kf
        unfold ovE at kf
        split at kf
        · rename_i a0 rest x0 ef
          split at kf
          · rename_i c0 ea
            have kf := Option.some.inj kf
            obtain ⟨v0, G0, f1, f2⟩ := lookup_key y ef
            have f2 : v0 = .int x0 := f2.1
            subst f2
            obtain ⟨jj, g1, g2⟩ := atI_len yc.len ea
            obtain ⟨w0, G3, g3, g4, _⟩ := yc.at g1
            have g4 : w0 = .int c0 := g4.1
            subst g4
            have ea2 := g2 _ g3
            have s1' : ((wipe σ [j]).set j (some (.ref q)))[i]? = some (some v) := by
              rw [List.getElem?_set_ne (Ne.symm hic)]
              show (σ.set j none)[i]? = _
              rw [List.getElem?_set_ne (Ne.symm hic)]; exact s1
            have s2' : ((wipe σ [j]).set j (some (.ref q)))[c]? = some (some w) := by
              rw [List.getElem?_set_ne (Ne.symm hcj)]
              show (σ.set j none)[c]? = _
              rw [List.getElem?_set_ne (Ne.symm hcj)]; exact s2
            have s3' : ((wipe σ [j]).set j (some (.ref q)))[j]? = some (some (V.ref q)) := by
              show ((σ.set j none).set j _)[j]? = _
              rw [List.getElem?_set_self (by rw [List.length_set]; exact hj)]
            subst ez
            refine ⟨?_, ?_⟩
            · show (((σ.set j none).set j _).set j none) = σ.set j none
              rw [List.set_set, List.set_set]
            · have hp' : upd H Da (.lst rs) p = some (.tup us) := by rw [upd_ne (ne p _ tp)]; exact tp
              refine ⟨v, s1', .ref q, s3', a, .int x0, ev, .inr ⟨_, _, q, .inr ⟨ob, ha'⟩, rfl, hq, by rw [valV_zipT]; exact f1.symm⟩, w, s2', .ref q, s3', .inr (.inl ⟨q, _, 0, .int a0, rfl, rfl, SqT.of hq, by rw [List.map_cons]; exact at0 .. , .inr (.inl ⟨p, us, a0, .int c0, ew, rfl, SqT.of hp', ea2, x0, c0, rfl, rfl, decide (c0 < x0), rfl, ?_⟩)⟩)⟩
              have tk : ks.take (n + 1) = ks.take n ++ [.inl a0 :: rest] := by
                rw [List.take_succ, List.getElem?_eq_getElem hlt, ek]; rfl
              have nx : decide (c0 < x0) = f (.inl a0 :: rest) := kf
              cases hc : decide (c0 < x0) with
              | true =>
                dsimp only
                rw [if_pos rfl]
                refine ⟨.ref q, s3', rs, upd_same, million (by omega), rs ++ [.ref q], by rw [List.length_append]; simp; omega, ⟨fun z => absurd z (by simp), fun z => ?_⟩, upd_upd⟩
                have := z (.inl a0 :: rest) (by rw [tk]; simp)
                rw [← nx, hc] at this
                cases this
              | false =>
                dsimp only
                rw [if_neg Bool.false_ne_true]
                refine ⟨rs, by omega, ?_, rfl⟩
                rw [hrf, tk]
                constructor
                · intro z q hq
                  rcases List.mem_append.mp hq with h | h
                  · exact z q h
                  · rw [List.mem_singleton.mp h, ← nx, hc]
                · exact fun z q hq => z q (List.mem_append.mpr (.inl hq))
          · cases kf
        · cases kf
      · have en : n = ks.length := by omega
        subst en
        refine .inl ⟨⟨ha', by rw [lz]; exact Nat.le_refl _⟩, ?_⟩
        rw [List.take_length] at hrf
        refine k _ _ _ ?_ (h rs hrf)
        exact out_lst ⟨B, [], Grow.refl R.sub, dens_csts rs, List.nodup_nil, fun a h => nomatch h⟩ hD
    · cases e2
  · exact h.elim
section
variable {X : Cx} {elt tg iter : Expr} {ifs : List Expr} {scope : Scope} {own : List (Str × Nat)} {pos : Pos} {i c j : Nat} {ti : TIv} {gv : TGv} {vg : List Nat} {tt : TTv} {te : TEv}
theorem e_keyC (hij : i ≠ j) (hcj : c ≠ j) (hc : X.calm = true) (hN : X.N.Nodup) (hi : VI X tg iter (iKeys (tVar i)) ti) (ok : BlkOk X.N X.env.scope scope own)
    (hg : ∀ (s : Shared) (H : Hp) (C : Addr) (cl : List (Str × Addr)) (fp : List Addr), VG (X.blk s H scope (compEnvC scope cl C X.env) fp) tg (gName j) gv vg) (hv : own.map (·.2) = [j])
    (ht : ∀ (s : Shared) (H : Hp) (C : Addr) (cl : List (Str × Addr)) (fp : List Addr), VTs (X.blk s H scope (compEnvC scope cl C X.env) fp) ifs (tTest (tOp (rI0 fun a b => .bl (decide (b < a))) (tDGet (tVar i) (tVar j)) (tOp (rIx KK.K) (tVar c) (tOp (rIx KK.K) (tVar j) (tC (.int 0)))))) tt)
    (he : ∀ (s : Shared) (H : Hp) (C : Addr) (cl : List (Str × Addr)) (fp : List Addr), VE (X.blk s H scope (compEnvC scope cl C X.env) fp) elt (tVar j) te) (hs : ∀ x, foldedSetIterable iter X.env x = pure x := by intro _; rfl) :
    VE X (.ListComp elt [⟨tg, iter, ifs, 0⟩] scope pos) (tLc (iKeys (tVar i)) (gName j) (tTest (tOp (rI0 fun a b => .bl (decide (b < a))) (tDGet (tVar i) (tVar j)) (tOp (rIx KK.K) (tVar c) (tOp (rIx KK.K) (tVar j) (tC (.int 0)))))) (tVar j) (own.map (·.2))) (vKeyC i c j) :=
  ⟨pe_lc hc hN hi.pi ok (fun s H C cl fp => (hg s H C cl fp).pg) (fun s H C cl fp => (ht s H C cl fp).pt) (fun s H C cl fp => (he s H C cl fp).pe) hs, by rw [hv]; exact lk_keyC hij hcj⟩
end
end VL

/-! ## VLK -/
/-! VL: max of a tuple of ints. -/
namespace VL
open PySem PySem.Spec L2
open PyProof.Rows hiding St
section
variable {prog : Program} {w : World} {A : Around} {E : Value → Shared → Prop} {s : Shared} {l : Addr} {its : List Value} {ns : List Int} {Q : Value → Shared → Prop}
theorem max_rawT (hh : A.handled = none) (hl : IsTup s.heap l its.toArray) (hi : IntsAre its ns) (hne : 0 < ns.length)
    (h : ∀ h' tk M t', (∀ b o, s.heap.get? b = some o → h'.get? b = some o) → M ∈ ns → (∀ a, a ∈ ns → a ≤ M) → Q (.int M t') { s with heap := h', toks := tk }) : wpAny (model prog w) A (call (.builtin "max") [.ref l]) Q E s := by
  obtain ⟨xs, e⟩ := hi.allInts.items
  have hn : numsOf (intItems xs).toList = ns := by rw [← e]; exact hi.numsOf
  rw [nums_intItems] at hn
  subst hn
  rw [e] at hl
  have hsz : 0 < xs.size := by simpa using hne
  have hlt : l < s.heap.objs.size := by obtain ⟨_, e, _⟩ := hl; exact Heap.lt_size e
  refine call_max_walk (iter_tuple hl ?_)
  refine ⟨_, _, _, _, _, _, _, rfl, Walks.tuple (A := A.in1) hh _ l (Nat.ne_of_lt hlt) (intItems xs), ⟨⟨_, Heap.get?_push_size _ rfl, rfl, rfl⟩, hl.push _⟩, ?_, by simpa [intItems] using hsz, CmpOf.ints_gt (numAt xs) (fun _ _ => intItems_at), fun v h' tk hP hk => ?_⟩
  · intro b hb
    show b < (s.heap.push _).objs.size
    rw [Heap.size_push]
    rcases List.mem_cons.mp hb with rfl | hb
    · exact Nat.lt_succ_self _
    · rw [List.mem_singleton.mp hb]; exact Nat.lt_succ_of_lt hlt
  · have hP : (intItems xs)[argBest (fun i j => decide (numAt xs i > numAt xs j)) (xs.size - 1)]? = some v := by simpa [intItems] using hP
    obtain ⟨t, rfl⟩ := intItems_at hP
    obtain ⟨h1, h2⟩ := argBest_gt (numAt xs) (xs.size - 1)
    refine h h' tk _ t (fun b o e => hk b o (fun hm => ?_) (Heap.get?_push_of_some _ e)) ?_ fun a ha => ?_
    · rw [List.mem_singleton.mp hm] at e
      exact absurd (Heap.lt_size e) (Nat.lt_irrefl _)
    · rw [numAt_eq]; exact PySem.getD_mem (by rw [List.length_map, Array.length_toList]; omega)
    · obtain ⟨j, hj, rfl⟩ := mem_getD ha
      rw [List.length_map, Array.length_toList] at hj
      rw [← numAt_eq]; exact h2 j (by omega)
end
variable [KK : KLs]
def rMaxT (K : PySem.W.Frag) : List V → Hp → L2.VK → Prop := fun vs H Q => ∃ (a : Addr) (ns : List Int), vs = [V.ref a] ∧ SqT K H a (ns.map V.int) ∧ 0 < ns.length ∧ ∀ m, m ∈ ns → (∀ y, y ∈ ns → y ≤ m) → Q (.int m) H
theorem cr_maxT {X : Cx} (hc : X.calm = true) : CallR X (.builtin "max") (rMaxT X.K) := by
  intro pins s σ H vs us Q I r h
  obtain ⟨a, ns, rfl, hs, hne, q⟩ := h
  obtain ⟨its, rv, hl, _⟩ := I.tuple hs
  rw [Vals.ref1 r]
  exact max_rawT (I.ok.hd hc) hl rv.ints hne fun h' tk m t' hk h1 h2 => ⟨.int _, H, I.kept hk, ⟨_, rfl⟩, q m h1 h2⟩
def dMaxT : RNv := fun ds Q => match ds with
  | [.nd .tup xs] => match ints? xs with
    | some ns => 0 < ns.length ∧ ∀ m, m ∈ ns → (∀ y, y ∈ ns → y ≤ m) → Q (.int m)
    | none => False
  | _ => False
theorem lr_maxT : LRn (rMaxT KK.K) dMaxT := by
  intro B0 Z B H σ ρ ds vs F Qd Q R q h k
  unfold dMaxT at h
  split at h
  · split at h
    · rename_i xs ns e
      obtain ⟨v, e1, x⟩ := dens_one q
      obtain ⟨a, ws, e2, t, b, y⟩ := den_tup R.sub x
      subst e2
      rw [ints_of e] at y
      rw [dens_ints y] at t
      exact ⟨a, ns, e1, SqT.of t, h.1, fun m h1 h2 => k _ _ _ (Out.of R.sub den_int) (h.2 m h1 h2)⟩
    · exact h.elim
  · exact h.elim
theorem e_maxT {X : Cx} {e : Expr} {es : List Expr} {p pos : Pos} {T : TA} {t : TAv} (hc : X.calm = true) (hm : X.mg "max" = none) (ha : VA X (e :: es) T t) (hg : Gl X "max" := by rfl) (hs : St1 X e es pos := by exact ⟨rfl, rfl⟩) (hK : X.K = KK.K := by rfl) : VE X (.Call (.Name "max" p) (e :: es) [] pos) (tCB (rMaxT KK.K) T) (vB dMaxT t) := by
  rw [← hK]
  exact e_callB (cr_maxT hc) (by rw [hK]; exact lr_maxT) hg hm (by decide +kernel) ha (by decide) (by decide) hs.1 hs.2
end VL

/-! ## VLO -/
/-! VL: a class of the text as a value; isinstance of it; its own ==, != and len. -/
namespace VL
open PySem PySem.Spec L2
open PyProof.Rows hiding St
structure ClsF (K : PySem.W.Frag) (C : Addr) : Prop where
  cl : Cls K C
  ic : PySem.W.isClsIn K C = true
  ty : PySem.W.typeIn K (.ref C) = some (.type "type")
  ha : PySem.W.findIn K (.ref C) "__class__" = some (some (.builtin "object.__class__"))
  hn : PySem.W.specialIn K (.builtin "object.__class__") "__get__" = some (some (.builtin "getset_descriptor.__get__"))
  htk : PySem.W.takesIn K (.builtin "object.__class__") = some true
  hm : PySem.W.mroIn K C (.type "object") = some true
theorem sub_no {K : PySem.W.Frag} {C : Addr} : ∀ T ∈ tyNames, PySem.W.subIn K (.type T) (.ref C) = some false := by
  intro T hT
  simp only [tyNames, List.mem_cons, List.not_mem_nil, or_false] at hT
  rcases hT with rfl | rfl | rfl | rfl | rfl | rfl | rfl <;> kernel_rfl
theorem kit_no {K : PySem.W.Frag} {C : Addr} (F : ClsF K C) {T : String} (hT : T ∈ tyNames) : PySem.W.kitOne K (.type T) (.ref C) = some false := by
  unfold PySem.W.kitOne
  rw [if_neg (by simp)]
  show (if ((PySem.W.clsIn K C).isSome && PySem.W.typeIn K (.ref C) == some (.type "type")) = true then PySem.W.subIn K (.type T) (.ref C) else none) = _
  rw [if_pos (by rw [show (PySem.W.clsIn K C).isSome = true from F.ic, F.ty]; simp), sub_no T hT]
theorem kit_yes {K : PySem.W.Frag} {C : Addr} : PySem.W.kitOne K (.ref C) (.ref C) = some true := if_pos (by simp)
theorem nf_no {K : PySem.W.Frag} {C : Addr} {T : String} (hT : T ∈ tyNames) : PySem.W.notFirst K C (.type T) = true := by
  unfold PySem.W.notFirst
  rw [sub_no T hT]; simp
theorem nf_yes {K : PySem.W.Frag} {C : Addr} : PySem.W.notFirst K C (.ref C) = true := by
  unfold PySem.W.notFirst
  simp
variable [KK : KLs]
def D.kn : D → Bool
  | .cst _ => false | .nd (.obj _ _) _ => false | .nd (.slf _ _ _) _ => false | .nd (.dtt _ _) _ => false | .nd (.lsk _) _ => false | _ => true
omit KK in
theorem kn_ty {d : D} (h : d.kn = true) : d.ty ≠ "?" := by
  cases d with
  | non => decide
  | bl b => show "bool" ≠ "?"; decide
  | int i => show "int" ≠ "?"; decide
  | str x => show "str" ≠ "?"; decide
  | cst v => exact nomatch h
  | nd hd xs =>
    cases hd with
    | tup => show "tuple" ≠ "?"; decide
    | lst f => show "list" ≠ "?"; decide
    | dct f ks => show "dict" ≠ "?"; decide
    | _ => exact nomatch h
/-- the second side of an own comparison -/
def okY (C : Addr) : D → Prop
  | .nd (.obj C' _) _ => C' = C
  | y => y.kn = true
theorem okY_ty {Z B H : Hp} {C : Addr} {y : D} {v : V} {F : List Addr} (CF : ClsF KK.K C) (s : Same B H) (x : Den Z B H y v F) (h : okY C y) : ∃ tb, TyX KK.K H v tb ∧ PySem.W.notFirst KK.K C tb = true := by
  have other : y.kn = true → ∃ tb, TyX KK.K H v tb ∧ PySem.W.notFirst KK.K C tb = true := fun k => ⟨_, den_tyx s x (kn_ty k), nf_no (ty_mem (kn_ty k))⟩
  cases y with
  | nd hd xs =>
    cases hd with
    | obj C' ns =>
      have e : C' = C := h
      subst e
      obtain ⟨a, o, vs, G, ev, hx, ⟨l, dx, c⟩, q, f⟩ := x
      subst ev c
      exact ⟨_, .base (.ins (s _ _ hx) CF.cl CF.ha CF.hn CF.htk CF.hm), nf_yes⟩
    | _ => exact other h
  | _ => exact other h
/-! ### isinstance(x, C) -/
def dIsiO (C : Addr) : RNv := fun ds Q => match ds with
  | [.nd (.obj C' _) _, .cst (.ref c)] => c = C ∧ C' = C ∧ Q (.bl true)
  | [d, .cst (.ref c)] => d.kn = true ∧ c = C ∧ Q (.bl false)
  | _ => False
theorem lr_isiO {C : Addr} (CF : ClsF KK.K C) : LRn (rIsi KK.K) (dIsiO C) := by
  intro B0 Z B H σ ρ ds vs F Qd Q R q h k
  unfold dIsiO at h
  split at h
  · obtain ⟨rfl, rfl, h⟩ := h
    obtain ⟨v, w, G1, G2, e, x, y, _⟩ := dens_two q
    have y : w = .ref _ := y.1
    subst y
    obtain ⟨a, o, us, G, ev, hx, ⟨l, dx, c⟩, q', f⟩ := x
    subst ev c
    exact ⟨_, _, _, _, true, e, .own _, .base (.ins (R.sub _ _ hx) CF.cl CF.ha CF.hn CF.htk CF.hm), kit_yes, k _ _ _ (Out.of R.sub den_bl) h⟩
  · obtain ⟨kn, rfl, h⟩ := h
    obtain ⟨v, w, G1, G2, e, x, y, _⟩ := dens_two q
    have y : w = .ref _ := y.1
    subst y
    exact ⟨_, _, _, _, false, e, .own _, den_tyx R.sub x (kn_ty kn), kit_no CF (ty_mem (kn_ty kn)), k _ _ _ (Out.of R.sub den_bl) h⟩
  · exact h.elim
/-! ### x == y, x != y by the class's own method -/
def rOwn (K : PySem.W.Frag) (C : Addr) (sp : Sp) : R2 := fun x y H Q => ∃ a dx fs, x = .ref a ∧ H a = some (.ins C dx fs) ∧ (∃ tb, TyX K H y tb ∧ PySem.W.notFirst K C tb = true) ∧ sp [x, y] H (fun v H' => ∃ b, v = .bl b ∧ Q v H') E0
theorem op_own {X : Cx} {op : CmpOp} {C f : Addr} {k : Nat} {fd : FuncData} {ps : List Str} {sp : Sp} (F : FnOk X.prog X.w X.K X.mg X.base (L2.CX X.prog X.w) k f fd ps sp) (hs : PySem.W.findIn X.K (.ref C) (cmpInfo op).2.1 = some (some (.ref f))) (hf : PySem.W.isFn X.K (.ref f) = true) (hb : Binds X.K fd ps []) (hr : Room k X.A)
    (hop : ∀ v u, compareOp op v u = richCompare op v u) : OpR X (compareOp op) (rOwn X.K C sp) := by
  intro pins s σ H x y v u Q I rx ry h
  obtain ⟨a, dx, fs, rfl, ha, ⟨tb, ty, nf⟩, hsp⟩ := h
  cases rx
  obtain ⟨mA, J, _⟩ := ins_get I.hok ha
  obtain ⟨od, J, _⟩ := J.look
  obtain ⟨m, hF⟩ := I.fr
  obtain ⟨P, Z, p, _⟩ := kit_of I ry ty
  rw [hop]
  refine PySem.W.cmp_K (op := op) (tb := tb) (by have := hr.un; omega) hF I.ok.mod.kin J (Z.ty _ _ I.kIn p) nf hs hf ?_
  refine wpAny_mono (run_fn (Q := fun v H' => ∃ b, v = .bl b ∧ Q v H') F hr hb .nil passL I (show Vals [V.ref a, y] [Value.ref a, u] from .cons rfl (.cons ry .nil)) (by simpa using hsp)) (fun r s' q => ?_) fun _ _ e => e
  obtain ⟨z, H', I', rz, b, ez, q⟩ := q
  subst ez
  cases rz
  exact ⟨.bl b, H', I', rfl, q⟩
def vOwn (C : Addr) (P : PV) (ta tb : TEv) : TEv := fun ρ Q => ta ρ fun x => tb ρ fun y => match x with
  | .nd (.obj C' _) _ => C' = C ∧ okY C y ∧ P [x.arg, y.arg] (fun d => d.ow = true ∧ match d with | .bl b => Q (.bl b) | _ => False) (fun _ => False)
  | _ => False
theorem lk_own {C : Addr} {P : PV} {Ta Tb : TE} {ta tb : TEv} (CF : ClsF KK.K C) (la : LE Ta ta) (lb : LE Tb tb) : LE (tOp (rOwn KK.K C (spV 2 P)) Ta Tb) (vOwn C P ta tb) := by
  intro B0 Z B H σ ρ Qd Q R h k
  refine la B0 Z B H σ ρ _ _ R h fun x vx H1 ⟨B1, F, g, dx, n, f⟩ h => ?_
  refine lb B0 Z B1 H1 σ ρ _ _ (R.grow g) h fun y vy H2 ⟨B2, F2, g2, dy, n2, f2⟩ h => ?_
  split at h
  · rename_i C' ns xs _ _
    obtain ⟨rfl, oy, hP⟩ := h
    have dx2 := dx.grow g2.sb g2.sh
    obtain ⟨a, o, us, G, ev, hx, ⟨l, ddx, c⟩, q', fe⟩ := id dx2
    subst ev c
    refine ⟨a, ddx, _, rfl, g2.sub _ _ hx, okY_ty CF g2.sub dy oy, ?_⟩
    have := hand_call (n := 2) (P := P) (dds := []) (dvs := []) (ds := [.nd (.obj C' ns) xs, y]) (vs := [.ref a, vy]) (F := F ++ (F2 ++ [])) (Qd := fun d => match d with | .bl b => Qd (.bl b) | _ => False) (Q := fun v H' => ∃ b, v = .bl b ∧ Q v H') R (g.trans g2) ⟨_, _, _, _, rfl, dx2, ⟨_, _, _, _, rfl, dy, ⟨rfl, rfl⟩, rfl⟩, rfl⟩ True.intro rfl hP fun d v H' o q => ?_
    · simpa using this
    · split at q
      · rename_i b
        obtain ⟨B3, F3, g3, x3, _⟩ := id o
        exact ⟨b, x3.1, k _ _ _ o q⟩
      · exact q.elim
  · exact h.elim
/-! ### len(x) by the class's own method -/
def rLenO (C : Addr) (sp : Sp) : List V → Hp → L2.VK → Prop := fun xs H Q => ∃ a dx fs, xs = [V.ref a] ∧ H a = some (.ins C dx fs) ∧ sp [.ref a] H (fun v H' => ∃ n : Int, v = .int n ∧ 0 ≤ n ∧ n < 2 ^ 63 ∧ Q v H') E0
theorem cr_lenO {X : Cx} {C f : Addr} {k : Nat} {fd : FuncData} {ps : List Str} {sp : Sp} (F : FnOk X.prog X.w X.K X.mg X.base (L2.CX X.prog X.w) k f fd ps sp) (hs : PySem.W.findIn X.K (.ref C) "__len__" = some (some (.ref f))) (hf : PySem.W.isFn X.K (.ref f) = true) (hb : Binds X.K fd ps []) (hr : Room (k + 1) X.A) : CallR X (.builtin "len") (rLenO C sp) := by
  intro pins s σ H vs us Q I r h
  obtain ⟨a, dx, fs, rfl, ha, hsp⟩ := h
  rw [Vals.ref1 r]
  obtain ⟨mA, J, _⟩ := ins_get I.hok ha
  obtain ⟨od, J, _⟩ := J.look
  obtain ⟨m, hF⟩ := I.fr
  refine PySem.W.len_K hF I.ok.mod.kin J hs hf ?_
  have e0 : Env0 X.prog X.w X.K X.mg X.base X.A.in1 X.stack s H := by
    have e := I.env0
    exact ⟨e.frames, e.mod, e.bs, e.bsz, e.funs, e.frf, e.hok, e.bare⟩
  have hl := F.len _ _ _ _ hsp
  have r2 : Vals [V.ref a] [Value.ref a] := .cons rfl .nil
  refine wpAny_call (codeAny_mono (F.run X.A.in1 X.stack s H ⟨[.ref a], []⟩ [.ref a] [.ref a] _ E0 hr.in1 e0 (by
    have := hb s [.ref a] I.kIn (by simpa using hl)
    simpa using this) r2 hsp) fun r s' hq => ?_)
  cases r with
  | error e => exact passL pins σ H s e s' I hq
  | ok fl =>
    cases fl with
    | ret w =>
      obtain ⟨z, H', I', rz, n, ez, h0, h1, q⟩ := I.after hq
      subst ez
      obtain ⟨t, rfl⟩ := rz
      exact ⟨⟨h0, h1⟩, ⟨.int n, H', I'.tok _, ⟨_, rfl⟩, q⟩⟩
    | next => exact False.elim hq
    | brk => exact False.elim hq
    | cont => exact False.elim hq
def dLenO (C : Addr) (P : PV) : RNv := fun ds Q => match ds with
  | [.nd (.obj C' ns) xs] => C' = C ∧ P [D.arg (.nd (.obj C' ns) xs)] (fun d => d.ow = true ∧ match d with | .int n => 0 ≤ n ∧ n < 2 ^ 63 ∧ Q (.int n) | _ => False) (fun _ => False)
  | _ => False
theorem lr_lenO {C : Addr} {P : PV} : LRn (rLenO C (spV 1 P)) (dLenO C P) := by
  intro B0 Z B H σ ρ ds vs F Qd Q R q h k
  unfold dLenO at h
  split at h
  · rename_i C' ns xs
    obtain ⟨rfl, hP⟩ := h
    obtain ⟨v, e1, x⟩ := dens_one q
    obtain ⟨a, o, us, G, ev, hx, ⟨l, ddx, c⟩, q', fe⟩ := id x
    subst ev c e1
    refine ⟨a, ddx, _, rfl, R.sub _ _ hx, ?_⟩
    have := hand_call (n := 1) (P := P) (dds := []) (dvs := []) (Qd := fun d => match d with | .int n => 0 ≤ n ∧ n < 2 ^ 63 ∧ Qd (.int n) | _ => False) (Q := fun v H' => ∃ n : Int, v = .int n ∧ 0 ≤ n ∧ n < 2 ^ 63 ∧ Q v H') R (Grow.refl R.sub) q True.intro rfl hP fun d v H' o q => ?_
    · simpa using this
    · split at q
      · rename_i n
        obtain ⟨h0, h1, q⟩ := q
        obtain ⟨B3, F3, g3, x3, _⟩ := id o
        exact ⟨n, x3.1, h0, h1, k _ _ _ o q⟩
      · exact q.elim
  · exact h.elim
/-! ### the rules -/
/-- a method of a class that the language calls by itself -/
structure Met (P : Program) (w : World) (K : PySem.W.Frag) (mg : Str → Option Value) (base : Heap) (k : Nat) (C : Addr) (m : Str) (n : Nat) (Pv : PV) : Prop where
  ex : ∃ (f : Addr) (fd : FuncData) (ps : List Str), FnOk P w K mg base (L2.CX P w) k f fd ps (spV n Pv) ∧ PySem.W.findIn K (.ref C) m = some (some (.ref f)) ∧ PySem.W.isFn K (.ref f) = true ∧ Binds K fd ps []
section
variable {X : Cx} {k j : Nat} {C f : Addr} {P : PV} {a b e : Expr} {es : List Expr} {p pos : Pos} {x : Str} {Ta Tb : TE} {ta tb : TEv} {T : TA} {t : TAv} {fd : FuncData} {ps : List Str}
theorem e_eqO (CF : ClsF KK.K C) (F : FnOk X.prog X.w X.K X.mg X.base (L2.CX X.prog X.w) k f fd ps (spV 2 P)) (hs : PySem.W.findIn X.K (.ref C) "__eq__" = some (some (.ref f))) (hf : PySem.W.isFn X.K (.ref f) = true) (hb : Binds X.K fd ps []) (hr : Room j X.A) (hk : k ≤ j)
    (h1 : VE X a Ta ta) (h2 : VE X b Tb tb) (hK : X.K = KK.K := by rfl) : VE X (.Compare a [.Eq] [b] pos) (tOp (rOwn KK.K C (spV 2 P)) Ta Tb) (vOwn C P ta tb) :=
  ⟨by rw [← hK]; exact pe_cmpR (op_own (op := .Eq) F hs hf hb (hr.mono hk) fun _ _ => rfl) h1.pe h2.pe (nomark _), lk_own CF h1.lk h2.lk⟩
theorem t_eqO (CF : ClsF KK.K C) (F : FnOk X.prog X.w X.K X.mg X.base (L2.CX X.prog X.w) k f fd ps (spV 2 P)) (hs : PySem.W.findIn X.K (.ref C) "__eq__" = some (some (.ref f))) (hf : PySem.W.isFn X.K (.ref f) = true) (hb : Binds X.K fd ps []) (hr : Room j X.A) (hk : k ≤ j)
    (h1 : VE X a Ta ta) (h2 : VE X b Tb tb) (hK : X.K = KK.K := by rfl) : VT X (.Compare a [.Eq] [b] pos) (tTest (tOp (rOwn KK.K C (spV 2 P)) Ta Tb)) (vTest (vOwn C P ta tb)) :=
  ⟨by rw [← hK]; exact pt_cmpR (op_own (op := .Eq) F hs hf hb (hr.mono hk) fun _ _ => rfl) h1.pe h2.pe (nomark _), lk_test (lk_own CF h1.lk h2.lk)⟩
theorem e_neO (CF : ClsF KK.K C) (F : FnOk X.prog X.w X.K X.mg X.base (L2.CX X.prog X.w) k f fd ps (spV 2 P)) (hs : PySem.W.findIn X.K (.ref C) "__ne__" = some (some (.ref f))) (hf : PySem.W.isFn X.K (.ref f) = true) (hb : Binds X.K fd ps []) (hr : Room j X.A) (hk : k ≤ j)
    (h1 : VE X a Ta ta) (h2 : VE X b Tb tb) (hK : X.K = KK.K := by rfl) : VE X (.Compare a [.NotEq] [b] pos) (tOp (rOwn KK.K C (spV 2 P)) Ta Tb) (vOwn C P ta tb) :=
  ⟨by rw [← hK]; exact pe_cmpR (op_own (op := .NotEq) F hs hf hb (hr.mono hk) fun _ _ => rfl) h1.pe h2.pe (nomark _), lk_own CF h1.lk h2.lk⟩
theorem e_lenO (F : FnOk X.prog X.w X.K X.mg X.base (L2.CX X.prog X.w) k f fd ps (spV 1 P)) (hs : PySem.W.findIn X.K (.ref C) "__len__" = some (some (.ref f))) (hf : PySem.W.isFn X.K (.ref f) = true) (hb : Binds X.K fd ps []) (hr : Room j X.A) (hk : k + 1 ≤ j)
    (hm : X.mg "len" = none) (ha : VA X (e :: es) T t) (hg : Gl X "len" := by rfl) (hs2 : St1 X e es pos := by exact ⟨rfl, rfl⟩) : VE X (.Call (.Name "len" p) (e :: es) [] pos) (tCB (rLenO C (spV 1 P)) T) (vB (dLenO C P) t) :=
  e_callB (cr_lenO F hs hf hb (hr.mono hk)) lr_lenO hg hm (by decide +kernel) ha (by decide) (by decide) hs2.1 hs2.2
theorem e_clsV (hm : X.mg x = some (.ref C)) (hg : Gl X x := by rfl) (hd : (x == ("__debug__" : Str)) = false := by decide) : VE X (.Name x pos) (tC (.ref C)) (vC (.cst (.ref C))) :=
  ⟨pe_glob hg hm (show RelV (V.ref C) (Value.ref C) from rfl) hd, lk_c fun _ _ _ => den_cst⟩
theorem e_isiO (CF : ClsF KK.K C) (hm : X.mg "isinstance" = none) (ha : VA X (e :: es) T t) (hg : Gl X "isinstance" := by rfl) (hs : St1 X e es pos := by exact ⟨rfl, rfl⟩) (hK : X.K = KK.K := by rfl) : VE X (.Call (.Name "isinstance" p) (e :: es) [] pos) (tCB (rIsi KK.K) T) (vB (dIsiO C) t) := by
  rw [← hK] at CF ⊢
  exact e_callB call_isi (by rw [hK] at CF ⊢; exact lr_isiO CF) hg hm (by decide +kernel) ha (by decide) (by decide) hs.1 hs.2
end
end VL

/-! ## VLJ -/
/-! VL: an own list that a name and a dict hold at the same time: its place is told (vKnow), the dict holds the place alone, and at the end they are put together (vKnit). -/
namespace VL
open PySem PySem.Spec L2
open PyProof.Rows hiding St
variable [KK : KLs]
def vKnow (i : Nat) (t : TSv) : TSv := fun W ρ => match ρ[i]? with
  | some (some (.nd (.lst .o) xs)) => ∀ y : Addr, t W (ρ.set i (some (.nd (.lsk (.c y)) xs)))
  | _ => False
theorem lk_know {i : Nat} {T : TS} {t : TSv} (l : LS T t) : LS T (vKnow i t) := by
  intro B0 Z B H σ ρ Dv De R h S
  unfold vKnow at h
  split at h
  · rename_i xs e
    obtain ⟨F, q, n, z⟩ := R.ex
    obtain ⟨v, G, Rr, h1, h2, h3, h4, h5, h6, h7, h8⟩ := q.part n e
    obtain ⟨a, o, vs, G', ev, x, c, yd, f⟩ := h3
    have h2' : (nbF .o && D.alls nbF xs) = true := h2
    obtain ⟨F', k1, k2, k3⟩ := h8.fill (d := .nd (.lsk (.c a)) xs) (length_of_get e) h1 h7 (by show (nbF (.c a) && D.alls nbF xs) = true; simpa [nbF] using h2') ⟨a, o, vs, G', ev, ⟨x, rfl⟩, c, yd, f⟩ h4 h5
    exact l B0 Z B H σ _ Dv De ⟨R.gr, F', k1, k2, fun b m => z b (h6 b ((k3 b m).elim .inr .inl))⟩ (h a) S
  · exact h.elim
def vKnit (i j : Nat) (t : TSv) : TSv := fun W ρ => match ρ[i]?, ρ[j]? with
  | some (some (.nd (.lsk (.c y)) xs)), some (some (.nd (.dct .o ks) (.cst (.ref y') :: ds))) => y' = y ∧ i ≠ j ∧ t W ((ρ.set i none).set j (some (.dct .o ks (.lst .o xs :: ds))))
  | _, _ => False
theorem lk_knit {i j : Nat} {T : TS} {t : TSv} (l : LS T t) : LS T (vKnit i j t) := by
  intro B0 Z B H σ ρ Dv De R h S
  unfold vKnit at h
  split at h
  · rename_i y xs ks y' ds ei ej
    obtain ⟨rfl, ne, h⟩ := h
    obtain ⟨F, q, n, z⟩ := R.ex
    obtain ⟨v, G, Rr, h1, h2, h3, h4, h5, h6, h7, h8⟩ := q.part n ei
    obtain ⟨a, o, vs, G', ev, ⟨x, ea⟩, c, yd, f⟩ := h3
    subst ea
    have f : G = a :: G' := f
    subst f
    have ej2 : (ρ.set i none)[j]? = some (some (.nd (.dct .o ks) (.cst (.ref a) :: ds))) := by rw [List.getElem?_set_ne ne]; exact ej
    obtain ⟨v2, G2, Rr2, j1, j2, j3, j4, j5, j6, j7, j8⟩ := h8.part h7 ej2
    obtain ⟨b, o2, vs2, Gd, ev2, x2, c2, yd2, f2⟩ := j3
    have f2 : G2 = b :: Gd := f2
    subst f2
    obtain ⟨w, ws, W1, W2, ew, ⟨ew2, eW1⟩, yd3, fd⟩ := yd2
    subst ew2 eW1 ew
    have fd : Gd = W2 := fd
    subst fd
    have nbx : D.alls nbF xs = true := by
      have : (nbF (.c a) && D.alls nbF xs) = true := h2
      simpa [nbF] using this
    have nbd : D.alls nbF ds = true := by
      have : (nbF .o && (D.all nbF (.cst (.ref a)) && D.alls nbF ds)) = true := j2
      simpa [nbF, D.all] using this
    have dj : ∀ u, u ∈ a :: G' → u ∉ b :: Gd := fun u m m2 => h5 u m (j6 u (.inl m2))
    have nj := List.nodup_cons.mp j4
    obtain ⟨F', k1, k2, k3⟩ := j8.fill (d := .dct .o ks (.lst .o xs :: ds)) (v := v2) (G := b :: ((a :: G') ++ Gd)) (length_of_get ej2) j1 j7 (by show (nbF .o && ((nbF .o && D.alls nbF xs) && D.alls nbF ds)) = true; rw [nbx, nbd]; rfl)
      ⟨b, o2, _, (a :: G') ++ Gd, ev2, x2, c2, ⟨_, _, a :: G', Gd, rfl, ⟨a, o, vs, G', rfl, x, c, yd, rfl⟩, yd3, rfl⟩, rfl⟩
      (List.nodup_cons.mpr ⟨fun m => (List.mem_append.mp m).elim (fun m => dj b m List.mem_cons_self) nj.1, List.nodup_append.mpr ⟨h4, nj.2, fun u hu w hw e => by subst e; exact dj u hu (List.mem_cons_of_mem _ hw)⟩⟩)
      (fun u m m2 => by
        rcases List.mem_cons.mp m with e | m
        · subst e; exact j5 u List.mem_cons_self m2
        · rcases List.mem_append.mp m with m | m
          · exact h5 u m (j6 u (.inr m2))
          · exact j5 u (List.mem_cons_of_mem _ m) m2)
    refine l B0 Z B H σ _ Dv De ⟨R.gr, F', k1, k2, fun u m => z u ?_⟩ h S
    rcases k3 u m with m | m
    · exact h6 u (.inr (j6 u (.inr m)))
    · rcases List.mem_cons.mp m with e | m
      · subst e; exact h6 u (.inr (j6 u (.inl List.mem_cons_self)))
      · rcases List.mem_append.mp m with m | m
        · exact h6 u (.inl m)
        · exact h6 u (.inr (j6 u (.inl (List.mem_cons_of_mem _ m))))
  · exact h.elim
/-- the place alone -/
def vVarK (i : Nat) : TEv := fun ρ Q => match ρ[i]? with
  | some (some (.nd (.lsk (.c y)) _)) => Q (.cst (.ref y))
  | _ => False
theorem lk_varK (i : Nat) : LE (tVar i) (vVarK i) := by
  intro B0 Z B H σ ρ Qd Q R h k
  unfold vVarK at h
  split at h
  · rename_i y xs e
    obtain ⟨v, G, h1, h2, h3, h4, h5⟩ := R.get' e
    obtain ⟨a, o, vs, G', ev, ⟨x, ea⟩, c, yd, f⟩ := h3
    subst ea
    exact ⟨v, h1, k (.cst (.ref _)) v H (Out.of R.sub (show Den Z B H (.cst (.ref _)) v [] from ⟨ev, rfl⟩)) h⟩
  · exact h.elim
/-- seen as a list -/
def vVarB (i : Nat) : TEv := fun ρ Q => match ρ[i]? with
  | some (some (.nd (.lsk (.c _)) xs)) => D.alls coF xs = true ∧ Q (.lst .b xs)
  | _ => False
theorem lk_varB (i : Nat) : LE (tVar i) (vVarB i) := by
  intro B0 Z B H σ ρ Qd Q R h k
  unfold vVarB at h
  split at h
  · rename_i y xs e
    obtain ⟨v, G, h1, h2, h3, h4, h5⟩ := R.get' e
    obtain ⟨a, o, vs, G', ev, ⟨x, ea⟩, c, yd, f⟩ := h3
    have e2 := Dens.nofp _ _ _ h.1 yd
    subst e2
    exact ⟨v, h1, k _ _ _ (Out.of R.sub (show Den Z B H (.lst .b xs) v [] from ⟨_, o, vs, [], ev, x, c, yd, rfl⟩)) h.2⟩
  · exact h.elim
def vAppK (i : Nat) (te : TEv) : TSv := fun D ρ => match ρ[i]? with
  | some (some (.nd (.lsk (.c y)) xs)) => te ρ fun d => d.nb = true ∧ xs.length < 1000000 ∧ D.nx (ρ.set i (some (.nd (.lsk (.c y)) (xs ++ [d]))))
  | _ => False
theorem lk_appK {i : Nat} {Te : TE} {te : TEv} (l : LE Te te) : LS (tDrop (tBM KK.K "list" rAppend (tVar i) (tCons Te tNil))) (vAppK i te) := by
  intro B0 Z B H σ ρ Dv De R h S
  unfold vAppK at h
  split at h
  · rename_i y0 xs e
    obtain ⟨a, o0, vs, G, h1, hx, c, y, nb, ng, aG, fG, W⟩ := R.write (h := .lsk (.c y0)) e (.inr ⟨y0, rfl⟩)
    have c : o0 = .lst vs := c
    subst c
    refine ⟨_, h1, .inl ⟨rfl, _, .inl (.inl hx)⟩, ?_⟩
    refine l B0 Z B H σ ρ _ _ R h fun d v H1 ⟨B1, F, g, x, nF, fF⟩ ⟨nbd, hl, q⟩ => ?_
    refine ⟨a, vs, v, rfl, rfl, g.sh _ _ hx, by rw [← y.len]; exact million (Nat.le_of_lt hl), ?_⟩
    refine S.nx _ _ _ _ (W (.lsk (.c y0)) (xs ++ [d]) (.lst (vs ++ [v])) B1 H1 (vs ++ [v]) (G ++ F) rfl g rfl (Dens.app (Dens.grow g.sb g.sh _ _ _ y) (Dens.one x)) (List.nodup_append.mpr ⟨ng, nF, fun b hb b' hb' z => ?_⟩) (by rw [alls_app, nb]; simp [D.alls, nbd]) (fun b hb => ?_)) q
    · subst z
      obtain ⟨o, eo⟩ := Dens.live _ _ _ y b hb
      rw [(fF b hb').2] at eo
      cases eo
    · rcases List.mem_append.mp hb with m | m
      · exact .inl m
      · exact .inr (fF b m)
  · exact h.elim
def vSetIxK (i : Nat) (tk te : TEv) : TSv := fun W ρ => te ρ fun d => match ρ[i]? with
  | some (some (.nd (.lsk (.c y0)) xs)) => tk ρ fun y => match y with
    | .int k => d.nb = true ∧ D.alls coF xs = true ∧ ∃ j, ixN xs.length k = some j ∧ W.nx (ρ.set i (some (.nd (.lsk (.c y0)) (xs.set j d))))
    | _ => False
  | _ => False
theorem lk_setIxK {i : Nat} {Te Tk : TE} {te tk : TEv} (l : LE Te te) (lk : LE Tk tk) : LS (tAsg Te (gSub (tVar i) Tk rSetL)) (vSetIxK i tk te) := by
  intro B0 Z B H σ ρ Dv De R h S
  refine l B0 Z B H σ ρ _ _ R h fun d v H1 ⟨B1, F, g, x, nF, fF⟩ h => ?_
  split at h
  · rename_i y0 xs e
    obtain ⟨a, o0, vs, G, h1, hx, c, y, nb, ng, aG, fG, W⟩ := R.write (h := .lsk (.c y0)) e (.inr ⟨y0, rfl⟩)
    have c : o0 = .lst vs := c
    subst c
    refine ⟨_, h1, ?_⟩
    refine lk B0 Z B1 H1 σ ρ _ _ (R.grow g) h fun ky kv H2 ⟨B2, F2, g2, x2, _, _⟩ h => ?_
    split at h
    · obtain ⟨nbd, co, j, hj, q⟩ := h
      have hjl := ixN_lt hj
      have g12 := g.trans g2
      have eG := Dens.nofp _ _ _ co y
      subst eG
      refine ⟨a, vs, _, j, rfl, x2.1, g12.sh _ _ hx, by rw [← y.len]; exact hj, ?_⟩
      refine S.nx _ _ _ _ (W (.lsk (.c y0)) (xs.set j d) (.lst (vs.set j v)) B2 H2 (vs.set j v) F rfl g12 rfl (Dens.set j (Dens.grow g12.sb g12.sh _ _ _ y) (x.grow g2.sb g2.sh) hjl) nF (alls_set j nb nbd) (fun b hb => .inr ?_)) q
      obtain ⟨o, eo⟩ := x.live _ _ _ b hb
      exact ⟨g2.old b o eo (fF b hb).1, (fF b hb).2⟩
    · exact h.elim
  · exact h.elim
def vPopK (i : Nat) : TSv := fun W ρ => match ρ[i]? with
  | some (some (.nd (.lsk (.c y0)) xs)) => 0 < xs.length ∧ D.alls coF xs = true ∧ W.nx (ρ.set i (some (.nd (.lsk (.c y0)) (xs.take (xs.length - 1)))))
  | _ => False
theorem lk_popK {i : Nat} : LS (tDrop (tBM0 KK.K "list" rPop (tVar i))) (vPopK i) := by
  intro B0 Z B H σ ρ Dv De R h S
  unfold vPopK at h
  split at h
  · rename_i y0 xs e
    obtain ⟨hn, co, h⟩ := h
    obtain ⟨a, o0, vs, G, h1, hx, c, y, nb, ng, aG, fG, W⟩ := R.write (h := .lsk (.c y0)) e (.inr ⟨y0, rfl⟩)
    have c : o0 = .lst vs := c
    subst c
    have eG := Dens.nofp xs vs G co y
    subst eG
    have el : xs.length = vs.length := y.len
    have hv : vs.length - 1 < vs.length := by omega
    refine ⟨_, h1, .inl ⟨rfl, _, .inl (.inl hx)⟩, a, vs, vs[vs.length - 1], rfl, rfl, hx, List.getElem?_eq_getElem hv, ?_⟩
    rw [List.dropLast_eq_take]
    refine S.nx _ _ _ _ (W (.lsk (.c y0)) (xs.take (xs.length - 1)) (.lst (vs.take (vs.length - 1))) B H (vs.take (vs.length - 1)) [] rfl (Grow.refl R.sub) rfl (by rw [el]; exact Dens.take _ y) List.nodup_nil ?_ (fun b hb => nomatch hb)) h
    rw [D.alls_eq, List.all_eq_true] at nb ⊢
    exact fun d hd => nb d (List.mem_of_mem_take hd)
  · exact h.elim
section
variable {X : Cx} {e : Expr} {st : Stmt} {T : TS} {t : TSv} {Te Tk : TE} {te tk : TEv} {i : Nat}
theorem e_varK (h : VE X e (tVar i) (vVar i)) : VE X e (tVar i) (vVarK i) := ⟨h.pe, lk_varK i⟩
theorem e_varB (h : VE X e (tVar i) (vVar i)) : VE X e (tVar i) (vVarB i) := ⟨h.pe, lk_varB i⟩
theorem s_know (i : Nat) (h : VS X st T t) : VS X st T (vKnow i t) := ⟨h.ps, lk_know h.lk⟩
theorem s_knit (i j : Nat) (h : VS X st T t) : VS X st T (vKnit i j t) := ⟨h.ps, lk_knit h.lk⟩
theorem s_popK (h : VS X st (tDrop (tBM0 KK.K "list" rPop (tVar i))) (vPop i)) : VS X st (tDrop (tBM0 KK.K "list" rPop (tVar i))) (vPopK i) := ⟨h.ps, lk_popK⟩
end
section
variable {X : Cx} {e k : Expr} {pos p1 p2 p3 p4 p5 : Pos} {Te Tk : TE} {te tk : TEv} {x : Str}
theorem s_appK (i : Nat) (he : VE X e Te te) (hN : X.N[i]? = some x := by rfl) (hv : Vis X.env.scope x := by first | exact Or.inl rfl | exact Or.inr (Or.inl rfl) | exact Or.inr (Or.inr rfl)) (hd : (x == ("__debug__" : Str)) = false := by decide) (hcd : (x == ("__classdict__" : Str)) = false := by decide)
    (hbase : attributeBase (.Name x p1) "append" X.env (eval (.Name x p1) X.env) = eval (.Name x p1) X.env := by rfl)
    (hfew : ((backTo p3 (starEach [e] X.env)).all (fun x => !x.1) && (backToKw p3 (keywordEach [] X.env)).all (fun x => x.1.isSome)
      && decide (([e] : List Expr).length + ([] : List Keyword).length + (if ([] : List Keyword).isEmpty then 0 else 1) < 30)) = true := by rfl)
    (hline : (p2.endLine == p3.line) = true := by rfl) (hs : starEach [e] X.env = (false, eval e X.env) :: starEach [] X.env := by rfl) (hplain : (backTo p3 (starEach [] X.env)).any (·.1) = false := by rfl)
    (hsw : swapsWith (.Call (.Attribute (.Name x p1) "append" p2) [e] [] p3) none p4.line X.env = pure false := by rfl) (hK : X.K = KK.K := by rfl) :
    VS X (.Expr (.Call (.Attribute (.Name x p1) "append" p2) [e] [] p3) p4) (tDrop (tBM KK.K "list" rAppend (tVar i) (tCons Te tNil))) (vAppK i te) := by
  rw [← hK]
  exact ⟨ps_expr (pe_bm PySem.F.plainAttrs_list PySem.F.slot_list_append PySem.F.type_list_append mt_append (pe_var hN hv hd hcd) (pa_cons he.pe pa_nil hs) hbase hfew hline hs hplain) hsw, by rw [hK]; exact lk_appK he.lk⟩
theorem s_setIxK (i : Nat) (he : VE X e Te te) (hk : VE X k Tk tk) (hN : X.N[i]? = some x := by rfl) (hv : Vis X.env.scope x := by first | exact Or.inl rfl | exact Or.inr (Or.inl rfl) | exact Or.inr (Or.inr rfl)) (hd : (x == ("__debug__" : Str)) = false := by decide) (hcd : (x == ("__classdict__" : Str)) = false := by decide)
    (hs : swapsWithSole [.Subscript (.Name x p1) k p2] e pos.line X.env = pure false := by rfl) (hw : swappedStores [.Subscript (.Name x p1) k p2] e X.env = pure none := by rfl)
    (ha : ∀ v, assign (.Subscript (.Name x p1) k p2) X.env v = (do
      let ov ← holding [v] (eval (.Name x p1) X.env)
      let iv ← holding [v, ov] (eval k X.env)
      standAt p2
      holding [v, ov, iv] (setItem ov iv v)
      release [v, ov, iv] []) := by intro _; rfl) :
    VS X (.Assign [.Subscript (.Name x p1) k p2] e pos) (tAsg Te (gSub (tVar i) Tk rSetL)) (vSetIxK i tk te) :=
  ⟨ps_asg he.pe (pg_sub (pe_var hN hv hd hcd) hk.pe set_list ha) hs hw rfl, lk_setIxK he.lk hk.lk⟩
end
end VL

/-! ## VLI -/
/-! VL: own methods o.m(e, ..), own + , while. -/
namespace PySem.W
open Lean Elab Tactic Meta PySem PySem.Calls PyProof.Rows
section
variable {prog : Program} {w : World} {A : Around} {E : Value → Shared → Prop} {s : Shared} {K : Frag} {x C L f : Addr} {h₀ : Heap} {m : Str → Option Value} {ox : Obj} {od : Option Obj} {T : String}
/-- + by the left side's own method; the right side is a thing of a built-in type -/
theorem vl_bin {op : Operator} {b : Value} {fo ro rc : Option Value} {Q : Value → Shared → Prop} (F : Fr h₀ L s.heap m) (X₀ : K.In h₀) (I : InstAt s.heap x ox C od) (hb : Looks (model prog w) s.heap (typeOf b) (.type T)) (hc : selfFirst K C = true)
    (hs : findIn K (.ref C) (PySem.dunder op.info.2) = some (some (.ref f))) (hf : isFn K (.ref f) = true) (hr : findIn K (.ref C) (dunderR op.info.2) = some rc) (hp : rc = none ∨ ∃ g : Addr, rc = some (.ref g))
    (h1 : findIn K (.type T) (PySem.dunder op.info.2) = some fo) (h2 : findIn K (.type T) (dunderR op.info.2) = some ro) (hsub : subIn K (.type T) (.ref C) = some false)
    (h : wpAny (model prog w) A (call (.ref f) [.ref x, b]) (CmpBack Q) E s) : wpAny (model prog w) A (binaryOp op (.ref x) b) Q E s := by
  have X := X₀.keeps F.keep
  obtain ⟨cd, rest, hcd, hm⟩ := ksp_first hc
  rcases hi : op.info with ⟨sym, nm'⟩
  rw [hi] at hs hr h1 h2
  dsimp only at hs hr h1 h2
  have one := ksp_try X I hs hf h
  obtain ⟨hh, g, d, tt, os⟩ := s
  have L1 : Looks (model prog w) hh (typeOf (.ref x)) (.ref C) := I.type
  have L2 : Looks (model prog w) hh (typeOf b) (.type T) := hb
  have L3 : Looks (model prog w) hh (fillsNumberSlot (.ref C) nm') true := fills_K X hcd hm hs
  have L4 : Looks (model prog w) hh (fillsNumberSlot (.type T) nm') ((fo.isSome && !isSeqSlot fo) || (ro.isSome && !isSeqSlot ro)) := ksp_fillsT X h1 h2
  have L5 : Looks (model prog w) hh (isSubtype (.type T) (.ref C)) false := looks_subIn X hsub
  have L6 : Looks (model prog w) hh (numberSlotInPython (.ref C) nm') true := ksp_inPy X hs hr hp
  have L7 : Looks (model prog w) hh (numberSlotInPython (.type T) nm') false := Looks.of_pure rfl
  have L8 : Looks (model prog w) hh (typeLookup (.type T) (dunderR nm')) ro := looks_findIn X h2
  generalize ((fo.isSome && !isSeqSlot fo) || (ro.isSome && !isSeqSlot ro)) = right at L4
  have hne : (Value.ref C == Value.type T) = false := Bool.eq_false_iff.mpr fun q => by cases beq_iff_eq.mp q
  simp only [binaryOp, hi]
  refine wpAny_holding (wpAny_bind ?_)
  unfold binaryOp1
  refine wpAny_bind (L1.at (wpAny_bind (L2.at (wpAny_bind (L3.at ?_)))))
  simp only [hne, Bool.false_eq_true, if_false]
  cases right with
  | false =>
    ksp_lk
    refine wpAny_mono one (fun r s' hr' => ?_) fun _ _ e => e
    obtain ⟨v, rfl, hq⟩ := hr'
    ksp_lk
    exact hq
  | true =>
    ksp_lk
    refine wpAny_mono one (fun r s' hr' => ?_) fun _ _ e => e
    obtain ⟨v, rfl, hq⟩ := hr'
    ksp_lk
    exact hq
end
end PySem.W
namespace VL
open PySem PySem.Spec L2
open PyProof.Rows hiding St
variable [KK : KLs]
omit KK in
theorem lookup_none {m : Str} : ∀ (ns : List Str) (vs : List V), m ∉ ns → (ns.zip vs).lookup m = none
  | [], _, _ => rfl
  | n :: ns, [], _ => rfl
  | n :: ns, v :: vs, h => by
    rw [List.zip_cons_cons, List.lookup_cons]
    rw [show (m == n) = false by
      rw [Bool.eq_false_iff]
      intro e
      exact h (by rw [eq_of_beq e]; exact List.mem_cons_self)]
    exact lookup_none ns vs fun e => h (List.mem_cons_of_mem _ e)
omit KK in
theorem maps_lenI (g : Fl → Fl) : ∀ ds : List D, (D.maps g ds).length = ds.length
  | [] => rfl
  | d :: ds => by rw [D.maps, List.length_cons, List.length_cons, maps_lenI g ds]
/-! ### o.m(e, ..) -/
def vMeth (n : Nat) (C : Addr) (m : Str) (P : PV) (ta : TEv) (t : TAv) : TEv := fun ρ Q => ta ρ fun x => match x with
  | .nd (.obj C' ns) xs => C' = C ∧ m ∉ ns ∧ t ρ fun ds => ds.length + 1 = n ∧ P (D.arg (.nd (.obj C' ns) xs) :: D.maps fArg ds) (fun d => d.ow = true ∧ Q d) (fun _ => False)
  | _ => False
theorem lk_meth {n : Nat} {C : Addr} {m : Str} {P : PV} {Ta : TE} {ta : TEv} {T : TA} {t : TAv} (la : LE Ta ta) (lb : LA T t) : LE (tMeth C m (spV n P) [] E0 Ta T) (vMeth n C m P ta t) := by
  intro B0 Z B H σ ρ Qd Q R h k
  refine la B0 Z B H σ ρ _ _ R h fun x vx H1 ⟨B1, F, g, dx, nf, f⟩ h => ?_
  split at h
  · rename_i C' ns xs _
    obtain ⟨rfl, hm, h⟩ := h
    obtain ⟨a, o, us, G, ev, hx, ⟨l, ddx, c⟩, q', fe⟩ := id dx
    subst ev c
    refine ⟨a, ddx, _, rfl, (R.grow g).sub _ _ hx, lookup_none _ _ hm, ?_⟩
    refine lb B0 Z B1 H1 σ ρ _ _ (R.grow g) h fun ds vs H2 ⟨B2, F2, g2, q, nd, f2⟩ h => ?_
    obtain ⟨hl, hP⟩ := h
    have dx2 := dx.grow g2.sb g2.sh
    have := hand_call (n := n) (P := P) (dds := []) (dvs := []) (ds := .nd (.obj C' ns) xs :: ds) (vs := .ref a :: vs) (F := F ++ F2) (Qd := Qd) (Q := Q) R (g.trans g2) ⟨_, _, _, _, rfl, dx2, q, rfl⟩ True.intro (by
      rw [D.maps, List.append_nil, List.length_cons, maps_lenI]; exact hl) (by rw [D.maps, List.append_nil]; exact hP) k
    simpa using this
  · exact h.elim
/-! ### x + y by the own method of x -/
structure AddF (K : PySem.W.Frag) (C : Addr) : Prop where
  sf : PySem.W.selfFirst K C = true
  hr : PySem.W.findIn K (.ref C) "__radd__" = some none
theorem find_add {K : PySem.W.Frag} {T : String} (h : T = "list" ∨ T = "tuple") : ∃ fo ro, PySem.W.findIn K (.type T) "__add__" = some fo ∧ PySem.W.findIn K (.type T) "__radd__" = some ro := by
  have e : ∀ n : Str, (PySem.W.findIn K (.type T) n).isSome = true → ∃ r, PySem.W.findIn K (.type T) n = some r := fun n h => Option.isSome_iff_exists.mp h
  rcases h with rfl | rfl
  · obtain ⟨fo, h1⟩ := e "__add__" (by kernel_rfl)
    obtain ⟨ro, h2⟩ := e "__radd__" (by kernel_rfl)
    exact ⟨fo, ro, h1, h2⟩
  · obtain ⟨fo, h1⟩ := e "__add__" (by kernel_rfl)
    obtain ⟨ro, h2⟩ := e "__radd__" (by kernel_rfl)
    exact ⟨fo, ro, h1, h2⟩
def rAddO (K : PySem.W.Frag) (C : Addr) (sp : Sp) : R2 := fun x y H Q => ∃ a dx fs T, x = .ref a ∧ H a = some (.ins C dx fs) ∧ TyX K H y (.type T) ∧ (T = "list" ∨ T = "tuple") ∧ sp [x, y] H Q E0
theorem op_addO {X : Cx} {C f : Addr} {k : Nat} {fd : FuncData} {ps : List Str} {sp : Sp} (AF : AddF X.K C) (F : FnOk X.prog X.w X.K X.mg X.base (L2.CX X.prog X.w) k f fd ps sp) (hs : PySem.W.findIn X.K (.ref C) "__add__" = some (some (.ref f))) (hf : PySem.W.isFn X.K (.ref f) = true) (hb : Binds X.K fd ps []) (hr : Room k X.A) :
    OpR X (binaryOp .Add) (rAddO X.K C sp) := by
  intro pins s σ H x y v u Q I rx ry h
  obtain ⟨a, dx, fs, T, rfl, ha, ty, hT, hsp⟩ := h
  cases rx
  obtain ⟨mA, J, _⟩ := ins_get I.hok ha
  obtain ⟨od, J, _⟩ := J.look
  obtain ⟨m, hF⟩ := I.fr
  obtain ⟨P, Z, p, _⟩ := kit_of I ry ty
  obtain ⟨fo, ro, h1, h2⟩ := find_add (K := X.K) hT
  have hsub : PySem.W.subIn X.K (.type T) (.ref C) = some false := sub_no T (by rcases hT with rfl | rfl <;> simp [tyNames])
  refine PySem.W.vl_bin (op := .Add) hF I.ok.mod.kin J (Z.ty _ _ I.kIn p) AF.sf hs hf AF.hr (.inl rfl) h1 h2 hsub ?_
  refine wpAny_mono (run_fn (Q := Q) F hr hb .nil passL I (show Vals [V.ref a, y] [Value.ref a, u] from .cons rfl (.cons ry .nil)) (by simpa using hsp)) (fun r s' q => ?_) fun _ _ e => e
  obtain ⟨z, H', I', rz, q⟩ := q
  cases z with
  | non => cases rz; exact ⟨.non, H', I', rfl, q⟩
  | bl b => cases rz; exact ⟨.bl b, H', I', rfl, q⟩
  | int i => obtain ⟨t, rfl⟩ := rz; exact ⟨.int i, H', I', ⟨_, rfl⟩, q⟩
  | str i => obtain ⟨t, rfl⟩ := rz; exact ⟨.str i, H', I', ⟨_, rfl⟩, q⟩
  | byt i => obtain ⟨t, rfl⟩ := rz; exact ⟨.byt i, H', I', ⟨_, rfl⟩, q⟩
  | flt i => obtain ⟨t, rfl⟩ := rz; exact ⟨.flt i, H', I', ⟨_, rfl⟩, q⟩
  | ref a => cases rz; exact ⟨.ref a, H', I', rfl, q⟩
  | ty n => cases rz; exact ⟨.ty n, H', I', rfl, q⟩
def vAddO (C : Addr) (P : PV) (ta tb : TEv) : TEv := fun ρ Q => ta ρ fun x => tb ρ fun y => match x with
  | .nd (.obj C' _) _ => C' = C ∧ (y.ty = "list" ∨ y.ty = "tuple") ∧ P [x.arg, y.arg] (fun d => d.ow = true ∧ Q d) (fun _ => False)
  | _ => False
theorem lk_addO {C : Addr} {P : PV} {Ta Tb : TE} {ta tb : TEv} (la : LE Ta ta) (lb : LE Tb tb) : LE (tOp (rAddO KK.K C (spV 2 P)) Ta Tb) (vAddO C P ta tb) := by
  intro B0 Z B H σ ρ Qd Q R h k
  refine la B0 Z B H σ ρ _ _ R h fun x vx H1 ⟨B1, F, g, dx, n, f⟩ h => ?_
  refine lb B0 Z B1 H1 σ ρ _ _ (R.grow g) h fun y vy H2 ⟨B2, F2, g2, dy, n2, f2⟩ h => ?_
  split at h
  · rename_i C' ns xs _ _
    obtain ⟨rfl, oy, hP⟩ := h
    have dx2 := dx.grow g2.sb g2.sh
    obtain ⟨a, o, us, G, ev, hx, ⟨l, ddx, c⟩, q', fe⟩ := id dx2
    subst ev c
    refine ⟨a, ddx, _, _, rfl, g2.sub _ _ hx, den_tyx g2.sub dy (by rcases oy with e | e <;> rw [e] <;> decide), oy, ?_⟩
    have := hand_call (n := 2) (P := P) (dds := []) (dvs := []) (ds := [.nd (.obj C' ns) xs, y]) (vs := [.ref a, vy]) (F := F ++ (F2 ++ [])) (Qd := Qd) (Q := Q) R (g.trans g2) ⟨_, _, _, _, rfl, dx2, ⟨_, _, _, _, rfl, dy, ⟨rfl, rfl⟩, rfl⟩, rfl⟩ True.intro rfl hP k
    simpa using this
  · exact h.elim
/-! ### while -/
/-- the loop: a measure and what holds ahead of each turn -/
def vWhile (tc : TTv) (tb : TSv) : TSv := fun D ρ => ∃ I : Nat → Env → Prop, (∃ m, I m ρ) ∧ ∀ m ρ, I m ρ → tc ρ fun b => if b = true then tb { nx := fun ρ' => ∃ m', m' < m ∧ I m' ρ', rt := D.rt, bk := D.nx, ct := fun ρ' => ∃ m', m' < m ∧ I m' ρ' } ρ else D.nx ρ
theorem lk_while {Tc : TT} {tc : TTv} {T : TS} {t : TSv} (lc : LT Tc tc) (lt : LS T t) : LS (tWhile Tc T) (vWhile tc t) := by
  intro B0 Z B H σ ρ Dv De R h S
  obtain ⟨I, ⟨m0, h0⟩, hs⟩ := h
  refine ⟨fun m σ' H' => ∃ B' ρ', Rep B0 Z B' H' σ' ρ' ∧ I m ρ', ⟨m0, B, ρ, R, h0⟩, ?_⟩
  rintro m σ' H' ⟨B', ρ', R', h'⟩
  refine lc B0 Z B' H' σ' ρ' _ _ R' (hs m ρ' h') fun b B1 H1 g q => ?_
  cases b with
  | true =>
    rw [if_pos rfl] at q ⊢
    refine ⟨fun σ2 H2 => ∃ m', m' < m ∧ ∃ B2 ρ2, Rep B0 Z B2 H2 σ2 ρ2 ∧ I m' ρ2, fun σ2 H2 z => z, ?_⟩
    refine lt B0 Z B1 H1 σ' ρ' _ _ (R'.grow g) q ⟨fun B2 H2 σ2 ρ2 R2 q => ?_, fun d v H2 o ow q => ?_, fun B2 H2 σ2 ρ2 R2 q => ?_, fun B2 H2 σ2 ρ2 R2 q => ?_⟩
    · obtain ⟨m', hm, i⟩ := q
      exact ⟨m', hm, B2, ρ2, R2, i⟩
    · exact S.rt d v H2 o ow q
    · exact S.nx _ _ _ _ R2 q
    · obtain ⟨m', hm, i⟩ := q
      exact ⟨m', hm, B2, ρ2, R2, i⟩
  | false =>
    rw [if_neg Bool.false_ne_true] at q ⊢
    exact S.nx _ _ _ _ (R'.grow g) q
/-! ### the rules -/
/-- a method that the text calls by its name -/
structure Mth (P : Program) (w : World) (K : PySem.W.Frag) (mg : Str → Option Value) (base : Heap) (k : Nat) (C : Addr) (m : Str) (n : Nat) (Pv : PV) : Prop where
  ex : ∃ (f : Addr) (fd : FuncData) (ps : List Str), FnOk P w K mg base (L2.CX P w) k f fd ps (spV n Pv) ∧ Meth K C m f ∧ Binds K fd ps []
section
variable {X : Cx} {k j n : Nat} {C f : Addr} {P : PV} {a b c o e : Expr} {es : List Expr} {m : Str} {p pos apos : Pos} {x : Str} {Ta Tb : TE} {ta tb : TEv} {T : TA} {t : TAv} {fd : FuncData} {ps : List Str} {Tc : TT} {tc : TTv} {ss : List Stmt} {U : TS} {u : TSv}
theorem e_meth {pl : Sem Bool} (CF : Cls X.K C) (F : FnOk X.prog X.w X.K X.mg X.base (L2.CX X.prog X.w) k f fd ps (spV n P)) (hm : Meth X.K C m f) (hb : Binds X.K fd ps []) (hr : Room j X.A) (hk : k ≤ j)
    (ho : VE X o Ta ta) (ha : VA X (e :: es) T t) (hst : starEach (e :: es) X.env = (false, eval e X.env) :: starEach es X.env := by rfl) (hpl : (backTo pos (starEach es X.env)).any (·.1) = false := by rfl)
    (ht : eval (.Call (.Attribute o m apos) (e :: es) [] pos) X.env = (do
      let ov ← eval o X.env
      standAt apos.atName
      let (f, first) ← holding [ov] (getMethod ov m pl)
      callWith pos f first (backTo pos (starEach (e :: es) X.env)) (backToKw pos (keywordEach [] X.env))) := by rfl) : VE X (.Call (.Attribute o m apos) (e :: es) [] pos) (tMeth C m (spV n P) [] E0 Ta T) (vMeth n C m P ta t) :=
  ⟨pe_meth (pl := pl) ho.pe CF hm F (hr.mono hk) hb .nil passL ha.pa hst hpl ht, lk_meth ho.lk ha.lk⟩
theorem e_meth0 {pl : Sem Bool} (CF : Cls X.K C) (F : FnOk X.prog X.w X.K X.mg X.base (L2.CX X.prog X.w) k f fd ps (spV n P)) (hm : Meth X.K C m f) (hb : Binds X.K fd ps []) (hr : Room j X.A) (hk : k ≤ j) (ho : VE X o Ta ta)
    (ht : eval (.Call (.Attribute o m apos) [] [] pos) X.env = (do
      let ov ← eval o X.env
      standAt apos.atName
      let (f, first) ← holding [ov] (getMethod ov m pl)
      callWith pos f first (backTo pos (starEach [] X.env)) (backToKw pos (keywordEach [] X.env))) := by rfl) : VE X (.Call (.Attribute o m apos) [] [] pos) (tMeth C m (spV n P) [] E0 Ta tNil) (vMeth n C m P ta vNil) :=
  ⟨pe_meth0 (pl := pl) ho.pe CF hm F (hr.mono hk) hb .nil passL ht, lk_meth ho.lk lk_nil⟩
theorem e_addO (AF : AddF KK.K C) (F : FnOk X.prog X.w X.K X.mg X.base (L2.CX X.prog X.w) k f fd ps (spV 2 P)) (hs : PySem.W.findIn X.K (.ref C) "__add__" = some (some (.ref f))) (hf : PySem.W.isFn X.K (.ref f) = true) (hb : Binds X.K fd ps []) (hr : Room j X.A) (hk : k ≤ j)
    (h1 : VE X a Ta ta) (h2 : VE X b Tb tb) (hK : X.K = KK.K := by rfl) : VE X (.BinOp a .Add b pos) (tOp (rAddO KK.K C (spV 2 P)) Ta Tb) (vAddO C P ta tb) :=
  ⟨by rw [← hK] at AF ⊢; exact pe_op (op_addO AF F hs hf hb (hr.mono hk)) h1.pe h2.pe, lk_addO h1.lk h2.lk⟩
theorem s_while (hp : PassesOwn (model X.prog X.w) X.A X.env X.xe) (hc : VT X c Tc tc) (hb : VSs X ss U u) : VS X (.While c ss [] pos) (tWhile Tc U) (vWhile tc u) := ⟨ps_while hp hc.pt hb.ps, lk_while hc.lk hb.lk⟩
end
end VL

/-! ## VLH -/
set_option maxHeartbeats 1000000
/-! VL: what an own class's __iter__ hands back (iter of a tuple of its own): walked, and list(o). -/
namespace VL
open PySem PySem.Spec L2
open PyProof.Rows hiding St
variable [KK : KLs]
/-- at it the iterator of the tuple at l -/
def ItT (l it : Addr) (i : Nat) : HO := .ext fun h => h.IsTupleIter it l i
theorem itT_ok {P : Program} {w : World} {H : Hp} {h : Heap} {l it : Addr} {i : Nat} (e : h.IsTupleIter it l i) : ObjOk P w H h it (ItT l it i) := ⟨e, by obtain ⟨o, ho, _⟩ := e; exact ⟨o, ho⟩, fun h1 h2 q k => q.at fun o e => k o e⟩
/-- iter(t), t a tuple -/
def rIterT (K : PySem.W.Frag) (n : Nat) : List V → Hp → L2.VK → Prop := fun xs H Q => ∃ (l : Addr) (zs : List V), xs = [.ref l] ∧ SqT K H l zs ∧ ∀ it, H it = none → n ≤ it → Q (.ref it) (upd H it (ItT l it 0))
theorem call_iterT {X : Cx} : CallR X (.builtin "iter") (rIterT X.K X.s_0.heap.objs.size) := by
  intro pins s σ H xs us Q I r h
  obtain ⟨l, zs, rfl, hq, q⟩ := h
  obtain rfl := Vals.ref1 r
  obtain ⟨its, rv, p, hz⟩ := I.tuple hq
  refine Calls.call_function_entry (by decide +kernel) (by decide +kernel) PySem.W.kdk_entry_iter (PySem.W.kdk_args_iter _) ?_
  unfold Builtin.«iter»
  refine wpAny_bind (m := someArgs "iter" 1 2 _) (wpAny_of_eq (a := [Value.ref l]) (by first | rfl | kernel_rfl!) ?_)
  show wpAny _ _ (pyIter (.ref l) >>= _) _ _ _
  refine wpAny_bind (wpAny_pyIter_tuple (show s.heap.IsTuple l its.toArray from p) ?_)
  refine wpAny_pure ⟨_, rfl, ?_⟩
  exact ⟨.ref s.heap.objs.size, _, I.laid (t' := s.toks) (fun b u e => Heap.get?_push_of_some _ e) (Nat.le_refl _) (itT_ok ⟨_, Heap.get?_push_size _ rfl, rfl, rfl⟩), rfl, q _ (I.hok.fresh (Nat.le_refl _)) I.sz⟩
/-- a def self.__iter__ that ends with iter(self.fld), fld a tuple -/
structure FnIt (P : Program) (w : World) (K : PySem.W.Frag) (mg : Str → Option Value) (base : Heap) (k : Nat) (f : Addr) (fd : FuncData) (C : Addr) (fld : Str) : Prop where
  run : ∀ (A : Around) (outer : List PySem.Env) (s : Shared) (H : Hp) (args : Args) (Q : L2.VK) (a dx : Addr) (fs : List (Str × V)) (l : Addr) (zs : List V), Room k A → Env0 P w K mg base A outer s H → BindsTo s fd args [("self", .ref a)] → H a = some (.ins C dx fs) → fs.lookup fld = some (.ref l) → SqT K H l zs →
    (∀ it, H it = none → s.heap.objs.size ≤ it → Q (.ref it) (upd H it (ItT l it 0))) → codeAny (model P w) A (.call (.ref f) args) (CR (L2.CX P w) outer P w H s Q E0) s
def spItN (K : PySem.W.Frag) (C : Addr) (fld : Str) (n : Nat) : Sp := fun vs H Q _ => ∃ a dx fs l zs, vs = [V.ref a] ∧ H a = some (.ins C dx fs) ∧ fs.lookup fld = some (.ref l) ∧ SqT K H l zs ∧ ∀ it, H it = none → n ≤ it → Q (.ref it) (upd H it (ItT l it 0))
/-- fn_of with the place of what is new -/
theorem fn_it {P : Program} {w : World} {K : PySem.W.Frag} {mg : Str → Option Value} {base : Heap} {k : Nat} {f : Addr} {x qual : Str} {params : Arguments} {body : List Stmt} {scope : Scope} {dvs : List V} {kws : List (Str × V)} {fd : FuncData} {N : List Str} {C : Addr} {fld : Str}
    (F : FunD K x qual params body scope dvs kws f fd) (S : FnScope N ["self"] scope)
    (hb : ∀ (cdv : Value) (A : Around) (outer : List PySem.Env) (s : Shared) (H : Hp) (vs : List V) (Q : L2.VK) (E : XK), Room k (A.deeper (envOfC qual scope s.heap.objs.size f cdv)) → spItN K C fld s.heap.objs.size vs H Q E →
      ∃ t, PSs (cxOf (L2.CX P w) P w K mg base N qual scope f cdv A outer s H E) body t ∧ t { nx := fun _ H' => Q .non H', rt := Q } (L2.start N vs) H) : FnIt P w K mg base (k + 1) f fd C fld := by
  obtain ⟨oc, od, dV, kV, doc, pm, an, cdv, ct, osl, rfl, lk, hcd, _, _⟩ := F.ex
  refine ⟨fun A outer s H args Q a dx fs l zs hr e0 hbd ha hlk hz hq0 => ?_⟩
  have hl : ([V.ref a] : List V).length = (["self"] : List Str).length := rfl
  have r : Vals [V.ref a] [Value.ref a] := .cons rfl .nil
  have hsp : spItN K C fld s.heap.objs.size [V.ref a] H Q E0 := ⟨a, dx, fs, l, zs, rfl, ha, hlk, hz, hq0⟩
  have KX : K.In s.heap := e0.mod.kin.keeps fun b o e => (e0.bs b o e).1
  have lim : s.heap.NoLimit := e0.mod.nolimit.keeps fun b o e => (e0.bs b o e).1
  have hkind : ∀ y ∈ (["self"] : List Str).zip [Value.ref a], scope.names.lookup y.1 = some .local ∨ (scope.names.lookup y.1 = some .cell ∧ ((cellsFrom (s.heap.objs.size + 1) scope.names []).lookup y.1).isSome = true) := fun ⟨n, v⟩ hy => by
    rcases S.par n (List.of_mem_zip hy).1 with q | q
    · exact .inl q
    · exact .inr ⟨q, PySem.W.cellsFrom_some _ _ _ (.inl q)⟩
  refine codeAny_call_function hr.depth (KX _ _ lk) rfl S.co S.gen rfl (PySem.W.codeRec_of KX hcd) (hbd _ _ _ _ ?_)
  refine wpAny_newFunctionEnv_cells S.kind hkind fun env he s1 x => ?_
  subst he
  refine ⟨lim.keeps x.toInCall.keep, codeAny_func ?_⟩
  obtain ⟨t, ht, hq⟩ := hb cdv A outer s H [V.ref a] Q E0 (hr.deeper _) hsp
  have I : Inv (cxOf (L2.CX P w) P w K mg base N qual scope f cdv A outer s H E0) [] (L2.start N [V.ref a]) H s1 := inv_start S hr.hd e0 hl r x
  refine wpAny_mono (ht.run [] s1 (L2.start N [V.ref a]) H _ I hq) (fun fl s' hs => ?_) fun e s' hs => hs
  have fin : ∀ {σ' : L2.St} {H' : Hp} {v : V} {u : Value}, Inv (cxOf (L2.CX P w) P w K mg base N qual scope f cdv A outer s H E0) [] σ' H' s' → RelV v u → Q v H' → CE outer P w H s Q u s' :=
    fun {σ' H' v u} J rv q => ⟨v, H', J.os, J.bare, J.base, J.hok, rv, q⟩
  cases fl with
  | ret u =>
    obtain ⟨v, σ', H', J, rv, q⟩ := hs
    exact fin J rv q
  | next =>
    obtain ⟨σ', H', J, q⟩ := hs
    exact fin (v := V.non) (u := Value.none) J rfl q
  | brk =>
    obtain ⟨_, _, _, q⟩ := hs
    exact False.elim q
  | cont =>
    obtain ⟨_, _, _, q⟩ := hs
    exact False.elim q
/-- .. its body: return iter(self.fld) -/
theorem it_body {X : Cx} {fld : Str} {p1 p2 p3 p4 p5 : Pos} (hg : Gl X "iter") (hm : X.mg "iter" = none) (hN : X.N[0]? = some ("self" : Str)) (hv : Vis X.env.scope "self")
    (hb : attributeBase (.Name "self" p2) fld X.env (eval (.Name "self" p2) X.env) = eval (.Name "self" p2) X.env := by rfl)
    (he : starEach [.Attribute (.Name "self" p2) fld p3] X.env = (false, eval (.Attribute (.Name "self" p2) fld p3) X.env) :: starEach [] X.env := by rfl) (hpl : (backTo p4 (starEach [] X.env)).any (·.1) = false := by rfl) :
    PSs X [.Return (some (.Call (.Name "iter" p1) [.Attribute (.Name "self" p2) fld p3] [] p4)) p5] (tRet (tCB (rIterT X.K X.s_0.heap.objs.size) (tCons (tFld X.K (tVar 0) fld) tNil))) :=
  pss_one (ps_ret (pe_callB call_iterT hg hm (by decide +kernel) (pa_cons (pe_fld (pe_var hN hv) hb) pa_nil he) (by decide) (by decide) he hpl))
theorem it_math {K : PySem.W.Frag} {C : Addr} {fld : Str} {n : Nat} {vs : List V} {H : Hp} {Q : L2.VK} {E : XK} {N : List Str} (fo : FldOk K C fld) (hN : 0 < N.length) (h : spItN K C fld n vs H Q E) (D : Ends) (hD : D.rt = Q) :
    (tRet (tCB (rIterT K n) (tCons (tFld K (tVar 0) fld) tNil))) D (L2.start N vs) H := by
  obtain ⟨a, dx, fs, l, zs, rfl, ha, hl, hz, hq⟩ := h
  refine ⟨.ref a, ?_, a, C, dx, fs, .ref l, rfl, ha, fo.1, fo.2, hl, l, zs, rfl, hz, fun it h1 h2 => ?_⟩
  · cases N with
    | nil => exact absurd hN (by decide)
    | cons x xs => rfl
  · rw [hD]; exact hq it h1 h2

/-! ### o walked -/
def iOwnT (K : PySem.W.Frag) (C : Addr) (fld : Str) (te : TE) : TI := fun σ H R => te σ H fun x H1 => ∃ a dx fs l zs, x = .ref a ∧ H1 a = some (.ins C dx fs) ∧ fs.lookup fld = some (.ref l) ∧ SqT K H1 l zs ∧ R (Itt K l) H1
section
variable {X : Cx} {C f : Addr} {fd : FuncData} {fld : Str} {k : Nat}
/-- the own class's part -/
structure ItF (K : PySem.W.Frag) (C f : Addr) : Prop where
  it : PySem.W.findIn K (.ref C) "__iter__" = some (some (.ref f))
  fn : PySem.W.isFn K (.ref f) = true
theorem own_iter {pins : List (Addr × Obj)} {σ : L2.St} {H : Hp} {s : Shared} {A1 : Around} {a dx l : Addr} {fs : List (Str × V)} {zs : List V} {Q : Value → Shared → Prop} (sb : Sub X k A1) (hc : ItF X.K C f)
    (F : FnIt X.prog X.w X.K X.mg X.base k f fd C fld) (b : Binds X.K fd ["self"] []) (I : Inv X pins σ H s) (ha : H a = some (.ins C dx fs)) (hl : fs.lookup fld = some (.ref l)) (hz : SqT X.K H l zs)
    (hQ : ∀ it s', H it = none → s.heap.objs.size ≤ it → Inv X pins σ (upd H it (ItT l it 0)) s' → Q (.ref it) s') : wpAny (model X.prog X.w) A1 (pyIter (.ref a)) Q X.xe s := by
  obtain ⟨mA, J, _⟩ := ins_get I.hok ha
  obtain ⟨od, J, _⟩ := J.look
  obtain ⟨m0, hF⟩ := I.fr
  refine PySem.W.owit_iter hF I.ok.mod.kin J hc.it hc.fn ?_
  have e0 : Env0 X.prog X.w X.K X.mg X.base A1 X.stack s H := by
    have e := I.env0
    exact ⟨by rw [sb.fr]; exact e.frames, e.mod, e.bs, e.bsz, e.funs, e.frf, e.hok, e.bare⟩
  refine wpAny_call (codeAny_mono (F.run A1 X.stack s H ⟨[.ref a], []⟩ (fun v H' => ∃ it, v = .ref it ∧ H it = none ∧ s.heap.objs.size ≤ it ∧ H' = upd H it (ItT l it 0)) a dx fs l zs sb.room e0 (by
    have := b s [.ref a] I.kIn rfl
    simpa using this) ha hl hz fun it h1 h2 => ⟨it, rfl, h1, h2, rfl⟩) fun r s' hq' => ?_)
  cases r with
  | error e => exact passL pins σ H s e s' I hq'
  | ok fl =>
    cases fl with
    | next => exact False.elim hq'
    | brk => exact False.elim hq'
    | cont => exact False.elim hq'
    | ret u =>
      obtain ⟨v, H', I', rv, it, ev, h1, h2, eH⟩ := I.after hq'
      subst ev
      rw [eH] at I'
      cases rv
      have st : s'.heap.IsTupleIter it l 0 := (I'.hok it _ upd_same).1
      exact wpAny_specialOf (name := Str.ofString "__next__") st.typeIs slot_tupleiter_next.lookup (hQ it s' h1 h2 I')
theorem pi_own {tg e : Expr} {te : TE} (hc : ItF X.K C f) (F : FnIt X.prog X.w X.K X.mg X.base k f fd C fld) (b : Binds X.K fd ["self"] []) (hr : Room k X.A) (he : PE X e te) : PI X tg e (iOwnT X.K C fld te) := by
  refine ⟨fun pins s σ H R I h => ?_⟩
  refine thn (he.run pins s σ H _ I h) fun u s1 ⟨v, H1, I1, r1, a, dx, fs, l, zs, ev, ha, hl, hz, hR⟩ => ?_
  subst ev
  cases r1
  refine own_iter ⟨hr, rfl⟩ hc F b I1 ha hl hz fun it s' h1 h2 I' => ?_
  have st : s'.heap.IsTupleIter it l 0 := (I'.hok it _ upd_same).1
  have e : (upd H1 it (ItT l it 0)) it = some (ItT l it 0) := upd_same
  have e' := e
  unfold ItT at e'
  refine ⟨it, [it], _, Itt X.K l, ItX.dropH (upd H1 it (ItT l it 0)) it, rfl, ItX.inv_drop I' e', turn_tuple l it, st, fun b hb => ?_, ?_⟩
  · have eb : b = it := by simpa using hb
    rw [eb]
    exact ItX.inv_fp I' e (Nat.le_trans I1.sz h2)
  · rw [ItX.dropH_upd h1]; exact hR
/-! ### list(o) -/
/-- what __len__ promises: the length of the tuple at fld -/
def spLn (K : PySem.W.Frag) (C : Addr) (fld : Str) : Sp := fun vs H Q _ => ∃ a dx fs l zs, vs = [V.ref a] ∧ H a = some (.ins C dx fs) ∧ fs.lookup fld = some (.ref l) ∧ SqT K H l zs ∧ Q (.int zs.length) H
theorem sqT_upd {K : PySem.W.Frag} {H : Hp} {a b : Addr} {o : HO} {xs : List V} (hn : H b = none) (h : SqT K H a xs) : SqT K (upd H b o) a xs := by
  rcases h with (h | ⟨o', h⟩) | h
  · exact .inl (.inl (by rw [upd_ne (fun z => by rw [z, hn] at h; cases h)]; exact h))
  · exact .inl (.inr ⟨o', by rw [upd_ne (fun z => by rw [z, hn] at h; cases h)]; exact h⟩)
  · exact .inr h
theorem own_loopT {pins : List (Addr × Obj)} {σ : L2.St} {H : Hp} {A1 : Around} {q it l : Addr} {zs : List V} {Rs : Result → Shared → Prop} (hd : A1.in1.handled = none) (hqn : H q = none) (hz : SqT X.K H l zs) (hlen : zs.length < sizeLine)
    (hdone : ∀ s, Inv X pins σ (upd H q (.lst zs)) s → Rs (.ok (.ret .none)) s) (hfp : ∀ acc, FpOk X pins (upd H q (.lst acc)) it) :
    ∀ (rest acc : List V) (s : Shared), zs = acc ++ rest → Inv X pins σ (upd H q (.lst acc)) s → s.heap.IsTupleIter it l acc.length → codeAny (model X.prog X.w) A1 (.builtin "list.extend.loop" ⟨[.ref q, .ref it, .none], []⟩) Rs s := by
  intro rest
  induction rest with
  | nil =>
    intro acc s e I st
    rw [List.append_nil] at e
    subst e
    refine codeAny_builtin PySem.F.entry_extend_loop ?_
    rw [Around.under_plainId PySem.F.plain_extend_loop _]
    show wpAny _ A1.in1 (pyNext (.ref it) >>= _) _ _ s
    have hzq : SqT X.K (upd H q (.lst zs)) l zs := sqT_upd hqn hz
    obtain ⟨its, rv, p, hsz⟩ := I.tuple hzq
    have hl := rv.length
    obtain ⟨f0, f1, f2, f3, f4, f5⟩ := hfp zs
    refine wpAny_bind (wpAny_pyNext_tuple_end hd st (show s.heap.IsTuple l its.toArray from p) (by simp; omega) fun h' eb => ?_)
    exact wpAny_pure (hdone _ (I.turned (t' := s.toks) (fun b o hb e => eb b o hb e) f0 f1 f3 f4 f5))
  | cons v rest ih =>
    intro acc s e I st
    refine codeAny_builtin PySem.F.entry_extend_loop ?_
    rw [Around.under_plainId PySem.F.plain_extend_loop _]
    show wpAny _ A1.in1 (pyNext (.ref it) >>= _) _ _ s
    have hzq : SqT X.K (upd H q (.lst acc)) l zs := sqT_upd hqn hz
    obtain ⟨its, rv, p, hsz⟩ := I.tuple hzq
    have hv : zs[acc.length]? = some v := by rw [e]; simp
    obtain ⟨u, hu, ru⟩ := rv.get hv
    obtain ⟨f0, f1, f2, f3, f4, f5⟩ := hfp acc
    have nq : it ≠ q := fun z => by rw [z, upd_same] at f0; cases f0
    refine wpAny_bind (wpAny_pyNext_tuple_item st (show s.heap.IsTuple l its.toArray from p) (x := u) (by simpa using hu) fun h' st' sb => ?_)
    have I' : Inv X pins σ (upd H q (.lst acc)) { s with heap := h' } := I.turned (t' := s.toks) (fun b o hb e => (sb.2 b hb).trans e) f0 f1 f3 f4 f5
    show wpAny _ A1.in1 (updateSeq q (·.push u) >>= _) _ _ _
    obtain ⟨z, its2, k, r2, hl, e2⟩ := I'.lstM upd_same
    have hla : its2.length = acc.length := r2.length.symm
    have hlt : acc.length < zs.length := by rw [e, List.length_append, List.length_cons]; omega
    refine wpAny_bind (wpAny_updateSeq e2 rfl (wpAny_pure ⟨plainId_quiet PySem.F.plain_extend_loop _, ?_⟩) (by rw [List.size_toArray]; omega) (by show (its2.toArray.push u).size ≤ sizeLine + 1; rw [Array.size_push, List.size_toArray]; omega))
    have I2 := I'.lset (f := (·.push u)) (its' := its2 ++ [u]) (ys := acc ++ [v]) (t' := s.toks) upd_same e2 (by simp) (r2.append (.cons ru .nil)) (by rw [List.length_append, List.length_singleton]; omega)
    rw [upd_upd] at I2
    refine ih (acc ++ [v]) _ (by rw [e]; simp) I2 ?_
    rw [List.length_append, List.length_singleton]
    exact st'.at fun o ho => (Heap.get?_update_ne _ _ _ _ nq).trans ho
structure LnF (K : PySem.W.Frag) (C f : Addr) : Prop where
  ln : PySem.W.findIn K (.ref C) "__len__" = some (some (.ref f))
  fn : PySem.W.isFn K (.ref f) = true
theorem own_lenT {pins : List (Addr × Obj)} {σ : L2.St} {H : Hp} {s : Shared} {A1 : Around} {g a dx l : Addr} {gd : FuncData} {fs : List (Str × V)} {zs : List V} {Q : Value → Shared → Prop} {E : Value → Shared → Prop} (sb : Sub X k A1.in1) (hc : LnF X.K C g)
    (F : FnOk X.prog X.w X.K X.mg X.base (L2.CX X.prog X.w) k g gd ["self"] (spLn X.K C fld)) (b : Binds X.K gd ["self"] []) (I : Inv X pins σ H s) (ha : H a = some (.ins C dx fs)) (hl : fs.lookup fld = some (.ref l)) (hz : SqT X.K H l zs) (hlen : zs.length < sizeLine)
    (hQ : ∀ t s', Inv X pins σ H s' → Q (.int zs.length t) s') : wpAny (model X.prog X.w) A1 (call (.builtin "len") [.ref a]) Q E s := by
  obtain ⟨mA, J, _⟩ := ins_get I.hok ha
  obtain ⟨od, J, _⟩ := J.look
  obtain ⟨m0, hF⟩ := I.fr
  refine PySem.W.len_K hF I.ok.mod.kin J hc.ln hc.fn ?_
  have e0 : Env0 X.prog X.w X.K X.mg X.base A1.in1 X.stack s H := by
    have e := I.env0
    exact ⟨by rw [sb.fr]; exact e.frames, e.mod, e.bs, e.bsz, e.funs, e.frf, e.hok, e.bare⟩
  refine wpAny_call (codeAny_mono (F.run A1.in1 X.stack s H ⟨[.ref a], []⟩ [.ref a] [.ref a] (fun v H' => v = .int zs.length ∧ H' = H) E0 sb.room e0 (by
    have := b s [.ref a] I.kIn rfl
    simpa using this) (.cons rfl .nil) ⟨a, dx, fs, l, zs, rfl, ha, hl, hz, rfl, rfl⟩) fun r s' hq' => ?_)
  cases r with
  | error e =>
    obtain ⟨_, _, _, _, _, _, _, _, _, _, _, _, z⟩ := hq'
    exact z.elim
  | ok fl =>
    cases fl with
    | next => exact False.elim hq'
    | brk => exact False.elim hq'
    | cont => exact False.elim hq'
    | ret u =>
      obtain ⟨v, H', I', rv, ev, eH⟩ := I.after hq'
      subst ev
      rw [eH] at I'
      obtain ⟨t, rfl⟩ := rv
      have := line63
      exact ⟨⟨by omega, by omega⟩, hQ _ _ (I'.tok _)⟩
theorem own_hintT {pins : List (Addr × Obj)} {σ : L2.St} {H : Hp} {s : Shared} {A1 : Around} {g a dx l : Addr} {gd : FuncData} {fs : List (Str × V)} {zs : List V} {Q : Bool → Shared → Prop} (sb : Sub X k A1.in1) (hc : LnF X.K C g)
    (F : FnOk X.prog X.w X.K X.mg X.base (L2.CX X.prog X.w) k g gd ["self"] (spLn X.K C fld)) (b : Binds X.K gd ["self"] []) (I : Inv X pins σ H s) (ha : H a = some (.ins C dx fs)) (hl : fs.lookup fld = some (.ref l)) (hz : SqT X.K H l zs) (hlen : zs.length < sizeLine)
    (hQ : ∀ r s', Inv X pins σ H s' → Q r s') : wpAny (model X.prog X.w) A1 (Builtin.List.listLengthHint (.ref a)) Q X.xe s := by
  obtain ⟨mA, J, _⟩ := ins_get I.hok ha
  obtain ⟨od, J, _⟩ := J.look
  unfold Builtin.List.listLengthHint
  refine wpAny_bind (wpAny_bind (J.type.here ((PySem.W.looks_findIn I.kIn hc.ln).here ?_)))
  refine PySem.W.KFB.if_not rfl ?_
  refine PySem.W.KFB.if_so rfl ?_
  refine wpAny_bind (wpAny_rule ?_)
  refine wpAny_bind (wpAny_attempt (own_lenT sb hc F b I ha hl hz hlen fun t s' I' => ?_))
  refine wpAny_bind (wpAny_of_eq (a := some (zs.length : Int)) (by first | rfl | kernel_rfl) ?_)
  refine PySem.W.KFB.if_not (by
    show (decide (((zs.length : Int)).toNat > sizeLine)) = false
    exact decide_eq_false (by omega)) ?_
  exact wpAny_pure (hQ _ _ I')
/-- list(o), o an own class's thing that is walked by its tuple at fld and has its length -/
def rListO (K : PySem.W.Frag) (C : Addr) (fld : Str) : List V → Hp → L2.VK → Prop := fun xs H Q => ∃ a dx fs l zs, xs = [.ref a] ∧ H a = some (.ins C dx fs) ∧ fs.lookup fld = some (.ref l) ∧ SqT K H l zs ∧ zs.length < sizeLine ∧ ∀ q, H q = none → Q (.ref q) (upd H q (.lst zs))
theorem call_listOwnT {g : Addr} {gd : FuncData} (hc : ItF X.K C f) (F : FnIt X.prog X.w X.K X.mg X.base k f fd C fld) (b : Binds X.K fd ["self"] []) (hg : LnF X.K C g) (G : FnOk X.prog X.w X.K X.mg X.base (L2.CX X.prog X.w) k g gd ["self"] (spLn X.K C fld)) (bg : Binds X.K gd ["self"] [])
    (hr : Room (k + 3) X.A) : CallR X (.type "list") (rListO X.K C fld) := by
  intro pins s σ H xs us Q I rv h
  obtain ⟨a, dx, fs, l, zs, rfl, ha, hl, hz, hlen, hq⟩ := h
  obtain ⟨u, rfl, ru⟩ := rv.one
  cases ru
  have sb3 : Sub X k X.A.in1.in1.in1 := Sub.in1 (Sub.in1 (Sub.in1 (⟨hr, rfl⟩ : Sub X (k + 3) X.A)))
  have sb2 : Sub X k X.A.in1.in1 := (Sub.in1 (Sub.in1 (⟨hr, rfl⟩ : Sub X (k + 3) X.A))).mono (Nat.le_succ k)
  refine callType_codes (Q₁ := fun obj s₁ => obj = .ref s.heap.objs.size ∧ s₁ = { s with heap := s.heap.push { cls := .type "list", data := .seq #[] } }) PySem.F.called_list (PySem.F.typeCall_list_1 _) PySem.F.entry_list_init
    (code_list_new _ ⟨rfl, rfl⟩) fun obj s₁ h₁ => ?_
  obtain ⟨rfl, rfl⟩ := h₁
  have hS : (s.heap.push { cls := .type "list", data := .seq #[] }).get? s.heap.objs.size = some { cls := .type "list", data := .seq #[] } := Heap.get?_push_size _ rfl
  refine ⟨⟨_, hS, rfl⟩, PySem.F.args_list_init_2 _ _, ?_⟩
  have fr : H s.heap.objs.size = none := I.hok.fresh (Nat.le_refl _)
  have I1 : Inv X pins σ (upd H s.heap.objs.size (.lst [])) { s with heap := s.heap.push { cls := .type "list", data := .seq #[] } } := I.lnew (its := []) (t' := s.toks) .nil (Nat.zero_le _)
  show wpAny _ _ (do let old ← Builtin.List.listItems (.ref s.heap.objs.size); Builtin.List.listUpdate (.ref s.heap.objs.size) (fun _ => #[]); letGo old.toList.reverse; Builtin.List.listExtendWith (.ref s.heap.objs.size) (.ref a) .none) _ _ _
  refine wpAny_bind ?_
  unfold Builtin.List.listItems
  refine wpAny_bind (wpAny_seqItems hS rfl (wpAny_pure ?_))
  show wpAny _ _ (updateSeq s.heap.objs.size (fun _ => #[]) >>= fun _ => letGo (#[] : Array Value).toList.reverse >>= fun _ => Builtin.List.listExtendWith (.ref s.heap.objs.size) (.ref a) .none) _ _ _
  refine wpAny_bind (wpAny_updateSeq hS rfl ?_)
  have I2 := I1.lset (f := fun _ => #[]) (its := []) (its' := []) (ys := []) (t' := s.toks) upd_same hS rfl .nil (Nat.zero_le _)
  rw [upd_upd] at I2
  refine wpAny_bind (wpAny_letGo ?_)
  have hqq := hq _ fr
  generalize s.heap.objs.size = q at fr hqq I2 ⊢
  have hne : q ≠ a := fun z => by rw [z, ha] at fr; cases fr
  have ha2 : upd H q (.lst []) a = some (.ins C dx fs) := by rw [upd_ne (Ne.symm hne)]; exact ha
  obtain ⟨mA, J, _⟩ := ins_get I2.hok ha2
  obtain ⟨od, J, _⟩ := J.look
  unfold Builtin.List.listExtendWith
  refine wpAny_bind (J.type.here ?_)
  have h1 : Builtin.List.listSameRef (.ref q) (.ref a) = false := by simp [Builtin.List.listSameRef, hne]
  have h2 : (Value.ref C == Value.type "list") = false := rfl
  have h3 : (Value.ref C == Value.type "tuple") = false := rfl
  simp only [h1, h2, h3, Bool.or_false, Bool.false_eq_true, if_false]
  refine wpAny_bind (own_iter sb2 hc F b I2 ha2 hl (sqT_upd fr hz) fun it s' hi hi2 I' => ?_)
  have nia : it ≠ a := fun z => by rw [z, ha2] at hi; cases hi
  have niq : it ≠ q := fun z => by rw [z, upd_same] at hi; cases hi
  have ha3 : upd (upd H q (.lst [])) it (ItT l it 0) a = some (.ins C dx fs) := by rw [upd_ne (Ne.symm nia)]; exact ha2
  have hq3 : upd (upd H q (.lst [])) it (ItT l it 0) q = some (.lst []) := by rw [upd_ne (Ne.symm niq), upd_same]
  have h0 : H it = none := by have h0 := hi; rw [upd_ne niq] at h0; exact h0
  have fin : ∀ s2, Inv X pins σ (upd (upd H q (.lst [])) it (ItT l it 0)) s2 → codeAny (model X.prog X.w) X.A.in1 (.builtin "list.extend.loop" ⟨[.ref q, .ref it, .none], []⟩) (wants (fun r s₂ => r = .none ∧ EP X pins σ Q (.ref q) s₂) X.xe) s2 := by
    intro s2 J2
    have st : s2.heap.IsTupleIter it l 0 := (J2.hok it _ upd_same).1
    have e' : (upd (upd H q (.lst [])) it (ItT l it 0)) it = some (ItT l it 0) := upd_same
    have e2 := e'
    unfold ItT at e2
    have J3 := ItX.inv_drop J2 e2
    have fp := ItX.inv_fp J2 e' (Nat.le_trans I2.sz hi2)
    rw [ItX.dropH_upd hi] at J3 fp
    refine own_loopT (X := X) (A1 := X.A.in1) (pins := pins) (σ := σ) (H := H) (it := it) (l := l) (zs := zs) hr.hd fr hz hlen (fun s3 J4 => ⟨rfl, .ref q, _, J4, rfl, hqq⟩) (fun acc => ⟨by rw [upd_ne niq]; exact h0, fp.2⟩) zs [] s2 rfl J3 st
  refine wpAny_bind (wpAny_holding (own_hintT sb3 hg G bg I' ha3 hl (sqT_upd hi (sqT_upd fr hz)) hlen fun r s'' I3 => ?_))
  obtain ⟨z, its, kk, r3, hl3, e3⟩ := I3.lstM hq3
  cases r3
  refine wpAny_ite_split (fun _ => ?_) (fun _ => wpAny_pure ⟨plainId_quiet PySem.F.plain_extend_loop _, fin _ I3⟩)
  refine wpAny_bind (wpAny_rule ?_)
  refine wpAny_bind ?_
  show wpAny _ _ (updateSeq q (·.push .none) >>= fun _ => updateSeq q (·.pop)) _ _ _
  refine wpAny_bind (wpAny_updateSeq e3 rfl ?_)
  have I4 := I3.lset (f := (·.push Value.none)) (its' := [Value.none]) (ys := [.non]) (t' := s''.toks) hq3 e3 (by simp) (.cons rfl .nil) (by rw [List.length_singleton, sizeLine_eq]; decide)
  obtain ⟨z4, its4, k4, r4, hl4, e4⟩ := I4.lstM upd_same
  obtain ⟨u4, rfl, ru4⟩ := r4.one
  refine wpAny_updateSeq e4 rfl ?_ (by show 1 ≤ sizeLine; rw [sizeLine_eq]; decide) (by show 0 ≤ sizeLine + 1; exact Nat.zero_le _)
  refine wpAny_pure ⟨plainId_quiet PySem.F.plain_extend_loop _, fin _ ?_⟩
  have I5 := I4.lset (f := (·.pop)) (its := [u4]) (its' := []) (ys := []) (t' := s''.toks) upd_same e4 (by rfl) .nil (Nat.zero_le _)
  rw [upd_upd] at I5
  have hH : upd (upd (upd H q (.lst [])) it (ItT l it 0)) q (.lst []) = upd (upd H q (.lst [])) it (ItT l it 0) := by
    funext b
    by_cases hb : b = q
    · rw [hb, upd_same, hq3]
    · rw [upd_ne hb]
  rw [hH] at I5
  exact I5
end
/-! ### the readings -/
def vItO (C : Addr) (fld : Str) (te : TEv) : TIv := fun ρ R => te ρ fun x => match x with
  | .nd (.obj C' ns) xs => C' = C ∧ (match (ns.zip xs).lookup fld with
    | some (.nd .tup ys) => D.alls coF ys = true ∧ R ys
    | _ => False)
  | _ => False
theorem lk_itO {C : Addr} {fld : Str} {Te : TE} {te : TEv} (l : LE Te te) : LI (iOwnT KK.K C fld Te) (vItO C fld te) := by
  intro B0 Z B H σ ρ R RR Rp h k
  refine l B0 Z B H σ ρ _ _ Rp h fun x vx H1 ⟨B1, F, g, dx, n, fr⟩ h9 => ?_
  clear h
  split at h9
  · rename_i C' ns xs _
    obtain ⟨e9, h9⟩ := h9
    subst e9
    split at h9
    · rename_i ys e2
      obtain ⟨hc, hR⟩ := h9
      obtain ⟨a, o, us, G, ev, hx, ⟨l, ddx, c⟩, q', fe⟩ := dx
      subst ev c
      obtain ⟨v, G', e3, y⟩ := lookup_zip l q' e2
      obtain ⟨b, o, vs, G2, e4, x2, c2, q2, _⟩ := y
      subst e4
      have c2 : o = .tup vs := c2
      subst c2
      have x2 : B1 b = some (.tup vs) := x2
      exact ⟨a, ddx, _, b, vs, rfl, g.sub _ _ hx, e3, SqT.of (g.sub _ _ x2), k _ _ _ _ g (yields_tup x2 q2 hc) hc hR⟩
    · exact h9.elim
  · exact h9.elim
def dListO (C : Addr) (fld : Str) : RNv := fun ds Q => match ds with
  | [.nd (.obj C' ns) xs] => C' = C ∧ (match (ns.zip xs).lookup fld with
    | some (.nd .tup ys) => ys.length ≤ 1000000 ∧ D.alls coF ys = true ∧ Q (.lst .o ys)
    | _ => False)
  | _ => False
theorem lr_listO {C : Addr} {fld : Str} : LRn (rListO KK.K C fld) (dListO C fld) := by
  intro B0 Z B H σ ρ ds vs F Qd Q R q h k
  unfold dListO at h
  split at h
  · rename_i C' ns xs
    obtain ⟨rfl, h⟩ := h
    split at h
    · rename_i ys e2
      obtain ⟨hl, hc, hQ⟩ := h
      obtain ⟨v, e1, x⟩ := dens_one q
      obtain ⟨a, o, us, G, ev, hx, ⟨l, ddx, c⟩, q', fe⟩ := x
      subst ev c e1
      obtain ⟨v, G', e3, y⟩ := lookup_zip l q' e2
      obtain ⟨b, o, vs, G2, e4, x2, c2, q2, _⟩ := y
      subst e4
      have c2 : o = .tup vs := c2
      subst c2
      have x2 : B b = some (.tup vs) := x2
      have f2 := Dens.nofp _ _ _ hc q2
      subst f2
      refine ⟨a, ddx, _, b, vs, rfl, R.sub _ _ hx, e3, SqT.of (R.sub _ _ x2), by rw [← q2.len, sizeLine_eq]; omega, fun p hp => k _ _ _ (out_lst ?_ hp) hQ⟩
      exact ⟨B, [], Grow.refl R.sub, q2, List.nodup_nil, fun a h => nomatch h⟩
    · exact h.elim
  · exact h.elim
/-- a class's __iter__ and __len__ as list and for use them -/
structure Itr (P : Program) (w : World) (K : PySem.W.Frag) (mg : Str → Option Value) (base : Heap) (k : Nat) (C : Addr) (fld : Str) : Prop where
  ex : ∃ (f : Addr) (fd : FuncData), FnIt P w K mg base k f fd C fld ∧ ItF K C f ∧ Binds K fd ["self"] []
structure Lnr (P : Program) (w : World) (K : PySem.W.Frag) (mg : Str → Option Value) (base : Heap) (k : Nat) (C : Addr) (fld : Str) : Prop where
  ex : ∃ (g : Addr) (gd : FuncData), FnOk P w K mg base (L2.CX P w) k g gd ["self"] (spLn K C fld) ∧ LnF K C g ∧ Binds K gd ["self"] []
section
variable {X : Cx} {k j i : Nat} {C f g : Addr} {fd gd : FuncData} {fld : Str} {tg e : Expr} {es : List Expr} {p pos : Pos} {Te : TE} {te : TEv} {T : TA} {t : TAv}
theorem i_own (hc : ItF X.K C f) (F : FnIt X.prog X.w X.K X.mg X.base k f fd C fld) (b : Binds X.K fd ["self"] []) (hr : Room j X.A) (hk : k ≤ j) (he : VE X e Te te) (hK : X.K = KK.K := by rfl) : VI X tg e (iOwnT KK.K C fld Te) (vItO C fld te) :=
  ⟨by rw [← hK]; exact pi_own hc F b (hr.mono hk) he.pe, lk_itO he.lk⟩
theorem e_listO (hc : ItF X.K C f) (F : FnIt X.prog X.w X.K X.mg X.base k f fd C fld) (b : Binds X.K fd ["self"] []) (hg : LnF X.K C g) (G : FnOk X.prog X.w X.K X.mg X.base (L2.CX X.prog X.w) k g gd ["self"] (spLn X.K C fld)) (bg : Binds X.K gd ["self"] []) (hr : Room j X.A) (hk : k + 3 ≤ j)
    (hm : X.mg "list" = none) (ha : VA X (e :: es) T t) (hgl : Gl X "list" := by rfl) (hs : St1 X e es pos := by exact ⟨rfl, rfl⟩) (hK : X.K = KK.K := by rfl) : VE X (.Call (.Name "list" p) (e :: es) [] pos) (tCB (rListO KK.K C fld) T) (vB (dListO C fld) t) := by
  rw [← hK]
  exact e_callTy (r := rListO X.K C fld) (call_listOwnT hc F b hg G bg (hr.mono hk)) (by rw [hK]; exact lr_listO) hgl hm (by decide +kernel) ha (by decide) (by decide) hs.1 hs.2
end
theorem ln_len {K : PySem.W.Frag} {C : Addr} {fld : Str} : ∀ vs H Q E, spLn K C fld vs H Q E → vs.length = (["self"] : List Str).length := fun vs H Q E h => by
  obtain ⟨a, dx, fs, l, zs, e, _⟩ := h
  rw [e]; rfl
theorem ln_body {X : Cx} {fld : Str} {p1 p2 p3 p4 p5 : Pos} (hg : Gl X "len") (hm : X.mg "len" = none) (hN : X.N[0]? = some ("self" : Str)) (hv : Vis X.env.scope "self")
    (hb : attributeBase (.Name "self" p2) fld X.env (eval (.Name "self" p2) X.env) = eval (.Name "self" p2) X.env := by rfl)
    (he : starEach [.Attribute (.Name "self" p2) fld p3] X.env = (false, eval (.Attribute (.Name "self" p2) fld p3) X.env) :: starEach [] X.env := by rfl) (hpl : (backTo p4 (starEach [] X.env)).any (·.1) = false := by rfl) :
    PSs X [.Return (some (.Call (.Name "len" p1) [.Attribute (.Name "self" p2) fld p3] [] p4)) p5] (tRet (tCB (fun xs H Q => ∃ x n, xs = [x] ∧ LenV X.K x H n ∧ Q (.int n) H) (tCons (tFld X.K (tVar 0) fld) tNil))) :=
  pss_one (ps_ret (pe_callB call_len hg hm (by decide +kernel) (pa_cons (pe_fld (pe_var hN hv) hb) pa_nil he) (by decide) (by decide) he hpl))
theorem ln_math {K : PySem.W.Frag} {C : Addr} {fld : Str} {vs : List V} {H : Hp} {Q : L2.VK} {E : XK} {N : List Str} (fo : FldOk K C fld) (hN : 0 < N.length) (h : spLn K C fld vs H Q E) (D : Ends) (hD : D.rt = Q) :
    (tRet (tCB (fun xs H Q => ∃ x n, xs = [x] ∧ LenV K x H n ∧ Q (.int n) H) (tCons (tFld K (tVar 0) fld) tNil))) D (L2.start N vs) H := by
  obtain ⟨a, dx, fs, l, zs, rfl, ha, hl, hz, hq⟩ := h
  refine ⟨.ref a, ?_, a, C, dx, fs, .ref l, rfl, ha, fo.1, fo.2, hl, .ref l, zs.length, rfl, .inr ⟨zs, hz, rfl⟩, ?_⟩
  · cases N with
    | nil => exact absurd hN (by decide)
    | cons x xs => rfl
  · rw [hD]; exact hq
/-- a def with defaults, called with all of its arguments -/
theorem binds_full {K : PySem.W.Frag} {x qual : Str} {params : Arguments} {body : List Stmt} {scope : Scope} {dvs : List V} {kws : List (Str × V)} {f : Addr} {fd : FuncData} {ps : List Str} (F : FunD K x qual params body scope dvs kws f fd) (hd : dvs ≠ [])
    (h : ∀ (T : Addr) (kV doc pm : Value) (an : Option Addr) (cdv ct : Value) (us its : List Value), us.length = ps.length → its.length = dvs.length →
      ∃ k, bindArgs (PySem.W.fnOf x qual params body scope (.ref T) kV doc pm an cdv ct) ⟨us, []⟩ = seqItems? (.ref T) >>= k ∧ k (some its.toArray) = pure (ps.zip us)) : Binds K fd ps [] := by
  obtain ⟨ds, hv, hb⟩ := F.binds1 (ps := ps) ps.length dvs.length hd (by omega) fun T kV doc pm an cdv ct us its l1 l2 => by
    obtain ⟨k, e1, e2⟩ := h T kV doc pm an cdv ct us its l1 l2
    refine ⟨k, e1, ?_⟩
    rw [← l2, List.drop_length, List.append_nil]
    exact e2
  rw [List.drop_length] at hv
  cases hv
  exact hb
theorem e_globI {X : Cx} {x : Str} {i : Int} {pos : Pos} (h : ∃ u, X.mg x = some u ∧ RelV (.int i) u) (hg : Gl X x := by rfl) (hd : (x == ("__debug__" : Str)) = false := by decide) : VE X (.Name x pos) (tC (.int i)) (vC (.int i)) := by
  obtain ⟨u, hm, r⟩ := h
  exact ⟨pe_glob hg hm r hd, lk_c fun _ _ _ => den_int⟩
end VL

/-! ## VLR -/
/-! VL: the draw that all the laws share. -/
namespace VL
open PySem PySem.Spec L2
open PyProof.Rows hiding St
variable [KK : KLs]
local macro_rules | `(tactic| walk_at "vl") => `(tactic| simp only [vSeq, vAsgL, vAsg, vB, vCons, vNil, vC, vVar, vOp, vUn, vIf, vTest, vRet, vRetV, vNext, vNever, vTup, vLst, vAnd, vOr, vNot, vAndT, vOrT, vNotT, vIsN, vFld, dFld, vIt, vRng1, vRng2, vFor, vCall, vLstRg2, vSetF, vMake, vgName, vgTup, vgCons, vgNil, vLc, wipeD, dMax2, dMin2, dLen, dI, dI0, dIx, dInt1, dAdd, dNeg, dEq, dEqN, dList, dIsi, startD, vAsgG, initEnd,
  List.map_cons, List.map_nil, List.cons_append, List.nil_append, List.append_nil, List.length_cons, List.length_nil, List.replicate, List.getElem?_cons_zero, List.getElem?_cons_succ, List.set_cons_zero, List.set_cons_succ, List.zip_cons_cons, List.zip_nil_right, List.lookup_cons, D.map, D.maps, D.all, D.alls, D.isNon, D.isCst, D.ty, Hd.map, Hd.fl, Fl.ls, Fl.sl, fBor, fLoc, fArg, nbF, owF, puF, coF, riF, nsF, D.bor, D.loc, D.arg, D.nb, D.ow, maps_ints, alls_ints, at0, at1, at2, at3, D.isNon, List.lookup_nil, beq_self_eq_true, D.isCst, str_beq, str_eqv, String.reduceEq, Nat.reduceAdd, Nat.reduceLeDiff, Int.cast_ofNat_Int, eq_self, List.all_cons, List.all_nil, ty_int_int, ty_int_bool, ty_tuple_tuple, ty_non_tuple, decide_true, decide_false, true_and, and_true, Bool.true_and, Bool.and_true, if_true, if_false, Bool.not_true, Bool.not_false, Bool.false_eq_true, Option.some.injEq, reduceCtorEq])

def t_draw : TSv :=
  (vSeq (vAsgL 3 (vB dMax2 (vCons (vC (.int 1)) (vCons (vB dMin2 (vCons (vB dLen (vCons (vVar 0) vNil)) (vCons (vC (.int 63)) vNil))) vNil))))
    (vSeq (vAsgL 4 (vC (.int 0)))
    (vSeq (vIf (vTest (vOp dGt (vB dLen (vCons (vVar 0) vNil)) (vC (.int 0)))) (vAsgL 4 (vOp dIx (vVar 0) (vOp dMod (vB dInt1 (vCons (vVar 1) vNil)) (vVar 3)))) vNext)
    (vSeq (vIf (vTest (vOp dGe (vVar 4) (vOp dPow (vC (.int 10)) (vC (.int 18))))) (vSeq (vAsgL 5 (vVar 4))
    (vSeq (vFor (vRng1 (vB dMin2 (vCons (vOp dDiv (vVar 1) (vVar 3)) (vCons (vC (.int 60)) vNil)))) (vgName 6)
    (vAsgL 5 (vOp dDiv (vVar 5) (vC (.int 1000)))))
    (vIf (vTest (vOp dGt (vVar 5) (vC (.int 0)))) (vRet (vOp dMod (vB dInt1 (vCons (vOp dMod (vB dInt1 (vCons (vVar 5) vNil)) (vC (.int 1000))) vNil)) (vVar 2))) vNext))) vNext)
    (vSeq (vAsgL 7 (vOp dMod (vB dInt1 (vCons (vOp dAdd (vOp dAdd (vVar 4) (vOp dMul (vC (.int 7919)) (vVar 1))) (vC (.int 13))) vNil)) (vC (.int 2147483647))))
    (vSeq (vAsgL 7 (vOp dMod (vB dInt1 (vCons (vOp dMul (vVar 7) (vOp dAdd (vVar 7) (vC (.int 48271)))) vNil)) (vC (.int 2147483629))))
    (vSeq (vAsgL 7 (vOp dMod (vB dInt1 (vCons (vOp dAdd (vOp dMul (vVar 7) (vOp dAdd (vVar 7) (vC (.int 69621)))) (vOp dMul (vC (.int 31)) (vVar 1))) vNil)) (vC (.int 2147483647))))
    (vRet (vOp dMod (vB dInt1 (vCons (vOp dDiv (vVar 7) (vC (.int 9))) vNil)) (vVar 2))))))))))
def DrawP : PV := fun ds Q _ => ∃ (ns : List Int) (k size : Int), ds = [.lst .s (ns.map .int), .int k, .int size] ∧ ns.length ≤ 63 ∧ 0 ≤ k ∧ k ≤ 1000000 ∧ 0 < size ∧ ∀ r, 0 ≤ r → r < size → Q (.int r)
theorem mod_b (a : Int) {m : Int} (h : 0 < m) : 0 ≤ a % m ∧ a % m < m := ⟨Int.emod_nonneg _ (by omega), Int.emod_lt_of_pos _ h⟩
theorem draw_fin {Q : D → Prop} {k size : Int} (c : Int) (hs : 0 < size) (hq : ∀ r, 0 ≤ r → r < size → Q (.int r)) :
    CMul 7919 k ∧ 0 < (2147483647 : Int) ∧ CMul ((c + 7919 * k + 13) % 2147483647) ((c + 7919 * k + 13) % 2147483647 + 48271) ∧ 0 < (2147483629 : Int) ∧
      CMul ((c + 7919 * k + 13) % 2147483647 * ((c + 7919 * k + 13) % 2147483647 + 48271) % 2147483629) ((c + 7919 * k + 13) % 2147483647 * ((c + 7919 * k + 13) % 2147483647 + 48271) % 2147483629 + 69621) ∧
      CMul 31 k ∧ 0 < (2147483647 : Int) ∧ CDiv (((c + 7919 * k + 13) % 2147483647 * ((c + 7919 * k + 13) % 2147483647 + 48271) % 2147483629 * ((c + 7919 * k + 13) % 2147483647 * ((c + 7919 * k + 13) % 2147483647 + 48271) % 2147483629 + 69621) + 31 * k) % 2147483647) 9 ∧ 0 < size ∧
      Q (.int ((((c + 7919 * k + 13) % 2147483647 * ((c + 7919 * k + 13) % 2147483647 + 48271) % 2147483629 * ((c + 7919 * k + 13) % 2147483647 * ((c + 7919 * k + 13) % 2147483647 + 48271) % 2147483629 + 69621) + 31 * k) % 2147483647) / 9 % size)) := by
  have b1 := mod_b (c + 7919 * k + 13) (m := 2147483647) (by decide)
  generalize (c + 7919 * k + 13) % 2147483647 = a at b1 ⊢
  have b2 := mod_b (a * (a + 48271)) (m := 2147483629) (by decide)
  generalize a * (a + 48271) % 2147483629 = b at b2 ⊢
  exact ⟨.inl (by decide), by decide, .inl (by omega), by decide, .inl (by omega), .inl (by decide), by decide, ⟨by decide, by decide⟩, hs, hq _ (mod_b _ hs).1 (mod_b _ hs).2⟩
theorem pow18 : CPow 10 18 := ⟨by decide, by decide, by decide⟩
theorem m_draw : ∀ ds Q Ed, ds.length = 3 → DrawP ds Q Ed → t_draw { nx := fun _ => Q .non, rt := Q } (startD 8 ds) := by
  rintro ds Q Ed - ⟨ns, k, size, rfl, hl, hk, hk2, hs, hq⟩
  have fin := fun c => draw_fin (k := k) (Q := Q) c hs hq
  unfold t_draw
  walk_at "vl"
  simp only [List.length_map]
  by_cases h : ns.length = 0
  · rw [if_neg (by simp [h])]
    refine ⟨pow18, if_dec (fun h => absurd h (by decide)) (fun _ => fin 0)⟩
  · rw [if_pos (by simp; omega)]
    have hz : 0 < max 1 (min (ns.length : Int) 63) := by omega
    have hz2 : max 1 (min (ns.length : Int) 63) ≤ 63 := by omega
    obtain ⟨c, hc⟩ := atI_ints (ns := ns) (i := k % max 1 (min (ns.length : Int) 63)) (mod_b _ (by omega)).1 (by have := (mod_b k (m := max 1 (min (ns.length : Int) 63)) (by omega)).2; omega)
    rw [hc]
    walk_at "vl"
    generalize max 1 (min (ns.length : Int) 63) = z at hz hz2 ⊢
    have hkz : 0 ≤ k / z := Int.ediv_nonneg hk (by omega)
    have hkz2 : k / z ≤ k := Int.ediv_le_self _ hk
    refine ⟨hz, pow18, if_dec (fun _ => ⟨⟨by omega, by omega⟩, ⟨by omega, by omega⟩, forL_keep (fun ρ => ∃ r y, ρ = [some (.lst .s (ns.map .int)), some (.int k), some (.int size), some (.int z), some (.int c), some (.int r), y, none]) ⟨_, _, rfl⟩ ?_ ?_⟩) (fun _ => fin c)⟩
    · rintro x - ρ ⟨r, y, rfl⟩ N hN
      walk_at "vl"
      exact ⟨⟨by decide, by decide⟩, hN _ ⟨_, _, rfl⟩⟩
    · rintro ρ ⟨r, y, rfl⟩
      walk_at "vl"
      refine if_dec (fun _ => ?_) (fun _ => fin c)
      exact ⟨by decide, hs, hq _ (mod_b _ hs).1 (mod_b _ hs).2⟩

theorem draw_ok {ns : List Int} {k size : Int} {Q : D → Prop} {E : XD → Prop} (hl : ns.length ≤ 63) (h0 : 0 ≤ k) (h1 : k ≤ 1000000) (hs : 0 < size) (hq : ∀ r, 0 ≤ r → r < size → Q (.int r)) : DrawP [.lst .s (ns.map .int), .int k, .int size] Q E :=
  ⟨ns, k, size, rfl, hl, h0, h1, hs, hq⟩
end VL

/-! ## VLN -/
/-! VL: readings walked step by step: what stands behind a choice, a call or a loop is held until it is reached. -/
namespace VL
open PySem PySem.Spec L2
open PyProof.Rows hiding St
variable [KK : KLs]
structure Lk (A : Prop) : Type where
structure LkQ (Q : D → Prop) : Type where
structure LkE (f : VL.Env → Prop) : Type where
def stp (f : VL.Env → Prop) (ρ : VL.Env) (_ : LkE f) : Prop := f ρ
theorem stp_i {f : VL.Env → Prop} {ρ : VL.Env} {l : LkE f} (h : f ρ) : stp f ρ l := h
def hold (A : Prop) (_ : Lk A) : Prop := A
def sel (k : Bool) (A B : Prop) (_ : Lk A) (_ : Lk B) : Prop := if k = true then A else B
def ixQ (o : Option D) (Q : D → Prop) (_ : LkQ Q) : Prop := match o with
  | some d => Q d.bor
  | none => False
section

variable {A B : Prop} {l1 : Lk A} {l2 : Lk B} {Q : D → Prop} {l : LkQ Q}
theorem hold_i (h : A) : hold A l1 := h
theorem sel_t : sel true A B l1 l2 = A := if_pos rfl
theorem sel_f : sel false A B l1 l2 = B := if_neg Bool.false_ne_true
theorem sel_d {p : Prop} [Decidable p] (h1 : p → A) (h2 : ¬ p → B) : sel (decide p) A B l1 l2 := if_dec h1 h2
theorem sel_b {k : Bool} (h1 : k = true → A) (h2 : k = false → B) : sel k A B l1 l2 := if_bool h1 h2
theorem ixQ_s {d : D} : ixQ (some d) Q l = Q d.bor := rfl
end
section
variable {W : Ev} {ρ : VL.Env} {Q : D → Prop} {QB : Bool → Prop} {n m1 m2 : Nat} {P : PV} {PI : PI'} {C : Addr} {dds : List D} {t tk : TAv} {ta tb te : TEv} {tc td : TTv} {ts us : TSv} {ti : TIv} {g : TGv} {vs : List Nat} {gv : List D → List D → List D}
theorem n_call : vCall n P dds t ρ Q = t ρ fun ds => (D.maps fArg ds ++ dds).length = n ∧ P (D.maps fArg ds ++ dds) (fun d => hold (d.ow = true ∧ Q d) ⟨⟩) (fun _ => False) := rfl
theorem n_callW : vCallW n P dds t ρ Q = t ρ fun ds => D.alls fxF ds = true ∧ (D.maps fArg ds ++ dds).length = n ∧ P (D.maps fArg ds ++ dds) (fun d => hold (Q d) ⟨⟩) (fun _ => False) := rfl
theorem n_make : vMake n m1 m2 PI C gv t tk ρ Q = t ρ fun ds => tk ρ fun es => ds.length = m1 ∧ es.length = m2 ∧ (gv ds es).length = n ∧ PI C (D.maps fArg (gv ds es)) (fun ns xs => hold (Q (.obj C ns xs)) ⟨⟩) (fun _ => False) := rfl
theorem n_make0 : vMake0 n PI C dds t ρ Q = t ρ fun ds => (ds ++ dds).length = n ∧ PI C (D.maps fArg (ds ++ dds)) (fun ns xs => hold (Q (.obj C ns xs)) ⟨⟩) (fun _ => False) := rfl
theorem n_seq : vSeq ts us W ρ = ts { W with nx := fun ρ' => stp (us W) ρ' ⟨⟩ } ρ := rfl
theorem n_if : vIf tc ts us W ρ = tc ρ fun k => sel k (ts W ρ) (us W ρ) ⟨⟩ ⟨⟩ := rfl
theorem n_ifE : vIfE tc ta tb ρ Q = tc ρ fun k => sel k (ta ρ Q) (tb ρ Q) ⟨⟩ ⟨⟩ := rfl
theorem n_andT : vAndT tc td ρ QB = tc ρ fun k => sel k (td ρ QB) (QB false) ⟨⟩ ⟨⟩ := rfl
theorem n_orT : vOrT tc td ρ QB = tc ρ fun k => sel k (QB true) (td ρ QB) ⟨⟩ ⟨⟩ := rfl
theorem n_and : vAnd ta tb ρ Q = ta ρ fun x => match x with
  | .bl k => sel k (tb ρ Q) (Q (.bl false)) ⟨⟩ ⟨⟩
  | _ => False := rfl
theorem n_or : vOr ta tb ρ Q = ta ρ fun x => match x with
  | .bl k => sel k (Q (.bl true)) (tb ρ Q) ⟨⟩ ⟨⟩
  | _ => False := rfl
theorem n_lc : vLc ti g tc te vs ρ Q = ti ρ fun items => items.length ≤ 1000000 ∧ lcL g tc te (wipeD ρ vs) items [] (fun d => hold (Q d) ⟨⟩) := rfl
theorem n_maxL {f : Fl} {ns : List Int} : dMaxL [.nd (.lst f) (ns.map .int)] Q = (0 < ns.length ∧ ∀ m, m ∈ ns → (∀ y, y ∈ ns → y ≤ m) → hold (Q (.int m)) ⟨⟩) := by
  unfold dMaxL; simp only [ints_map]; rfl
theorem n_ixT {xs : List D} {i : Int} : dIx (.nd .tup xs) (.int i) Q = ixQ (atI xs i) Q ⟨⟩ := by
  unfold dIx ixQ; rfl
theorem n_ixL {f : Fl} {xs : List D} {i : Int} : dIx (.nd (.lst f) xs) (.int i) Q = ixQ (atI xs i) Q ⟨⟩ := by
  unfold dIx ixQ; rfl
end
section
variable {ks : List Key} {xs : List D} {d x : D} {a b : String} {k : Key} {W : Ev} {ρ : VL.Env} {i : Nat} {ti te : TEv}
theorem kput_str : kput (.inr (Str.ofString a) :: ks) (x :: xs) (.inr (Str.ofString b)) d = if a = b then d :: xs else x :: kput ks xs (.inr (Str.ofString b)) d := by
  rw [kput]
  by_cases h : a = b
  · subst h; rw [if_pos rfl, if_pos rfl]
  · rw [if_neg h, if_neg fun e => h (str_inj (Sum.inr.inj e))]
theorem kadd_str : kadd (.inr (Str.ofString a) :: ks) (.inr (Str.ofString b)) = if a = b then .inr (Str.ofString a) :: ks else .inr (Str.ofString a) :: kadd ks (.inr (Str.ofString b)) := by
  rw [kadd]
  by_cases h : a = b
  · subst h; rw [if_pos rfl, if_pos rfl]
  · rw [if_neg h, if_neg fun e => h (str_inj (Sum.inr.inj e))]
theorem kfind_str : kfind (.inr (Str.ofString a) :: ks) (x :: xs) (.inr (Str.ofString b)) = if a = b then some x else kfind ks xs (.inr (Str.ofString b)) := by
  rw [kfind]
  by_cases h : a = b
  · subst h; rw [if_pos rfl, if_pos rfl]
  · rw [if_neg h, if_neg fun e => h (str_inj (Sum.inr.inj e))]
theorem key_str {z : Str} : (D.str z).key = some (.inr z) := rfl
theorem key_int {z : Int} : (D.int z).key = some (.inl z) := rfl
def dputS (o : Option (Option D)) (ti : TEv) (W : Ev) (ρ : VL.Env) (i : Nat) (d : D) : Prop := match o with
  | some (some (.nd (.dct .o ks) xs)) => ti ρ fun y => match y.key with
    | some k => d.nb = true ∧ ks.Nodup ∧ ks.length < 1000000 ∧ W.nx (ρ.set i (some (.dct .o (kadd ks k) (kput ks xs k d))))
    | _ => False
  | _ => False
def dputK (o : Option Key) (ks : List Key) (xs : List D) (W : Ev) (ρ : VL.Env) (i : Nat) (d : D) : Prop := match o with
  | some k => d.nb = true ∧ ks.Nodup ∧ ks.length < 1000000 ∧ W.nx (ρ.set i (some (.dct .o (kadd ks k) (kput ks xs k d))))
  | _ => False
theorem n_dput : vDPut i ti te W ρ = te ρ fun d => dputS ρ[i]? ti W ρ i d := rfl
theorem n_dputS : dputS (some (some (.nd (.dct .o ks) xs))) ti W ρ i d = ti ρ fun y => dputK y.key ks xs W ρ i d := rfl
theorem n_dputK : dputK (some k) ks xs W ρ i d = (d.nb = true ∧ ks.Nodup ∧ ks.length < 1000000 ∧ W.nx (ρ.set i (some (.dct .o (kadd ks k) (kput ks xs k d))))) := rfl
def dgetK (d : D) (o : Option Key) (Q : D → Prop) : Prop := match d, o with
  | .nd (.dct f ks) xs, some k => rdF f = true ∧ match kfind ks xs k with
    | some d => Q d.bor
    | none => False
  | _, _ => False
def dgetO (o : Option D) (Q : D → Prop) : Prop := match o with
  | some d => Q d.bor
  | none => False
theorem n_dget : vDGet te ti ρ Q = te ρ fun d => ti ρ fun y => dgetK d y.key Q := rfl
theorem n_dgetK {f : Fl} {Q : D → Prop} : dgetK (.nd (.dct f ks) xs) (some k) Q = (rdF f = true ∧ dgetO (kfind ks xs k) Q) := rfl
theorem n_dgetO {Q : D → Prop} : dgetO (some d) Q = Q d.bor := rfl
theorem rdF_o : rdF .o = true := rfl
theorem rdF_l : rdF .l = true := rfl
theorem rdF_b : rdF .b = true := rfl
theorem rdF_a : rdF .a = true := rfl
theorem rdF_s : rdF .s = true := rfl
end
theorem cut_to {xs : List Int} {c : Int} (h0 : 0 ≤ c) : (xs.drop (HT.sIx xs.length 0 none)).take (HT.sIx xs.length xs.length (some c) - HT.sIx xs.length 0 none) = xs.take c.toNat := by
  rw [HT.sIx_none, sIx_pos h0, List.drop_zero, Nat.sub_zero]
  by_cases h : c.toNat ≤ xs.length
  · rw [show min c.toNat xs.length = c.toNat by omega]
  · rw [show min c.toNat xs.length = xs.length by omega, List.take_of_length_le (Nat.le_refl _), List.take_of_length_le (by omega)]
theorem at_getD {xs : List Int} {i : Int} (h0 : 0 ≤ i) (h1 : i.toNat < xs.length) : atI (xs.map D.int) i = some (.int (xs.getD i.toNat 0)) := by
  rw [at_ints h0 h1, List.getD_eq_getElem?_getD, List.getElem?_eq_getElem h1]; rfl
section
variable {g : TGv} {tb : TSv} {W : Ev} {α : Type}
/-- a for that ends early at the first item with t -/
theorem forL_stop (emb : α → D) (t : α → Bool) (I : VL.Env → Prop) : ∀ (xs : List α) {ρ : VL.Env}, I ρ →
    (∀ x, x ∈ xs → ∀ ρ, I ρ → ∀ N : VL.Env → Prop, (t x = false → ∀ ρ', I ρ' → N ρ') → g (emb x) ρ fun ρ' => tb { nx := N, rt := W.rt, bk := W.nx, ct := N } ρ') →
    (∀ ρ, I ρ → (∀ x, x ∈ xs → t x = false) → W.nx ρ) → forL g tb (xs.map emb) W ρ
  | [], ρ, h0, _, hd => hd ρ h0 (fun _ h => nomatch h)
  | x :: xs, ρ, h0, hs, hd => hs x List.mem_cons_self ρ h0 (forL g tb (xs.map emb) W) fun e ρ' h' => forL_stop emb t I xs h' (fun y hy => hs y (List.mem_cons_of_mem _ hy)) fun ρ2 h2 ha => hd ρ2 h2 fun y hy => by
      rcases List.mem_cons.mp hy with rfl | hy
      · exact e
      · exact ha y hy
end
omit KK in
theorem any_of {α : Type} {xs : List α} {t : α → Bool} {x : α} (h : x ∈ xs) (e : t x = true) : xs.any t = true := List.any_eq_true.mpr ⟨x, h, e⟩
omit KK in
theorem any_no {α : Type} {xs : List α} {t : α → Bool} (h : ∀ x, x ∈ xs → t x = false) : xs.any t = false := by
  rw [List.any_eq_false]; intro x hx; rw [h x hx]; decide
/-! ### is None -/
def isNQ (neg : Bool) (x : D) (Q : D → Prop) : Prop := x.isCst = false ∧ Q (.bl (if neg then !x.isNon else x.isNon))
section
variable {neg : Bool} {ta : TEv} {ρ : VL.Env} {Q : D → Prop} {b : Bool} {i : Int} {z : Str} {h : Hd} {xs : List D} {x : D}
theorem n_isN : vIsN neg ta ρ Q = ta ρ fun x => isNQ neg x Q := rfl
theorem isNQ_of (h1 : x.isCst = false) (h2 : x.isNon = b) : isNQ neg x Q = Q (.bl (if neg then !b else b)) := by
  unfold isNQ; rw [h1, h2]; simp
theorem isNQ_non : isNQ neg .non Q = Q (.bl (if neg then !true else true)) := isNQ_of rfl rfl
theorem isNQ_int : isNQ neg (.int i) Q = Q (.bl (if neg then !false else false)) := isNQ_of rfl rfl
theorem isNQ_bl : isNQ neg (.bl b) Q = Q (.bl (if neg then !false else false)) := isNQ_of rfl rfl
theorem isNQ_str : isNQ neg (.str z) Q = Q (.bl (if neg then !false else false)) := isNQ_of rfl rfl
theorem isNQ_nd : isNQ neg (.nd h xs) Q = Q (.bl (if neg then !false else false)) := isNQ_of rfl rfl
end
end VL

/-! ## VLP -/
/-! VL: data told by a function of plain values; more lemmas for walks. -/
namespace VL
open PySem PySem.Spec L2
open PyProof.Rows hiding St
variable [KK : KLs]
section
variable {α : Type} {emb : α → D}
theorem maps_emb {g : Fl → Fl} (h : ∀ a, (emb a).map g = emb a) : ∀ xs : List α, D.maps g (xs.map emb) = xs.map emb
  | [] => rfl
  | x :: xs => by rw [List.map_cons, D.maps, maps_emb h xs, h]
theorem alls_emb {q : Fl → Bool} (h : ∀ a, (emb a).all q = true) : ∀ xs : List α, D.alls q (xs.map emb) = true
  | [] => rfl
  | x :: xs => by rw [List.map_cons, D.alls, alls_emb h xs, h]; rfl
/-- no list, no dict in it -/
def Fix (emb : α → D) : Prop := ∀ a, (emb a).pure = true
theorem Fix.map (h : Fix emb) (g : Fl → Fl) (a : α) : (emb a).map g = emb a := D.pure_map (h a)
theorem Fix.maps (h : Fix emb) (g : Fl → Fl) (xs : List α) : D.maps g (xs.map emb) = xs.map emb := maps_emb (h.map g) xs
theorem Fix.all (h : Fix emb) {q : Fl → Bool} (hq : q .i = true) (a : α) : (emb a).all q = true := D.all_imp (fun f e => by cases f <;> first | exact hq | exact nomatch e) _ (h a)
theorem Fix.alls (h : Fix emb) {q : Fl → Bool} (hq : q .i = true) (xs : List α) : D.alls q (xs.map emb) = true := alls_emb (h.all hq) xs
theorem Fix.tup (h : Fix emb) : Fix fun xs : List α => D.tup (xs.map emb) := fun xs => by
  show (puF .i && D.alls puF (xs.map emb)) = true
  rw [h.alls rfl]; rfl
end
theorem fix_int : Fix D.int := fun _ => rfl
theorem fix_bl : Fix D.bl := fun _ => rfl
theorem fix_str : Fix D.str := fun _ => rfl
/-- a tuple of ints -/
abbrev tI (xs : List Int) : D := .tup (xs.map .int)
theorem fix_tI : Fix tI := fix_int.tup
/-- a part of a list -/
def cutL {α : Type} (xs : List α) (lo hi : Option Int) : List α := (xs.drop (HT.sIx xs.length 0 lo)).take (HT.sIx xs.length xs.length hi - HT.sIx xs.length 0 lo)
theorem cut_emb {α : Type} {emb : α → D} (xs : List α) (lo hi : Option Int) : cutD (xs.map emb) lo hi = (cutL xs lo hi).map emb := by
  unfold cutD cutL
  rw [List.length_map, List.map_take, List.map_drop]
theorem cutL_len {α : Type} {xs : List α} {lo hi : Option Int} : (cutL xs lo hi).length ≤ xs.length := by
  unfold cutL
  rw [List.length_take, List.length_drop]; omega
theorem cutL_mem {α : Type} {xs : List α} {lo hi : Option Int} {x : α} (h : x ∈ cutL xs lo hi) : x ∈ xs := List.mem_of_mem_drop (List.mem_of_mem_take h)
theorem cutL_to {α : Type} {xs : List α} {c : Int} (h0 : 0 ≤ c) : cutL xs none (some c) = xs.take c.toNat := by
  unfold cutL
  rw [HT.sIx_none, sIx_pos h0, List.drop_zero, Nat.sub_zero]
  by_cases h : c.toNat ≤ xs.length
  · rw [show min c.toNat xs.length = c.toNat by omega]
  · rw [show min c.toNat xs.length = xs.length by omega, List.take_of_length_le (Nat.le_refl _), List.take_of_length_le (by omega)]
theorem cutL_from {α : Type} {xs : List α} {c : Int} (h0 : 0 ≤ c) : cutL xs (some c) none = xs.drop c.toNat := by
  unfold cutL
  rw [HT.sIx_none, sIx_pos h0]
  by_cases h : c.toNat ≤ xs.length
  · rw [show min c.toNat xs.length = c.toNat by omega, List.take_of_length_le (by rw [List.length_drop]; omega)]
  · rw [show min c.toNat xs.length = xs.length by omega, List.drop_of_length_le (by omega : xs.length ≤ c.toNat), List.drop_of_length_le (Nat.le_refl _), List.take_nil]
theorem cut_set {α : Type} {xs : List α} {i : Int} {x : α} (h0 : 0 ≤ i) (h1 : i < xs.length) : xs.take i.toNat ++ [x] ++ xs.drop (i + 1).toNat = xs.set i.toNat x := by
  rw [List.set_eq_take_append_cons_drop, if_pos (by omega), show (i + 1).toNat = i.toNat + 1 by omega]
  simp
section
variable {α : Type} {emb : α → D} {xs : List α} {i : Int} {Q : D → Prop} {l : LkQ Q} {ds : List D}
theorem at_emb (h0 : 0 ≤ i) (h1 : i < xs.length) : atI (xs.map emb) i = some (emb (xs[i.toNat]'(by omega))) := by
  obtain ⟨j, rfl⟩ := Int.eq_ofNat_of_zero_le h0
  rw [at_nat]
  have : j < xs.length := by omega
  simp [this]
theorem ix_emb (h0 : 0 ≤ i) (h1 : i < xs.length) (h : ∀ x, x ∈ xs → xs[i.toNat]? = some x → Q (emb x).bor) : ixQ (atI (xs.map emb) i) Q l := by
  rw [at_emb h0 h1]
  have : i.toNat < xs.length := by omega
  exact h _ (List.getElem_mem _) (List.getElem?_eq_getElem this)
theorem ix_all (h0 : 0 ≤ i) (h1 : i < ds.length) (h : ∀ d, d ∈ ds → Q d.bor) : ixQ (atI ds i) Q l := by
  obtain ⟨j, rfl⟩ := Int.eq_ofNat_of_zero_le h0
  rw [at_nat]
  have : j < ds.length := by omega
  rw [List.getElem?_eq_getElem this]
  exact h _ (List.getElem_mem _)
end
section
variable {ts us : TSv} {W : Ev} {ρ : VL.Env}
/-- a statement whose end is told by I -/
theorem seq_cut (I : VL.Env → Prop) (h1 : ∀ N : VL.Env → Prop, (∀ ρ', I ρ' → N ρ') → ts { W with nx := N } ρ) (h2 : ∀ ρ', I ρ' → us W ρ') : vSeq ts us W ρ := h1 _ h2
theorem stp_cut (I : VL.Env → Prop) {l : LkE (vSeq ts us W)} (h1 : ∀ N : VL.Env → Prop, (∀ ρ', I ρ' → N ρ') → ts { W with nx := N } ρ) (h2 : ∀ ρ', I ρ' → us W ρ') : stp (vSeq ts us W) ρ l := h1 _ h2
end
omit KK in
theorem all_no {α : Type} {xs : List α} {t : α → Bool} {x : α} (h : x ∈ xs) (e : t x = false) : xs.all t = false := List.all_eq_false.mpr ⟨x, h, by rw [e]; decide⟩
omit KK in
theorem all_yes {α : Type} {xs : List α} {t : α → Bool} (h : ∀ x, x ∈ xs → t x = true) : xs.all t = true := List.all_eq_true.mpr h
omit KK in
theorem all_rng {α : Type} (d : α) (f : α → Bool) (xs : List α) : xs.all f = (rngI 0 xs.length).all fun k => f (xs.getD k.toNat d) := by
  by_cases h : xs.all f = true
  · rw [h, all_yes]
    intro k hk
    have := mem_rngI.mp hk
    have hk : k.toNat < xs.length := by omega
    rw [List.getD_eq_getElem?_getD, List.getElem?_eq_getElem hk]
    exact List.all_eq_true.mp h _ (List.getElem_mem _)
  · have h := Bool.eq_false_iff.mpr h
    rw [h]
    obtain ⟨x, hx, e⟩ := List.all_eq_false.mp h
    obtain ⟨i, hi, rfl⟩ := List.getElem_of_mem hx
    refine (all_no (x := (i : Int)) (mem_rngI.mpr ⟨by omega, by omega⟩) ?_).symm
    rw [List.getD_eq_getElem?_getD, Int.toNat_natCast, List.getElem?_eq_getElem hi]
    simpa using e
omit KK in
theorem zip_rng {α β : Type} (a : α) (b : β) (f : α → β → Bool) {xs : List α} {ys : List β} (h : xs.length = ys.length) : (xs.zip ys).all (fun p => f p.1 p.2) = (rngI 0 xs.length).all fun k => f (xs.getD k.toNat a) (ys.getD k.toNat b) := by
  rw [all_rng (a, b), List.length_zip, ← h, Nat.min_self]
  have key : ∀ k : Int, k ∈ rngI 0 xs.length → ((xs.zip ys).getD k.toNat (a, b)) = (xs.getD k.toNat a, ys.getD k.toNat b) := by
    intro k hk
    have := mem_rngI.mp hk
    have h1 : k.toNat < xs.length := by omega
    have h2 : k.toNat < ys.length := by omega
    have h3 : k.toNat < (xs.zip ys).length := by rw [List.length_zip]; omega
    rw [List.getD_eq_getElem?_getD, List.getD_eq_getElem?_getD, List.getD_eq_getElem?_getD, List.getElem?_eq_getElem h1, List.getElem?_eq_getElem h2, List.getElem?_eq_getElem h3]
    simp
  have ext : ∀ (ks : List Int) (p q : Int → Bool), (∀ k, k ∈ ks → p k = q k) → ks.all p = ks.all q := by
    intro ks p q hk
    induction ks with
    | nil => rfl
    | cons k ks ih => rw [List.all_cons, List.all_cons, hk k List.mem_cons_self, ih fun j hj => hk j (List.mem_cons_of_mem _ hj)]
  exact ext _ _ _ fun k hk => by rw [key k hk]
theorem pairs_emb {α β : Type} {e1 : α → D} {e2 : β → D} : ∀ (xs : List α) (ys : List β), pairsD (xs.map e1) (ys.map e2) = (xs.zip ys).map fun p => .tup [e1 p.1, e2 p.2]
  | [], _ => by simp [pairsD]
  | _ :: _, [] => by simp [pairsD]
  | x :: xs, y :: ys => by
    have := pairs_emb (e1 := e1) (e2 := e2) xs ys
    simp [pairsD] at this ⊢
    exact this
omit KK in
theorem getD_mem {α : Type} {xs : List α} {i : Nat} {d : α} (h : i < xs.length) : xs.getD i d ∈ xs := by
  rw [List.getD_eq_getElem?_getD, List.getElem?_eq_getElem h]; exact List.getElem_mem _
theorem at_embD {α : Type} {emb : α → D} {xs : List α} {i : Int} (d : α) (h0 : 0 ≤ i) (h1 : i < xs.length) : atI (xs.map emb) i = some (emb (xs.getD i.toNat d)) := by
  rw [at_emb h0 h1, List.getD_eq_getElem?_getD, List.getElem?_eq_getElem]; rfl
omit KK in
theorem foldl_or {α : Type} (t : α → Bool) : ∀ (xs : List α) (b : Bool), xs.foldl (fun b x => b || t x) b = (b || xs.any t)
  | [], b => by simp
  | x :: xs, b => by rw [List.foldl_cons, foldl_or t xs, List.any_cons, Bool.or_assoc]
omit KK in
theorem filter_none {α : Type} {xs : List α} {t : α → Bool} (h : ∀ x, x ∈ xs → t x = false) : xs.filter t = [] := List.filter_eq_nil_iff.mpr fun x hx => by rw [h x hx]; decide
theorem emb_ex {α : Type} (emb : α → D) (A : α → Prop) : ∀ {ys : List D}, (∀ y, y ∈ ys → ∃ i, A i ∧ y = emb i) → ∃ is : List α, ys = is.map emb ∧ ∀ i, i ∈ is → A i
  | [], _ => ⟨[], rfl, fun _ h => nomatch h⟩
  | y :: ys, h => by
    obtain ⟨i, hi, e⟩ := h y List.mem_cons_self
    obtain ⟨is, e2, h2⟩ := emb_ex emb A (ys := ys) fun z hz => h z (List.mem_cons_of_mem _ hz)
    exact ⟨i :: is, by rw [e, e2]; rfl, fun j hj => by rcases List.mem_cons.mp hj with rfl | hj; exact hi; exact h2 j hj⟩
theorem ix4 {a b c d : D} {i : Int} {Q : D → Prop} {l : LkQ Q} (h0 : 0 ≤ i) (h1 : i < 4) (ha : Q a.bor) (hb : Q b.bor) (hc : Q c.bor) (hd : Q d.bor) : ixQ (atI [a, b, c, d] i) Q l := by
  have : i = 0 ∨ i = 1 ∨ i = 2 ∨ i = 3 := by omega
  rcases this with rfl | rfl | rfl | rfl
  · rw [at0]; exact ha
  · rw [at1]; exact hb
  · rw [at2]; exact hc
  · rw [at3]; exact hd
theorem ix3 {a b c : D} {i : Int} {Q : D → Prop} {l : LkQ Q} (h0 : 0 ≤ i) (h1 : i < 3) (ha : Q a.bor) (hb : Q b.bor) (hc : Q c.bor) : ixQ (atI [a, b, c] i) Q l := by
  have : i = 0 ∨ i = 1 ∨ i = 2 := by omega
  rcases this with rfl | rfl | rfl
  · rw [at0]; exact ha
  · rw [at1]; exact hb
  · rw [at2]; exact hc
theorem ix2 {a b : D} {i : Int} {Q : D → Prop} {l : LkQ Q} (h0 : 0 ≤ i) (h1 : i < 2) (ha : Q a.bor) (hb : Q b.bor) : ixQ (atI [a, b] i) Q l := by
  have : i = 0 ∨ i = 1 := by omega
  rcases this with rfl | rfl
  · rw [at0]; exact ha
  · rw [at1]; exact hb
section
variable {g : TGv} {tb : TSv} {W : Ev} {α : Type}
/-- a for by an invariant over the items that are left -/
theorem forL_rest (emb : α → D) (I : List α → VL.Env → Prop) : ∀ (xs : List α) {ρ : VL.Env}, I xs ρ →
    (∀ x rest, ∀ ρ, I (x :: rest) ρ → ∀ N : VL.Env → Prop, (∀ ρ', I rest ρ' → N ρ') → g (emb x) ρ fun ρ' => tb { nx := N, rt := W.rt, bk := W.nx, ct := N } ρ') →
    (∀ ρ, I [] ρ → W.nx ρ) → forL g tb (xs.map emb) W ρ
  | [], ρ, h0, _, hd => hd ρ h0
  | x :: xs, ρ, h0, hs, hd => hs x xs ρ h0 (forL g tb (xs.map emb) W) fun ρ' h' => forL_rest emb I xs h' hs hd
end
/-! ### pairs of ints, None or an int -/
theorem fix_pD : Fix pD := fun _ => rfl
theorem ms_p (q : Fl → Fl) (xs : List (Int × Int)) : D.maps q (xs.map pD) = xs.map pD := fix_pD.maps q xs
theorem as_p1 (xs : List (Int × Int)) : D.alls coF (xs.map pD) = true := fix_pD.alls rfl xs
theorem as_p2 (xs : List (Int × Int)) : D.alls nbF (xs.map pD) = true := fix_pD.alls rfl xs
theorem as_p3 (xs : List (Int × Int)) : D.alls owF (xs.map pD) = true := fix_pD.alls rfl xs
theorem as_p4 (xs : List (Int × Int)) : D.alls unF (xs.map pD) = true := fix_pD.alls rfl xs
def oI : Option Int → D
  | none => .non
  | some i => .int i
theorem fix_oI : Fix oI := fun o => by cases o <;> rfl
theorem ms_o (q : Fl → Fl) (xs : List (Option Int)) : D.maps q (xs.map oI) = xs.map oI := fix_oI.maps q xs
theorem as_o1 (xs : List (Option Int)) : D.alls coF (xs.map oI) = true := fix_oI.alls rfl xs
theorem as_o2 (xs : List (Option Int)) : D.alls nbF (xs.map oI) = true := fix_oI.alls rfl xs
theorem as_o3 (xs : List (Option Int)) : D.alls owF (xs.map oI) = true := fix_oI.alls rfl xs
theorem m_o (q : Fl → Fl) (o : Option Int) : (oI o).map q = oI o := fix_oI.map q o
theorem a_o1 (o : Option Int) : (oI o).all coF = true := fix_oI.all rfl o
theorem a_o2 (o : Option Int) : (oI o).all nbF = true := fix_oI.all rfl o
theorem a_o3 (o : Option Int) : (oI o).all owF = true := fix_oI.all rfl o
section
variable {f : Fl} {Q : D → Prop}
theorem n_sorted {ns : List Int} : dSorted [.nd (.lst f) (ns.map .int)] Q = ∀ ms : List Int, ms.Perm ns → ms.Pairwise (· ≤ ·) → hold (Q (.lst .o (ms.map .int))) ⟨⟩ := by
  unfold dSorted; simp only [ints_map]; rfl
theorem n_sortedP {ns : List (Int × Int)} : dSortedP [.nd (.lst f) (ns.map pD)] Q = ∀ ms : List (Int × Int), ms.Perm ns → ms.Pairwise leP → hold (Q (.lst .o (ms.map pD))) ⟨⟩ := by
  unfold dSortedP; simp only [pairs_map]; rfl
end
omit KK in
theorem foldl_count {α : Type} (t : α → Bool) : ∀ (xs : List α) (c : Int), xs.foldl (fun c x => if t x = true then c + 1 else c) c = c + (xs.filter t).length
  | [], c => by simp
  | x :: xs, c => by
    rw [List.foldl_cons, foldl_count t xs, List.filter_cons]
    split <;> simp <;> omega
/-! ### == of bools, of lists of pairs of ints -/
theorem okEq_bl (b : Bool) : D.okEq (.bl b) := ⟨rfl, by cases b <;> rfl⟩
theorem eqv_bl (b : Bool) : D.eqv (.bl b) (.bl b) = true := by cases b <;> rfl
theorem pys_pairs : ∀ is : List (Int × Int), D.pys (is.map pD) = is.map fun p => PyData.tuple [.int p.1, .int p.2]
  | [] => rfl
  | i :: is => by rw [List.map_cons, D.pys, pys_pairs is]; rfl
theorem plains_pairs : ∀ is : List (Int × Int), D.plains (is.map pD) = true
  | [] => rfl
  | i :: is => by rw [List.map_cons, D.plains, plains_pairs is]; rfl
theorem lay_pairs : ∀ is : List (Int × Int), PyData.canLayAll0 (is.map fun p => PyData.tuple [.int p.1, .int p.2]) = true
  | [] => rfl
  | i :: is => by rw [List.map_cons, PyData.canLayAll0, lay_pairs is]; rfl
theorem deep_pairs : ∀ is : List (Int × Int), PyData.depthAll (is.map fun p => PyData.tuple [.int p.1, .int p.2]) ≤ 3
  | [] => by rw [List.map_nil, PyData.depthAll]; omega
  | i :: is => by
    have := deep_pairs is
    have h : PyData.depth (PyData.tuple [.int i.1, .int i.2]) ≤ 2 := by simp [PyData.depth, PyData.depthAll]
    rw [List.map_cons, PyData.depthAll]; omega
theorem eqv_pair (p : Int × Int) : PyData.eqv (PyData.tuple [.int p.1, .int p.2]) (PyData.tuple [.int p.1, .int p.2]) = true := by simp [PyData.eqv, PyData.eqvAll]
theorem eqvAll_pairs : ∀ is : List (Int × Int), PyData.eqvAll (is.map fun p => PyData.tuple [.int p.1, .int p.2]) (is.map fun p => PyData.tuple [.int p.1, .int p.2]) = true
  | [] => rfl
  | i :: is => by rw [List.map_cons, PyData.eqvAll, eqvAll_pairs is, eqv_pair]; rfl
theorem okEq_lst_pairs (f : Fl) (is : List (Int × Int)) : D.okEq (.lst f (is.map pD)) := ⟨by rw [D.plain, plains_pairs], by
  rw [D.py, pys_pairs]; · unfold SeqAt.shaped; rw [PyData.canLay0, lay_pairs, PyData.depth, decide_eq_true (by have := deep_pairs is; omega)]; rfl
  · intro h; cases h⟩
theorem eqv_lst_pairs (f g : Fl) (is : List (Int × Int)) : D.eqv (.lst f (is.map pD)) (.lst g (is.map pD)) = true := by
  unfold D.eqv; rw [D.py, D.py, pys_pairs, PyData.eqv, eqvAll_pairs] <;> (intro h; cases h)
end VL

/-! ## VLPI -/
/-! VL: while, walked. -/
namespace VL
open PySem PySem.Spec L2
open PyProof.Rows hiding St
variable [KK : KLs]
theorem while_d {tc : TTv} {tb : TSv} {W : Ev} {ρ : VL.Env} (I : Nat → VL.Env → Prop) (h0 : ∃ m, I m ρ)
    (hs : ∀ m ρ, I m ρ → ∀ N : VL.Env → Prop, (∀ m' ρ', m' < m → I m' ρ' → N ρ') → tc ρ fun b => sel b (tb { nx := N, rt := W.rt, bk := W.nx, ct := N } ρ) (W.nx ρ) ⟨⟩ ⟨⟩) : vWhile tc tb W ρ :=
  ⟨I, h0, fun m ρ i => hs m ρ i _ fun m' ρ' h i => ⟨m', h, i⟩⟩
/-- a comprehension told place by place -/
theorem lc_rel {α β : Type} {g : TGv} {te : TEv} {ρ : VL.Env} (emb : α → D) (emb2 : β → D) (A : α → β → Prop) (hnb : ∀ b, (emb2 b).nb = true) {Q : D → Prop} : ∀ {xs : List α} {acc : List D},
    (∀ x, x ∈ xs → ∀ (N : D → Prop), (∀ b, A x b → N (emb2 b)) → g (emb x) ρ fun ρ2 => te ρ2 fun d => d.nb = true ∧ N d) →
    (∀ ys : List β, ys.length = xs.length → (∀ (k : Nat) x y, xs[k]? = some x → ys[k]? = some y → A x y) → Q (.lst .o (acc ++ ys.map emb2))) → lcL g vYes te ρ (xs.map emb) acc Q
  | [], acc, _, h => by
    have := h [] rfl (fun k x y h1 _ => by simp at h1)
    rw [List.map_nil, List.append_nil] at this
    exact this
  | x :: xs, acc, hs, h => by
    show g (emb x) ρ fun ρ2 => vYes ρ2 fun k => if k = true then te ρ2 fun d => d.nb = true ∧ lcL g vYes te ρ (xs.map emb) (acc ++ [d]) Q else lcL g vYes te ρ (xs.map emb) acc Q
    have e : (fun ρ2 => vYes ρ2 fun k => if k = true then te ρ2 fun d => d.nb = true ∧ lcL g vYes te ρ (xs.map emb) (acc ++ [d]) Q else lcL g vYes te ρ (xs.map emb) acc Q) = fun ρ2 => te ρ2 fun d => d.nb = true ∧ lcL g vYes te ρ (xs.map emb) (acc ++ [d]) Q := by
      funext ρ2; simp [vYes]
    rw [e]
    refine hs x List.mem_cons_self _ fun b hb => ?_
    refine lc_rel emb emb2 A hnb (fun z hz => hs z (List.mem_cons_of_mem _ hz)) fun ys hl hy => ?_
    have := h (b :: ys) (by simp [hl]) fun k z w h1 h2 => by
      cases k with
      | zero =>
        simp only [List.getElem?_cons_zero, Option.some.injEq] at h1 h2
        subst h1 h2; exact hb
      | succ k =>
        simp only [List.getElem?_cons_succ] at h1 h2
        exact hy k z w h1 h2
    rw [List.map_cons] at this
    rw [List.append_assoc]
    exact this
/-- .. over a range, whole numbers out -/
theorem lc_relI {g : TGv} {te : TEv} {ρ : VL.Env} (A : Int → Int → Prop) {Q : D → Prop} {n : Nat}
    (hs : ∀ k : Nat, k < n → ∀ (N : D → Prop), (∀ b, A k b → N (.int b)) → g (.int k) ρ fun ρ2 => te ρ2 fun d => d.nb = true ∧ N d)
    (h : ∀ is : List Int, is.length = n → (∀ k : Nat, k < n → A k (is.getD k 0)) → Q (.lst .o (is.map .int))) : lcL g vYes te ρ ((rngI 0 n).map .int) [] Q := by
  refine lc_rel D.int D.int A (fun _ => rfl) (fun x hx N hN => ?_) fun ys hl hy => ?_
  · have := mem_rngI.mp hx
    have e : x = ((x.toNat : Nat) : Int) := by omega
    rw [e] at hN ⊢
    exact hs x.toNat (by omega) N hN
  · rw [rngI_len] at hl
    rw [List.nil_append]
    refine h ys hl fun k hk => ?_
    refine hy k (k : Int) _ ?_ ?_
    · unfold rngI; simp [hk]
    · rw [List.getD_eq_getElem?_getD, List.getElem?_eq_getElem (by omega)]; rfl
end VL

/-! ## K17_t -/
namespace K17
open PySem PySem.Spec L2 VL
open PyProof.Rows hiding St
variable [KK : KLs]
def t_lane_later  : TSv :=
  (vRet (vB dTuple (vCons (vSl (vVar 0) (vPt (vC (.int 1))) vNo) vNil)))
abbrev N_lane_later : List Str := ["lane"]
def t_lanes_later (P_lane_later : PV) : TSv :=
  (vRet (vB dTuple (vCons (vLc (vIt (vVar 0)) (vgName 1) vYes (vCall 1 P_lane_later [] (vCons (vVar 1) vNil)) [1]) vNil)))
abbrev N_lanes_later : List Str := ["lanes", "lane"]
def t_between  : TSv :=
  (vRet (vAnd (vOp dLe (vVar 1) (vVar 0)) (vOp dLe (vVar 0) (vVar 2))))
abbrev N_between : List Str := ["value", "least", "most"]
def t_all_between (P_between : PV) : TSv :=
  (vSeq (vFor (vIt (vVar 0)) (vgName 3)
    (vIf (vNotT (vTest (vCall 3 P_between [] (vCons (vVar 3) (vCons (vVar 1) (vCons (vVar 2) vNil)))))) (vRet (vC (.bl false))) vNext))
    (vRet (vC (.bl true))))
abbrev N_all_between : List Str := ["values", "least", "most", "value"]
def t_trimmed  : TSv :=
  (vSeq (vAsgL 1 (vB dLen (vCons (vVar 0) vNil)))
    (vSeq (vWhile (vAndT (vTest (vOp dGt (vVar 1) (vC (.int 0)))) (vTest (vOp dEq (vOp dIx (vVar 0) (vOp dSub (vVar 1) (vC (.int 1)))) (vC (.int 0)))))
    (vAugI 1 (fun a b => a - b) (vC (.int 1))))
    (vRet (vB dTuple (vCons (vSl (vVar 0) vNo (vPt (vVar 1))) vNil)))))
abbrev N_trimmed : List Str := ["counts", "end"]
def t_Board_init (P_all_between : PV) (P_trimmed : PV) (C_Board : Addr) : TSv :=
  (vSeq (vSetF 0 (fun C => C = C_Board) "capacities" (vB dTuple (vCons (vVar 1) vNil)))
    (vSeq (vIf (vNotT (vTest (vCall 3 P_all_between [] (vCons (vFld (fun C => C = C_Board) (vVar 0) "capacities") (vCons (vC (.int 0)) (vCons (vC (.int 32)) vNil)))))) vNever vNext)
    (vSeq (vIf (vTest (vIsN false (vVar 2))) (vAsgL 2 (vLc (vIt (vFld (fun C => C = C_Board) (vVar 0) "capacities")) (vgName 4) vYes (vTup vNil) [4])) vNext)
    (vSeq (vIf (vTest (vOp dNe (vB dLen (vCons (vVar 2) vNil)) (vB dLen (vCons (vFld (fun C => C = C_Board) (vVar 0) "capacities") vNil)))) vNever vNext)
    (vSeq (vFor (vRng1 (vB dLen (vCons (vFld (fun C => C = C_Board) (vVar 0) "capacities") vNil))) (vgName 3)
    (vIf (vNotT (vTest (vCall 3 P_all_between [] (vCons (vOp dIx (vVar 2) (vVar 3)) (vCons (vC (.int 0)) (vCons (vOp dIx (vFld (fun C => C = C_Board) (vVar 0) "capacities") (vVar 3)) vNil)))))) vNever vNext))
    (vSetF 0 (fun C => C = C_Board) "lanes" (vB dTuple (vCons (vLc (vIt (vVar 2)) (vgName 5) vYes (vCall 1 P_trimmed [] (vCons (vVar 5) vNil)) [5]) vNil))))))))
abbrev N_Board_init : List Str := ["self", "capacities", "lanes", "number", "capacity", "lane"]
def t_Board_later (P_lanes_later : PV) (P_Board_init : PI') (C_Board : Addr) : TSv :=
  (vRet (vMake0 2 P_Board_init C_Board [] (vCons (vFld (fun C => C = C_Board) (vVar 0) "capacities") (vCons (vCall 1 P_lanes_later [] (vCons (vFld (fun C => C = C_Board) (vVar 0) "lanes") vNil)) vNil))))
abbrev N_Board_later : List Str := ["self"]
def t_law_draw  : TSv :=
  (vSeq (vAsgL 3 (vB dMax2 (vCons (vC (.int 1)) (vCons (vB dMin2 (vCons (vB dLen (vCons (vVar 0) vNil)) (vCons (vC (.int 63)) vNil))) vNil))))
    (vSeq (vAsgL 4 (vC (.int 0)))
    (vSeq (vIf (vTest (vOp dGt (vB dLen (vCons (vVar 0) vNil)) (vC (.int 0)))) (vAsgL 4 (vOp dIx (vVar 0) (vOp dMod (vB dInt1 (vCons (vVar 1) vNil)) (vVar 3)))) vNext)
    (vSeq (vIf (vTest (vOp dGe (vVar 4) (vOp dPow (vC (.int 10)) (vC (.int 18))))) (vSeq (vAsgL 5 (vVar 4))
    (vSeq (vFor (vRng1 (vB dMin2 (vCons (vOp dDiv (vVar 1) (vVar 3)) (vCons (vC (.int 60)) vNil)))) (vgName 6)
    (vAsgL 5 (vOp dDiv (vVar 5) (vC (.int 1000)))))
    (vIf (vTest (vOp dGt (vVar 5) (vC (.int 0)))) (vRet (vOp dMod (vB dInt1 (vCons (vOp dMod (vB dInt1 (vCons (vVar 5) vNil)) (vC (.int 1000))) vNil)) (vVar 2))) vNext))) vNext)
    (vSeq (vAsgL 7 (vOp dMod (vB dInt1 (vCons (vOp dAdd (vOp dAdd (vVar 4) (vOp dMul (vC (.int 7919)) (vVar 1))) (vC (.int 13))) vNil)) (vC (.int 2147483647))))
    (vSeq (vAsgL 7 (vOp dMod (vB dInt1 (vCons (vOp dMul (vVar 7) (vOp dAdd (vVar 7) (vC (.int 48271)))) vNil)) (vC (.int 2147483629))))
    (vSeq (vAsgL 7 (vOp dMod (vB dInt1 (vCons (vOp dAdd (vOp dMul (vVar 7) (vOp dAdd (vVar 7) (vC (.int 69621)))) (vOp dMul (vC (.int 31)) (vVar 1))) vNil)) (vC (.int 2147483647))))
    (vRet (vOp dMod (vB dInt1 (vCons (vOp dDiv (vVar 7) (vC (.int 9))) vNil)) (vVar 2))))))))))
abbrev N_law_draw : List Str := ["script", "k", "size", "cells", "cell", "rest", "turn", "mixed"]
def t_law_uses (P_law_draw : PV) : TSv :=
  (vSeq (vAsg 4 (vLst vNil))
    (vSeq (vFor (vRng1 (vVar 3)) (vgName 5)
    (vSeq (vAsgL 6 (vCall 3 P_law_draw [] (vCons (vVar 0) (vCons (vOp dAdd (vOp dAdd (vVar 1) (vOp dMul (vC (.int 4)) (vVar 5))) (vC (.int 1))) (vCons (vC (.int 12)) vNil)))))
    (vSeq (vAsgL 7 (vOp dAdd (vOp dAdd (vVar 6) (vC (.int 1))) (vCall 3 P_law_draw [] (vCons (vVar 0) (vCons (vOp dAdd (vOp dAdd (vVar 1) (vOp dMul (vC (.int 4)) (vVar 5))) (vC (.int 2))) (vCons (vC (.int 8)) vNil))))))
    (vSeq (vIf (vTest (vOp dEq (vCall 3 P_law_draw [] (vCons (vVar 0) (vCons (vOp dAdd (vOp dAdd (vVar 1) (vOp dMul (vC (.int 4)) (vVar 5))) (vC (.int 3))) (vCons (vC (.int 8)) vNil)))) (vC (.int 0)))) (vSeq (vAsgL 6 (vCall 3 P_law_draw [] (vCons (vVar 0) (vCons (vOp dAdd (vOp dAdd (vVar 1) (vOp dMul (vC (.int 4)) (vVar 5))) (vC (.int 1))) (vCons (vC (.int 60)) vNil)))))
    (vAsgL 7 (vOp dAdd (vOp dAdd (vVar 6) (vC (.int 1))) (vCall 3 P_law_draw [] (vCons (vVar 0) (vCons (vOp dAdd (vOp dAdd (vVar 1) (vOp dMul (vC (.int 4)) (vVar 5))) (vC (.int 2))) (vCons (vOp dSub (vC (.int 60)) (vVar 6)) vNil))))))) vNext)
    (vApp 4 (vTup (vCons (vCall 3 P_law_draw [] (vCons (vVar 0) (vCons (vOp dAdd (vVar 1) (vOp dMul (vC (.int 4)) (vVar 5))) (vCons (vVar 2) vNil)))) (vCons (vVar 6) (vCons (vVar 7) vNil)))))))))
    (vRetV 4)))
abbrev N_law_uses : List Str := ["script", "at", "many", "count", "uses", "k", "start", "end"]
def t_law_cut  : TSv :=
  (vSeq (vAsgL 1 (vB dLen (vCons (vVar 0) vNil)))
    (vSeq (vFor (vRng1 (vB dLen (vCons (vVar 0) vNil))) (vgName 2)
    (vIf (vAndT (vTest (vOp dGt (vVar 1) (vC (.int 0)))) (vTest (vOp dEq (vOp dIx (vVar 0) (vOp dSub (vVar 1) (vC (.int 1)))) (vC (.int 0))))) (vAsgL 1 (vOp dSub (vVar 1) (vC (.int 1)))) vNext))
    (vRet (vB dTuple (vCons (vSl (vVar 0) vNo (vPt (vVar 1))) vNil)))))
abbrev N_law_cut : List Str := ["row", "end", "turn"]
def t_law_rows (P_law_cut : PV) : TSv :=
  (vSeq (vAsg 2 (vLst vNil))
    (vSeq (vFor (vRng1 (vVar 1)) (vgName 3)
    (vApp 2 (vCall 1 P_law_cut [] (vCons (vLc (vRng1 (vC (.int 61))) (vgName 4) vYes (vTGet2 (vVar 0) (vTup (vCons (vVar 3) (vCons (vVar 4) vNil))) (vC (.int 0))) [4]) vNil))))
    (vRet (vB dTuple (vCons (vVar 2) vNil)))))
abbrev N_law_rows : List Str := ["counts", "many", "rows", "k", "tick"]
def t_law_raised (P_law_cut : PV) (P_law_draw : PV) : TSv :=
  (vSeq (vIf (vTest (vOp dEq (vB dLen (vCons (vVar 3) vNil)) (vC (.int 0)))) (vRet (vVar 3)) vNext)
    (vSeq (vAsgL 4 (vCall 3 P_law_draw [] (vCons (vVar 0) (vCons (vVar 1) (vCons (vB dLen (vCons (vVar 3) vNil)) vNil)))))
    (vSeq (vAsg 5 (vOp dAdd (vB dList (vCons (vOp dIx (vVar 3) (vVar 4)) vNil)) (vLst (vCons (vC (.int 0)) (vCons (vC (.int 0)) vNil)))))
    (vSeq (vAsgL 6 (vCall 3 P_law_draw [] (vCons (vVar 0) (vCons (vOp dAdd (vVar 1) (vC (.int 1))) (vCons (vB dLen (vCons (vVar 5) vNil)) vNil)))))
    (vSeq (vSetIx 5 (vVar 6) (vB dMin2 (vCons (vOp dIx (vVar 2) (vVar 4)) (vCons (vOp dAdd (vOp dAdd (vOp dIx (vVar 5) (vVar 6)) (vC (.int 1))) (vCall 3 P_law_draw [] (vCons (vVar 0) (vCons (vOp dAdd (vVar 1) (vC (.int 2))) (vCons (vC (.int 2)) vNil))))) vNil))))
    (vRet (vB dTuple (vCons (vOp dAdd (vOp dAdd (vLc (vRng1 (vVar 4)) (vgName 7) vYes (vOp dIx (vVar 3) (vVar 7)) [7]) (vLst (vCons (vCall 1 P_law_cut [] (vCons (vVar 5) vNil)) vNil))) (vLc (vRng2 (vOp dAdd (vVar 4) (vC (.int 1))) (vB dLen (vCons (vVar 3) vNil))) (vgName 7) vYes (vOp dIx (vVar 3) (vVar 7)) [7])) vNil))))))))
abbrev N_law_raised : List Str := ["script", "at", "capacities", "rows", "place", "row", "tick", "k"]
def t_law_clipped (P_law_cut : PV) : TSv :=
  (vSeq (vAsg 2 (vLst vNil))
    (vSeq (vFor (vRng1 (vB dLen (vCons (vVar 0) vNil))) (vgName 3)
    (vApp 2 (vCall 1 P_law_cut [] (vCons (vLc (vIt (vOp dIx (vVar 1) (vVar 3))) (vgName 4) vYes (vB dMin2 (vCons (vVar 4) (vCons (vOp dIx (vVar 0) (vVar 3)) vNil))) [4]) vNil))))
    (vRet (vB dTuple (vCons (vVar 2) vNil)))))
abbrev N_law_clipped : List Str := ["capacities", "rows", "clipped", "k", "count"]
def t_law_counts  : TSv :=
  (vSeq (vAsg 3 (vTct0))
    (vSeq (vFor (vRng1 (vB dLen (vCons (vVar 0) vNil))) (vgName 4)
    (vFor (vRng1 (vB dLen (vCons (vOp dIx (vVar 0) (vVar 4)) vNil))) (vgName 5)
    (vTPut 3 (vTup (vCons (vVar 4) (vCons (vVar 5) vNil))) (vOp dIx (vOp dIx (vVar 0) (vVar 4)) (vVar 5)))))
    (vSeq (vFor (vIt (vVar 1)) (vgTup 3 (vgCons (vgName 4) (vgCons (vgName 6) (vgCons (vgName 7) vgNil))))
    (vFor (vRng2 (vVar 6) (vVar 7)) (vgName 5)
    (vTPut 3 (vTup (vCons (vVar 4) (vCons (vVar 5) vNil))) (vOp dAdd (vTGet2 (vVar 3) (vTup (vCons (vVar 4) (vCons (vVar 5) vNil))) (vC (.int 0))) (vVar 2)))))
    (vRetV 3))))
abbrev N_law_counts : List Str := ["rows", "uses", "step", "counts", "k", "tick", "start", "end"]
def t_law_other (P_law_draw : PV) : TSv :=
  (vSeq (vAsgL 3 (vCall 3 P_law_draw [] (vCons (vVar 0) (vCons (vVar 1) (vCons (vB dLen (vCons (vVar 2) vNil)) vNil)))))
    (vSeq (vAsgL 4 (vOp dAdd (vOp dIx (vVar 2) (vVar 3)) (vC (.int 1))))
    (vSeq (vIf (vOrT (vTest (vOp dGt (vVar 4) (vC (.int 32)))) (vAndT (vTest (vOp dGt (vVar 4) (vC (.int 1)))) (vTest (vOp dEq (vCall 3 P_law_draw [] (vCons (vVar 0) (vCons (vOp dAdd (vVar 1) (vC (.int 1))) (vCons (vC (.int 2)) vNil)))) (vC (.int 0)))))) (vAsgL 4 (vOp dSub (vOp dIx (vVar 2) (vVar 3)) (vC (.int 1)))) vNext)
    (vRet (vB dTuple (vCons (vLc (vRng1 (vB dLen (vCons (vVar 2) vNil))) (vgName 5) vYes (vOp dIx (vLst (vCons (vOp dIx (vVar 2) (vVar 5)) (vCons (vVar 4) vNil))) (vB dInt1 (vCons (vOp dEq (vVar 5) (vVar 3)) vNil))) [5]) vNil))))))
abbrev N_law_other : List Str := ["script", "at", "capacities", "place", "value", "k"]
def t_never_above  : TSv :=
  (vSeq (vFor (vRng1 (vB dLen (vCons (vVar 0) vNil))) (vgName 2)
    (vSeq (vAsgL 3 (vC (.int 0)))
    (vSeq (vIf (vTest (vOp dLt (vVar 2) (vB dLen (vCons (vVar 1) vNil)))) (vAsgL 3 (vOp dIx (vVar 1) (vVar 2))) vNext)
    (vIf (vTest (vOp dGt (vOp dIx (vVar 0) (vVar 2)) (vVar 3))) (vRet (vC (.bl false))) vNext))))
    (vRet (vC (.bl true))))
abbrev N_never_above : List Str := ["lane", "other", "tick", "limit"]
def t_Board_covers (P_never_above : PV) (C_Board : Addr) : TSv :=
  (vSeq (vIf (vTest (vOp dNe (vFld (fun C => C = C_Board) (vVar 0) "capacities") (vFld (fun C => C = C_Board) (vVar 1) "capacities"))) (vRet (vC (.bl false))) vNext)
    (vSeq (vFor (vRng1 (vB dLen (vCons (vFld (fun C => C = C_Board) (vVar 0) "lanes") vNil))) (vgName 2)
    (vIf (vNotT (vTest (vCall 2 P_never_above [] (vCons (vOp dIx (vFld (fun C => C = C_Board) (vVar 1) "lanes") (vVar 2)) (vCons (vOp dIx (vFld (fun C => C = C_Board) (vVar 0) "lanes") (vVar 2)) vNil))))) (vRet (vC (.bl false))) vNext))
    (vRet (vC (.bl true)))))
abbrev N_Board_covers : List Str := ["self", "other", "number"]
def t_Board_len (C_Board : Addr) : TSv :=
  (vRet (vB dLen (vCons (vFld (fun C => C = C_Board) (vVar 0) "lanes") vNil)))
abbrev N_Board_len : List Str := ["self"]
def t_law_is_int  : TSv :=
  (vRet (vAnd (vB (dIsi "int") (vCons (vVar 0) (vCons (vC (.cst (.ty "int"))) vNil))) (vNot (vB (dIsi "bool") (vCons (vVar 0) (vCons (vC (.cst (.ty "bool"))) vNil))))))
abbrev N_law_is_int : List Str := ["value"]
def t_law_is_row (P_law_is_int : PV) : TSv :=
  (vSeq (vIf (vOrT (vNotT (vTest (vB (dIsi "tuple") (vCons (vVar 0) (vCons (vC (.cst (.ty "tuple"))) vNil))))) (vTest (vOp dNe (vB dLen (vCons (vVar 0) vNil)) (vB dLen (vCons (vVar 1) vNil))))) (vRet (vC (.bl false))) vNext)
    (vSeq (vFor (vRng1 (vB dLen (vCons (vVar 1) vNil))) (vgName 2)
    (vIf (vOrT (vNotT (vTest (vCall 1 P_law_is_int [] (vCons (vOp dIx (vVar 0) (vVar 2)) vNil)))) (vTest (vOp dNe (vOp dIx (vVar 0) (vVar 2)) (vOp dIx (vVar 1) (vVar 2))))) (vRet (vC (.bl false))) vNext))
    (vRet (vC (.bl true)))))
abbrev N_law_is_row : List Str := ["told", "due", "k"]
def t_law_are_rows (P_law_is_row : PV) : TSv :=
  (vSeq (vIf (vOrT (vNotT (vTest (vB (dIsi "tuple") (vCons (vVar 0) (vCons (vC (.cst (.ty "tuple"))) vNil))))) (vTest (vOp dNe (vB dLen (vCons (vVar 0) vNil)) (vB dLen (vCons (vVar 1) vNil))))) (vRet (vC (.bl false))) vNext)
    (vSeq (vFor (vRng1 (vB dLen (vCons (vVar 1) vNil))) (vgName 2)
    (vIf (vNotT (vTest (vCall 2 P_law_is_row [] (vCons (vOp dIx (vVar 0) (vVar 2)) (vCons (vOp dIx (vVar 1) (vVar 2)) vNil))))) (vRet (vC (.bl false))) vNext))
    (vRet (vC (.bl true)))))
abbrev N_law_are_rows : List Str := ["told", "due", "k"]
def t_law_is_board (P_Board_len : PV) (P_law_are_rows : PV) (P_law_is_row : PV) (C_Board : Addr) : TSv :=
  (vSeq (vIf (vOrT (vNotT (vTest (vB (dIsiO C_Board) (vCons (vVar 0) (vCons (vC (.cst (.ref C_Board))) vNil))))) (vNotT (vTest (vCall 2 P_law_is_row [] (vCons (vFld (fun C => C = C_Board) (vVar 0) "capacities") (vCons (vVar 1) vNil)))))) (vRet (vC (.bl false))) vNext)
    (vSeq (vIf (vOrT (vNotT (vTest (vCall 2 P_law_are_rows [] (vCons (vFld (fun C => C = C_Board) (vVar 0) "lanes") (vCons (vVar 2) vNil))))) (vTest (vOp dNe (vB (dLenO C_Board P_Board_len) (vCons (vVar 0) vNil)) (vB dLen (vCons (vVar 2) vNil))))) (vRet (vC (.bl false))) vNext)
    (vSeq (vAsgL 3 (vLc (vItO C_Board "lanes" (vVar 0)) (vgName 4) vYes (vVar 4) [4]))
    (vRet (vAnd (vCall 2 P_law_are_rows [] (vCons (vB dTuple (vCons (vVar 3) vNil)) (vCons (vVar 2) vNil))) (vCall 2 P_law_are_rows [] (vCons (vB dTuple (vCons (vB (dListO C_Board "lanes") (vCons (vVar 0) vNil)) vNil)) (vCons (vVar 2) vNil))))))))
abbrev N_law_is_board : List Str := ["board", "capacities", "rows", "walked", "lane"]
def t_law_below  : TSv :=
  (vSeq (vFor (vRng1 (vB dLen (vCons (vVar 0) vNil))) (vgName 2)
    (vIf (vOrT (vAndT (vTest (vOp dLt (vVar 2) (vB dLen (vCons (vVar 1) vNil)))) (vTest (vOp dGt (vOp dIx (vVar 0) (vVar 2)) (vOp dIx (vVar 1) (vVar 2))))) (vAndT (vTest (vOp dGe (vVar 2) (vB dLen (vCons (vVar 1) vNil)))) (vTest (vOp dGt (vOp dIx (vVar 0) (vVar 2)) (vC (.int 0)))))) (vRet (vC (.bl false))) vNext))
    (vRet (vC (.bl true))))
abbrev N_law_below : List Str := ["row", "other", "tick"]
def t_law_covers (P_law_below : PV) : TSv :=
  (vSeq (vIf (vTest (vOp dNe (vOp dIx (vVar 0) (vC (.int 0))) (vOp dIx (vVar 1) (vC (.int 0))))) (vRet (vC (.bl false))) vNext)
    (vRet (vOp dEq (vB dLen (vCons (vLc (vRng1 (vB dLen (vCons (vOp dIx (vVar 0) (vC (.int 1))) vNil))) (vgName 2) (vNotT (vTest (vCall 2 P_law_below [] (vCons (vOp dIx (vOp dIx (vVar 1) (vC (.int 1))) (vVar 2)) (vCons (vOp dIx (vOp dIx (vVar 0) (vC (.int 1))) (vVar 2)) vNil))))) (vVar 2) [2]) vNil)) (vC (.int 0)))))
abbrev N_law_covers : List Str := ["plain", "other", "k"]
def t_law_pairs (P_Board_covers : PV) (P_law_covers : PV) (P_law_is_board : PV) (C_Board : Addr) : TSv :=
  (vSeq (vFor (vRng1 (vB dLen (vCons (vVar 0) vNil))) (vgName 2)
    (vFor (vRng1 (vB dLen (vCons (vVar 0) vNil))) (vgName 3)
    (vSeq (vAsgL 4 (vMeth 2 C_Board "covers" P_Board_covers (vOp dIx (vVar 0) (vVar 2)) (vCons (vOp dIx (vVar 0) (vVar 3)) vNil)))
    (vIf (vOrT (vNotT (vTest (vB (dIsi "bool") (vCons (vVar 4) (vCons (vC (.cst (.ty "bool"))) vNil))))) (vTest (vOp dNe (vVar 4) (vCall 2 P_law_covers [] (vCons (vOp dIx (vVar 1) (vVar 2)) (vCons (vOp dIx (vVar 1) (vVar 3)) vNil)))))) (vRet (vC (.bl false))) vNext))))
    (vSeq (vFor (vRng1 (vB dLen (vCons (vVar 0) vNil))) (vgName 2)
    (vIf (vNotT (vTest (vCall 3 P_law_is_board [] (vCons (vOp dIx (vVar 0) (vVar 2)) (vCons (vOp dIx (vOp dIx (vVar 1) (vVar 2)) (vC (.int 0))) (vCons (vOp dIx (vOp dIx (vVar 1) (vVar 2)) (vC (.int 1))) vNil)))))) (vRet (vC (.bl false))) vNext))
    (vRet (vC (.bl true)))))
abbrev N_law_pairs : List Str := ["boards", "plains", "i", "j", "told"]
def t_law_row (P_law_cut : PV) (P_law_draw : PV) : TSv :=
  (vSeq (vAsgL 2 (vCall 3 P_law_draw [] (vCons (vVar 0) (vCons (vVar 1) (vCons (vC (.int 13)) vNil)))))
    (vSeq (vIf (vTest (vOp dEq (vCall 3 P_law_draw [] (vCons (vVar 0) (vCons (vOp dAdd (vVar 1) (vC (.int 1))) (vCons (vC (.int 8)) vNil)))) (vC (.int 0)))) (vAsgL 2 (vCall 3 P_law_draw [] (vCons (vVar 0) (vCons (vOp dAdd (vVar 1) (vC (.int 2))) (vCons (vC (.int 41)) vNil))))) vNext)
    (vSeq (vAsgL 3 (vOp dIx (vLst (vCons (vC (.int 1)) (vCons (vC (.int 2)) (vCons (vC (.int 4)) (vCons (vC (.int 32)) vNil))))) (vCall 3 P_law_draw [] (vCons (vVar 0) (vCons (vOp dAdd (vVar 1) (vC (.int 3))) (vCons (vC (.int 4)) vNil))))))
    (vRet (vCall 1 P_law_cut [] (vCons (vLc (vRng1 (vVar 2)) (vgName 4) vYes (vCall 3 P_law_draw [] (vCons (vVar 0) (vCons (vOp dAdd (vOp dAdd (vVar 1) (vC (.int 4))) (vVar 4)) (vCons (vOp dAdd (vVar 3) (vC (.int 1))) vNil)))) [4]) vNil))))))
abbrev N_law_row : List Str := ["script", "at", "size", "top", "k"]
def t_law_capacity (P_law_draw : PV) : TSv :=
  (vSeq (vAsgL 4 (vCall 3 P_law_draw [] (vCons (vVar 0) (vCons (vVar 1) (vCons (vC (.int 5)) vNil)))))
    (vSeq (vIf (vTest (vOp dEq (vVar 4) (vC (.int 3)))) (vRet (vB dMax2 (vCons (vVar 2) (vCons (vB dMin2 (vCons (vC (.int 32)) (vCons (vOp dSub (vVar 3) (vC (.int 1))) vNil))) vNil)))) vNext)
    (vSeq (vIf (vTest (vOp dEq (vVar 4) (vC (.int 4)))) (vRet (vOp dAdd (vVar 2) (vCall 3 P_law_draw [] (vCons (vVar 0) (vCons (vOp dAdd (vVar 1) (vC (.int 1))) (vCons (vOp dSub (vC (.int 33)) (vVar 2)) vNil)))))) vNext)
    (vRet (vB dMax2 (vCons (vVar 2) (vCons (vB dMin2 (vCons (vC (.int 32)) (vCons (vVar 3) vNil))) vNil)))))))
abbrev N_law_capacity : List Str := ["script", "at", "own", "total", "mode"]
def t_law_prefix (P_law_counts : PV) : TSv :=
  (vSeq (vAsg 3 (vCall 3 P_law_counts [] (vCons (vVar 1) (vCons (vLst vNil) (vCons (vC (.int 0)) vNil)))))
    (vSeq (vFor (vRng1 (vB dLen (vCons (vVar 2) vNil))) (vgName 4)
    (vSeq (vAsgG (vgTup 3 (vgCons (vgName 5) (vgCons (vgName 6) (vgCons (vgName 7) vgNil)))) (vOp dIx (vVar 2) (vVar 4)))
    (vFor (vRng2 (vVar 6) (vVar 7)) (vgName 8)
    (vSeq (vTPut 3 (vTup (vCons (vVar 5) (vCons (vVar 8) vNil))) (vOp dAdd (vTGet2 (vVar 3) (vTup (vCons (vVar 5) (vCons (vVar 8) vNil))) (vC (.int 0))) (vC (.int 1))))
    (vIf (vTest (vOp dGt (vTGet (vVar 3) (vTup (vCons (vVar 5) (vCons (vVar 8) vNil)))) (vOp dIx (vVar 0) (vVar 5)))) (vRetV 4) vNext)))))
    (vRet (vB dLen (vCons (vVar 2) vNil)))))
abbrev N_law_prefix : List Str := ["capacities", "rows", "uses", "counts", "j", "k", "start", "end", "tick"]
def t_law_lowered (P_law_cut : PV) (P_law_draw : PV) : TSv :=
  (vRet (vCall 1 P_law_cut [] (vCons (vLc (vRng1 (vB dLen (vCons (vVar 2) vNil))) (vgName 3) vYes (vB dMax2 (vCons (vC (.int 0)) (vCons (vOp dSub (vOp dIx (vVar 2) (vVar 3)) (vOp dIx (vLst (vCons (vC (.int 0)) (vCons (vC (.int 0)) (vCons (vC (.int 1)) (vCons (vC (.int 40)) vNil))))) (vCall 3 P_law_draw [] (vCons (vVar 0) (vCons (vOp dAdd (vVar 1) (vVar 3)) (vCons (vC (.int 4)) vNil)))))) vNil))) [3]) vNil)))
abbrev N_law_lowered : List Str := ["script", "at", "row", "k"]
def t_raised  : TSv :=
  (vSeq (vAsg 3 (vB dList (vCons (vVar 0) vNil)))
    (vSeq (vIf (vTest (vOp dLt (vVar 1) (vVar 2))) (vExt 3 (vOp dRep (vLst (vCons (vC (.int 0)) vNil)) (vOp dSub (vVar 2) (vB dLen (vCons (vVar 3) vNil))))) vNext)
    (vSeq (vFor (vRng2 (vVar 1) (vVar 2)) (vgName 4)
    (vSetIx 3 (vVar 4) (vOp dAdd (vOp dIx (vVar 3) (vVar 4)) (vC (.int 1)))))
    (vRet (vB dTuple (vCons (vVar 3) vNil))))))
abbrev N_raised : List Str := ["lane", "start", "end", "counts", "tick"]
def t_lanes_with (P_raised : PV) : TSv :=
  (vSeq (vAsg 2 (vLc (vIt (vVar 0)) (vgName 6) vYes (vB dTuple (vCons (vVar 6) vNil)) [6]))
    (vSeq (vFor (vIt (vVar 1)) (vgTup 3 (vgCons (vgName 3) (vgCons (vgName 4) (vgCons (vgName 5) vgNil))))
    (vSetIx 2 (vVar 3) (vCall 3 P_raised [] (vCons (vOp dIx (vVar 2) (vVar 3)) (vCons (vVar 4) (vCons (vVar 5) vNil))))))
    (vRet (vB dTuple (vCons (vVar 2) vNil)))))
abbrev N_lanes_with : List Str := ["lanes", "uses", "rows", "number", "start", "end", "lane"]
def t_first_excess (P_lanes_with : PV) : TSv :=
  (vSeq (vAsgL 3 (vCall 2 P_lanes_with [] (vCons (vVar 1) (vCons (vVar 2) vNil))))
    (vSeq (vFor (vRng1 (vB dLen (vCons (vVar 3) vNil))) (vgName 4)
    (vFor (vRng1 (vB dLen (vCons (vOp dIx (vVar 3) (vVar 4)) vNil))) (vgName 5)
    (vIf (vTest (vOp dGt (vOp dIx (vOp dIx (vVar 3) (vVar 4)) (vVar 5)) (vOp dIx (vVar 0) (vVar 4)))) (vRet (vTup (vCons (vVar 4) (vCons (vVar 5) vNil)))) vNext)))
    (vRet (vC .non))))
abbrev N_first_excess : List Str := ["capacities", "lanes", "uses", "full", "number", "tick"]
def t_uses_fit (P_first_excess : PV) : TSv :=
  (vRet (vIsN false (vCall 3 P_first_excess [] (vCons (vVar 0) (vCons (vVar 1) (vCons (vVar 2) vNil))))))
abbrev N_uses_fit : List Str := ["capacities", "lanes", "uses"]
def t_Board_fits (P_uses_fit : PV) (C_Board : Addr) : TSv :=
  (vRet (vCall 3 P_uses_fit [] (vCons (vFld (fun C => C = C_Board) (vVar 0) "capacities") (vCons (vFld (fun C => C = C_Board) (vVar 0) "lanes") (vCons (vVar 1) vNil)))))
abbrev N_Board_fits : List Str := ["self", "uses"]
def t_Board_add (P_first_excess : PV) (P_lanes_with : PV) (P_Board_init : PI') (C_Board : Addr) : TSv :=
  (vSeq (vAsgL 2 (vCall 3 P_first_excess [] (vCons (vFld (fun C => C = C_Board) (vVar 0) "capacities") (vCons (vFld (fun C => C = C_Board) (vVar 0) "lanes") (vCons (vVar 1) vNil)))))
    (vSeq (vIf (vTest (vIsN true (vVar 2))) vNever vNext)
    (vRet (vMake0 2 P_Board_init C_Board [] (vCons (vFld (fun C => C = C_Board) (vVar 0) "capacities") (vCons (vCall 2 P_lanes_with [] (vCons (vFld (fun C => C = C_Board) (vVar 0) "lanes") (vCons (vVar 1) vNil))) vNil))))))
abbrev N_Board_add : List Str := ["self", "uses", "excess"]
def t_law_fit (P_law_counts : PV) : TSv :=
  (vSeq (vAsg 3 (vCall 3 P_law_counts [] (vCons (vVar 1) (vCons (vVar 2) (vCons (vC (.int 1)) vNil)))))
    (vRet (vOp dEq (vB dLen (vCons (vLockT 3 (vKeyC 3 0 4)) vNil)) (vC (.int 0)))))
abbrev N_law_fit : List Str := ["capacities", "rows", "uses", "counts", "key"]
def t_law_uses_keep (P_Board_add : PV) (P_Board_covers : PV) (P_Board_fits : PV) (P_law_counts : PV) (P_law_covers : PV) (P_law_fit : PV) (P_law_is_board : PV) (P_law_rows : PV) (C_Board : Addr) : TSv :=
  (vSeq (vAsgL 3 (vAddO C_Board P_Board_add (vOp dIx (vVar 0) (vC (.int 0))) (vB dList (vCons (vVar 2) vNil))))
    (vSeq (vAsgL 4 (vTup (vCons (vOp dIx (vOp dIx (vVar 1) (vC (.int 0))) (vC (.int 0))) (vCons (vCall 2 P_law_rows [] (vCons (vCall 3 P_law_counts [] (vCons (vOp dIx (vOp dIx (vVar 1) (vC (.int 0))) (vC (.int 1))) (vCons (vVar 2) (vCons (vC (.int 1)) vNil)))) (vCons (vB dLen (vCons (vOp dIx (vOp dIx (vVar 1) (vC (.int 0))) (vC (.int 1))) vNil)) vNil))) vNil))))
    (vSeq (vFor (vRng1 (vB dLen (vCons (vVar 0) vNil))) (vgName 5)
    (vSeq (vAsgL 6 (vMeth 2 C_Board "fits" P_Board_fits (vOp dIx (vVar 0) (vVar 5)) (vCons (vB dList (vCons (vVar 2) vNil)) vNil)))
    (vSeq (vIf (vOrT (vNotT (vTest (vB (dIsi "bool") (vCons (vVar 6) (vCons (vC (.cst (.ty "bool"))) vNil))))) (vTest (vOp dNe (vVar 6) (vCall 3 P_law_fit [] (vCons (vOp dIx (vOp dIx (vVar 1) (vVar 5)) (vC (.int 0))) (vCons (vOp dIx (vOp dIx (vVar 1) (vVar 5)) (vC (.int 1))) (vCons (vVar 2) vNil))))))) (vRet (vC (.bl false))) vNext)
    (vSeq (vIf (vAndT (vTest (vCall 2 P_law_covers [] (vCons (vOp dIx (vVar 1) (vC (.int 0))) (vCons (vOp dIx (vVar 1) (vVar 5)) vNil)))) (vTest (vOp (dIsB true) (vVar 6) (vC (.bl true))))) (vRet (vC (.bl false))) vNext)
    (vIf (vTest (vVar 6)) (vSeq (vAsgL 7 (vAddO C_Board P_Board_add (vOp dIx (vVar 0) (vVar 5)) (vB dList (vCons (vVar 2) vNil))))
    (vSeq (vAsgL 8 (vTup (vCons (vOp dIx (vOp dIx (vVar 1) (vVar 5)) (vC (.int 0))) (vCons (vCall 2 P_law_rows [] (vCons (vCall 3 P_law_counts [] (vCons (vOp dIx (vOp dIx (vVar 1) (vVar 5)) (vC (.int 1))) (vCons (vVar 2) (vCons (vC (.int 1)) vNil)))) (vCons (vB dLen (vCons (vOp dIx (vOp dIx (vVar 1) (vVar 5)) (vC (.int 1))) vNil)) vNil))) vNil))))
    (vSeq (vAsgL 9 (vMeth 2 C_Board "covers" P_Board_covers (vVar 3) (vCons (vVar 7) vNil)))
    (vSeq (vIf (vOrT (vNotT (vTest (vCall 3 P_law_is_board [] (vCons (vVar 7) (vCons (vOp dIx (vVar 8) (vC (.int 0))) (vCons (vOp dIx (vVar 8) (vC (.int 1))) vNil)))))) (vOrT (vNotT (vTest (vB (dIsi "bool") (vCons (vVar 9) (vCons (vC (.cst (.ty "bool"))) vNil))))) (vTest (vOp dNe (vVar 9) (vCall 2 P_law_covers [] (vCons (vVar 4) (vCons (vVar 8) vNil))))))) (vRet (vC (.bl false))) vNext)
    (vIf (vAndT (vTest (vCall 2 P_law_covers [] (vCons (vOp dIx (vVar 1) (vC (.int 0))) (vCons (vOp dIx (vVar 1) (vVar 5)) vNil)))) (vTest (vOp (dIsB true) (vVar 9) (vC (.bl true))))) (vRet (vC (.bl false))) vNext))))) vNext)))))
    (vRet (vC (.bl true))))))
abbrev N_law_uses_keep : List Str := ["boards", "plains", "uses", "first", "start", "j", "told", "behind", "plain", "kept"]
def t_law (P_Board_later : PV) (P_law_capacity : PV) (P_law_clipped : PV) (P_law_counts : PV) (P_law_cut : PV) (P_law_draw : PV) (P_law_lowered : PV) (P_law_other : PV) (P_law_pairs : PV) (P_law_prefix : PV) (P_law_raised : PV) (P_law_row : PV) (P_law_rows : PV) (P_law_uses : PV) (P_law_uses_keep : PV) (P_Board_init : PI') (C_Board : Addr) : TSv :=
  (vSeq (vAsgL 1 (vOp dAdd (vC (.int 1)) (vCall 3 P_law_draw [] (vCons (vVar 0) (vCons (vC (.int 0)) (vCons (vC (.int 5)) vNil))))))
    (vSeq (vIf (vTest (vOp dEq (vCall 3 P_law_draw [] (vCons (vVar 0) (vCons (vC (.int 1)) (vCons (vC (.int 8)) vNil)))) (vC (.int 0)))) (vAsgL 1 (vOp dAdd (vC (.int 6)) (vCall 3 P_law_draw [] (vCons (vVar 0) (vCons (vC (.int 2)) (vCons (vC (.int 5)) vNil)))))) vNext)
    (vSeq (vAsgL 2 (vCall 3 P_law_draw [] (vCons (vVar 0) (vCons (vC (.int 3)) (vCons (vC (.int 7)) vNil)))))
    (vSeq (vIf (vTest (vOp dEq (vCall 3 P_law_draw [] (vCons (vVar 0) (vCons (vC (.int 5)) (vCons (vC (.int 16)) vNil)))) (vC (.int 0)))) (vSeq (vAsgL 1 (vC (.int 0)))
    (vAsgL 2 (vC (.int 0)))) vNext)
    (vSeq (vAsgL 3 (vB dTuple (vCons (vLc (vRng1 (vVar 1)) (vgName 14) vYes (vCall 2 P_law_row [] (vCons (vVar 0) (vCons (vOp dAdd (vC (.int 20)) (vOp dMul (vC (.int 50)) (vVar 14))) vNil))) [14]) vNil)))
    (vSeq (vAsgL 4 (vCall 4 P_law_uses [] (vCons (vVar 0) (vCons (vC (.int 600)) (vCons (vVar 1) (vCons (vVar 2) vNil))))))
    (vSeq (vAsgL 5 (vCall 2 P_law_rows [] (vCons (vCall 3 P_law_counts [] (vCons (vVar 3) (vCons (vVar 4) (vCons (vC (.int 1)) vNil)))) (vCons (vVar 1) vNil))))
    (vSeq (vAsgL 6 (vB dTuple (vCons (vLc (vRng1 (vVar 1)) (vgName 14) vYes (vCall 4 P_law_capacity [] (vCons (vVar 0) (vCons (vOp dAdd (vC (.int 800)) (vOp dMul (vC (.int 2)) (vVar 14))) (vCons (vB dMaxT (vCons (vOp dAdd (vTup (vCons (vC (.int 0)) vNil)) (vOp dIx (vVar 3) (vVar 14))) vNil)) (vCons (vB dMaxT (vCons (vOp dAdd (vTup (vCons (vC (.int 0)) vNil)) (vOp dIx (vVar 5) (vVar 14))) vNil)) vNil))))) [14]) vNil)))
    (vSeq (vAsgL 4 (vSl (vVar 4) vNo (vPt (vCall 3 P_law_prefix [] (vCons (vVar 6) (vCons (vVar 3) (vCons (vVar 4) vNil)))))))
    (vSeq (vAsgL 7 (vB dTuple (vCons (vLc (vRng1 (vVar 1)) (vgName 14) vYes (vCall 3 P_law_lowered [] (vCons (vVar 0) (vCons (vOp dAdd (vC (.int 1000)) (vOp dMul (vC (.int 50)) (vVar 14))) (vCons (vOp dIx (vVar 3) (vVar 14)) vNil)))) [14]) vNil)))
    (vSeq (vAsgL 8 (vCall 4 P_law_raised [] (vCons (vVar 0) (vCons (vC (.int 1600)) (vCons (vVar 6) (vCons (vVar 7) vNil))))))
    (vSeq (vAsgL 9 (vCall 2 P_law_clipped [] (vCons (vVar 6) (vCons (vLc (vRng1 (vVar 1)) (vgName 14) vYes (vCall 2 P_law_row [] (vCons (vVar 0) (vCons (vOp dAdd (vC (.int 1700)) (vOp dMul (vC (.int 50)) (vVar 14))) vNil))) [14]) vNil))))
    (vSeq (vAsg 10 (vLst (vCons (vTup (vCons (vVar 6) (vCons (vVar 3) vNil))) (vCons (vTup (vCons (vVar 6) (vCons (vVar 7) vNil))) (vCons (vTup (vCons (vVar 6) (vCons (vVar 8) vNil))) (vCons (vTup (vCons (vVar 6) (vCons (vVar 9) vNil))) vNil))))))
    (vSeq (vApp 10 (vTup (vCons (vOp dAdd (vVar 6) (vTup (vCons (vC (.int 1)) vNil))) (vCons (vOp dAdd (vVar 7) (vTup (vCons (vTup vNil) vNil))) vNil))))
    (vSeq (vIf (vTest (vOp dGt (vVar 1) (vC (.int 0)))) (vSeq (vAsgL 11 (vCall 3 P_law_other [] (vCons (vVar 0) (vCons (vC (.int 1610)) (vCons (vVar 6) vNil)))))
    (vApp 10 (vTup (vCons (vVar 11) (vCons (vCall 2 P_law_clipped [] (vCons (vVar 11) (vCons (vVar 7) vNil))) vNil))))) vNext)
    (vSeq (vFrz 10 (vAsgL 12 (vLc (vIt (vVar 10)) (vgName 15) vYes (vMake0 2 P_Board_init C_Board [] (vCons (vB dList (vCons (vOp dIx (vVar 15) (vC (.int 0))) vNil)) (vCons (vLc (vIt (vOp dIx (vVar 15) (vC (.int 1)))) (vgName 16) vYes (vB dList (vCons (vVar 16) vNil)) [16]) vNil))) [15])))
    (vSeq (vIf (vOrT (vNotT (vTest (vCall 2 P_law_pairs [] (vCons (vVar 12) (vCons (vVar 10) vNil))))) (vOrT (vNotT (vTest (vCall 2 P_law_pairs [] (vCons (vVar 12) (vCons (vVar 10) vNil))))) (vNotT (vTest (vCall 3 P_law_uses_keep [] (vCons (vVar 12) (vCons (vVar 10) (vCons (vVar 4) vNil)))))))) (vRet (vC (.bl false))) vNext)
    (vSeq (vAsgL 13 (vLc (vIt (vVar 10)) (vgName 15) vYes (vTup (vCons (vOp dIx (vVar 15) (vC (.int 0))) (vCons (vB dTuple (vCons (vLc (vIt (vOp dIx (vVar 15) (vC (.int 1)))) (vgName 16) vYes (vCall 1 P_law_cut [] (vCons (vSl (vVar 16) (vPt (vC (.int 1))) vNo) vNil)) [16]) vNil)) vNil))) [15]))
    (vRet (vAnd (vCall 2 P_law_pairs [] (vCons (vLc (vIt (vVar 12)) (vgName 17) vYes (vMeth 1 C_Board "later" P_Board_later (vVar 17) vNil) [17]) (vCons (vVar 13) vNil))) (vCall 2 P_law_pairs [] (vCons (vVar 12) (vCons (vVar 10) vNil)))))))))))))))))))))))
abbrev N_law : List Str := ["script", "many", "count", "rows", "uses", "full", "capacities", "low", "mixed", "free", "plains", "other", "boards", "later", "k", "plain", "row", "board"]
end K17

/-! ## K17_m -/
namespace K17
open PySem PySem.Spec L2 VL
open PyProof.Rows hiding St
/-! ### rows -/
/-- no zero at the end -/
def Can (l : List Int) : Prop := ∀ n, l.length = n + 1 → l.getD n 0 ≠ 0
theorem getD_far {l : List Int} {t : Nat} (h : l.length ≤ t) : l.getD t 0 = 0 := by
  rw [List.getD_eq_getElem?_getD, List.getElem?_eq_none h]; rfl
theorem can_le {a b : List Int} (hb : Can b) (h : ∀ t, a.getD t 0 = b.getD t 0) : b.length ≤ a.length := by
  apply Nat.le_of_not_lt
  intro c
  obtain ⟨n, hn⟩ : ∃ n, b.length = n + 1 := ⟨b.length - 1, by omega⟩
  exact hb n hn (by rw [← h n]; exact getD_far (by omega))
theorem ext_getD {a b : List Int} (hl : a.length = b.length) (h : ∀ t, a.getD t 0 = b.getD t 0) : a = b := by
  apply List.ext_getElem hl
  intro i h1 h2
  have := h i
  rw [List.getD_eq_getElem?_getD, List.getD_eq_getElem?_getD, List.getElem?_eq_getElem h1, List.getElem?_eq_getElem h2] at this
  exact this
theorem can_ext {a b : List Int} (ha : Can a) (hb : Can b) (h : ∀ t, a.getD t 0 = b.getD t 0) : a = b :=
  ext_getD (Nat.le_antisymm (can_le ha fun t => (h t).symm) (can_le hb h)) h
theorem getD_take (l : List Int) (e t : Nat) : (l.take e).getD t 0 = if t < e then l.getD t 0 else 0 := by
  rw [List.getD_eq_getElem?_getD, List.getElem?_take]
  split
  · rw [List.getD_eq_getElem?_getD]
  · rfl
theorem getD_tail (l : List Int) (t : Nat) : l.tail.getD t 0 = l.getD (t + 1) 0 := by
  cases l with
  | nil => rfl
  | cons a l => rw [List.tail_cons, List.getD_cons_succ]
theorem can_tail {l : List Int} (h : Can l) : Can l.tail := by
  intro n hn
  rw [getD_tail]
  exact h (n + 1) (by rw [List.length_tail] at hn; omega)
theorem can_nil : Can [] := fun n h => by simp at h
abbrev U3 := Int × Int × Int
def rais (l : List Int) (s e : Int) : List Int := (List.range (max l.length e.toNat)).map fun t => l.getD t 0 + if s ≤ (t : Int) ∧ (t : Int) < e then 1 else 0
theorem rais_len (l : List Int) (s e : Int) : (rais l s e).length = max l.length e.toNat := by unfold rais; rw [List.length_map, List.length_range]
theorem rais_getD (l : List Int) (s e : Int) (t : Nat) : (rais l s e).getD t 0 = l.getD t 0 + if s ≤ (t : Int) ∧ (t : Int) < e then 1 else 0 := by
  by_cases h : t < max l.length e.toNat
  · unfold rais
    rw [List.getD_eq_getElem?_getD, List.getElem?_map, List.getElem?_range h]; rfl
  · rw [getD_far (by rw [rais_len]; omega), getD_far (by omega), if_neg (by omega)]; rfl
structure LnOk (l : List Int) : Prop where
  can : Can l
  pos : ∀ t, 0 ≤ l.getD t 0
  len : l.length ≤ 60
theorem rais_ok {l : List Int} {s e : Int} (h : LnOk l) (se : s < e) (e6 : e ≤ 60) (s0 : 0 ≤ s) : LnOk (rais l s e) := by
  refine ⟨fun n hn => ?_, fun t => ?_, by rw [rais_len]; have := h.len; omega⟩
  · rw [rais_len] at hn
    rw [rais_getD]
    have p := h.pos n
    by_cases c : l.length ≤ e.toNat
    · rw [if_pos (by omega)]; omega
    · have := h.can n (by omega)
      split <;> omega
  · rw [rais_getD]
    have p := h.pos t
    split <;> omega
def step (R : List (List Int)) (u : U3) : List (List Int) := R.set u.1.toNat (rais (R.getD u.1.toNat []) u.2.1 u.2.2)
def lw (L : List (List Int)) (U : List U3) : List (List Int) := U.foldl step L
def LOk (L : List (List Int)) : Prop := ∀ k, k < L.length → LnOk (L.getD k [])
def u3Ok (n : Nat) (u : U3) : Prop := 0 ≤ u.1 ∧ u.1 < n ∧ 0 ≤ u.2.1 ∧ u.2.1 < u.2.2 ∧ u.2.2 ≤ 60
def UOk (n : Nat) (U : List U3) : Prop := ∀ u, u ∈ U → u3Ok n u
def cov (U : List U3) (k t : Int) : Int := ((U.filter fun u => decide (u.1 = k ∧ u.2.1 ≤ t ∧ t < u.2.2)).length : Int)
theorem cov_cons (u : U3) (U : List U3) (k t : Int) : cov (u :: U) k t = (if u.1 = k ∧ u.2.1 ≤ t ∧ t < u.2.2 then 1 else 0) + cov U k t := by
  unfold cov
  by_cases h : u.1 = k ∧ u.2.1 ≤ t ∧ t < u.2.2
  · rw [List.filter_cons_of_pos (by exact decide_eq_true h), if_pos h, List.length_cons]; omega
  · rw [List.filter_cons_of_neg (by simpa using h), if_neg h]; omega
theorem cov_app (U W : List U3) (k t : Int) : cov (U ++ W) k t = cov U k t + cov W k t := by
  unfold cov
  rw [List.filter_append, List.length_append]; omega
theorem cov_perm {U W : List U3} (p : U.Perm W) (k t : Int) : cov U k t = cov W k t := by
  unfold cov
  rw [(p.filter _).length_eq]
theorem cov_pos (U : List U3) (k t : Int) : 0 ≤ cov U k t := by unfold cov; omega
theorem cov_big {n : Nat} {U : List U3} (h : UOk n U) (k t : Int) (ht : 60 ≤ t) : cov U k t = 0 := by
  unfold cov
  rw [List.filter_eq_nil_iff.mpr]
  · rfl
  · intro u hu
    have := h u hu
    unfold u3Ok at this
    simp only [decide_eq_true_eq]
    omega
theorem getD_set (R : List (List Int)) (j : Nat) (x : List Int) (k : Nat) (hk : k < R.length) : (R.set j x).getD k [] = if j = k then x else R.getD k [] := by
  rw [List.getD_eq_getElem?_getD, List.getElem?_set]
  by_cases e : j = k
  · subst e
    rw [if_pos rfl, if_pos hk, if_pos rfl]; rfl
  · rw [if_neg e, if_neg e, List.getD_eq_getElem?_getD]
theorem step_ok {R : List (List Int)} {u : U3} (h : LOk R) (hu : u3Ok R.length u) : LOk (step R u) := by
  intro k hk
  unfold step at hk ⊢
  rw [List.length_set] at hk
  rw [getD_set _ _ _ _ hk]
  unfold u3Ok at hu
  split
  · exact rais_ok (h _ (by omega)) hu.2.2.2.1 hu.2.2.2.2 hu.2.2.1
  · exact h k hk
theorem step_len (R : List (List Int)) (u : U3) : (step R u).length = R.length := by unfold step; rw [List.length_set]
theorem step_val {R : List (List Int)} {u : U3} (hu : u3Ok R.length u) {k : Nat} (hk : k < R.length) (t : Nat) : ((step R u).getD k []).getD t 0 = (R.getD k []).getD t 0 + if u.1 = (k : Int) ∧ u.2.1 ≤ (t : Int) ∧ (t : Int) < u.2.2 then 1 else 0 := by
  unfold step
  rw [getD_set _ _ _ _ hk]
  unfold u3Ok at hu
  by_cases e : u.1.toNat = k
  · rw [if_pos e, rais_getD, e]
    by_cases c : u.2.1 ≤ (t : Int) ∧ (t : Int) < u.2.2
    · rw [if_pos c, if_pos ⟨by omega, c⟩]
    · rw [if_neg c, if_neg fun h => c h.2]
  · rw [if_neg e, if_neg (by omega)]; omega
theorem lw_all : ∀ (U : List U3) {L : List (List Int)}, LOk L → UOk L.length U → LOk (lw L U) ∧ (lw L U).length = L.length ∧ ∀ k, k < L.length → ∀ t : Nat, ((lw L U).getD k []).getD t 0 = (L.getD k []).getD t 0 + cov U k t
  | [], L, h, _ => ⟨h, rfl, fun k _ t => by show _ = _ + cov [] k t; unfold cov; simp [lw]⟩
  | u :: U, L, h, hu => by
    have u0 := hu u List.mem_cons_self
    obtain ⟨i1, i2, i3⟩ := lw_all U (step_ok h u0) (by rw [step_len]; exact fun w hw => hu w (List.mem_cons_of_mem _ hw))
    rw [step_len] at i2 i3
    refine ⟨i1, i2, fun k hk t => ?_⟩
    show ((lw (step L u) U).getD k []).getD t 0 = _
    rw [i3 k hk t, step_val u0 hk, cov_cons]
    omega
theorem ext_rows {A B : List (List Int)} (hl : A.length = B.length) (h : ∀ k, k < A.length → A.getD k [] = B.getD k []) : A = B := by
  apply List.ext_getElem hl
  intro i h1 h2
  have := h i h1
  rw [List.getD_eq_getElem?_getD, List.getD_eq_getElem?_getD, List.getElem?_eq_getElem h1, List.getElem?_eq_getElem h2] at this
  exact this
theorem lw_perm {L : List (List Int)} {U W : List U3} (h : LOk L) (hu : UOk L.length U) (p : W.Perm U) : lw L W = lw L U := by
  obtain ⟨a1, a2, a3⟩ := lw_all U h hu
  obtain ⟨b1, b2, b3⟩ := lw_all W h fun w hw => hu w (p.mem_iff.mp hw)
  refine ext_rows (b2.trans a2.symm) fun k hk => ?_
  rw [b2] at hk
  refine can_ext (b1 k (by omega)).can (a1 k (by omega)).can fun t => ?_
  rw [a3 k hk, b3 k hk, cov_perm p]
/-! ### tables of counts -/
abbrev MM := List ((Int × Int) × Int)
def mget : MM → Int × Int → Int
  | [], _ => 0
  | e :: m, p => if e.1 = p then e.2 else mget m p
def mput : MM → Int × Int → Int → MM
  | [], p, v => [(p, v)]
  | e :: m, p, v => if e.1 = p then (p, v) :: m else e :: mput m p v
theorem mget_put : ∀ (m : MM) (p q : Int × Int) (v : Int), mget (mput m p v) q = if p = q then v else mget m q
  | [], p, q, v => by simp only [mput, mget]
  | e :: m, p, q, v => by
    unfold mput
    by_cases h : e.1 = p
    · rw [if_pos h, mget, mget]
      subst h
      by_cases c : e.1 = q
      · rw [if_pos c, if_pos c]
      · rw [if_neg c, if_neg c, if_neg c]
    · rw [if_neg h, mget, mget, mget_put m p q v]
      by_cases c : e.1 = q
      · rw [if_pos c, if_pos c, if_neg (fun z => h (by rw [c, z]))]
      · rw [if_neg c, if_neg c]
theorem mput_len : ∀ (m : MM) (p : Int × Int) (v : Int), (mput m p v).length ≤ m.length + 1
  | [], p, v => Nat.le_refl _
  | e :: m, p, v => by
    unfold mput
    split
    · simp
    · have := mput_len m p v
      simp only [List.length_cons]; omega
theorem mput_mem : ∀ (m : MM) (p : Int × Int) (v : Int) (e : (Int × Int) × Int), e ∈ mput m p v → e.1 = p ∨ e ∈ m
  | [], p, v, e, h => .inl (by rw [List.mem_singleton.mp h])
  | d :: m, p, v, e, h => by
    unfold mput at h
    split at h
    · rcases List.mem_cons.mp h with h | h
      · exact .inl (by rw [h])
      · exact .inr (List.mem_cons_of_mem _ h)
    · rcases List.mem_cons.mp h with h | h
      · exact .inr (by rw [h]; exact List.mem_cons_self)
      · exact (mput_mem m p v e h).imp id (List.mem_cons_of_mem _)
theorem mput_nd : ∀ (m : MM) (p : Int × Int) (v : Int), (m.map (·.1)).Nodup → ((mput m p v).map (·.1)).Nodup
  | [], p, v, _ => by simp [mput]
  | d :: m, p, v, h => by
    rw [List.map_cons, List.nodup_cons] at h
    unfold mput
    split
    · rename_i c
      rw [List.map_cons, List.nodup_cons]
      exact ⟨by rw [← c]; exact h.1, h.2⟩
    · rename_i c
      rw [List.map_cons, List.nodup_cons]
      refine ⟨fun z => ?_, mput_nd m p v h.2⟩
      obtain ⟨e, he, e1⟩ := List.mem_map.mp z
      rcases mput_mem m p v e he with h1 | h1
      · exact c (e1.symm.trans h1)
      · exact h.1 (List.mem_map.mpr ⟨e, h1, e1⟩)
theorem mget_mem : ∀ (m : MM), (m.map (·.1)).Nodup → ∀ e, e ∈ m → mget m e.1 = e.2
  | [], _, e, h => nomatch h
  | d :: m, nd, e, h => by
    rw [List.map_cons, List.nodup_cons] at nd
    unfold mget
    rcases List.mem_cons.mp h with h | h
    · rw [h, if_pos rfl]
    · rw [if_neg (fun z => nd.1 (List.mem_map.mpr ⟨e, h, z.symm⟩)), mget_mem m nd.2 e h]
theorem mget_has : ∀ (m : MM) (p : Int × Int), mget m p ≠ 0 → ∃ e, e ∈ m ∧ e.1 = p
  | [], p, h => absurd rfl h
  | d :: m, p, h => by
    unfold mget at h
    split at h
    · rename_i c; exact ⟨d, List.mem_cons_self, c⟩
    · obtain ⟨e, he, e1⟩ := mget_has m p h
      exact ⟨e, List.mem_cons_of_mem _ he, e1⟩
def base (L : List (List Int)) (p : Int × Int) : Int := if 0 ≤ p.1 ∧ 0 ≤ p.2 then (L.getD p.1.toNat []).getD p.2.toNat 0 else 0
structure MOk (L : List (List Int)) (U : List U3) (m : MM) : Prop where
  nd : (m.map (·.1)).Nodup
  val : ∀ p, mget m p = base L p + cov U p.1 p.2
  rg : ∀ e, e ∈ m → 0 ≤ e.1.1 ∧ e.1.1 < L.length
  len : m.length ≤ 10000
/-- the rows that are told -/
theorem row_eq {L : List (List Int)} {U : List U3} {m : MM} (h : LOk L) (hu : UOk L.length U) (hm : MOk L U m) {k : Nat} (hk : k < L.length) {c : List Int} (cc : Can c) (hc : ∀ t, c.getD t 0 = ((List.range 61).map fun t : Nat => mget m ((k : Int), (t : Int))).getD t 0) : c = (lw L U).getD k [] := by
  obtain ⟨a1, a2, a3⟩ := lw_all U h hu
  refine can_ext cc (a1 k (by omega)).can fun t => ?_
  rw [hc t, a3 k hk]
  by_cases ht : t < 61
  · rw [List.getD_eq_getElem?_getD, List.getElem?_map, List.getElem?_range ht]
    show mget m ((k : Int), (t : Int)) = _
    rw [hm.val]
    show base L ((k : Int), (t : Int)) + cov U k t = _
    unfold base
    rw [if_pos ⟨by show (0 : Int) ≤ (k : Int); omega, by show (0 : Int) ≤ (t : Int); omega⟩]
    show (L.getD (k : Int).toNat []).getD (t : Int).toNat 0 + _ = _
    rw [Int.toNat_natCast, Int.toNat_natCast]
  · rw [getD_far (by simp; omega), getD_far (by have := (h k hk).len; omega), cov_big hu _ _ (by omega)]; rfl
/-! ### fitting -/
def Fit (caps : List Int) (R : List (List Int)) : Prop := ∀ k, k < R.length → ∀ t, t < (R.getD k []).length → (R.getD k []).getD t 0 ≤ caps.getD k 0
def fitB (caps : List Int) (R : List (List Int)) : Bool := (List.range R.length).all fun k => (R.getD k []).all fun x => decide (x ≤ caps.getD k 0)
theorem fitB_iff {caps : List Int} {R : List (List Int)} : fitB caps R = true ↔ Fit caps R := by
  unfold fitB Fit
  simp only [List.all_eq_true, List.mem_range, decide_eq_true_eq]
  constructor
  · intro h k hk t ht
    exact h k hk _ (VL.getD_mem ht)
  · intro h k hk x hx
    obtain ⟨i, hi, e⟩ := List.getElem_of_mem hx
    have := h k hk i hi
    rw [List.getD_eq_getElem?_getD, List.getElem?_eq_getElem hi] at this
    rw [← e]; exact this
def CapOk (n : Nat) (caps : List Int) : Prop := caps.length = n ∧ ∀ c, c ∈ caps → 0 ≤ c
theorem fit_m {L : List (List Int)} {U : List U3} {m : MM} {caps : List Int} (h : LOk L) (hu : UOk L.length U) (hm : MOk L U m) (hc : CapOk L.length caps) : (∀ e, e ∈ m → ¬ caps.getD e.1.1.toNat 0 < mget m e.1) ↔ Fit caps (lw L U) := by
  obtain ⟨a1, a2, a3⟩ := lw_all U h hu
  have cp : ∀ k, 0 ≤ caps.getD k 0 := fun k => by
    by_cases hk : k < caps.length
    · exact hc.2 _ (VL.getD_mem hk)
    · rw [getD_far (by omega)]; exact Int.le_refl _
  have vl : ∀ k, k < L.length → ∀ t : Nat, ((lw L U).getD k []).getD t 0 = mget m ((k : Int), (t : Int)) := fun k hk t => by
    rw [a3 k hk, hm.val]
    show _ = base L ((k : Int), (t : Int)) + cov U k t
    unfold base
    rw [if_pos ⟨by show (0 : Int) ≤ (k : Int); omega, by show (0 : Int) ≤ (t : Int); omega⟩]
    show _ = (L.getD (k : Int).toNat []).getD (t : Int).toNat 0 + _
    rw [Int.toNat_natCast, Int.toNat_natCast]
  constructor
  · intro hh k hk t ht
    rw [a2] at hk
    rw [vl k hk t]
    have := cp k
    by_cases z : mget m ((k : Int), (t : Int)) = 0
    · omega
    · obtain ⟨e, he, e1⟩ := mget_has m _ z
      have := hh e he
      rw [e1] at this
      simpa using this
  · intro hf e he
    have r := hm.rg e he
    have cq := cp e.1.1.toNat
    have hv := hm.val e.1
    by_cases t0 : 0 ≤ e.1.2
    · have hk : e.1.1.toNat < L.length := by omega
      have v := vl e.1.1.toNat hk e.1.2.toNat
      have ep : ((e.1.1.toNat : Int), (e.1.2.toNat : Int)) = e.1 := Prod.ext (by show ((e.1.1.toNat : Int)) = _; omega) (by show ((e.1.2.toNat : Int)) = _; omega)
      rw [ep] at v
      by_cases tl : e.1.2.toNat < ((lw L U).getD e.1.1.toNat []).length
      · have := hf e.1.1.toNat (by omega) e.1.2.toNat tl
        omega
      · rw [getD_far (by omega)] at v
        omega
    · unfold base at hv
      rw [if_neg (by omega)] at hv
      have : cov U e.1.1 e.1.2 = 0 := by
        unfold cov
        rw [List.filter_eq_nil_iff.mpr]
        · rfl
        · intro u hu2
          have := hu u hu2
          unfold u3Ok at this
          simp only [decide_eq_true_eq]
          omega
      omega
/-! ### below -/
def nab (l o : List Int) : Bool := (List.range l.length).all fun t => decide (l.getD t 0 ≤ o.getD t 0)
def mx (l : List Int) : Int := l.foldl max 0
theorem fold_max : ∀ (l : List Int) (a : Int), l.foldl max a ∈ a :: l ∧ ∀ y, y ∈ a :: l → y ≤ l.foldl max a
  | [], a => ⟨List.mem_cons_self, fun y h => by rw [List.mem_singleton.mp h]; exact Int.le_refl _⟩
  | b :: l, a => by
    obtain ⟨h1, h2⟩ := fold_max l (max a b)
    rw [List.foldl_cons]
    refine ⟨?_, fun y hy => ?_⟩
    · rcases List.mem_cons.mp h1 with e | e
      · rw [e]
        by_cases c : a ≤ b
        · rw [Int.max_eq_right c]; exact List.mem_cons_of_mem _ List.mem_cons_self
        · rw [Int.max_eq_left (by omega)]; exact List.mem_cons_self
      · exact List.mem_cons_of_mem _ (List.mem_cons_of_mem _ e)
    · have m := h2 _ List.mem_cons_self
      rcases List.mem_cons.mp hy with e | hy
      · rw [e]; omega
      · rcases List.mem_cons.mp hy with e | hy
        · rw [e]; omega
        · exact h2 y (List.mem_cons_of_mem _ hy)
theorem mx_uniq {l : List Int} {m : Int} (h1 : m ∈ 0 :: l) (h2 : ∀ y, y ∈ 0 :: l → y ≤ m) : m = mx l := by
  obtain ⟨g1, g2⟩ := fold_max l 0
  have a := h2 _ g1
  have b := g2 _ h1
  unfold mx
  omega
/-! ### boards, as plain data: capacities and lanes -/
abbrev Pl := List Int × List (List Int)
structure PlOk (p : Pl) : Prop where
  eq : p.1.length = p.2.length
  n : p.2.length ≤ 11
  L : LOk p.2
  c : ∀ x, x ∈ p.1 → 0 ≤ x ∧ x ≤ 32
  f : Fit p.1 p.2
theorem PlOk.cap {p : Pl} (h : PlOk p) : CapOk p.2.length p.1 := ⟨h.eq, fun c hc => (h.c c hc).1⟩
def later (p : Pl) : Pl := (p.1, p.2.map List.tail)
def plus (p : Pl) (U : List U3) : Pl := (p.1, lw p.2 U)
def cvB (p q : Pl) : Bool := decide (p.1 = q.1) && (List.range p.2.length).all fun k => nab (q.2.getD k []) (p.2.getD k [])
theorem nab_iff0 {l o : List Int} : nab l o = true ↔ ∀ t, t < l.length → l.getD t 0 ≤ o.getD t 0 := by
  unfold nab
  simp only [List.all_eq_true, List.mem_range, decide_eq_true_eq]
theorem nab_all {l o : List Int} (ho : ∀ t, 0 ≤ o.getD t 0) : nab l o = true ↔ ∀ t : Nat, l.getD t 0 ≤ o.getD t 0 := by
  rw [nab_iff0]
  refine ⟨fun h t => ?_, fun h t _ => h t⟩
  by_cases c : t < l.length
  · exact h t c
  · rw [getD_far (l := l) (by omega)]; exact ho t
theorem cvB_iff {p q : Pl} : cvB p q = true ↔ p.1 = q.1 ∧ ∀ k, k < p.2.length → nab (q.2.getD k []) (p.2.getD k []) = true := by
  unfold cvB
  simp only [Bool.and_eq_true, decide_eq_true_eq, List.all_eq_true, List.mem_range]
theorem getD_map_tail (R : List (List Int)) (k : Nat) : (R.map List.tail).getD k [] = (R.getD k []).tail := by
  rw [List.getD_eq_getElem?_getD, List.getElem?_map, List.getD_eq_getElem?_getD]
  cases R[k]? <;> rfl
theorem later_ok {p : Pl} (h : PlOk p) : PlOk (later p) := by
  refine ⟨by show p.1.length = (p.2.map List.tail).length; rw [List.length_map]; exact h.eq, by show (p.2.map List.tail).length ≤ 11; rw [List.length_map]; exact h.n, fun k hk => ?_, h.c, fun k hk t ht => ?_⟩
  · have hk2 : k < p.2.length := by have : (p.2.map List.tail).length = p.2.length := List.length_map _; exact this ▸ hk
    show LnOk ((p.2.map List.tail).getD k [])
    rw [getD_map_tail]
    have o := h.L k hk2
    exact ⟨can_tail o.can, fun t => by rw [getD_tail]; exact o.pos _, by rw [List.length_tail]; have := o.len; omega⟩
  · have hk2 : k < p.2.length := by have : (p.2.map List.tail).length = p.2.length := List.length_map _; exact this ▸ hk
    show ((p.2.map List.tail).getD k []).getD t 0 ≤ p.1.getD k 0
    have ht : t < ((p.2.map List.tail).getD k []).length := ht
    rw [getD_map_tail] at ht ⊢
    rw [List.length_tail] at ht
    rw [getD_tail]
    exact h.f k hk2 (t + 1) (by omega)
theorem plus_ok {p : Pl} {U : List U3} (h : PlOk p) (hu : UOk p.2.length U) (hf : fitB p.1 (lw p.2 U) = true) : PlOk (plus p U) := by
  obtain ⟨a1, a2, a3⟩ := lw_all U h.L hu
  exact ⟨h.eq.trans a2.symm, by show (lw p.2 U).length ≤ 11; rw [a2]; exact h.n, a1, h.c, fitB_iff.mp hf⟩
theorem cv_le {p q : Pl} {U : List U3} (hp : PlOk p) (hq : PlOk q) (hu : UOk p.2.length U) (hc : cvB p q = true) (k : Nat) (hk : k < p.2.length) (t : Nat) : ((lw q.2 U).getD k []).getD t 0 ≤ ((lw p.2 U).getD k []).getD t 0 := by
  obtain ⟨e, hn⟩ := cvB_iff.mp hc
  have el : p.2.length = q.2.length := by rw [← hp.eq, ← hq.eq, e]
  obtain ⟨a1, a2, a3⟩ := lw_all U hp.L hu
  obtain ⟨b1, b2, b3⟩ := lw_all U hq.L (el ▸ hu)
  rw [a3 k hk, b3 k (el ▸ hk)]
  have := (nab_all (hp.L k hk).pos).mp (hn k hk) t
  omega
theorem cv_fit {p q : Pl} {U : List U3} (hp : PlOk p) (hq : PlOk q) (hu : UOk p.2.length U) (hc : cvB p q = true) (hf : fitB p.1 (lw p.2 U) = true) : fitB q.1 (lw q.2 U) = true := by
  obtain ⟨e, hn⟩ := cvB_iff.mp hc
  have el : p.2.length = q.2.length := by rw [← hp.eq, ← hq.eq, e]
  obtain ⟨a1, a2, a3⟩ := lw_all U hp.L hu
  obtain ⟨b1, b2, b3⟩ := lw_all U hq.L (el ▸ hu)
  refine fitB_iff.mpr fun k hk t ht => ?_
  have hkp : k < p.2.length := by omega
  have le := cv_le hp hq hu hc k hkp t
  rw [← e]
  by_cases c : t < ((lw p.2 U).getD k []).length
  · have := fitB_iff.mp hf k (by omega) t c
    omega
  · rw [getD_far (l := (lw p.2 U).getD k []) (by omega)] at le
    have := hp.c _ (VL.getD_mem (d := 0) (show k < p.1.length by have := hp.eq; omega))
    omega
theorem cv_plus {p q : Pl} {U : List U3} (hp : PlOk p) (hq : PlOk q) (hu : UOk p.2.length U) (hc : cvB p q = true) : cvB (plus p U) (plus q U) = true := by
  obtain ⟨e, hn⟩ := cvB_iff.mp hc
  obtain ⟨a1, a2, a3⟩ := lw_all U hp.L hu
  refine cvB_iff.mpr ⟨e, fun k hk => ?_⟩
  have hk2 : k < p.2.length := by
    have : (plus p U).2.length = p.2.length := a2
    omega
  exact nab_iff0.mpr fun t _ => cv_le hp hq hu hc k hk2 t
theorem row60 {L : List (List Int)} (h : LOk L) : ∀ r, r ∈ L → r.length ≤ 60 := fun r hr => by
  obtain ⟨k, hk, e⟩ := List.getElem_of_mem hr
  have := (h k hk).len
  rw [List.getD_eq_getElem?_getD, List.getElem?_eq_getElem hk] at this
  have h2 : (L[k]).length ≤ 60 := this
  rw [e] at h2; exact h2
theorem LOk.of {L : List (List Int)} (h : ∀ r, r ∈ L → LnOk r) : LOk L := fun k hk => h _ (VL.getD_mem hk)
theorem LOk.mem {L : List (List Int)} (h : LOk L) : ∀ r, r ∈ L → LnOk r := fun r hr => by
  obtain ⟨k, hk, e⟩ := List.getElem_of_mem hr
  have := h k hk
  rw [List.getD_eq_getElem?_getD, List.getElem?_eq_getElem hk] at this
  have h2 : LnOk (L[k]) := this
  rw [e] at h2; exact h2
theorem getD_snoc {α : Type} (A : List α) (x d : α) (k : Nat) (hk : k < A.length + 1) : (A ++ [x]).getD k d = if k < A.length then A.getD k d else x := by
  by_cases c : k < A.length
  · rw [if_pos c, List.getD_eq_getElem?_getD, List.getElem?_append_left c, ← List.getD_eq_getElem?_getD]
  · rw [if_neg c, List.getD_eq_getElem?_getD, List.getElem?_append_right (by omega), show k - A.length = 0 by omega]; rfl
theorem ext_ok {caps : List Int} {Lo : List (List Int)} (h : PlOk (caps, Lo)) (n : Lo.length ≤ 10) : PlOk (caps ++ [1], Lo ++ [[]]) := by
  have e : caps.length = Lo.length := h.eq
  have l1 : (Lo ++ [([] : List Int)]).length = Lo.length + 1 := by simp
  have cc : ∀ k, k < Lo.length + 1 → LnOk ((Lo ++ [[]]).getD k []) ∧ ∀ t, t < ((Lo ++ [[]]).getD k []).length → ((Lo ++ [[]]).getD k []).getD t 0 ≤ (caps ++ [1]).getD k 0 := fun k hk => by
    rw [getD_snoc _ _ _ _ hk, getD_snoc _ _ _ _ (by omega)]
    by_cases c : k < Lo.length
    · rw [if_pos c, if_pos (by omega)]
      exact ⟨h.L k c, h.f k c⟩
    · rw [if_neg c]
      exact ⟨⟨can_nil, fun t => by simp, by simp⟩, fun t ht => absurd ht (by simp)⟩
  refine ⟨?_, ?_, fun k hk => ?_, fun x hx => ?_, fun k hk t ht => ?_⟩
  · show (caps ++ [1]).length = (Lo ++ [[]]).length
    rw [l1, List.length_append, e]; rfl
  · show (Lo ++ [[]]).length ≤ 11
    omega
  · exact (cc k (by have : k < (Lo ++ [[]]).length := hk; omega)).1
  · rcases List.mem_append.mp hx with q | q
    · exact h.c x q
    · rw [List.mem_singleton.mp q]; decide
  · exact (cc k (by have : k < (Lo ++ [[]]).length := hk; omega)).2 t ht
section
variable [KK : KLs]
def rI (r : List Int) : D := .tup (r.map .int)
theorem fix_rI : Fix rI := fix_int.tup
theorem ms_rI (q : Fl → Fl) (xs : List (List Int)) : D.maps q (xs.map rI) = xs.map rI := fix_rI.maps q xs
theorem as_rI_co (xs : List (List Int)) : D.alls coF (xs.map rI) = true := fix_rI.alls rfl xs
theorem as_rI_nb (xs : List (List Int)) : D.alls nbF (xs.map rI) = true := fix_rI.alls rfl xs
theorem as_rI_un (xs : List (List Int)) : D.alls unF (xs.map rI) = true := fix_rI.alls rfl xs
theorem as_rI_ow (xs : List (List Int)) : D.alls owF (xs.map rI) = true := fix_rI.alls rfl xs
theorem as_rI_ow2 (xs : List (List Int)) : D.alls ow2F (xs.map rI) = true := fix_rI.alls rfl xs
def uD (u : U3) : D := .tup [.int u.1, .int u.2.1, .int u.2.2]
theorem fix_uD : Fix uD := fun _ => rfl
theorem ms_uD (q : Fl → Fl) (xs : List U3) : D.maps q (xs.map uD) = xs.map uD := fix_uD.maps q xs
theorem as_uD_co (xs : List U3) : D.alls coF (xs.map uD) = true := fix_uD.alls rfl xs
theorem as_uD_nb (xs : List U3) : D.alls nbF (xs.map uD) = true := fix_uD.alls rfl xs
theorem as_uD_un (xs : List U3) : D.alls unF (xs.map uD) = true := fix_uD.alls rfl xs
theorem as_uD_ow (xs : List U3) : D.alls owF (xs.map uD) = true := fix_uD.alls rfl xs
theorem as_uD_ow2 (xs : List U3) : D.alls ow2F (xs.map uD) = true := fix_uD.alls rfl xs
def kkE (e : (Int × Int) × Int) : List Key := [.inl e.1.1, .inl e.1.2]
def vvE (e : (Int × Int) × Int) : D := .int e.2
theorem fix_vvE : Fix vvE := fun _ => rfl
theorem ms_vvE (q : Fl → Fl) (xs : MM) : D.maps q (xs.map vvE) = xs.map vvE := fix_vvE.maps q xs
theorem as_vvE_co (xs : MM) : D.alls coF (xs.map vvE) = true := fix_vvE.alls rfl xs
theorem as_vvE_nb (xs : MM) : D.alls nbF (xs.map vvE) = true := fix_vvE.alls rfl xs
theorem as_vvE_un (xs : MM) : D.alls unF (xs.map vvE) = true := fix_vvE.alls rfl xs
theorem as_vvE_ow (xs : MM) : D.alls owF (xs.map vvE) = true := fix_vvE.alls rfl xs
theorem as_vvE_ow2 (xs : MM) : D.alls ow2F (xs.map vvE) = true := fix_vvE.alls rfl xs
theorem tkey2 {a b : Int} : D.tkey (.nd .tup [.int a, .int b]) = some [.inl a, .inl b] := rfl
theorem kk_eq {e : (Int × Int) × Int} {a b : Int} : kkE e = [.inl a, .inl b] ↔ e.1 = (a, b) := by
  unfold kkE
  constructor
  · intro h
    injection h with h1 h2
    injection h2 with h2 _
    injection h1 with h1
    injection h2 with h2
    exact Prod.ext h1 h2
  · intro h; rw [h]
theorem kfind_m {a b : Int} : ∀ m : MM, kfind (m.map kkE) (m.map vvE) [.inl a, .inl b] = if (∃ e, e ∈ m ∧ e.1 = (a, b)) then some (.int (mget m (a, b))) else none
  | [] => by rw [if_neg (by rintro ⟨e, h, _⟩; cases h)]; rfl
  | e :: m => by
    rw [List.map_cons, List.map_cons, kfind, mget]
    by_cases c : e.1 = (a, b)
    · rw [if_pos (kk_eq.mpr c), if_pos ⟨e, List.mem_cons_self, c⟩, if_pos c]; rfl
    · rw [if_neg (fun z => c (kk_eq.mp z)), if_neg c, kfind_m m]
      by_cases z : ∃ e, e ∈ m ∧ e.1 = (a, b)
      · obtain ⟨d, hd, h⟩ := z
        rw [if_pos ⟨d, hd, h⟩, if_pos ⟨d, List.mem_cons_of_mem _ hd, h⟩]
      · rw [if_neg z, if_neg]
        rintro ⟨d, hd, h⟩
        rcases List.mem_cons.mp hd with rfl | hd
        · exact c h
        · exact z ⟨d, hd, h⟩
theorem kget_m {a b : Int} (m : MM) : (kfind (m.map kkE) (m.map vvE) [.inl a, .inl b]).getD (.int 0) = .int (mget m (a, b)) := by
  rw [kfind_m]
  by_cases z : ∃ e, e ∈ m ∧ e.1 = (a, b)
  · rw [if_pos z]; rfl
  · rw [if_neg z]
    by_cases c : mget m (a, b) = 0
    · rw [c]; rfl
    · exact absurd (mget_has m _ c) z
theorem kadd_m {a b : Int} (v : Int) : ∀ m : MM, kadd (m.map kkE) [.inl a, .inl b] = (mput m (a, b) v).map kkE
  | [] => rfl
  | e :: m => by
    rw [List.map_cons, kadd, mput]
    by_cases c : e.1 = (a, b)
    · rw [if_pos (kk_eq.mpr c), if_pos c, List.map_cons]
      have : kkE e = kkE ((a, b), v) := by unfold kkE; rw [c]
      rw [this]
    · rw [if_neg (fun z => c (kk_eq.mp z)), if_neg c, List.map_cons, kadd_m v m]
theorem kput_m {a b : Int} (v : Int) : ∀ m : MM, kput (m.map kkE) (m.map vvE) [.inl a, .inl b] (.int v) = (mput m (a, b) v).map vvE
  | [] => rfl
  | e :: m => by
    rw [List.map_cons, List.map_cons, kput, mput]
    by_cases c : e.1 = (a, b)
    · rw [if_pos (kk_eq.mpr c), if_pos c]; rfl
    · rw [if_neg (fun z => c (kk_eq.mp z)), if_neg c, List.map_cons, kput_m v m]
theorem n_tput {f : Fl} {a b v : Int} {m : MM} : D.nd (.dtt f (kadd (m.map kkE) [.inl a, .inl b])) (kput (m.map kkE) (m.map vvE) [.inl a, .inl b] (.int v)) = D.nd (.dtt f ((mput m (a, b) v).map kkE)) ((mput m (a, b) v).map vvE) := by
  rw [kput_m, kadd_m v]
theorem kk_nd {m : MM} (h : (m.map (·.1)).Nodup) : (m.map kkE).Nodup := by
  rw [List.nodup_iff_pairwise_ne, List.pairwise_map] at h ⊢
  exact h.imp fun {a b} h1 h2 => h1 (by have := kk_eq.mp (show kkE a = [.inl b.1.1, .inl b.1.2] from h2); exact this)
theorem ints_zero {l : List Int} : ints? (.int 0 :: l.map .int) = some (0 :: l) := VL.ints_map (0 :: l)
theorem cutL_to {α : Type} (xs : List α) {e : Int} (h : 0 ≤ e) : cutL xs none (some e) = xs.take e.toNat := by
  have a : HT.sIx xs.length xs.length (some e) = min e.toNat xs.length := if_neg (by omega)
  unfold cutL
  rw [a]
  show (xs.drop 0).take (min e.toNat xs.length - 0) = _
  rw [List.drop_zero, Nat.sub_zero]
  by_cases c : e.toNat ≤ xs.length
  · rw [Nat.min_eq_left c]
  · rw [Nat.min_eq_right (by omega), List.take_of_length_le (by omega), List.take_of_length_le (by omega)]
theorem cutL_from {α : Type} (xs : List α) {e : Int} (h : 0 ≤ e) : cutL xs (some e) none = xs.drop e.toNat := by
  have a : HT.sIx xs.length 0 (some e) = min e.toNat xs.length := if_neg (by omega)
  unfold cutL
  rw [a]
  show (xs.drop (min e.toNat xs.length)).take (xs.length - min e.toNat xs.length) = _
  rw [List.take_of_length_le (by rw [List.length_drop]; exact Nat.le_refl _)]
  by_cases c : e.toNat ≤ xs.length
  · rw [Nat.min_eq_left c]
  · rw [Nat.min_eq_right (by omega), List.drop_eq_nil_of_le (by omega), List.drop_eq_nil_of_le (by omega)]
theorem flat_one {x : D} (n : Nat) : (List.replicate n [x]).flatten = List.replicate n x := by
  induction n with
  | zero => rfl
  | succ n ih => rw [List.replicate_succ, List.flatten_cons, ih, List.replicate_succ]; rfl
theorem rep_int {n : Nat} : List.replicate n (D.int 0) = (List.replicate n (0 : Int)).map D.int := by rw [List.map_replicate]
theorem app_ints {xs ys : List Int} : xs.map D.int ++ ys.map D.int = (xs ++ ys).map D.int := by rw [List.map_append]
theorem getD_pad (l : List Int) (n t : Nat) : (l ++ List.replicate n 0).getD t 0 = l.getD t 0 := by
  by_cases h : t < l.length
  · rw [List.getD_eq_getElem?_getD, List.getElem?_append_left h, ← List.getD_eq_getElem?_getD]
  · rw [getD_far (l := l) (by omega), List.getD_eq_getElem?_getD, List.getElem?_append_right (by omega), List.getElem?_replicate]
    split <;> rfl
theorem getD_set1 (l : List Int) (j : Nat) (x : Int) (t : Nat) (hj : j < l.length) : (l.set j x).getD t 0 = if j = t then x else l.getD t 0 := by
  rw [List.getD_eq_getElem?_getD, List.getElem?_set]
  by_cases e : j = t
  · rw [if_pos e, if_pos e, if_pos hj]; rfl
  · rw [if_neg e, if_neg e, List.getD_eq_getElem?_getD]
theorem pys_rI : ∀ rs : List (List Int), D.pys (rs.map rI) = rs.map fun r => PyData.tuple (r.map .int)
  | [] => rfl
  | r :: rs => by
    rw [List.map_cons, D.pys, pys_rI rs, rI, D.py, pys_ints]; rfl
theorem plains_rI : ∀ rs : List (List Int), D.plains (rs.map rI) = true
  | [] => rfl
  | r :: rs => by
    rw [List.map_cons, D.plains, plains_rI rs, rI, D.plain, plains_ints]; rfl
theorem lay_rI : ∀ rs : List (List Int), PyData.canLayAll0 (rs.map fun r => PyData.tuple (r.map .int)) = true
  | [] => rfl
  | r :: rs => by
    rw [List.map_cons, PyData.canLayAll0, lay_rI rs, PyData.canLay0, lay_ints]; rfl
theorem deep_rI : ∀ rs : List (List Int), PyData.depthAll (rs.map fun r => PyData.tuple (r.map .int)) ≤ 3
  | [] => by rw [List.map_nil, PyData.depthAll]; omega
  | r :: rs => by
    have := deep_rI rs
    have h : PyData.depth (PyData.tuple (r.map .int)) ≤ 2 := by
      have := deep_ints r
      rw [PyData.depth]; omega
    rw [List.map_cons, PyData.depthAll]; omega
theorem okEq_rIl (f : Fl) (rs : List (List Int)) : D.okEq (.lst f (rs.map rI)) := ⟨by rw [D.plain, plains_rI], by
  rw [D.py, pys_rI]; · unfold SeqAt.shaped; rw [PyData.canLay0, lay_rI, PyData.depth, decide_eq_true (by have := deep_rI rs; omega)]; rfl
  · intro h; cases h⟩
theorem eqvAll_rI : ∀ rs : List (List Int), PyData.eqvAll (rs.map fun r => PyData.tuple (r.map .int)) (rs.map fun r => PyData.tuple (r.map .int)) = true
  | [] => rfl
  | r :: rs => by
    rw [List.map_cons, PyData.eqvAll, eqvAll_rI rs, PyData.eqv, eqvAll_ints]; simp
theorem eqv_rIl (f g : Fl) (rs : List (List Int)) : D.eqv (.lst f (rs.map rI)) (.lst g (rs.map rI)) = true := by
  unfold D.eqv; rw [D.py, D.py, pys_rI, PyData.eqv, eqvAll_rI] <;> (intro h; cases h)
def u3l (u : U3) : List Int := [u.1, u.2.1, u.2.2]
theorem uD_rI (U : List U3) : U.map uD = (U.map u3l).map rI := by rw [List.map_map]; rfl
theorem okEq_uD (f : Fl) (U : List U3) : D.okEq (.lst f (U.map uD)) := by rw [uD_rI]; exact okEq_rIl f _
theorem eqv_uD (f g : Fl) (U : List U3) : D.eqv (.lst f (U.map uD)) (.lst g (U.map uD)) = true := by rw [uD_rI]; exact eqv_rIl f g _
theorem okEq_bl (b : Bool) : D.okEq (.bl b) := by cases b <;> exact ⟨rfl, by decide +kernel⟩
theorem eqv_bl (b : Bool) : D.eqv (.bl b) (.bl b) = true := by cases b <;> decide +kernel
theorem app_one {xs : List Int} {x : Int} : xs.map D.int ++ [D.int x] = (xs ++ [x]).map D.int := by rw [List.map_append]; rfl
def kL (f : Fl) (k : List Int) : D := .lst f (k.map .int)
theorem kL_map (g : Fl → Fl) (f : Fl) (k : List Int) : (kL f k).map g = kL (g f) k := by
  show D.nd (.lst (g f)) (D.maps g (k.map .int)) = _
  rw [maps_ints]; rfl
theorem ms_kL (g : Fl → Fl) (f : Fl) : ∀ K : List (List Int), D.maps g (K.map (kL f)) = K.map (kL (g f))
  | [] => rfl
  | k :: K => by rw [List.map_cons, D.maps, ms_kL g f K, kL_map]; rfl
theorem as_kL {q : Fl → Bool} {f : Fl} (h : q f.ls = true) : ∀ K : List (List Int), D.alls q (K.map (kL f)) = true
  | [] => rfl
  | k :: K => by
    rw [List.map_cons, D.alls, as_kL h K]
    show ((q f.ls && D.alls q (k.map .int)) && true) = true
    rw [h, alls_ints]; rfl
theorem as_kL1 (K : List (List Int)) : D.alls nbF (K.map (kL .o)) = true := as_kL rfl K
theorem as_kLa {q : Fl → Bool} (h : q .a = true) (K : List (List Int)) : D.alls q (K.map (kL .a)) = true := as_kL h K
theorem alls_cst (q : Fl → Bool) : ∀ vs : List V, D.alls q (vs.map .cst) = true
  | [] => rfl
  | v :: vs => by rw [List.map_cons, D.alls, alls_cst q vs]; rfl
def plD (p : Pl) : D := .tup [rI p.1, .tup (p.2.map rI)]
theorem fix_plD : Fix plD := fun p => by
  show (puF .i && ((rI p.1).pure && ((D.tup (p.2.map rI)).pure && true))) = true
  rw [fix_rI p.1, fix_rI.tup p.2]; rfl
def boD (C : Addr) (p : Pl) : D := .obj C ["capacities", "lanes"] [rI p.1, .tup (p.2.map rI)]
theorem fix_boD (C : Addr) : Fix (boD C) := fun p => by
  show (puF .i && ((rI p.1).pure && ((D.tup (p.2.map rI)).pure && true))) = true
  rw [fix_rI p.1, fix_rI.tup p.2]; rfl
theorem ms_plD (q : Fl → Fl) (xs : List Pl) : D.maps q (xs.map plD) = xs.map plD := fix_plD.maps q xs
theorem as_plD_co (xs : List Pl) : D.alls coF (xs.map plD) = true := fix_plD.alls rfl xs
theorem as_plD_nb (xs : List Pl) : D.alls nbF (xs.map plD) = true := fix_plD.alls rfl xs
theorem as_plD_un (xs : List Pl) : D.alls unF (xs.map plD) = true := fix_plD.alls rfl xs
theorem as_plD_ow (xs : List Pl) : D.alls owF (xs.map plD) = true := fix_plD.alls rfl xs
theorem as_plD_ow2 (xs : List Pl) : D.alls ow2F (xs.map plD) = true := fix_plD.alls rfl xs
theorem ms_boD (C : Addr) (q : Fl → Fl) (xs : List Pl) : D.maps q (xs.map (boD C)) = xs.map (boD C) := (fix_boD C).maps q xs
theorem as_boD_co (C : Addr) (xs : List Pl) : D.alls coF (xs.map (boD C)) = true := (fix_boD C).alls rfl xs
theorem as_boD_nb (C : Addr) (xs : List Pl) : D.alls nbF (xs.map (boD C)) = true := (fix_boD C).alls rfl xs
theorem as_boD_un (C : Addr) (xs : List Pl) : D.alls unF (xs.map (boD C)) = true := (fix_boD C).alls rfl xs
theorem as_boD_ow (C : Addr) (xs : List Pl) : D.alls owF (xs.map (boD C)) = true := (fix_boD C).alls rfl xs
theorem as_boD_ow2 (C : Addr) (xs : List Pl) : D.alls ow2F (xs.map (boD C)) = true := (fix_boD C).alls rfl xs
theorem nm_cov : (¬ ("covers" : Str) ∈ (["capacities", "lanes"] : List Str)) = True := eq_true (by decide +kernel)
theorem nm_fit : (¬ ("fits" : Str) ∈ (["capacities", "lanes"] : List Str)) = True := eq_true (by decide +kernel)
theorem nm_lat : (¬ ("later" : Str) ∈ (["capacities", "lanes"] : List Str)) = True := eq_true (by decide +kernel)
local macro_rules | `(tactic| walk_at "w1") => `(tactic| first | simp (config := { dsimp := false, implicitDefEqProofs := false }) only [↓n_seq, ↓n_if, ↓n_ifE, ↓n_call, ↓n_callW, ↓n_make, ↓n_make0, ↓n_andT, ↓n_orT, ↓n_and, ↓n_or, ↓n_lc, ↓n_maxL, ↓n_ixT, ↓n_ixL, sel_t, sel_f, ixQ_s, ↓n_dget, ↓n_dgetK, ↓n_dgetO, ↓n_dput, ↓n_dputS, ↓n_dputK, kput_str, kadd_str, kfind_str, key_str, key_int, rdF_o, rdF_l, rdF_a, rdF_b, vDisp, Fl.ls, D.alls, dInN, dTuple, dSum, vSl, vPt, vNo, vApp, vSetIx, vRetN, VL.ints_map, vAsgL, vAsg, vB, vCons, vNil, vC, vVar, vOp, vUn, vTest, vRet, vRetV, vNext, vNever, vTup, vLst, vNot, vNotT, vFld, dFld, vIt, vRng1, vRng2, vFor, vLstRg2, vSetF, vgName, vgTup, vgCons, vgNil, wipeD, dMax2, dMin2, dLen, dI, dI0, dInt1, dAdd, dNeg, dEq, dEqN, dList, dIsi, startD, vAsgG, initEnd, List.map_cons, List.map_nil, List.cons_append, List.nil_append, List.append_nil, List.length_cons, List.length_nil, List.replicate, List.getElem?_cons_zero, List.getElem?_cons_succ, List.set_cons_zero, List.set_cons_succ, List.zip_cons_cons, List.zip_nil_right, List.lookup_cons, List.lookup_nil, D.map, D.maps, D.all, D.ty, Hd.map, Hd.fl, Fl.sl, fBor, fLoc, fArg, nbF, owF, puF, coF, riF, nsF, D.bor, D.loc, D.arg, D.nb, D.ow, maps_ints, alls_ints, at0, at1, at2, at3, at4, at5, beq_self_eq_true, str_beq, str_eqv, String.reduceEq, Nat.reduceAdd, Nat.reduceLeDiff, Int.cast_ofNat_Int, eq_self, List.all_cons, List.all_nil, ty_int_int, ty_int_bool, ty_list_list, ty_tuple_tuple, ty_non_tuple, decide_true, decide_false, true_and, and_true, Bool.true_and, Bool.and_true, if_true, if_false, Bool.not_true, Bool.not_false, Bool.false_eq_true, Option.some.injEq, reduceCtorEq, alls_app, maps_app, List.length_map, List.length_append, List.length_set, upTo_len, rngI_len, ty_bool_bool, ty_bool_int, Option.isSome_some, Option.isSome_none, ↓n_isN, isNQ_non, isNQ_int, isNQ_bl, isNQ_str, isNQ_nd, ow2F, fxF, D.ow2, vClear, vAppIx, ms_rI, as_rI_co, as_rI_nb, as_rI_un, as_rI_ow, as_rI_ow2, rI, ms_uD, as_uD_co, as_uD_nb, as_uD_un, as_uD_ow, as_uD_ow2, uD, ms_vvE, as_vvE_co, as_vvE_nb, as_vvE_un, as_vvE_ow, as_vvE_ow2, tkey2, kget_m, n_tput, ints_zero, okEq_bl, eqv_bl, okEq_uD, eqv_uD, flat_one, List.length_replicate, rep_int, app_ints, app_one, cut_emb, vTGet, vTGet2, vTPut, vTct0, vExt, vLockT, dRep, dMaxT, vFrz, unF, alls_upTo, maps_upTo, ↓n_isN, vMeth, vAddO, dIsiO, dLenO, vItO, dListO, okY, D.kn, dIsB, vRetN, ms_plD, as_plD_co, as_plD_nb, as_plD_un, as_plD_ow, as_plD_ow2, ms_boD, as_boD_co, as_boD_nb, as_boD_un, as_boD_ow, as_boD_ow2, nm_cov, nm_fit, nm_lat, ms_kL, as_kLa, as_kL1, kL] | with_reducible refine hold_i ?_ | with_reducible refine stp_i ?_)
local macro_rules | `(tactic| walk_at "vl") => `(tactic| repeat walk_at "w1")
local macro_rules | `(tactic| walk_at "st") => `(tactic| repeat (first | simp (config := { dsimp := false, implicitDefEqProofs := false }) only [↓n_seq, ↓n_if, ↓n_ifE, ↓n_call, ↓n_callW, ↓n_make, ↓n_make0, ↓n_andT, ↓n_orT, ↓n_and, ↓n_or, ↓n_lc, ↓n_maxL, ↓n_ixT, ↓n_ixL, sel_t, sel_f, ixQ_s, ↓n_dget, ↓n_dgetK, ↓n_dgetO, ↓n_dput, ↓n_dputS, ↓n_dputK, kput_str, kadd_str, kfind_str, key_str, key_int, rdF_o, rdF_l, rdF_a, rdF_b, vDisp, Fl.ls, D.alls, dInN, dTuple, dSum, vSl, vPt, vNo, vApp, vSetIx, vRetN, VL.ints_map, vAsgL, vAsg, vB, vCons, vNil, vC, vVar, vOp, vUn, vTest, vRet, vRetV, vNext, vNever, vTup, vLst, vNot, vNotT, vFld, dFld, vIt, vRng1, vRng2, vFor, vLstRg2, vSetF, vgName, vgTup, vgCons, vgNil, wipeD, dMax2, dMin2, dLen, dI, dI0, dInt1, dAdd, dNeg, dEq, dEqN, dList, dIsi, startD, vAsgG, initEnd, List.map_cons, List.map_nil, List.cons_append, List.nil_append, List.append_nil, List.length_cons, List.length_nil, List.replicate, List.getElem?_cons_zero, List.getElem?_cons_succ, List.set_cons_zero, List.set_cons_succ, List.zip_cons_cons, List.zip_nil_right, List.lookup_cons, List.lookup_nil, D.map, D.maps, D.all, D.ty, Hd.map, Hd.fl, Fl.sl, fBor, fLoc, fArg, nbF, owF, puF, coF, riF, nsF, D.bor, D.loc, D.arg, D.nb, D.ow, maps_ints, alls_ints, at0, at1, at2, at3, at4, at5, beq_self_eq_true, str_beq, str_eqv, String.reduceEq, Nat.reduceAdd, Nat.reduceLeDiff, Int.cast_ofNat_Int, eq_self, List.all_cons, List.all_nil, ty_int_int, ty_int_bool, ty_list_list, ty_tuple_tuple, ty_non_tuple, decide_true, decide_false, true_and, and_true, Bool.true_and, Bool.and_true, if_true, if_false, Bool.not_true, Bool.not_false, Bool.false_eq_true, Option.some.injEq, reduceCtorEq, alls_app, maps_app, List.length_map, List.length_append, List.length_set, upTo_len, rngI_len, ty_bool_bool, ty_bool_int, Option.isSome_some, Option.isSome_none, ↓n_isN, isNQ_non, isNQ_int, isNQ_bl, isNQ_str, isNQ_nd, ow2F, fxF, D.ow2, vClear, vAppIx, ms_rI, as_rI_co, as_rI_nb, as_rI_un, as_rI_ow, as_rI_ow2, rI, ms_uD, as_uD_co, as_uD_nb, as_uD_un, as_uD_ow, as_uD_ow2, uD, ms_vvE, as_vvE_co, as_vvE_nb, as_vvE_un, as_vvE_ow, as_vvE_ow2, tkey2, kget_m, n_tput, ints_zero, okEq_bl, eqv_bl, okEq_uD, eqv_uD, flat_one, List.length_replicate, rep_int, app_ints, app_one, cut_emb, vTGet, vTGet2, vTPut, vTct0, vExt, vLockT, dRep, dMaxT, vFrz, unF, alls_upTo, maps_upTo, ↓n_isN, vMeth, vAddO, dIsiO, dLenO, vItO, dListO, okY, D.kn, dIsB, vRetN, ms_plD, as_plD_co, as_plD_nb, as_plD_un, as_plD_ow, as_plD_ow2, ms_boD, as_boD_co, as_boD_nb, as_boD_un, as_boD_ow, as_boD_ow2, nm_cov, nm_fit, nm_lat, ms_kL, as_kLa, as_kL1, kL] | with_reducible refine hold_i ?_))
local macro_rules | `(tactic| walk_at "om") => `(tactic| (first | omega | exact ⟨by omega, by omega⟩ | exact Or.inl ⟨by omega, by omega⟩ | exact Or.inr ⟨by omega, by omega⟩ | (simp only [List.length_map, List.length_append, List.length_cons, List.length_nil, upTo_len, rngI_len, List.length_set]; omega)))
local macro_rules | `(tactic| walk_at "g1") => `(tactic| first | walk_at "w1" | rw [at_embD (0 : Int) (by omega) (by omega)] | rw [at_embD ([] : List Int) (by omega) (by omega)] | rw [at_embD ((0, 0, 0) : U3) (by omega) (by omega)] | rw [at_embD (([], []) : Pl) (by omega) (by omega)] | with_reducible refine sel_d (fun _ => ?_) (fun _ => ?_) | with_reducible refine sel_b (fun _ => ?_) (fun _ => ?_) | with_reducible refine draw_ok (by assumption) (by walk_at "om") (by walk_at "om") (by walk_at "om") fun _ _ _ => ?_ | ((with_reducible refine And.intro ?_ ?_); focus walk_at "om") | fail)
local macro_rules | `(tactic| walk_at "go") => `(tactic| repeat' walk_at "g1")
variable (C_Board : Addr)
include C_Board
/-! ### the walks -/
abbrev sc (ns : List Int) : D := .lst .s (ns.map .int)
abbrev P_law_draw : PV := DrawP
def P_law_is_int : PV := fun ds Q _ => ∃ i, ds = [.int i] ∧ Q (.bl true)
def P_law_is_row : PV := fun ds Q _ => ∃ l : List Int, ds = [rI l, rI l] ∧ l.length ≤ 1000 ∧ Q (.bl true)
def P_law_are_rows : PV := fun ds Q _ => ∃ R : List (List Int), ds = [.tup (R.map rI), .tup (R.map rI)] ∧ R.length ≤ 1000 ∧ (∀ r, r ∈ R → r.length ≤ 1000) ∧ Q (.bl true)
def P_law_cut : PV := fun ds Q _ => ∃ (r : List Int) (d : D), ds = [d] ∧ (d = .lst .a (r.map .int) ∨ d = .tup (r.map .int)) ∧ r.length ≤ 1000 ∧ ∀ c, Can c → (∀ t, c.getD t 0 = r.getD t 0) → c.length ≤ r.length → Q (rI c)
def P_raised : PV := fun ds Q _ => ∃ (l : List Int) (s e : Int), ds = [rI l, .int s, .int e] ∧ l.length ≤ 60 ∧ 0 ≤ s ∧ s < e ∧ e ≤ 60 ∧ Q (rI (rais l s e))
def P_lanes_with : PV := fun ds Q _ => ∃ (L : List (List Int)) (U : List U3) (d : D), ds = [.tup (L.map rI), d] ∧ (d = .lst .a (U.map uD) ∨ d = .tup (U.map uD)) ∧ LOk L ∧ UOk L.length U ∧ L.length ≤ 100 ∧ U.length ≤ 100 ∧ Q (.tup ((lw L U).map rI))
theorem m_law_draw : ∀ ds Q Ed, ds.length = 3 → P_law_draw ds Q Ed → t_law_draw { nx := fun _ => Q .non, rt := Q } (startD 8 ds) := m_draw
theorem m_law_is_int : ∀ ds Q Ed, ds.length = 1 → P_law_is_int ds Q Ed → t_law_is_int { nx := fun _ => Q .non, rt := Q } (startD 1 ds) := by
  rintro ds Q Ed - ⟨i, rfl, hq⟩
  unfold t_law_is_int
  walk_at "go"
  exact hq
theorem m_law_is_row : ∀ ds Q Ed, ds.length = 2 → P_law_is_row ds Q Ed → t_law_is_row P_law_is_int { nx := fun _ => Q .non, rt := Q } (startD 3 ds) := by
  rintro ds Q Ed - ⟨l, rfl, hl, hq⟩
  unfold t_law_is_row
  simp only [rI]
  walk_at "go"
  refine forL_range (fun i ρ => ∃ y, ρ = [some (.tup (l.map .int)), some (.tup (l.map .int)), y]) ⟨_, rfl⟩ ?_ ?_
  · rintro i hi ρ ⟨y, rfl⟩ N hN
    have hi2 : i < l.length := by omega
    walk_at "go"
    refine ⟨_, rfl, ?_⟩
    walk_at "go"
    exact hN _ ⟨_, rfl⟩
  · rintro ρ ⟨y, rfl⟩
    walk_at "go"
    exact hq
theorem m_law_are_rows : ∀ ds Q Ed, ds.length = 2 → P_law_are_rows ds Q Ed → t_law_are_rows P_law_is_row { nx := fun _ => Q .non, rt := Q } (startD 3 ds) := by
  rintro ds Q Ed - ⟨R, rfl, hl, hr, hq⟩
  unfold t_law_are_rows
  walk_at "go"
  refine forL_range (fun i ρ => ∃ y, ρ = [some (.tup (R.map rI)), some (.tup (R.map rI)), y]) ⟨_, rfl⟩ ?_ ?_
  · rintro i hi ρ ⟨y, rfl⟩ N hN
    have hi2 : i < R.length := by omega
    have e0 : (0 + (i : Int)).toNat = i := by omega
    walk_at "go"
    refine ⟨_, rfl, hr _ (VL.getD_mem (by omega)), ?_⟩
    walk_at "go"
    exact hN _ ⟨_, rfl⟩
  · rintro ρ ⟨y, rfl⟩
    walk_at "go"
    exact hq
omit C_Board in
theorem m_cut_l {r : List Int} {Q : D → Prop} (hl : r.length ≤ 1000) (hq : ∀ c, Can c → (∀ t, c.getD t 0 = r.getD t 0) → c.length ≤ r.length → Q (rI c)) : t_law_cut { nx := fun _ => Q .non, rt := Q } (startD 3 [.lst .a (r.map .int)]) := by
  unfold t_law_cut
  walk_at "go"
  refine forL_range (fun i ρ => ∃ (e : Nat) (y : Option D), e ≤ r.length ∧ (∀ t, e ≤ t → r.getD t 0 = 0) ∧ (e + i = r.length ∨ e = 0 ∨ r.getD (e - 1) 0 ≠ 0) ∧ ρ = [some (.lst .a (r.map .int)), some (.int e), y]) ⟨r.length, none, Nat.le_refl _, fun t h => getD_far h, .inl rfl, rfl⟩ ?_ ?_
  · rintro i hi ρ ⟨e, y, he, hz, hc, rfl⟩ N hN
    have hi2 : i < r.length := by omega
    walk_at "st"
    refine sel_d (fun h1 => ?_) (fun h1 => ?_)
    · have e1 : ((e : Int) - 1).toNat = e - 1 := by omega
      walk_at "go"
      · rename_i h2
        rw [e1] at h2
        refine hN _ ⟨e - 1, some (.int (0 + (i : Int))), by omega, fun t ht => ?_, ?_, ?_⟩
        · by_cases c : t = e - 1
          · rw [c]; exact h2
          · exact hz t (by omega)
        · rcases hc with h | h | h
          · left; omega
          · omega
          · exact absurd h2 h
        · rw [show ((e - 1 : Nat) : Int) = (e : Int) - 1 by omega]
      · rename_i h2
        rw [e1] at h2
        exact hN _ ⟨e, _, he, hz, .inr (.inr h2), rfl⟩
    · walk_at "go"
      exact hN _ ⟨e, _, he, hz, by omega, rfl⟩
  · rintro ρ ⟨e, y, he, hz, hc, rfl⟩
    walk_at "go"
    rw [cutL_to _ (by omega), Int.toNat_natCast]
    refine hq (r.take e) (fun n hn => ?_) (fun t => ?_) (by rw [List.length_take]; omega)
    · rw [List.length_take] at hn
      rw [getD_take, if_pos (by omega)]
      rcases hc with h | h | h
      · omega
      · omega
      · rw [show n = e - 1 by omega]; exact h
    · rw [getD_take]
      split
      · rfl
      · rw [hz t (by omega)]
omit C_Board in
theorem m_cut_t {r : List Int} {Q : D → Prop} (hl : r.length ≤ 1000) (hq : ∀ c, Can c → (∀ t, c.getD t 0 = r.getD t 0) → c.length ≤ r.length → Q (rI c)) : t_law_cut { nx := fun _ => Q .non, rt := Q } (startD 3 [.tup (r.map .int)]) := by
  unfold t_law_cut
  walk_at "go"
  refine forL_range (fun i ρ => ∃ (e : Nat) (y : Option D), e ≤ r.length ∧ (∀ t, e ≤ t → r.getD t 0 = 0) ∧ (e + i = r.length ∨ e = 0 ∨ r.getD (e - 1) 0 ≠ 0) ∧ ρ = [some (.tup (r.map .int)), some (.int e), y]) ⟨r.length, none, Nat.le_refl _, fun t h => getD_far h, .inl rfl, rfl⟩ ?_ ?_
  · rintro i hi ρ ⟨e, y, he, hz, hc, rfl⟩ N hN
    have hi2 : i < r.length := by omega
    walk_at "st"
    refine sel_d (fun h1 => ?_) (fun h1 => ?_)
    · have e1 : ((e : Int) - 1).toNat = e - 1 := by omega
      walk_at "go"
      · rename_i h2
        rw [e1] at h2
        refine hN _ ⟨e - 1, some (.int (0 + (i : Int))), by omega, fun t ht => ?_, ?_, ?_⟩
        · by_cases c : t = e - 1
          · rw [c]; exact h2
          · exact hz t (by omega)
        · rcases hc with h | h | h
          · left; omega
          · omega
          · exact absurd h2 h
        · rw [show ((e - 1 : Nat) : Int) = (e : Int) - 1 by omega]
      · rename_i h2
        rw [e1] at h2
        exact hN _ ⟨e, _, he, hz, .inr (.inr h2), rfl⟩
    · walk_at "go"
      exact hN _ ⟨e, _, he, hz, by omega, rfl⟩
  · rintro ρ ⟨e, y, he, hz, hc, rfl⟩
    walk_at "go"
    rw [cutL_to _ (by omega), Int.toNat_natCast]
    refine hq (r.take e) (fun n hn => ?_) (fun t => ?_) (by rw [List.length_take]; omega)
    · rw [List.length_take] at hn
      rw [getD_take, if_pos (by omega)]
      rcases hc with h | h | h
      · omega
      · omega
      · rw [show n = e - 1 by omega]; exact h
    · rw [getD_take]
      split
      · rfl
      · rw [hz t (by omega)]
theorem m_law_cut : ∀ ds Q Ed, ds.length = 1 → P_law_cut ds Q Ed → t_law_cut { nx := fun _ => Q .non, rt := Q } (startD 3 ds) := by
  rintro ds Q Ed - ⟨r, d, rfl, rfl | rfl, hl, hq⟩
  · exact m_cut_l hl hq
  · exact m_cut_t hl hq
theorem m_raised : ∀ ds Q Ed, ds.length = 3 → P_raised ds Q Ed → t_raised { nx := fun _ => Q .non, rt := Q } (startD 5 ds) := by
  rintro ds Q Ed - ⟨l, s, e, rfl, hl, s0, se, e6, hq⟩
  unfold t_raised
  simp only [rI]
  walk_at "go"
  · refine forL_range (fun i ρ => ∃ (w : List Int) (y : Option D), w.length = max l.length e.toNat ∧ (∀ t : Nat, w.getD t 0 = l.getD t 0 + if s ≤ (t : Int) ∧ (t : Int) < s + (i : Int) then 1 else 0) ∧ ρ = [some (.tup (l.map .int)), some (.int s), some (.int e), some (.lst .o (w.map .int)), y]) ⟨l ++ List.replicate (e - (l.length : Int)).toNat 0, none, by rw [List.length_append, List.length_replicate]; omega, fun t => by rw [getD_pad, if_neg (by omega)]; omega, rfl⟩ ?_ ?_
    · rintro i hi ρ ⟨w, y, wl, wv, rfl⟩ N hN
      have e0 : (s + (i : Int)).toNat = s.toNat + i := by omega
      walk_at "go"
      refine ⟨s.toNat + i, by rw [ixN_pos (by omega) (by omega), e0], ?_⟩
      rw [← List.map_set]
      refine hN _ ⟨w.set (s.toNat + i) _, _, by rw [List.length_set]; exact wl, fun t => ?_, rfl⟩
      rw [getD_set1 _ _ _ _ (by omega)]
      by_cases c : s.toNat + i = t
      · subst c
        rw [if_pos rfl, e0, wv, if_neg (by omega), if_pos (by omega)]; omega
      · rw [if_neg c, wv]
        by_cases c2 : s ≤ (t : Int) ∧ (t : Int) < s + (i : Int)
        · rw [if_pos c2, if_pos (by omega)]
        · rw [if_neg c2, if_neg (by omega)]
    · rintro ρ ⟨w, y, wl, wv, rfl⟩
      walk_at "go"
      rw [show w = rais l s e from ext_getD (by rw [wl, rais_len]) fun t => by
        rw [wv, rais_getD]
        by_cases c : s ≤ (t : Int) ∧ (t : Int) < e
        · rw [if_pos c, if_pos (by omega)]
        · rw [if_neg c, if_neg (by omega)]]
      exact hq
  · exact absurd se (by assumption)
omit C_Board KK in
theorem lw_snoc (L : List (List Int)) (U : List U3) (u : U3) : lw L (U ++ [u]) = step (lw L U) u := by unfold lw; rw [List.foldl_append]; rfl
omit C_Board in
theorem m_lw_l {L : List (List Int)} {U : List U3} {Q : D → Prop} (h : LOk L) (hu : UOk L.length U) (l1 : L.length ≤ 100) (l2 : U.length ≤ 100) (hq : Q (.tup ((lw L U).map rI))) : t_lanes_with P_raised { nx := fun _ => Q .non, rt := Q } (startD 7 [.tup (L.map rI), .lst .a (U.map uD)]) := by
  unfold t_lanes_with
  walk_at "go"
  refine lc_emb1 rI rI (fun x hx N hN => ?_) ?_
  · simp only [rI]
    walk_at "go"
    exact hN
  walk_at "go"
  refine forL_rest uD (fun rest ρ => ∃ (done : List U3) (y3 y4 y5 : Option D), done ++ rest = U ∧ ρ = [some (.tup (L.map rI)), some (.lst .a (U.map uD)), some (.lst .o ((lw L done).map rI)), y3, y4, y5, none]) U ⟨[], none, none, none, rfl, rfl⟩ ?_ ?_
  · rintro u rest ρ ⟨done, y3, y4, y5, hd, rfl⟩ N hN
    have hdu : UOk L.length done := fun w hw => hu w (by rw [← hd]; exact List.mem_append.mpr (.inl hw))
    have u0 := hu u (by rw [← hd]; exact List.mem_append.mpr (.inr List.mem_cons_self))
    obtain ⟨a1, a2, a3⟩ := lw_all done h hdu
    unfold u3Ok at u0
    have k0 : u.1.toNat < (lw L done).length := by omega
    simp only [uD]
    walk_at "go"
    refine ⟨_, _, _, rfl, (a1 _ k0).len, u0.2.2.1, u0.2.2.2.1, u0.2.2.2.2, ?_⟩
    walk_at "go"
    refine ⟨u.1.toNat, by rw [ixN_pos (by omega) (by omega)], ?_⟩
    refine hN _ ⟨done ++ [u], some (.int u.1), some (.int u.2.1), some (.int u.2.2), by rw [List.append_assoc]; exact hd, ?_⟩
    rw [lw_snoc]
    unfold step
    rw [List.map_set]
    rfl
  · rintro ρ ⟨done, y3, y4, y5, hd, rfl⟩
    rw [List.append_nil] at hd
    subst hd
    walk_at "go"
    exact hq
omit C_Board in
theorem m_lw_t {L : List (List Int)} {U : List U3} {Q : D → Prop} (h : LOk L) (hu : UOk L.length U) (l1 : L.length ≤ 100) (l2 : U.length ≤ 100) (hq : Q (.tup ((lw L U).map rI))) : t_lanes_with P_raised { nx := fun _ => Q .non, rt := Q } (startD 7 [.tup (L.map rI), .tup (U.map uD)]) := by
  unfold t_lanes_with
  walk_at "go"
  refine lc_emb1 rI rI (fun x hx N hN => ?_) ?_
  · simp only [rI]
    walk_at "go"
    exact hN
  walk_at "go"
  refine forL_rest uD (fun rest ρ => ∃ (done : List U3) (y3 y4 y5 : Option D), done ++ rest = U ∧ ρ = [some (.tup (L.map rI)), some (.tup (U.map uD)), some (.lst .o ((lw L done).map rI)), y3, y4, y5, none]) U ⟨[], none, none, none, rfl, rfl⟩ ?_ ?_
  · rintro u rest ρ ⟨done, y3, y4, y5, hd, rfl⟩ N hN
    have hdu : UOk L.length done := fun w hw => hu w (by rw [← hd]; exact List.mem_append.mpr (.inl hw))
    have u0 := hu u (by rw [← hd]; exact List.mem_append.mpr (.inr List.mem_cons_self))
    obtain ⟨a1, a2, a3⟩ := lw_all done h hdu
    unfold u3Ok at u0
    have k0 : u.1.toNat < (lw L done).length := by omega
    simp only [uD]
    walk_at "go"
    refine ⟨_, _, _, rfl, (a1 _ k0).len, u0.2.2.1, u0.2.2.2.1, u0.2.2.2.2, ?_⟩
    walk_at "go"
    refine ⟨u.1.toNat, by rw [ixN_pos (by omega) (by omega)], ?_⟩
    refine hN _ ⟨done ++ [u], some (.int u.1), some (.int u.2.1), some (.int u.2.2), by rw [List.append_assoc]; exact hd, ?_⟩
    rw [lw_snoc]
    unfold step
    rw [List.map_set]
    rfl
  · rintro ρ ⟨done, y3, y4, y5, hd, rfl⟩
    rw [List.append_nil] at hd
    subst hd
    walk_at "go"
    exact hq
theorem m_lanes_with : ∀ ds Q Ed, ds.length = 2 → P_lanes_with ds Q Ed → t_lanes_with P_raised { nx := fun _ => Q .non, rt := Q } (startD 7 ds) := by
  rintro ds Q Ed - ⟨L, U, d, rfl, rfl | rfl, h, hu, l1, l2, hq⟩
  · exact m_lw_l h hu l1 l2 hq
  · exact m_lw_t h hu l1 l2 hq
omit C_Board KK in
/-- what a table of counts is while it is made -/
structure Cn (n b : Nat) (f : Int × Int → Int) (m : MM) : Prop where
  nd : (m.map (·.1)).Nodup
  val : ∀ p, mget m p = f p
  rg : ∀ e, e ∈ m → 0 ≤ e.1.1 ∧ e.1.1 < n
  len : m.length ≤ b
omit C_Board KK in
theorem Cn.put {n b : Nat} {f g : Int × Int → Int} {m : MM} (h : Cn n b f m) {k t v : Int} (k0 : 0 ≤ k) (k1 : k < n) (hg : ∀ q, g q = if (k, t) = q then v else f q) : Cn n (b + 1) g (mput m (k, t) v) :=
  ⟨mput_nd _ _ _ h.nd, fun p => by rw [mget_put, hg, h.val], fun e he => (mput_mem _ _ _ _ he).elim (fun z => by rw [z]; exact ⟨k0, k1⟩) (h.rg e), Nat.le_trans (mput_len _ _ _) (Nat.succ_le_succ h.len)⟩
omit C_Board KK in
theorem Cn.cg {n b c : Nat} {f g : Int × Int → Int} {m : MM} (h : Cn n b f m) (hg : ∀ q, g q = f q) (bc : b ≤ c) : Cn n c g m := ⟨h.nd, fun p => (h.val p).trans (hg p).symm, h.rg, Nat.le_trans h.len bc⟩
omit C_Board KK in
theorem base_at (L : List (List Int)) (k t : Nat) : base L ((k : Int), (t : Int)) = (L.getD k []).getD t 0 := by
  unfold base
  rw [if_pos ⟨by show (0 : Int) ≤ (k : Int); omega, by show (0 : Int) ≤ (t : Int); omega⟩]
  show (L.getD (k : Int).toNat []).getD (t : Int).toNat 0 = _
  rw [Int.toNat_natCast, Int.toNat_natCast]
omit C_Board KK in
theorem base_out {L : List (List Int)} {p : Int × Int} (h : ¬ (0 ≤ p.1 ∧ p.1 < L.length)) : base L p = 0 := by
  unfold base
  split
  · rw [show L.getD p.1.toNat [] = [] by rw [List.getD_eq_getElem?_getD, List.getElem?_eq_none (by omega)]; rfl]; rfl
  · rfl
omit C_Board KK in
theorem base_far {L : List (List Int)} {p : Int × Int} {i : Nat} (hi : p.1 = i) (h : p.2 < 0 ∨ (L.getD i []).length ≤ p.2) : base L p = 0 := by
  unfold base
  split
  · rw [show p.1.toNat = i by omega]; exact getD_far (by omega)
  · rfl
omit C_Board KK in
theorem g1 (L : List (List Int)) (i j : Nat) (q : Int × Int) : (if q.1 < (i : Int) ∨ (q.1 = (i : Int) ∧ q.2 < ((j + 1 : Nat) : Int)) then base L q else 0) = if ((i : Int), (j : Int)) = q then (L.getD i []).getD j 0 else (if q.1 < (i : Int) ∨ (q.1 = (i : Int) ∧ q.2 < (j : Int)) then base L q else 0) := by
  by_cases c : ((i : Int), (j : Int)) = q
  · rw [if_pos c, ← c, if_pos (.inr ⟨rfl, by show (j : Int) < _; omega⟩), base_at]
  · have c2 : ¬ (q.1 = (i : Int) ∧ q.2 = (j : Int)) := fun z => c (Prod.ext z.1.symm z.2.symm)
    rw [if_neg c]
    by_cases d : q.1 < (i : Int) ∨ (q.1 = (i : Int) ∧ q.2 < (j : Int))
    · rw [if_pos d, if_pos (by omega)]
    · rw [if_neg d, if_neg (by omega)]
omit C_Board KK in
theorem g2 (F : Int × Int → Int) (k s : Int) (i : Nat) (q : Int × Int) : (F q + if q.1 = k ∧ s ≤ q.2 ∧ q.2 < s + ((i + 1 : Nat) : Int) then 1 else 0) = if (k, s + (i : Int)) = q then (F (k, s + (i : Int)) + if k = k ∧ s ≤ s + (i : Int) ∧ s + (i : Int) < s + (i : Int) then 1 else 0) + 1 else (F q + if q.1 = k ∧ s ≤ q.2 ∧ q.2 < s + (i : Int) then 1 else 0) := by
  by_cases c : (k, s + (i : Int)) = q
  · rw [if_pos c, ← c, if_pos ⟨rfl, by show s ≤ s + (i : Int); omega, by show s + (i : Int) < _; omega⟩, if_neg (by omega)]; omega
  · have c2 : ¬ (q.1 = k ∧ q.2 = s + (i : Int)) := fun z => c (Prod.ext z.1.symm z.2.symm)
    rw [if_neg c]
    by_cases d : q.1 = k ∧ s ≤ q.2 ∧ q.2 < s + (i : Int)
    · rw [if_pos d, if_pos (by omega)]
    · rw [if_neg d, if_neg (by omega)]
def P_law_rows : PV := fun ds Q _ => ∃ (L : List (List Int)) (U : List U3) (m : MM) (n : Int), ds = [.dtt .a (m.map kkE) (m.map vvE), .int n] ∧ n = L.length ∧ LOk L ∧ UOk L.length U ∧ L.length ≤ 20 ∧ MOk L U m ∧ Q (.tup ((lw L U).map rI))
theorem m_law_rows : ∀ ds Q Ed, ds.length = 2 → P_law_rows ds Q Ed → t_law_rows P_law_cut { nx := fun _ => Q .non, rt := Q } (startD 5 ds) := by
  rintro ds Q Ed - ⟨L, U, m, n, rfl, rfl, h, hu, l1, hm, hq⟩
  obtain ⟨a1, a2, a3⟩ := lw_all U h hu
  unfold t_law_rows
  walk_at "go"
  refine forL_range (fun i ρ => ∃ (y3 : Option D), ρ = [some (.dtt .a (m.map kkE) (m.map vvE)), some (.int (L.length : Int)), some (.lst .o (((lw L U).take i).map rI)), y3, none]) ⟨none, rfl⟩ ?_ ?_
  · rintro i hi ρ ⟨y3, rfl⟩ N hN
    have il : i < L.length := by omega
    walk_at "go"
    rw [upTo_ints]
    refine lc_emb1 D.int (fun t => .int (mget m ((i : Int), t))) (fun t ht N2 hN2 => ?_) ?_
    · walk_at "go"
      simp only [Int.zero_add]
      exact hN2
    rw [show (rngI 0 (Int.toNat 61)).map (fun t => D.int (mget m ((i : Int), t))) = ((List.range 61).map fun t : Nat => mget m ((i : Int), (t : Int))).map .int by
      unfold rngI
      rw [List.map_map, List.map_map]
      exact List.map_congr_left fun a _ => by simp]
    walk_at "go"
    refine ⟨_, _, rfl, .inl rfl, by simp, fun c cc hc _ => ?_⟩
    have ec := row_eq h hu hm il cc hc
    subst ec
    walk_at "go"
    refine ⟨by rw [List.length_take]; omega, hN _ ⟨some (.int (0 + (i : Int))), ?_⟩⟩
    rw [List.take_succ, List.getElem?_eq_getElem (show i < (lw L U).length by omega), List.getD_eq_getElem?_getD, List.getElem?_eq_getElem (show i < (lw L U).length by omega), List.map_append]
    rfl
  · rintro ρ ⟨y3, rfl⟩
    walk_at "go"
    rw [List.take_of_length_le (by omega)]
    exact hq
omit C_Board in
theorem kfind_in {m : MM} (nd : (m.map (·.1)).Nodup) {e : (Int × Int) × Int} (he : e ∈ m) : kfind (m.map kkE) (m.map vvE) (kkE e) = some (.int (mget m e.1)) := by
  show kfind (m.map kkE) (m.map vvE) ([.inl e.1.1, .inl e.1.2] : List Key) = _
  rw [kfind_m, if_pos ⟨e, he, rfl⟩]
def P_law_counts : PV := fun ds Q _ => ∃ (L : List (List Int)) (U : List U3) (st : Int), ds = [.tup (L.map rI), .lst .a (U.map uD), .int st] ∧ (st = 1 ∨ U = []) ∧ LOk L ∧ UOk L.length U ∧ L.length ≤ 20 ∧ U.length ≤ 60 ∧ ∀ m : MM, MOk L U m → Q (.dtt .o (m.map kkE) (m.map vvE))
theorem m_law_counts : ∀ ds Q Ed, ds.length = 3 → P_law_counts ds Q Ed → t_law_counts { nx := fun _ => Q .non, rt := Q } (startD 8 ds) := by
  rintro ds Q Ed - ⟨L, U, st, rfl, hst, h, hu, l1, l2, hq⟩
  unfold t_law_counts
  walk_at "go"
  refine forL_range (fun i ρ => ∃ (m : MM) (y3 y4 : Option D), Cn L.length (60 * i) (fun p => if p.1 < (i : Int) then base L p else 0) m ∧ ρ = [some (.tup (L.map rI)), some (.lst .a (U.map uD)), some (.int st), some (.dtt .o (m.map kkE) (m.map vvE)), y3, y4, none, none]) ⟨[], none, none, ⟨List.nodup_nil, fun p => by
    show (0 : Int) = if p.1 < ((0 : Nat) : Int) then base L p else 0
    split
    · rw [base_out (by omega)]
    · rfl, fun e he => (nomatch he), Nat.le_refl _⟩, rfl⟩ ?_ ?_
  · rintro i hi ρ ⟨m, y3, y4, cn, rfl⟩ N hN
    have il : i < L.length := by omega
    have ll := (h i il).len
    have e0 : (0 + (i : Int)).toNat = i := by omega
    have ll' : (L.getD (0 + (i : Int)).toNat []).length ≤ 60 := by rw [e0]; exact ll
    walk_at "go"
    simp only [e0]
    refine forL_range (fun j ρ => ∃ (m : MM) (y4 : Option D), Cn L.length (60 * i + j) (fun p => if p.1 < (i : Int) ∨ (p.1 = (i : Int) ∧ p.2 < (j : Int)) then base L p else 0) m ∧ ρ = [some (.tup (L.map rI)), some (.lst .a (U.map uD)), some (.int st), some (.dtt .o (m.map kkE) (m.map vvE)), some (.int (0 + (i : Int))), y4, none, none]) ⟨m, y4, cn.cg (fun p => by
      by_cases c : p.1 < (i : Int)
      · rw [if_pos c, if_pos (.inl c)]
      · rw [if_neg c]
        split
        · rename_i z
          have z2 : p.1 = (i : Int) ∧ p.2 < ((0 : Nat) : Int) := z.resolve_left c
          rw [base_far z2.1 (.inl z2.2)]
        · rfl) (Nat.le_refl _), rfl⟩ ?_ ?_
    · rintro j hj ρ ⟨m2, y4, cn2, rfl⟩ N2 hN2
      have jl : j < (L.getD i []).length := by omega
      have e1 : (0 + (j : Int)).toNat = j := by omega
      have lm := cn2.len
      walk_at "go"
      simp only [e0, rI]
      walk_at "go"
      simp only [e1, e0]
      simp only [Int.zero_add]
      exact ⟨kk_nd cn2.nd, by omega, hN2 _ ⟨_, some (.int (j : Int)), cn2.put (by omega) (by omega) (g1 L i j), by simp only [Int.zero_add]⟩⟩
    · rintro ρ ⟨m2, y4, cn2, rfl⟩
      refine hN _ ⟨m2, _, _, cn2.cg (fun p => ?_) (by omega), rfl⟩
      show (if p.1 < ((i + 1 : Nat) : Int) then base L p else 0) = _
      by_cases c : p.1 < (i : Int)
      · rw [if_pos (by omega), if_pos (.inl c)]
      · by_cases c2 : p.1 = (i : Int)
        · rw [if_pos (by omega)]
          split
          · rfl
          · rw [base_far c2]; omega
        · rw [if_neg (by omega), if_neg (by omega)]
  · rintro ρ ⟨m, y3, y4, cn, rfl⟩
    walk_at "go"
    refine forL_rest uD (fun rest ρ => ∃ (done : List U3) (m : MM) (y3 y4 y5 y6 : Option D), done ++ rest = U ∧ Cn L.length (60 * L.length + 60 * done.length) (fun p => base L p + cov done p.1 p.2) m ∧ ρ = [some (.tup (L.map rI)), some (.lst .a (U.map uD)), some (.int st), some (.dtt .o (m.map kkE) (m.map vvE)), y3, y4, y5, y6]) U ⟨[], m, _, _, _, _, rfl, cn.cg (fun p => by
      show base L p + cov [] p.1 p.2 = _
      rw [show cov [] p.1 p.2 = 0 from rfl]
      split
      · omega
      · rw [base_out (by omega)]; rfl) (by simp), rfl⟩ ?_ ?_
    · rintro u rest ρ ⟨done, m, y3, y4, y5, y6, hd, cn, rfl⟩ N hN
      have u0 := hu u (by rw [← hd]; exact List.mem_append.mpr (.inr List.mem_cons_self))
      unfold u3Ok at u0
      obtain rfl : st = 1 := hst.resolve_right fun z => by rw [z] at hd; simp at hd
      have ld : done.length + 1 ≤ U.length := by rw [← hd, List.length_append, List.length_cons]; omega
      simp only [uD]
      walk_at "go"
      refine forL_range (fun i ρ => ∃ (m : MM) (y4 : Option D), Cn L.length (60 * L.length + 60 * done.length + i) (fun q => (base L q + cov done q.1 q.2) + if q.1 = u.1 ∧ u.2.1 ≤ q.2 ∧ q.2 < u.2.1 + (i : Int) then 1 else 0) m ∧ ρ = [some (.tup (L.map rI)), some (.lst .a (U.map uD)), some (.int 1), some (.dtt .o (m.map kkE) (m.map vvE)), some (.int u.1), y4, some (.int u.2.1), some (.int u.2.2)]) ⟨m, _, cn.cg (fun p => by
        show (base L p + cov done p.1 p.2) + (if _ then 1 else 0) = _
        rw [if_neg (by omega)]; omega) (Nat.le_refl _), rfl⟩ ?_ ?_
      · rintro i hi ρ ⟨m2, y4, cn2, rfl⟩ N2 hN2
        have lm := cn2.len
        have vm := cn2.val (u.1, u.2.1 + (i : Int))
        walk_at "go"
        rw [vm]
        exact ⟨kk_nd cn2.nd, by omega, hN2 _ ⟨_, _, cn2.put u0.1 u0.2.1 (g2 (fun q => base L q + cov done q.1 q.2) u.1 u.2.1 i), rfl⟩⟩
      · rintro ρ ⟨m2, y4, cn2, rfl⟩
        refine hN _ ⟨done ++ [u], m2, _, _, _, _, by rw [List.append_assoc]; exact hd, cn2.cg (fun p => ?_) (by rw [List.length_append, List.length_singleton]; omega), rfl⟩
        show base L p + cov (done ++ [u]) p.1 p.2 = base L p + cov done p.1 p.2 + _
        rw [cov_app, cov_cons, show cov [] p.1 p.2 = 0 from rfl]
        by_cases c : p.1 = u.1 ∧ u.2.1 ≤ p.2 ∧ p.2 < u.2.2
        · rw [if_pos (by omega), if_pos (by omega)]; omega
        · rw [if_neg (by omega), if_neg (by omega)]; omega
    · rintro ρ ⟨done, m, y3, y4, y5, y6, hd, cn, rfl⟩
      rw [List.append_nil] at hd
      subst hd
      walk_at "go"
      exact hq m ⟨cn.nd, cn.val, cn.rg, Nat.le_trans cn.len (by omega)⟩
def P_law_fit : PV := fun ds Q _ => ∃ (L : List (List Int)) (U : List U3) (caps : List Int), ds = [rI caps, .tup (L.map rI), .lst .a (U.map uD)] ∧ LOk L ∧ UOk L.length U ∧ L.length ≤ 20 ∧ U.length ≤ 60 ∧ CapOk L.length caps ∧ Q (.bl (fitB caps (lw L U)))
theorem m_law_fit : ∀ ds Q Ed, ds.length = 3 → P_law_fit ds Q Ed → t_law_fit P_law_counts { nx := fun _ => Q .non, rt := Q } (startD 5 ds) := by
  rintro ds Q Ed - ⟨L, U, caps, rfl, h, hu, l1, l2, hc, hq⟩
  unfold t_law_fit
  simp only [rI]
  walk_at "go"
  refine ⟨L, U, 1, rfl, .inl rfl, h, hu, l1, l2, fun m hm => ?_⟩
  have hf := fit_m h hu hm hc
  walk_at "go"
  refine ⟨by simp, kk_nd hm.nd, by simp, by have := hm.len; simp only [List.length_map]; omega, fun k => match k with
    | [.inl a, .inl b] => decide (caps.getD a.toNat 0 < mget m (a, b))
    | _ => false, fun k hk => ?_, fun vs hvs => ?_⟩
  · obtain ⟨e, he, rfl⟩ := List.mem_map.mp hk
    have r := hm.rg e he
    unfold ovE
    rw [kfind_in hm.nd he]
    show (match kkE e, some (D.int (mget m e.1)) with | .inl a :: _, some (.int x) => (match atI (caps.map D.int) a with | some (.int c) => some (decide (c < x)) | _ => none) | _, _ => none) = some (match kkE e with | [.inl a, .inl b] => decide (caps.getD a.toNat 0 < mget m (a, b)) | _ => false)
    unfold kkE
    dsimp only
    rw [at_embD (0 : Int) r.1 (by rw [hc.1]; exact r.2)]
  · walk_at "go"
    rw [show decide ((vs.length : Int) = 0) = fitB caps (lw L U) from ?_]
    · exact ⟨alls_cst _ _, hq⟩
    · rw [Bool.eq_iff_iff, fitB_iff, decide_eq_true_eq, ← hf]
      constructor
      · intro z e he
        have := hvs.mp (List.eq_nil_of_length_eq_zero (by omega)) (kkE e) (List.mem_map.mpr ⟨e, he, rfl⟩)
        exact of_decide_eq_false this
      · intro z
        rw [hvs.mpr fun k hk => by
          obtain ⟨e, he, rfl⟩ := List.mem_map.mp hk
          exact decide_eq_false (z e he)]
        rfl
def P_first_excess : PV := fun ds Q _ => ∃ (L : List (List Int)) (U : List U3) (caps : List Int) (d : D), ds = [rI caps, .tup (L.map rI), d] ∧ (d = .lst .a (U.map uD) ∨ d = .tup (U.map uD)) ∧ LOk L ∧ UOk L.length U ∧ L.length ≤ 20 ∧ U.length ≤ 60 ∧ CapOk L.length caps ∧ (fitB caps (lw L U) = true → Q .non) ∧ (fitB caps (lw L U) = false → ∀ k t : Int, Q (.tup [.int k, .int t]))
def P_uses_fit : PV := fun ds Q _ => ∃ (L : List (List Int)) (U : List U3) (caps : List Int) (d : D), ds = [rI caps, .tup (L.map rI), d] ∧ (d = .lst .a (U.map uD) ∨ d = .tup (U.map uD)) ∧ LOk L ∧ UOk L.length U ∧ L.length ≤ 20 ∧ U.length ≤ 60 ∧ CapOk L.length caps ∧ Q (.bl (fitB caps (lw L U)))
omit C_Board KK in
theorem fitB_no {caps : List Int} {R : List (List Int)} {k t : Nat} (hk : k < R.length) (ht : t < (R.getD k []).length) (h : caps.getD k 0 < (R.getD k []).getD t 0) : fitB caps R = false := by
  cases e : fitB caps R with
  | false => rfl
  | true =>
    have := fitB_iff.mp e k hk t ht
    omega
omit C_Board in
theorem m_fe_l {L : List (List Int)} {U : List U3} {caps : List Int} {Q : D → Prop} (h : LOk L) (hu : UOk L.length U) (l1 : L.length ≤ 20) (l2 : U.length ≤ 60) (hc : CapOk L.length caps) (h1 : fitB caps (lw L U) = true → Q .non) (h2 : fitB caps (lw L U) = false → ∀ k t : Int, Q (.tup [.int k, .int t])) : t_first_excess P_lanes_with { nx := fun _ => Q .non, rt := Q } (startD 6 [rI caps, .tup (L.map rI), .lst .a (U.map uD)]) := by
  obtain ⟨a1, a2, a3⟩ := lw_all U h hu
  have cl := hc.1
  unfold t_first_excess
  simp only [rI]
  walk_at "vl"
  refine ⟨L, U, _, rfl, by first | exact .inl rfl | exact .inr rfl, h, hu, by omega, by omega, ?_⟩
  generalize hR : lw L U = R at a1 a2 h1 h2 ⊢
  walk_at "go"
  refine forL_range (fun i ρ => ∃ (y4 y5 : Option D), (∀ k, k < i → ∀ t, t < (R.getD k []).length → (R.getD k []).getD t 0 ≤ caps.getD k 0) ∧ ρ = [some (.tup (caps.map .int)), some (.tup (L.map rI)), some (.lst .a (U.map uD)), some (.tup (R.map rI)), y4, y5]) ⟨none, none, fun k hk => absurd hk (by omega), rfl⟩ ?_ ?_
  · rintro i hi ρ ⟨y4, y5, hb, rfl⟩ N hN
    have il : i < R.length := by omega
    have e0 : (0 + (i : Int)).toNat = i := by omega
    have ll := (a1 i il).len
    have ll' : (R.getD (0 + (i : Int)).toNat []).length ≤ 60 := by rw [e0]; exact ll
    walk_at "go"
    simp only [e0]
    refine forL_range (fun j ρ => ∃ (y5 : Option D), (∀ t, t < j → (R.getD i []).getD t 0 ≤ caps.getD i 0) ∧ ρ = [some (.tup (caps.map .int)), some (.tup (L.map rI)), some (.lst .a (U.map uD)), some (.tup (R.map rI)), some (.int (0 + (i : Int))), y5]) ⟨y5, fun t ht => absurd ht (by omega), rfl⟩ ?_ ?_
    · rintro j hj ρ ⟨y5, hb2, rfl⟩ N2 hN2
      have jl : j < (R.getD i []).length := by omega
      have jl' : j < (R.getD (0 + (i : Int)).toNat []).length := by rw [e0]; exact jl
      have e1 : (0 + (j : Int)).toNat = j := by omega
      walk_at "go"
      · rename_i c
        simp only [e0, e1] at c
        exact h2 (fitB_no il jl c) _ _
      · rename_i c
        simp only [e0, e1] at c
        refine hN2 _ ⟨_, fun t ht => ?_, rfl⟩
        by_cases z : t = j
        · rw [z]; omega
        · exact hb2 t (by omega)
    · rintro ρ ⟨y5, hb2, rfl⟩
      refine hN _ ⟨_, _, fun k hk t ht => ?_, rfl⟩
      by_cases z : k = i
      · subst z; exact hb2 t (by omega)
      · exact hb k (by omega) t ht
  · rintro ρ ⟨y4, y5, hb, rfl⟩
    walk_at "go"
    exact h1 (fitB_iff.mpr fun k hk t ht => hb k (by omega) t ht)
omit C_Board in
theorem m_fe_t {L : List (List Int)} {U : List U3} {caps : List Int} {Q : D → Prop} (h : LOk L) (hu : UOk L.length U) (l1 : L.length ≤ 20) (l2 : U.length ≤ 60) (hc : CapOk L.length caps) (h1 : fitB caps (lw L U) = true → Q .non) (h2 : fitB caps (lw L U) = false → ∀ k t : Int, Q (.tup [.int k, .int t])) : t_first_excess P_lanes_with { nx := fun _ => Q .non, rt := Q } (startD 6 [rI caps, .tup (L.map rI), .tup (U.map uD)]) := by
  obtain ⟨a1, a2, a3⟩ := lw_all U h hu
  have cl := hc.1
  unfold t_first_excess
  simp only [rI]
  walk_at "vl"
  refine ⟨L, U, _, rfl, by first | exact .inl rfl | exact .inr rfl, h, hu, by omega, by omega, ?_⟩
  generalize hR : lw L U = R at a1 a2 h1 h2 ⊢
  walk_at "go"
  refine forL_range (fun i ρ => ∃ (y4 y5 : Option D), (∀ k, k < i → ∀ t, t < (R.getD k []).length → (R.getD k []).getD t 0 ≤ caps.getD k 0) ∧ ρ = [some (.tup (caps.map .int)), some (.tup (L.map rI)), some (.tup (U.map uD)), some (.tup (R.map rI)), y4, y5]) ⟨none, none, fun k hk => absurd hk (by omega), rfl⟩ ?_ ?_
  · rintro i hi ρ ⟨y4, y5, hb, rfl⟩ N hN
    have il : i < R.length := by omega
    have e0 : (0 + (i : Int)).toNat = i := by omega
    have ll := (a1 i il).len
    have ll' : (R.getD (0 + (i : Int)).toNat []).length ≤ 60 := by rw [e0]; exact ll
    walk_at "go"
    simp only [e0]
    refine forL_range (fun j ρ => ∃ (y5 : Option D), (∀ t, t < j → (R.getD i []).getD t 0 ≤ caps.getD i 0) ∧ ρ = [some (.tup (caps.map .int)), some (.tup (L.map rI)), some (.tup (U.map uD)), some (.tup (R.map rI)), some (.int (0 + (i : Int))), y5]) ⟨y5, fun t ht => absurd ht (by omega), rfl⟩ ?_ ?_
    · rintro j hj ρ ⟨y5, hb2, rfl⟩ N2 hN2
      have jl : j < (R.getD i []).length := by omega
      have jl' : j < (R.getD (0 + (i : Int)).toNat []).length := by rw [e0]; exact jl
      have e1 : (0 + (j : Int)).toNat = j := by omega
      walk_at "go"
      · rename_i c
        simp only [e0, e1] at c
        exact h2 (fitB_no il jl c) _ _
      · rename_i c
        simp only [e0, e1] at c
        refine hN2 _ ⟨_, fun t ht => ?_, rfl⟩
        by_cases z : t = j
        · rw [z]; omega
        · exact hb2 t (by omega)
    · rintro ρ ⟨y5, hb2, rfl⟩
      refine hN _ ⟨_, _, fun k hk t ht => ?_, rfl⟩
      by_cases z : k = i
      · subst z; exact hb2 t (by omega)
      · exact hb k (by omega) t ht
  · rintro ρ ⟨y4, y5, hb, rfl⟩
    walk_at "go"
    exact h1 (fitB_iff.mpr fun k hk t ht => hb k (by omega) t ht)
theorem m_first_excess : ∀ ds Q Ed, ds.length = 3 → P_first_excess ds Q Ed → t_first_excess P_lanes_with { nx := fun _ => Q .non, rt := Q } (startD 6 ds) := by
  rintro ds Q Ed - ⟨L, U, caps, d, rfl, rfl | rfl, h, hu, l1, l2, hc, h1, h2⟩
  · exact m_fe_l h hu l1 l2 hc h1 h2
  · exact m_fe_t h hu l1 l2 hc h1 h2
theorem m_uses_fit : ∀ ds Q Ed, ds.length = 3 → P_uses_fit ds Q Ed → t_uses_fit P_first_excess { nx := fun _ => Q .non, rt := Q } (startD 3 ds) := by
  rintro ds Q Ed - ⟨L, U, caps, d, rfl, hd, h, hu, l1, l2, hc, hq⟩
  unfold t_uses_fit
  simp only [rI]
  rcases hd with rfl | rfl
  all_goals
    walk_at "vl"
    refine ⟨L, U, caps, _, rfl, by first | exact .inl rfl | exact .inr rfl, h, hu, l1, l2, hc, fun e => ?_, fun e k t => ?_⟩
    · rw [e] at hq
      walk_at "go"
      exact hq
    · rw [e] at hq
      walk_at "go"
      exact hq
def P_nab : PV := fun ds Q _ => ∃ l o : List Int, ds = [rI l, rI o] ∧ l.length ≤ 1000 ∧ o.length ≤ 1000 ∧ Q (.bl (nab l o))
abbrev P_never_above : PV := P_nab
abbrev P_law_below : PV := P_nab
omit C_Board KK in
theorem nab_iff {l o : List Int} : nab l o = true ↔ ∀ t, t < l.length → l.getD t 0 ≤ o.getD t 0 := by
  unfold nab
  simp only [List.all_eq_true, List.mem_range, decide_eq_true_eq]
omit C_Board KK in
theorem nab_no {l o : List Int} {t : Nat} (ht : t < l.length) (h : o.getD t 0 < l.getD t 0) : nab l o = false := by
  cases e : nab l o with
  | false => rfl
  | true =>
    have := nab_iff.mp e t ht
    omega
theorem m_never_above : ∀ ds Q Ed, ds.length = 2 → P_never_above ds Q Ed → t_never_above { nx := fun _ => Q .non, rt := Q } (startD 4 ds) := by
  rintro ds Q Ed - ⟨l, o, rfl, hl, ho, hq⟩
  unfold t_never_above
  simp only [rI]
  walk_at "go"
  refine forL_range (fun i ρ => ∃ (y2 y3 : Option D), (∀ t, t < i → l.getD t 0 ≤ o.getD t 0) ∧ ρ = [some (.tup (l.map .int)), some (.tup (o.map .int)), y2, y3]) ⟨none, none, fun t ht => absurd ht (by omega), rfl⟩ ?_ ?_
  · rintro i hi ρ ⟨y2, y3, hb, rfl⟩ N hN
    have il : i < l.length := by omega
    have e0 : (0 + (i : Int)).toNat = i := by omega
    have fin : ∀ (y2 y3 : Option D), l.getD i 0 ≤ o.getD i 0 → N [some (.tup (l.map .int)), some (.tup (o.map .int)), y2, y3] := fun y2 y3 c => hN _ ⟨y2, y3, fun t ht => by
      by_cases z : t = i
      · rw [z]; exact c
      · exact hb t (by omega), rfl⟩
    walk_at "go"
    · rename_i c1 c
      simp only [e0] at c
      rw [nab_no il c] at hq; exact hq
    · rename_i c1 c
      simp only [e0] at c
      exact fin _ _ (by omega)
    · rename_i c1 c
      simp only [e0] at c
      rw [nab_no il (by rw [getD_far (l := o) (by omega)]; exact c)] at hq; exact hq
    · rename_i c1 c
      simp only [e0] at c
      exact fin _ _ (by rw [getD_far (l := o) (by omega)]; omega)
  · rintro ρ ⟨y2, y3, hb, rfl⟩
    walk_at "go"
    rw [nab_iff.mpr fun t ht => hb t (by omega)] at hq; exact hq
theorem m_law_below : ∀ ds Q Ed, ds.length = 2 → P_law_below ds Q Ed → t_law_below { nx := fun _ => Q .non, rt := Q } (startD 3 ds) := by
  rintro ds Q Ed - ⟨l, o, rfl, hl, ho, hq⟩
  unfold t_law_below
  simp only [rI]
  walk_at "go"
  refine forL_range (fun i ρ => ∃ (y2 : Option D), (∀ t, t < i → l.getD t 0 ≤ o.getD t 0) ∧ ρ = [some (.tup (l.map .int)), some (.tup (o.map .int)), y2]) ⟨none, fun t ht => absurd ht (by omega), rfl⟩ ?_ ?_
  · rintro i hi ρ ⟨y2, hb, rfl⟩ N hN
    have il : i < l.length := by omega
    have e0 : (0 + (i : Int)).toNat = i := by omega
    have fin : ∀ (y2 : Option D), l.getD i 0 ≤ o.getD i 0 → N [some (.tup (l.map .int)), some (.tup (o.map .int)), y2] := fun y2 c => hN _ ⟨y2, fun t ht => by
      by_cases z : t = i
      · rw [z]; exact c
      · exact hb t (by omega), rfl⟩
    walk_at "go"
    all_goals simp only [e0] at *
    all_goals first
      | (exfalso; omega)
      | exact fin _ (by first | omega | (rw [getD_far (l := o) (by omega)]; omega))
      | (rw [nab_no il (by first | omega | (rw [getD_far (l := o) (by omega)]; omega))] at hq; exact hq)
  · rintro ρ ⟨y2, hb, rfl⟩
    walk_at "go"
    rw [nab_iff.mpr fun t ht => hb t (by omega)] at hq; exact hq
def P_lane_later : PV := fun ds Q _ => ∃ l : List Int, ds = [rI l] ∧ Q (rI l.tail)
def P_lanes_later : PV := fun ds Q _ => ∃ R : List (List Int), ds = [.tup (R.map rI)] ∧ R.length ≤ 1000 ∧ Q (.tup ((R.map List.tail).map rI))
theorem m_lane_later : ∀ ds Q Ed, ds.length = 1 → P_lane_later ds Q Ed → t_lane_later { nx := fun _ => Q .non, rt := Q } (startD 1 ds) := by
  rintro ds Q Ed - ⟨l, rfl, hq⟩
  unfold t_lane_later
  simp only [rI]
  walk_at "go"
  rw [cutL_from _ (by decide)]
  rw [show l.drop (Int.toNat 1) = l.tail from List.drop_one]
  exact hq
theorem m_lanes_later : ∀ ds Q Ed, ds.length = 1 → P_lanes_later ds Q Ed → t_lanes_later P_lane_later { nx := fun _ => Q .non, rt := Q } (startD 2 ds) := by
  rintro ds Q Ed - ⟨R, rfl, hl, hq⟩
  unfold t_lanes_later
  walk_at "go"
  refine lc_emb1 rI (fun l => rI l.tail) (fun x hx N hN => ?_) ?_
  · walk_at "go"
    refine ⟨x, rfl, ?_⟩
    walk_at "go"
    exact hN
  rw [show R.map (fun l => rI l.tail) = (R.map List.tail).map rI by rw [List.map_map]; rfl]
  walk_at "go"
  exact hq
def P_law_uses : PV := fun ds Q _ => ∃ (ns : List Int) (a many count : Int), ds = [sc ns, .int a, .int many, .int count] ∧ ns.length ≤ 63 ∧ 0 ≤ a ∧ a ≤ 1000 ∧ 0 ≤ count ∧ count ≤ 48 ∧ (count = 0 ∨ (0 < many ∧ many ≤ 20)) ∧ ∀ U : List U3, U.length = count.toNat → UOk many.toNat U → Q (.lst .o (U.map uD))
theorem m_law_uses : ∀ ds Q Ed, ds.length = 4 → P_law_uses ds Q Ed → t_law_uses P_law_draw { nx := fun _ => Q .non, rt := Q } (startD 8 ds) := by
  rintro ds Q Ed - ⟨ns, a, many, count, rfl, hl, a0, a1, c0, c1, hm, hq⟩
  unfold t_law_uses
  walk_at "go"
  refine forL_range (fun i ρ => ∃ (U : List U3) (y5 y6 y7 : Option D), U.length = i ∧ UOk many.toNat U ∧ ρ = [some (sc ns), some (.int a), some (.int many), some (.int count), some (.lst .o (U.map uD)), y5, y6, y7]) ⟨[], none, none, none, rfl, fun _ h => (nomatch h), rfl⟩ ?_ ?_
  · rintro i hi ρ ⟨U, y5, y6, y7, hU, uo, rfl⟩ N hN
    have hm2 : 0 < many ∧ many ≤ 20 := hm.resolve_left (by omega)
    walk_at "vl"
    refine ⟨by unfold CMul; omega, ?_⟩
    refine draw_ok hl (by omega) (by omega) (by decide) fun s s0 s1 => ?_
    walk_at "vl"
    refine ⟨by unfold CMul; omega, ?_⟩
    refine draw_ok hl (by omega) (by omega) (by decide) fun e e0 e1 => ?_
    walk_at "st"
    refine stp_cut (fun ρ => ∃ s e : Int, 0 ≤ s ∧ s < e ∧ e ≤ 60 ∧ ρ = [some (sc ns), some (.int a), some (.int many), some (.int count), some (.lst .o (U.map uD)), some (.int (0 + (i : Int))), some (.int s), some (.int e)]) (fun N2 hN2 => ?_) ?_
    · walk_at "vl"
      refine ⟨by unfold CMul; omega, ?_⟩
      refine draw_ok hl (by omega) (by omega) (by decide) fun c c0 c1 => ?_
      walk_at "vl"
      refine sel_d (fun h1 => ?_) (fun h1 => ?_)
      · walk_at "vl"
        refine ⟨by unfold CMul; omega, ?_⟩
        refine draw_ok hl (by omega) (by omega) (by decide) fun s s0 s1 => ?_
        walk_at "vl"
        refine ⟨by unfold CMul; omega, ?_⟩
        refine draw_ok hl (by omega) (by omega) (by omega) fun e e0 e1 => ?_
        walk_at "vl"
        exact hN2 _ ⟨s, s + 1 + e, s0, by omega, by omega, rfl⟩
      · walk_at "vl"
        exact hN2 _ ⟨s, s + 1 + e, s0, by omega, by omega, rfl⟩
    clear s0 s1 e0 e1 s e
    rintro ρ ⟨s, e, s0, se, e6, rfl⟩
    walk_at "vl"
    refine ⟨by unfold CMul; omega, ?_⟩
    refine draw_ok hl (by omega) (by omega) (by omega) fun u u0 u1 => ?_
    walk_at "vl"
    refine ⟨by omega, ?_⟩
    rw [show U.map uD ++ [D.tup [.int u, .int s, .int e]] = (U ++ [(u, s, e)]).map uD by rw [List.map_append]; rfl]
    refine hN _ ⟨U ++ [(u, s, e)], _, _, _, by rw [List.length_append, hU]; rfl, fun w hw => ?_, rfl⟩
    rcases List.mem_append.mp hw with h | h
    · exact uo w h
    · rw [List.mem_singleton.mp h]
      exact ⟨u0, by show u < _; omega, s0, se, e6⟩
  · rintro ρ ⟨U, y5, y6, y7, hU, uo, rfl⟩
    walk_at "go"
    exact hq U hU uo
def P_between : PV := fun ds Q _ => ∃ v a b : Int, ds = [.int v, .int a, .int b] ∧ a ≤ v ∧ v ≤ b ∧ Q (.bl true)
def P_all_between : PV := fun ds Q _ => ∃ (xs : List Int) (d : D) (a b : Int), ds = [d, .int a, .int b] ∧ (d = .lst .a (xs.map .int) ∨ d = .tup (xs.map .int)) ∧ (∀ x, x ∈ xs → a ≤ x ∧ x ≤ b) ∧ Q (.bl true)
theorem m_between : ∀ ds Q Ed, ds.length = 3 → P_between ds Q Ed → t_between { nx := fun _ => Q .non, rt := Q } (startD 3 ds) := by
  rintro ds Q Ed - ⟨v, a, b, rfl, h1, h2, hq⟩
  unfold t_between
  walk_at "vl"
  rw [decide_eq_true h1]
  walk_at "vl"
  rw [decide_eq_true h2]
  exact hq
theorem m_all_between : ∀ ds Q Ed, ds.length = 3 → P_all_between ds Q Ed → t_all_between P_between { nx := fun _ => Q .non, rt := Q } (startD 4 ds) := by
  rintro ds Q Ed - ⟨xs, d, a, b, rfl, rfl | rfl, hb, hq⟩
  all_goals
    unfold t_all_between
    walk_at "go"
  · refine forL_rest D.int (fun rest ρ => ∃ y, (∀ x, x ∈ rest → a ≤ x ∧ x ≤ b) ∧ ρ = [some (.lst .a (xs.map .int)), some (.int a), some (.int b), y]) xs ⟨none, hb, rfl⟩ ?_ ?_
    · rintro x rest ρ ⟨y, hr, rfl⟩ N hN
      obtain ⟨h1, h2⟩ := hr x List.mem_cons_self
      walk_at "go"
      refine ⟨x, a, b, rfl, h1, h2, ?_⟩
      walk_at "go"
      exact hN _ ⟨_, fun z hz => hr z (List.mem_cons_of_mem _ hz), rfl⟩
    · rintro ρ ⟨y, -, rfl⟩
      walk_at "go"
      exact hq
  · refine forL_rest D.int (fun rest ρ => ∃ y, (∀ x, x ∈ rest → a ≤ x ∧ x ≤ b) ∧ ρ = [some (.tup (xs.map .int)), some (.int a), some (.int b), y]) xs ⟨none, hb, rfl⟩ ?_ ?_
    · rintro x rest ρ ⟨y, hr, rfl⟩ N hN
      obtain ⟨h1, h2⟩ := hr x List.mem_cons_self
      walk_at "go"
      refine ⟨x, a, b, rfl, h1, h2, ?_⟩
      walk_at "go"
      exact hN _ ⟨_, fun z hz => hr z (List.mem_cons_of_mem _ hz), rfl⟩
    · rintro ρ ⟨y, -, rfl⟩
      walk_at "go"
      exact hq
def P_trimmed : PV := fun ds Q _ => ∃ (l : List Int) (d : D), ds = [d] ∧ (d = .lst .a (l.map .int) ∨ d = .tup (l.map .int)) ∧ Can l ∧ l.length ≤ 1000 ∧ Q (rI l)
theorem m_trimmed : ∀ ds Q Ed, ds.length = 1 → P_trimmed ds Q Ed → t_trimmed { nx := fun _ => Q .non, rt := Q } (startD 2 ds) := by
  rintro ds Q Ed - ⟨l, d, rfl, rfl | rfl, hc, hl, hq⟩
  all_goals
    unfold t_trimmed
    walk_at "vl"
  · refine while_d (fun _ ρ => ρ = [some (.lst .a (l.map .int)), some (.int (l.length : Int))]) ⟨0, rfl⟩ ?_
    rintro m ρ rfl N hN
    walk_at "vl"
    refine sel_d (fun h0 => ?_) (fun h0 => ?_)
    · walk_at "vl"
      rw [at_embD (0 : Int) (by omega) (by omega)]
      walk_at "vl"
      have e : l.getD ((l.length : Int) - 1).toNat 0 ≠ 0 := hc _ (by omega)
      rw [decide_eq_false e]
      walk_at "vl"
      rw [cutL_to _ (by omega), Int.toNat_natCast, List.take_length]
      exact hq
    · walk_at "vl"
      rw [cutL_to _ (by omega), Int.toNat_natCast, List.take_length]
      exact hq
  · refine while_d (fun _ ρ => ρ = [some (.tup (l.map .int)), some (.int (l.length : Int))]) ⟨0, rfl⟩ ?_
    rintro m ρ rfl N hN
    walk_at "vl"
    refine sel_d (fun h0 => ?_) (fun h0 => ?_)
    · walk_at "vl"
      rw [at_embD (0 : Int) (by omega) (by omega)]
      walk_at "vl"
      have e : l.getD ((l.length : Int) - 1).toNat 0 ≠ 0 := hc _ (by omega)
      rw [decide_eq_false e]
      walk_at "vl"
      rw [cutL_to _ (by omega), Int.toNat_natCast, List.take_length]
      exact hq
    · walk_at "vl"
      rw [cutL_to _ (by omega), Int.toNat_natCast, List.take_length]
      exact hq
def P_Board_init (CB : Addr) : PI' := fun C ds Q _ => ∃ (p : Pl) (d1 d2 : D), PlOk p ∧ C = CB ∧ ds = [d1, d2] ∧ (d1 = .lst .a (p.1.map .int) ∨ d1 = .tup (p.1.map .int)) ∧ (d2 = .tup (p.2.map rI) ∨ d2 = .lst .a (p.2.map (kL .a))) ∧ Q ["capacities", "lanes"] [rI p.1, .tup (p.2.map rI)]
theorem m_Board_init : ∀ y C ds Qd Ed, ds.length = 2 → P_Board_init C_Board C ds Qd Ed → t_Board_init P_all_between P_trimmed C_Board { nx := initEnd C Qd y, rt := fun _ => False } (startD 6 (.slf (.c y) C [] [] :: ds)) := by
  rintro y C ds Q Ed - ⟨p, d1, d2, ok, rfl, rfl, h1, h2, hq⟩
  have n11 := ok.n
  have ne := ok.eq
  rcases h2 with rfl | rfl
  · unfold t_Board_init
    refine seq_cut (fun ρ => ∃ y1 : Option D, ρ = [some (.slf (.c y) C ["capacities"] [.tup (p.1.map .int)]), y1, some (.tup (p.2.map rI)), none, none, none]) (fun N hN => ?_) ?_
    · rcases h1 with rfl | rfl
      all_goals
        walk_at "vl"
        exact hN _ ⟨_, rfl⟩
    rintro ρ ⟨y1, rfl⟩
    simp only [rI] at hq
    walk_at "vl"
    refine ⟨p.1, _, _, _, rfl, .inr rfl, ok.c, ?_⟩
    walk_at "vl"
    rw [decide_eq_true (by omega)]
    walk_at "vl"
    refine ⟨by unfold bigI; omega, ?_⟩
    refine forL_range (fun i ρ => ∃ y3 : Option D, ρ = [some (.slf (.c y) C ["capacities"] [.tup (p.1.map .int)]), y1, some (.tup (p.2.map rI)), y3, none, none]) ⟨none, rfl⟩ ?_ ?_
    · rintro i hi ρ ⟨y3, rfl⟩ N hN
      have hi2 : i < p.2.length := by omega
      have e0 : (0 + (i : Int)).toNat = i := by omega
      have lo := ok.L i hi2
      have ft := ok.f i hi2
      walk_at "go"
      simp only [e0]
      walk_at "go"
      refine ⟨p.2.getD i [], _, _, _, rfl, by first | exact .inl rfl | exact .inr rfl, fun x hx => ?_, ?_⟩
      · obtain ⟨t, ht, e⟩ := List.getElem_of_mem hx
        have eg : (p.2.getD i []).getD t 0 = x := by rw [List.getD_eq_getElem?_getD, List.getElem?_eq_getElem ht, ← e]; rfl
        have := ft t ht
        have := lo.pos t
        omega
      walk_at "go"
      exact hN _ ⟨_, rfl⟩
    · rintro ρ ⟨y3, rfl⟩
      walk_at "go"
      refine lc_emb1 rI rI (fun x hx N hN => ?_) ?_
      · have lo := ok.L.mem x hx
        have := lo.len
        simp only [rI] at hN ⊢
        walk_at "vl"
        refine ⟨x, _, rfl, .inr rfl, lo.can, by omega, ?_⟩
        walk_at "vl"
        exact hN
      walk_at "vl"
      exact ⟨fix_rI.alls rfl _, hq⟩
  · unfold t_Board_init
    refine seq_cut (fun ρ => ∃ y1 : Option D, ρ = [some (.slf (.c y) C ["capacities"] [.tup (p.1.map .int)]), y1, some (.lst .a (p.2.map (kL .a))), none, none, none]) (fun N hN => ?_) ?_
    · rcases h1 with rfl | rfl
      all_goals
        walk_at "vl"
        exact hN _ ⟨_, rfl⟩
    rintro ρ ⟨y1, rfl⟩
    simp only [rI] at hq
    walk_at "vl"
    refine ⟨p.1, _, _, _, rfl, .inr rfl, ok.c, ?_⟩
    walk_at "vl"
    rw [decide_eq_true (by omega)]
    walk_at "vl"
    refine ⟨by unfold bigI; omega, ?_⟩
    refine forL_range (fun i ρ => ∃ y3 : Option D, ρ = [some (.slf (.c y) C ["capacities"] [.tup (p.1.map .int)]), y1, some (.lst .a (p.2.map (kL .a))), y3, none, none]) ⟨none, rfl⟩ ?_ ?_
    · rintro i hi ρ ⟨y3, rfl⟩ N hN
      have hi2 : i < p.2.length := by omega
      have e0 : (0 + (i : Int)).toNat = i := by omega
      have lo := ok.L i hi2
      have ft := ok.f i hi2
      walk_at "go"
      simp only [e0]
      walk_at "go"
      refine ⟨p.2.getD i [], _, _, _, rfl, by first | exact .inl rfl | exact .inr rfl, fun x hx => ?_, ?_⟩
      · obtain ⟨t, ht, e⟩ := List.getElem_of_mem hx
        have eg : (p.2.getD i []).getD t 0 = x := by rw [List.getD_eq_getElem?_getD, List.getElem?_eq_getElem ht, ← e]; rfl
        have := ft t ht
        have := lo.pos t
        omega
      walk_at "go"
      exact hN _ ⟨_, rfl⟩
    · rintro ρ ⟨y3, rfl⟩
      walk_at "go"
      refine ⟨as_kLa rfl _, as_kLa rfl _, by omega, ?_⟩
      refine lc_emb1 (kL .a) rI (fun x hx N hN => ?_) ?_
      · have lo := ok.L.mem x hx
        have := lo.len
        simp only [rI, kL] at hN ⊢
        walk_at "vl"
        refine ⟨x, _, rfl, .inl rfl, lo.can, by omega, ?_⟩
        walk_at "vl"
        exact hN
      walk_at "vl"
      exact ⟨fix_rI.alls rfl _, hq⟩
def P_Board_later (CB : Addr) : PV := fun ds Q _ => ∃ p : Pl, ds = [boD CB p] ∧ PlOk p ∧ Q (boD CB (later p))
theorem m_Board_later : ∀ ds Q Ed, ds.length = 1 → P_Board_later C_Board ds Q Ed → t_Board_later P_lanes_later (P_Board_init C_Board) C_Board { nx := fun _ => Q .non, rt := Q } (startD 1 ds) := by
  rintro ds Q Ed - ⟨p, rfl, ok, hq⟩
  have n11 := ok.n
  unfold t_Board_later
  simp only [boD, rI]
  walk_at "vl"
  refine ⟨p.2, rfl, by omega, ?_⟩
  walk_at "vl"
  refine ⟨later p, _, _, later_ok ok, rfl, rfl, .inr rfl, .inl rfl, ?_⟩
  walk_at "vl"
  exact hq
def P_Board_covers (CB : Addr) : PV := fun ds Q _ => ∃ p q : Pl, ds = [boD CB p, boD CB q] ∧ PlOk p ∧ PlOk q ∧ Q (.bl (cvB p q))
omit C_Board KK in
theorem cvB_no {p q : Pl} (h : ¬ (p.1 = q.1 ∧ ∀ k, k < p.2.length → nab (q.2.getD k []) (p.2.getD k []) = true)) : cvB p q = false := by
  cases e : cvB p q with
  | false => rfl
  | true => exact absurd (cvB_iff.mp e) h
theorem m_Board_covers : ∀ ds Q Ed, ds.length = 2 → P_Board_covers C_Board ds Q Ed → t_Board_covers P_never_above C_Board { nx := fun _ => Q .non, rt := Q } (startD 3 ds) := by
  rintro ds Q Ed - ⟨p, q, rfl, okp, okq, hq⟩
  have np := okp.n
  have nq := okq.n
  have ep := okp.eq
  have eq := okq.eq
  unfold t_Board_covers
  simp only [boD, rI]
  walk_at "vl"
  refine ⟨okEq_tup_ints _, okEq_tup_ints _, ?_⟩
  rw [eqv_tup_ints, ← decide_not]
  refine sel_d (fun h => ?_) (fun h => ?_)
  · walk_at "vl"
    rw [cvB_no fun z => h z.1] at hq
    exact hq
  have h : p.1 = q.1 := Classical.not_not.mp h
  have el : p.2.length = q.2.length := by rw [← ep, ← eq, h]
  walk_at "vl"
  refine ⟨by unfold bigI; omega, ?_⟩
  refine forL_range (fun i ρ => ∃ y : Option D, (∀ k, k < i → nab (q.2.getD k []) (p.2.getD k []) = true) ∧ ρ = [some (boD C_Board p), some (boD C_Board q), y]) ⟨none, fun k hk => absurd hk (by omega), rfl⟩ ?_ ?_
  · rintro i hi ρ ⟨y, hb, rfl⟩ N hN
    have hi2 : i < p.2.length := by omega
    have e0 : (0 + (i : Int)).toNat = i := by omega
    simp only [boD, rI]
    walk_at "go"
    simp only [e0]
    refine ⟨q.2.getD i [], p.2.getD i [], rfl, by have := (okq.L i (by omega)).len; omega, by have := (okp.L i hi2).len; omega, ?_⟩
    cases hn : nab (q.2.getD i []) (p.2.getD i [])
    · walk_at "vl"
      rw [cvB_no fun z => by rw [z.2 i hi2] at hn; exact nomatch hn] at hq
      exact hq
    · walk_at "vl"
      refine hN _ ⟨_, fun k hk => ?_, rfl⟩
      by_cases c : k = i
      · rw [c]; exact hn
      · exact hb k (by omega)
  · rintro ρ ⟨y, hb, rfl⟩
    walk_at "vl"
    rw [cvB_iff.mpr ⟨h, fun k hk => hb k (by omega)⟩] at hq
    exact hq
def P_Board_len (CB : Addr) : PV := fun ds Q _ => ∃ p : Pl, ds = [boD CB p] ∧ p.2.length ≤ 1000 ∧ Q (.int p.2.length)
theorem m_Board_len : ∀ ds Q Ed, ds.length = 1 → P_Board_len C_Board ds Q Ed → t_Board_len C_Board { nx := fun _ => Q .non, rt := Q } (startD 1 ds) := by
  rintro ds Q Ed - ⟨p, rfl, hl, hq⟩
  unfold t_Board_len
  simp only [boD, rI]
  walk_at "go"
  exact hq
def P_Board_fits (CB : Addr) : PV := fun ds Q _ => ∃ (p : Pl) (U : List U3), ds = [boD CB p, .lst .a (U.map uD)] ∧ PlOk p ∧ UOk p.2.length U ∧ U.length ≤ 60 ∧ Q (.bl (fitB p.1 (lw p.2 U)))
theorem m_Board_fits : ∀ ds Q Ed, ds.length = 2 → P_Board_fits C_Board ds Q Ed → t_Board_fits P_uses_fit C_Board { nx := fun _ => Q .non, rt := Q } (startD 2 ds) := by
  rintro ds Q Ed - ⟨p, U, rfl, ok, hu, hl, hq⟩
  have n11 := ok.n
  unfold t_Board_fits
  simp only [boD, rI]
  walk_at "go"
  refine ⟨p.2, U, p.1, _, rfl, .inl rfl, ok.L, hu, by omega, hl, ok.cap, ?_⟩
  walk_at "go"
  exact hq
def P_Board_add (CB : Addr) : PV := fun ds Q _ => ∃ (p : Pl) (U : List U3), ds = [boD CB p, .lst .a (U.map uD)] ∧ PlOk p ∧ UOk p.2.length U ∧ U.length ≤ 60 ∧ fitB p.1 (lw p.2 U) = true ∧ Q (boD CB (plus p U))
theorem m_Board_add : ∀ ds Q Ed, ds.length = 2 → P_Board_add C_Board ds Q Ed → t_Board_add P_first_excess P_lanes_with (P_Board_init C_Board) C_Board { nx := fun _ => Q .non, rt := Q } (startD 3 ds) := by
  rintro ds Q Ed - ⟨p, U, rfl, ok, hu, hl, hf, hq⟩
  have n11 := ok.n
  unfold t_Board_add
  simp only [boD, rI]
  walk_at "vl"
  refine ⟨p.2, U, p.1, _, rfl, .inl rfl, ok.L, hu, by omega, hl, ok.cap, fun _ => ?_, fun z => absurd (hf.symm.trans z) (by decide)⟩
  walk_at "vl"
  refine ⟨p.2, U, _, rfl, .inl rfl, ok.L, hu, by omega, by omega, ?_⟩
  walk_at "vl"
  refine ⟨plus p U, _, _, plus_ok ok hu hf, rfl, rfl, .inr rfl, .inl rfl, ?_⟩
  walk_at "vl"
  exact hq
def P_law_is_board (CB : Addr) : PV := fun ds Q _ => ∃ p : Pl, ds = [boD CB p, rI p.1, .tup (p.2.map rI)] ∧ PlOk p ∧ Q (.bl true)
theorem m_law_is_board : ∀ ds Q Ed, ds.length = 3 → P_law_is_board C_Board ds Q Ed → t_law_is_board (P_Board_len C_Board) P_law_are_rows P_law_is_row C_Board { nx := fun _ => Q .non, rt := Q } (startD 5 ds) := by
  rintro ds Q Ed - ⟨p, rfl, ok, hq⟩
  have n11 := ok.n
  have ep := ok.eq
  have r60 : ∀ r, r ∈ p.2 → r.length ≤ 1000 := fun r hr => Nat.le_trans (row60 ok.L r hr) (by decide)
  unfold t_law_is_board
  simp only [boD, rI]
  walk_at "vl"
  refine ⟨p.1, rfl, by omega, ?_⟩
  walk_at "vl"
  refine ⟨p.2, rfl, by omega, r60, ?_⟩
  walk_at "vl"
  refine ⟨p, rfl, by omega, ?_⟩
  walk_at "go"
  refine lc_emb1 rI rI (fun x hx N hN => ?_) ?_
  · simp only [rI] at hN ⊢
    walk_at "vl"
    exact hN
  walk_at "vl"
  refine ⟨p.2, rfl, by omega, r60, ?_⟩
  walk_at "go"
  refine ⟨p.2, rfl, by omega, r60, ?_⟩
  walk_at "vl"
  exact hq
def P_law_covers : PV := fun ds Q _ => ∃ p q : Pl, ds = [plD p, plD q] ∧ PlOk p ∧ PlOk q ∧ Q (.bl (cvB p q))
theorem m_law_covers : ∀ ds Q Ed, ds.length = 2 → P_law_covers ds Q Ed → t_law_covers P_law_below { nx := fun _ => Q .non, rt := Q } (startD 3 ds) := by
  rintro ds Q Ed - ⟨p, q, rfl, okp, okq, hq⟩
  have np := okp.n
  have nq := okq.n
  have ep := okp.eq
  have eq := okq.eq
  unfold t_law_covers
  simp only [plD, rI]
  walk_at "vl"
  refine ⟨okEq_tup_ints _, okEq_tup_ints _, ?_⟩
  rw [eqv_tup_ints, ← decide_not]
  refine sel_d (fun h => ?_) (fun h => ?_)
  · walk_at "vl"
    rw [cvB_no fun z => h z.1] at hq
    exact hq
  have h : p.1 = q.1 := Classical.not_not.mp h
  have el : p.2.length = q.2.length := by rw [← ep, ← eq, h]
  walk_at "go"
  rw [upTo_ints]
  refine lc_emb D.int (fun k => !nab (q.2.getD k.toNat []) (p.2.getD k.toNat [])) D.int (fun k hk N M h1 h2 => ?_) ?_
  · have kr := mem_rngI.mp hk
    walk_at "go"
    refine ⟨q.2.getD k.toNat [], p.2.getD k.toNat [], rfl, by have := (okq.L k.toNat (by omega)).len; omega, by have := (okp.L k.toNat (by omega)).len; omega, ?_⟩
    cases hn : nab (q.2.getD k.toNat []) (p.2.getD k.toNat [])
    · walk_at "vl"
      exact h1 (by rw [hn]; rfl)
    · walk_at "vl"
      exact h2 (by rw [hn]; rfl)
  rw [List.nil_append]
  walk_at "go"
  rw [show decide ((((rngI 0 (p.2.length : Int).toNat).filter fun k => !nab (q.2.getD k.toNat []) (p.2.getD k.toNat [])).length : Int) = 0) = cvB p q from ?_]
  · exact hq
  rw [Bool.eq_iff_iff, decide_eq_true_eq, cvB_iff]
  constructor
  · intro z
    refine ⟨h, fun k hk => ?_⟩
    have z2 := List.filter_eq_nil_iff.mp (List.eq_nil_of_length_eq_zero (Int.natCast_eq_zero.mp z)) (k : Int) (mem_rngI.mpr (by omega))
    rw [Int.toNat_natCast] at z2
    cases hn : nab (q.2.getD k []) (p.2.getD k [])
    · rw [hn] at z2; exact absurd rfl z2
    · rfl
  · rintro ⟨_, z⟩
    rw [List.filter_eq_nil_iff.mpr fun k hk => ?_]
    · rfl
    · have kr := mem_rngI.mp hk
      rw [z k.toNat (by omega)]; decide
def P_law_pairs (CB : Addr) : PV := fun ds Q _ => ∃ ps : List Pl, ds = [.lst .a (ps.map (boD CB)), .lst .a (ps.map plD)] ∧ ps.length ≤ 20 ∧ (∀ p, p ∈ ps → PlOk p) ∧ Q (.bl true)
omit C_Board KK in
abbrev p0 : Pl := ([], [])
theorem m_law_pairs : ∀ ds Q Ed, ds.length = 2 → P_law_pairs C_Board ds Q Ed → t_law_pairs (P_Board_covers C_Board) P_law_covers (P_law_is_board C_Board) C_Board { nx := fun _ => Q .non, rt := Q } (startD 5 ds) := by
  rintro ds Q Ed - ⟨ps, rfl, hl, hp, hq⟩
  unfold t_law_pairs
  walk_at "go"
  refine forL_range (fun i ρ => ∃ y2 y3 y4 : Option D, ρ = [some (.lst .a (ps.map (boD C_Board))), some (.lst .a (ps.map plD)), y2, y3, y4]) ⟨none, none, none, rfl⟩ ?_ ?_
  · rintro i hi ρ ⟨y2, y3, y4, rfl⟩ N hN
    have hi2 : i < ps.length := by omega
    have e0 : (0 + (i : Int)).toNat = i := by omega
    have oki := hp _ (VL.getD_mem (d := p0) hi2)
    walk_at "go"
    refine forL_range (fun j ρ => ∃ y3 y4 : Option D, ρ = [some (.lst .a (ps.map (boD C_Board))), some (.lst .a (ps.map plD)), some (.int (0 + (i : Int))), y3, y4]) ⟨y3, y4, rfl⟩ ?_ ?_
    · rintro j hj ρ ⟨y3, y4, rfl⟩ N2 hN2
      have hj2 : j < ps.length := by omega
      have e1 : (0 + (j : Int)).toNat = j := by omega
      have okj := hp _ (VL.getD_mem (d := p0) hj2)
      walk_at "vl"
      rw [at_embD p0 (by omega) (by omega), e0]
      simp only [boD, rI]
      walk_at "vl"
      rw [at_embD p0 (by omega) (by omega), e1]
      simp only [boD, rI]
      walk_at "vl"
      refine ⟨_, _, rfl, oki, okj, ?_⟩
      walk_at "vl"
      rw [at_embD p0 (by omega) (by omega), e0]
      simp only [plD, rI]
      walk_at "vl"
      rw [at_embD p0 (by omega) (by omega), e1]
      simp only [plD, rI]
      walk_at "vl"
      refine ⟨_, _, rfl, oki, okj, ?_⟩
      walk_at "vl"
      exact hN2 _ ⟨_, _, rfl⟩
    · rintro ρ ⟨y3, y4, rfl⟩
      exact hN _ ⟨_, _, _, rfl⟩
  · rintro ρ ⟨y2, y3, y4, rfl⟩
    walk_at "go"
    refine forL_range (fun i ρ => ∃ y2 y3 y4 : Option D, ρ = [some (.lst .a (ps.map (boD C_Board))), some (.lst .a (ps.map plD)), y2, y3, y4]) ⟨y2, y3, y4, rfl⟩ ?_ ?_
    · rintro i hi ρ ⟨y2, y3, y4, rfl⟩ N hN
      have hi2 : i < ps.length := by omega
      have e0 : (0 + (i : Int)).toNat = i := by omega
      have oki := hp _ (VL.getD_mem (d := p0) hi2)
      walk_at "vl"
      rw [at_embD p0 (by omega) (by omega), e0]
      simp only [boD, rI]
      walk_at "vl"
      rw [at_embD p0 (by omega) (by omega), e0]
      simp only [plD, rI]
      walk_at "vl"
      refine ⟨_, rfl, oki, ?_⟩
      walk_at "vl"
      exact hN _ ⟨_, _, _, rfl⟩
    · rintro ρ ⟨y2, y3, y4, rfl⟩
      walk_at "go"
      exact hq
def P_law_row : PV := fun ds Q _ => ∃ (ns : List Int) (a : Int), ds = [sc ns, .int a] ∧ ns.length ≤ 63 ∧ 0 ≤ a ∧ a ≤ 3000 ∧ ∀ l : List Int, LnOk l → (∀ t, l.getD t 0 ≤ 32) → l.length ≤ 40 → Q (rI l)
theorem m_law_row : ∀ ds Q Ed, ds.length = 2 → P_law_row ds Q Ed → t_law_row P_law_cut P_law_draw { nx := fun _ => Q .non, rt := Q } (startD 5 ds) := by
  rintro ds Q Ed - ⟨ns, a, rfl, hl, a0, a1, hq⟩
  unfold t_law_row
  walk_at "vl"
  refine draw_ok hl (by omega) (by omega) (by decide) fun sz s0 s1 => ?_
  walk_at "st"
  refine stp_cut (fun ρ => ∃ sz : Int, 0 ≤ sz ∧ sz ≤ 40 ∧ ρ = [some (sc ns), some (.int a), some (.int sz), none, none]) (fun N hN => ?_) ?_
  · walk_at "go"
    · rename_i q q0 q1
      exact hN _ ⟨q, q0, by omega, rfl⟩
    · exact hN _ ⟨sz, s0, by omega, rfl⟩
  clear s0 s1 sz
  rintro ρ ⟨sz, s0, s1, rfl⟩
  walk_at "vl"
  refine draw_ok hl (by omega) (by omega) (by decide) fun r r0 r1 => ?_
  walk_at "vl"
  obtain ⟨top, et, t0, t1⟩ : ∃ t : Int, atI [D.int 1, D.int 2, D.int 4, D.int 32] r = some (.int t) ∧ 1 ≤ t ∧ t ≤ 32 := by
    have : r = 0 ∨ r = 1 ∨ r = 2 ∨ r = 3 := by omega
    rcases this with rfl | rfl | rfl | rfl
    · exact ⟨1, rfl, by decide, by decide⟩
    · exact ⟨2, rfl, by decide, by decide⟩
    · exact ⟨4, rfl, by decide, by decide⟩
    · exact ⟨32, rfl, by decide, by decide⟩
  rw [et]
  clear et r0 r1 r
  walk_at "go"
  refine lc_some (fun d => ∃ x, (0 ≤ x ∧ x ≤ 32) ∧ d = D.int x) (fun x hx N2 hN2 => ?_) fun ys hy hys => ?_
  · rw [upTo_ints] at hx
    obtain ⟨k, hk, rfl⟩ := List.mem_map.mp hx
    have := mem_rngI.mp hk
    walk_at "vl"
    refine draw_ok hl (by omega) (by omega) (by omega) fun r r0 r1 => ?_
    walk_at "vl"
    exact hN2 _ ⟨r, ⟨r0, by omega⟩, rfl⟩ rfl
  obtain ⟨is, rfl, ib⟩ := emb_ex D.int (fun x => 0 ≤ x ∧ x ≤ 32) (fun y h => by obtain ⟨x, h1, h2⟩ := hys y h; exact ⟨x, h1, h2⟩)
  clear hys
  rw [List.length_map, upTo_len] at hy
  rw [List.nil_append]
  have ig : ∀ t, 0 ≤ is.getD t 0 ∧ is.getD t 0 ≤ 32 := fun t => by
    by_cases ht : t < is.length
    · exact ib _ (VL.getD_mem ht)
    · rw [getD_far (by omega)]; omega
  walk_at "go"
  refine ⟨is, _, rfl, .inl rfl, by omega, fun c cc hc lc => ?_⟩
  walk_at "go"
  exact hq c ⟨cc, fun t => by rw [hc]; exact (ig t).1, by omega⟩ (fun t => by rw [hc]; exact (ig t).2) (by omega)
def P_law_capacity : PV := fun ds Q _ => ∃ (ns : List Int) (a own total : Int), ds = [sc ns, .int a, .int own, .int total] ∧ ns.length ≤ 63 ∧ 0 ≤ a ∧ a ≤ 1000 ∧ 0 ≤ own ∧ own ≤ 32 ∧ ∀ c : Int, own ≤ c → c ≤ 32 → Q (.int c)
theorem m_law_capacity : ∀ ds Q Ed, ds.length = 4 → P_law_capacity ds Q Ed → t_law_capacity P_law_draw { nx := fun _ => Q .non, rt := Q } (startD 5 ds) := by
  rintro ds Q Ed - ⟨ns, a, own, total, rfl, hl, a0, a1, o0, o1, hq⟩
  unfold t_law_capacity
  walk_at "go"
  · exact hq _ (by omega) (by omega)
  · exact hq _ (by omega) (by omega)
  · exact hq _ (by omega) (by omega)
def P_law_lowered : PV := fun ds Q _ => ∃ (ns : List Int) (a : Int) (l : List Int), ds = [sc ns, .int a, rI l] ∧ ns.length ≤ 63 ∧ 0 ≤ a ∧ a ≤ 3000 ∧ LnOk l ∧ ∀ c : List Int, LnOk c → (∀ t, c.getD t 0 ≤ l.getD t 0) → c.length ≤ l.length → Q (rI c)
theorem m_law_lowered : ∀ ds Q Ed, ds.length = 3 → P_law_lowered ds Q Ed → t_law_lowered P_law_cut P_law_draw { nx := fun _ => Q .non, rt := Q } (startD 4 ds) := by
  rintro ds Q Ed - ⟨ns, a, l, rfl, hl, a0, a1, lo, hq⟩
  have l60 := lo.len
  unfold t_law_lowered
  simp only [rI]
  walk_at "go"
  rw [upTo_ints]
  refine lc_relI (fun k x => 0 ≤ x ∧ x ≤ l.getD k.toNat 0) (fun k hk N hN => ?_) fun is hi hs => ?_
  · have hk2 : k < l.length := by omega
    have p0 := lo.pos k
    walk_at "go"
    rename_i r r0 r1
    obtain ⟨v, et, v0⟩ : ∃ v : Int, atI [D.int 0, D.int 0, D.int 1, D.int 40] r = some (.int v) ∧ 0 ≤ v := by
      have : r = 0 ∨ r = 1 ∨ r = 2 ∨ r = 3 := by omega
      rcases this with rfl | rfl | rfl | rfl
      · exact ⟨0, rfl, by decide⟩
      · exact ⟨0, rfl, by decide⟩
      · exact ⟨1, rfl, by decide⟩
      · exact ⟨40, rfl, by decide⟩
    rw [et]
    walk_at "vl"
    exact hN _ ⟨by omega, by rw [Int.toNat_natCast]; omega⟩
  have hil : is.length = l.length := by omega
  have ig : ∀ t, 0 ≤ is.getD t 0 ∧ is.getD t 0 ≤ l.getD t 0 := fun t => by
    by_cases ht : t < l.length
    · have := hs t (by omega)
      rw [Int.toNat_natCast] at this
      exact this
    · rw [getD_far (l := is) (by omega), getD_far (l := l) (by omega)]; omega
  walk_at "go"
  refine ⟨is, _, rfl, .inl rfl, by omega, fun c cc hc lc => ?_⟩
  walk_at "go"
  exact hq c ⟨cc, fun t => by rw [hc]; exact (ig t).1, by omega⟩ (fun t => by rw [hc]; exact (ig t).2) (by omega)
def P_law_other : PV := fun ds Q _ => ∃ (ns : List Int) (a : Int) (c : List Int), ds = [sc ns, .int a, rI c] ∧ ns.length ≤ 63 ∧ 0 ≤ a ∧ a ≤ 3000 ∧ 0 < c.length ∧ c.length ≤ 20 ∧ (∀ x, x ∈ c → 0 ≤ x ∧ x ≤ 32) ∧ ∀ o : List Int, o.length = c.length → (∀ x, x ∈ o → 0 ≤ x ∧ x ≤ 32) → Q (rI o)
theorem m_law_other : ∀ ds Q Ed, ds.length = 3 → P_law_other ds Q Ed → t_law_other P_law_draw { nx := fun _ => Q .non, rt := Q } (startD 6 ds) := by
  rintro ds Q Ed - ⟨ns, a, c, rfl, hl, a0, a1, c0, c20, hc, hq⟩
  unfold t_law_other
  simp only [rI]
  walk_at "vl"
  refine draw_ok hl (by omega) (by omega) (by omega) fun r r0 r1 => ?_
  have cr := hc _ (VL.getD_mem (d := 0) (show r.toNat < c.length by omega))
  walk_at "st"
  with_reducible refine stp_i ?_
  walk_at "st"
  rw [at_embD (0 : Int) (by omega) (by omega)]
  walk_at "st"
  refine stp_cut (fun ρ => ∃ v : Int, 0 ≤ v ∧ v ≤ 32 ∧ ρ = [some (sc ns), some (.int a), some (.tup (c.map .int)), some (.int r), some (.int v), none]) (fun N hN => ?_) ?_
  · walk_at "go"
    all_goals exact hN _ ⟨_, by omega, by omega, rfl⟩
  rintro ρ ⟨v, v0, v1, rfl⟩
  walk_at "go"
  rw [upTo_ints]
  refine lc_relI (fun k x => 0 ≤ x ∧ x ≤ 32) (fun k hk N hN => ?_) fun is hi hs => ?_
  · have hk2 : k < c.length := by omega
    have ck := hc _ (VL.getD_mem (d := 0) hk2)
    walk_at "go"
    rw [Int.toNat_natCast]
    by_cases h : (k : Int) = r
    · rw [if_pos (decide_eq_true h)]
      exact ⟨rfl, hN v ⟨v0, v1⟩⟩
    · rw [if_neg (by rw [decide_eq_false h]; decide)]
      exact ⟨rfl, hN _ ck⟩
  walk_at "go"
  refine hq is (by omega) fun x hx => ?_
  obtain ⟨t, ht, e⟩ := List.getElem_of_mem hx
  have := hs t (by omega)
  rw [List.getD_eq_getElem?_getD, List.getElem?_eq_getElem ht] at this
  rw [← e]; exact this
def P_law_clipped : PV := fun ds Q _ => ∃ (caps : List Int) (L : List (List Int)) (d : D), ds = [rI caps, d] ∧ (d = .lst .a (L.map rI) ∨ d = .tup (L.map rI)) ∧ caps.length = L.length ∧ L.length ≤ 20 ∧ LOk L ∧ (∀ x, x ∈ caps → 0 ≤ x ∧ x ≤ 32) ∧ ∀ p : Pl, p.1 = caps → p.2.length = L.length → LOk p.2 → Fit caps p.2 → Q (.tup (p.2.map rI))
theorem m_law_clipped : ∀ ds Q Ed, ds.length = 2 → P_law_clipped ds Q Ed → t_law_clipped P_law_cut { nx := fun _ => Q .non, rt := Q } (startD 5 ds) := by
  rintro ds Q Ed - ⟨caps, L, d, rfl, hd, el, l20, lo, hc, hq⟩
  unfold t_law_clipped
  simp only [rI]
  have key : ∀ d : D, (d = .lst .a (L.map rI) ∨ d = .tup (L.map rI)) → forL (vgName 3) (vApp 2 (vCall 1 P_law_cut [] (vCons (vLc (vIt (vOp dIx (vVar 1) (vVar 3))) (vgName 4) vYes (vB dMin2 (vCons (vVar 4) (vCons (vOp dIx (vVar 0) (vVar 3)) vNil))) [4]) vNil))) (upTo 0 (Int.toNat caps.length)) { nx := fun ρ' => stp (vRet (vB dTuple (vCons (vVar 2) vNil)) { nx := fun x => Q D.non, rt := Q }) ρ' {}, rt := Q } [some (.tup (caps.map .int)), some d, some (.lst .o []), none, none] := by
    intro d hd
    refine forL_range (fun i ρ => ∃ (R : List (List Int)) (y3 : Option D), R.length = i ∧ (∀ k, k < i → LnOk (R.getD k []) ∧ ∀ t, (R.getD k []).getD t 0 ≤ caps.getD k 0) ∧ ρ = [some (.tup (caps.map .int)), some d, some (.lst .o (R.map rI)), y3, none]) ⟨[], none, rfl, fun k hk => absurd hk (by omega), rfl⟩ ?_ ?_
    · rintro i hi ρ ⟨R, y3, hR, hb, rfl⟩ N hN
      have il : i < L.length := by omega
      have e0 : (0 + (i : Int)).toNat = i := by omega
      have lk := lo i il
      have l60 := lk.len
      have cc := hc _ (VL.getD_mem (d := 0) (show i < caps.length by omega))
      rcases hd with rfl | rfl
      · walk_at "go"
        rw [e0]
        refine ⟨by omega, ?_⟩
        refine lc_emb1 D.int (fun x => .int (min x (caps.getD i 0))) (fun x hx N hN => ?_) ?_
        · walk_at "go"
          simp only [e0]
          exact hN
        rw [show (L.getD i []).map (fun x => D.int (min x (caps.getD i 0))) = ((L.getD i []).map fun x => min x (caps.getD i 0)).map .int by rw [List.map_map]; rfl]
        walk_at "go"
        refine ⟨_, _, rfl, .inl rfl, by rw [List.length_map]; omega, fun c cn hcv lc => ?_⟩
        rw [List.length_map] at lc
        have cv : ∀ t, 0 ≤ c.getD t 0 ∧ c.getD t 0 ≤ caps.getD i 0 := fun t => by
          rw [hcv]
          by_cases ht : t < (L.getD i []).length
          · have e : ((L.getD i []).map fun x => min x (caps.getD i 0)).getD t 0 = min ((L.getD i []).getD t 0) (caps.getD i 0) := by
              rw [List.getD_eq_getElem?_getD, List.getElem?_map, List.getElem?_eq_getElem ht, List.getD_eq_getElem?_getD (l := L.getD i []), List.getElem?_eq_getElem ht]; rfl
            rw [e]
            have := lk.pos t
            omega
          · rw [getD_far (by rw [List.length_map]; omega)]; omega
        walk_at "go"
        rw [show R.map rI ++ [D.tup (c.map .int)] = (R ++ [c]).map rI by rw [List.map_append]; rfl]
        refine hN _ ⟨R ++ [c], _, by rw [List.length_append, hR]; rfl, fun k hk => ?_, rfl⟩
        by_cases ck : k = i
        · rw [ck, show (R ++ [c]).getD i [] = c by rw [List.getD_eq_getElem?_getD, List.getElem?_append_right (by omega), hR]; simp]
          exact ⟨⟨cn, fun t => (cv t).1, by omega⟩, fun t => (cv t).2⟩
        · rw [show (R ++ [c]).getD k [] = R.getD k [] by rw [List.getD_eq_getElem?_getD, List.getElem?_append_left (by omega), List.getD_eq_getElem?_getD]]
          exact hb k (by omega)
      · walk_at "go"
        rw [e0]
        refine ⟨by omega, ?_⟩
        refine lc_emb1 D.int (fun x => .int (min x (caps.getD i 0))) (fun x hx N hN => ?_) ?_
        · walk_at "go"
          simp only [e0]
          exact hN
        rw [show (L.getD i []).map (fun x => D.int (min x (caps.getD i 0))) = ((L.getD i []).map fun x => min x (caps.getD i 0)).map .int by rw [List.map_map]; rfl]
        walk_at "go"
        refine ⟨_, _, rfl, .inl rfl, by rw [List.length_map]; omega, fun c cn hcv lc => ?_⟩
        rw [List.length_map] at lc
        have cv : ∀ t, 0 ≤ c.getD t 0 ∧ c.getD t 0 ≤ caps.getD i 0 := fun t => by
          rw [hcv]
          by_cases ht : t < (L.getD i []).length
          · have e : ((L.getD i []).map fun x => min x (caps.getD i 0)).getD t 0 = min ((L.getD i []).getD t 0) (caps.getD i 0) := by
              rw [List.getD_eq_getElem?_getD, List.getElem?_map, List.getElem?_eq_getElem ht, List.getD_eq_getElem?_getD (l := L.getD i []), List.getElem?_eq_getElem ht]; rfl
            rw [e]
            have := lk.pos t
            omega
          · rw [getD_far (by rw [List.length_map]; omega)]; omega
        walk_at "go"
        rw [show R.map rI ++ [D.tup (c.map .int)] = (R ++ [c]).map rI by rw [List.map_append]; rfl]
        refine hN _ ⟨R ++ [c], _, by rw [List.length_append, hR]; rfl, fun k hk => ?_, rfl⟩
        by_cases ck : k = i
        · rw [ck, show (R ++ [c]).getD i [] = c by rw [List.getD_eq_getElem?_getD, List.getElem?_append_right (by omega), hR]; simp]
          exact ⟨⟨cn, fun t => (cv t).1, by omega⟩, fun t => (cv t).2⟩
        · rw [show (R ++ [c]).getD k [] = R.getD k [] by rw [List.getD_eq_getElem?_getD, List.getElem?_append_left (by omega), List.getD_eq_getElem?_getD]]
          exact hb k (by omega)
    · rintro ρ ⟨R, y3, hR, hb, rfl⟩
      walk_at "go"
      refine hq (caps, R) rfl (by show R.length = _; omega) (fun k hk => (hb k (by have : k < R.length := hk; omega)).1) fun k hk t _ => (hb k (by have : k < R.length := hk; omega)).2 t
  rcases hd with rfl | rfl
  · walk_at "go"
    exact key _ (.inl rfl)
  · walk_at "go"
    exact key _ (.inr rfl)
omit C_Board KK in
theorem set_split (L : List (List Int)) {r : Nat} (h : r < L.length) (c : List Int) : ((rngI 0 r).map fun k => L.getD k.toNat []) ++ [c] ++ ((rngI ((r : Int) + 1) ((L.length : Int) - ((r : Int) + 1)).toNat).map fun k => L.getD k.toNat []) = L.set r c := by
  have l1 : ((rngI 0 r).map fun k => L.getD k.toNat []).length = r := by rw [List.length_map, rngI_len]
  apply List.ext_getElem
  · rw [List.length_append, List.length_append, l1, List.length_map, rngI_len, List.length_set, List.length_singleton]; omega
  · intro i h1 h2
    rw [List.length_set] at h2
    rw [List.getElem_set]
    by_cases c1 : r = i
    · subst c1
      rw [if_pos rfl, List.getElem_append_left (by rw [List.length_append, l1, List.length_singleton]; omega), List.getElem_append_right (by omega)]
      simp [l1]
    · rw [if_neg c1]
      by_cases c2 : i < r
      · rw [List.getElem_append_left (by rw [List.length_append, l1, List.length_singleton]; omega), List.getElem_append_left (by omega), List.getElem_map]
        simp [rngI, List.getD_eq_getElem?_getD, h2]
      · rw [List.getElem_append_right (by rw [List.length_append, l1, List.length_singleton]; omega), List.getElem_map]
        have e : ((rngI ((r : Int) + 1) ((L.length : Int) - ((r : Int) + 1)).toNat)[i - (((rngI 0 r).map fun k => L.getD k.toNat []) ++ [c]).length]'(by rw [rngI_len, List.length_append, l1, List.length_singleton]; omega)) = (i : Int) := by
          unfold rngI
          simp only [List.getElem_map, List.getElem_range, List.length_append, List.length_map, List.length_range, List.length_singleton]
          omega
        rw [e, Int.toNat_natCast, List.getD_eq_getElem?_getD, List.getElem?_eq_getElem h2]; rfl
def P_law_raised : PV := fun ds Q _ => ∃ (ns : List Int) (a : Int) (caps : List Int) (L : List (List Int)), ds = [sc ns, .int a, rI caps, .tup (L.map rI)] ∧ ns.length ≤ 63 ∧ 0 ≤ a ∧ a ≤ 3000 ∧ caps.length = L.length ∧ L.length ≤ 20 ∧ LOk L ∧ (∀ r, r ∈ L → r.length ≤ 58) ∧ (∀ x, x ∈ caps → 0 ≤ x ∧ x ≤ 32) ∧ Fit caps L ∧ ∀ R : List (List Int), R.length = L.length → LOk R → Fit caps R → Q (.tup (R.map rI))
theorem m_law_raised : ∀ ds Q Ed, ds.length = 4 → P_law_raised ds Q Ed → t_law_raised P_law_cut P_law_draw { nx := fun _ => Q .non, rt := Q } (startD 8 ds) := by
  rintro ds Q Ed - ⟨ns, a, caps, L, rfl, hl, a0, a1, el, l20, lo, r58, hc, hf, hq⟩
  unfold t_law_raised
  simp only [rI]
  walk_at "vl"
  refine sel_d (fun h => ?_) (fun h => ?_)
  · walk_at "vl"
    exact hq L rfl lo hf
  walk_at "vl"
  refine draw_ok hl (by omega) (by omega) (by omega) fun r r0 r1 => ?_
  have rl : r.toNat < L.length := by omega
  have lk := lo r.toNat rl
  have rb := r58 _ (VL.getD_mem (d := []) rl)
  have cc := hc _ (VL.getD_mem (d := 0) (show r.toNat < caps.length by omega))
  have fr := hf r.toNat rl
  walk_at "vl"
  rw [at_embD ([] : List Int) (by omega) (by omega)]
  generalize L.getD r.toNat [] = row at lk rb fr ⊢
  simp only [rI]
  walk_at "vl"
  refine ⟨by omega, ?_⟩
  have e2 : row.map D.int ++ [D.int 0, D.int 0] = (row ++ [0, 0]).map D.int := by simp
  have l2 : (row ++ [(0 : Int), 0]).length = row.length + 2 := by simp
  have v2 : ∀ t, (row ++ [(0 : Int), 0]).getD t 0 = row.getD t 0 := fun t => getD_pad row 2 t
  rw [e2]
  generalize row ++ [(0 : Int), 0] = row2 at l2 v2 ⊢
  clear e2
  walk_at "vl"
  refine draw_ok hl (by omega) (by omega) (by omega) fun t t0 t1 => ?_
  walk_at "vl"
  rw [at_embD (0 : Int) (by omega) (by omega)]
  walk_at "vl"
  rw [at_embD (0 : Int) (by omega) (by omega)]
  walk_at "vl"
  refine draw_ok hl (by omega) (by omega) (by decide) fun x x0 x1 => ?_
  walk_at "vl"
  refine ⟨t.toNat, ixN_pos t0 (by omega), ?_⟩
  rw [← List.map_set]
  have tl : t.toNat < row2.length := by omega
  have rp : ∀ k, 0 ≤ (row2.set t.toNat (min (caps.getD r.toNat 0) (row2.getD t.toNat 0 + 1 + x))).getD k 0 ∧ (row2.set t.toNat (min (caps.getD r.toNat 0) (row2.getD t.toNat 0 + 1 + x))).getD k 0 ≤ caps.getD r.toNat 0 := fun k => by
    rw [getD_set1 _ _ _ _ tl]
    have p1 := lk.pos t.toNat
    have p2 := lk.pos k
    rw [v2, v2]
    split
    · omega
    · refine ⟨p2, ?_⟩
      by_cases ck : k < row.length
      · exact fr k ck
      · rw [getD_far (l := row) (by omega)]; exact cc.1
  have rl3 : (row2.set t.toNat (min (caps.getD r.toNat 0) (row2.getD t.toNat 0 + 1 + x))).length ≤ 60 := by rw [List.length_set]; omega
  generalize row2.set t.toNat (min (caps.getD r.toNat 0) (row2.getD t.toNat 0 + 1 + x)) = row3 at rp rl3 ⊢
  walk_at "vl"
  refine ⟨by unfold bigI; omega, by omega, ?_⟩
  rw [upTo_ints]
  refine lc_emb1 D.int (fun k => rI (L.getD k.toNat [])) (fun k hk N hN => ?_) ?_
  · have kr := mem_rngI.mp hk
    simp only [rI] at hN ⊢
    walk_at "go"
    exact hN
  rw [show (rngI 0 r.toNat).map (fun k => rI (L.getD k.toNat [])) = ((rngI 0 r.toNat).map fun k => L.getD k.toNat []).map rI by rw [List.map_map]; rfl]
  walk_at "vl"
  refine ⟨row3, _, rfl, .inl rfl, by omega, fun c cn hcv lc => ?_⟩
  walk_at "vl"
  refine ⟨by omega, by unfold bigI; omega, by unfold bigI; omega, by omega, ?_⟩
  rw [upTo_ints]
  refine lc_emb1 D.int (fun k => rI (L.getD k.toNat [])) (fun k hk N hN => ?_) ?_
  · have kr := mem_rngI.mp hk
    simp only [rI] at hN ⊢
    walk_at "go"
    exact hN
  have e3 := set_split L rl c
  rw [Int.toNat_of_nonneg r0] at e3
  rw [show (rngI (r + 1) ((L.length : Int) - (r + 1)).toNat).map (fun k => rI (L.getD k.toNat [])) = ((rngI (r + 1) ((L.length : Int) - (r + 1)).toNat).map fun k => L.getD k.toNat []).map rI by rw [List.map_map]; rfl]
  rw [show ∀ A : List (List Int), A.map rI ++ [rI c] = (A ++ [c]).map rI from fun A => by rw [List.map_append]; rfl]
  walk_at "go"
  rw [← List.map_append, e3]
  have so : LOk (L.set r.toNat c) := fun k hk => by
    rw [List.length_set] at hk
    rw [getD_set _ _ _ _ hk]
    split
    · exact ⟨cn, fun t => by rw [hcv]; exact (rp t).1, by omega⟩
    · exact lo k hk
  refine hq _ (List.length_set) so fun k hk t ht => ?_
  rw [List.length_set] at hk
  rw [getD_set _ _ _ _ hk] at ht ⊢
  split
  · rename_i e
    rw [hcv, ← e]; exact (rp t).2
  · rename_i e
    rw [if_neg e] at ht
    exact hf k hk t ht
omit C_Board KK in
theorem mput_has : ∀ (m : MM) (p : Int × Int) (v : Int), ∃ e, e ∈ mput m p v ∧ e.1 = p
  | [], p, v => ⟨_, List.mem_cons_self, rfl⟩
  | d :: m, p, v => by
    unfold mput
    split
    · exact ⟨_, List.mem_cons_self, rfl⟩
    · obtain ⟨e, he, h⟩ := mput_has m p v
      exact ⟨e, List.mem_cons_of_mem _ he, h⟩
def P_law_prefix : PV := fun ds Q _ => ∃ (caps : List Int) (L : List (List Int)) (U : List U3), ds = [rI caps, .tup (L.map rI), .lst .a (U.map uD)] ∧ LOk L ∧ UOk L.length U ∧ caps.length = L.length ∧ L.length ≤ 20 ∧ U.length ≤ 60 ∧ (∀ x, x ∈ caps → 0 ≤ x ∧ x ≤ 32) ∧ Fit caps L ∧ ∀ j : Nat, j ≤ U.length → fitB caps (lw L (U.take j)) = true → Q (.int j)
omit C_Board KK in
theorem fit_cov {caps : List Int} {L : List (List Int)} {W : List U3} (lo : LOk L) (hu : UOk L.length W) (h : ∀ k, k < L.length → ∀ t : Nat, base L ((k : Int), (t : Int)) + cov W k t ≤ caps.getD k 0) : fitB caps (lw L W) = true := by
  obtain ⟨a1, a2, a3⟩ := lw_all W lo hu
  refine fitB_iff.mpr fun k hk t _ => ?_
  rw [a2] at hk
  rw [a3 k hk]
  have := h k hk t
  rw [base_at] at this
  exact this
theorem m_law_prefix : ∀ ds Q Ed, ds.length = 3 → P_law_prefix ds Q Ed → t_law_prefix P_law_counts { nx := fun _ => Q .non, rt := Q } (startD 9 ds) := by
  rintro ds Q Ed - ⟨caps, L, U, rfl, lo, hu, el, l20, u60, hc, hf, hq⟩
  have hut : ∀ j, UOk L.length (U.take j) := fun j u hu2 => hu u (List.mem_of_mem_take hu2)
  unfold t_law_prefix
  simp only [rI]
  walk_at "vl"
  refine ⟨L, [], 0, rfl, .inr rfl, lo, fun _ h => (nomatch h), l20, by simp, fun m hm => ?_⟩
  walk_at "go"
  refine forL_range (fun j ρ => ∃ (m : MM) (y4 y5 y6 y7 y8 : Option D), Cn L.length (10000 + 60 * j) (fun p => base L p + cov (U.take j) p.1 p.2) m ∧ (∀ k, k < L.length → ∀ t : Nat, base L ((k : Int), (t : Int)) + cov (U.take j) k t ≤ caps.getD k 0) ∧ ρ = [some (.tup (caps.map .int)), some (.tup (L.map rI)), some (.lst .a (U.map uD)), some (.dtt .o (m.map kkE) (m.map vvE)), y4, y5, y6, y7, y8]) ⟨m, none, none, none, none, none, ⟨hm.nd, hm.val, hm.rg, hm.len⟩, fun k hk t => ?_, rfl⟩ ?_ ?_
  · rw [base_at, show cov (U.take 0) k t = 0 from rfl]
    by_cases ht : t < (L.getD k []).length
    · have := hf k hk t ht
      omega
    · rw [getD_far (l := L.getD k []) (by omega)]
      have := hc _ (VL.getD_mem (d := 0) (show k < caps.length by omega))
      omega
  · rintro j hj ρ ⟨m, y4, y5, y6, y7, y8, cn, fk, rfl⟩ N hN
    have jl : j < U.length := by omega
    have e0 : (0 + (j : Int)).toNat = j := by omega
    have u0 := hu _ (VL.getD_mem (d := (0, 0, 0)) jl)
    unfold u3Ok at u0
    have fin := hq j (by omega) (fit_cov lo (hut j) fk)
    walk_at "vl"
    rw [at_embD ((0, 0, 0) : U3) (by omega) (by omega), e0]
    generalize hu9 : U.getD j (0, 0, 0) = u at u0 ⊢
    simp only [uD]
    walk_at "go"
    refine forL_range (fun i ρ => ∃ (m : MM) (y8 : Option D), Cn L.length (10000 + 60 * j + i) (fun q => (base L q + cov (U.take j) q.1 q.2) + if q.1 = u.1 ∧ u.2.1 ≤ q.2 ∧ q.2 < u.2.1 + (i : Int) then 1 else 0) m ∧ (∀ t : Nat, u.2.1 ≤ t → (t : Int) < u.2.1 + (i : Int) → base L (u.1, (t : Int)) + cov (U.take j) u.1 t + 1 ≤ caps.getD u.1.toNat 0) ∧ ρ = [some (.tup (caps.map .int)), some (.tup (L.map rI)), some (.lst .a (U.map uD)), some (.dtt .o (m.map kkE) (m.map vvE)), some (.int (0 + (j : Int))), some (.int u.1), some (.int u.2.1), some (.int u.2.2), y8]) ⟨m, _, cn.cg (fun p => by
        show (base L p + cov (U.take j) p.1 p.2) + (if _ then 1 else 0) = _
        rw [if_neg (by omega)]; omega) (Nat.le_refl _), fun t h1 h2 => by omega, rfl⟩ ?_ ?_
    · rintro i hi ρ ⟨m2, y8, cn2, fk2, rfl⟩ N2 hN2
      have lm := cn2.len
      have vm := cn2.val (u.1, u.2.1 + (i : Int))
      walk_at "go"
      have hp : Cn L.length (10000 + 60 * j + i + 1) (fun q => (base L q + cov (U.take j) q.1 q.2) + if q.1 = u.1 ∧ u.2.1 ≤ q.2 ∧ q.2 < u.2.1 + ((i + 1 : Nat) : Int) then 1 else 0) (mput m2 (u.1, u.2.1 + (i : Int)) (mget m2 (u.1, u.2.1 + (i : Int)) + 1)) := cn2.put u0.1 u0.2.1 fun q => by rw [vm]; exact g2 (fun q => base L q + cov (U.take j) q.1 q.2) u.1 u.2.1 i q
      have hex := mput_has m2 (u.1, u.2.1 + (i : Int)) (mget m2 (u.1, u.2.1 + (i : Int)) + 1)
      have hv := hp.val (u.1, u.2.1 + (i : Int))
      refine ⟨kk_nd cn2.nd, by omega, ?_⟩
      generalize mput m2 (u.1, u.2.1 + (i : Int)) (mget m2 (u.1, u.2.1 + (i : Int)) + 1) = m3 at hp hex hv ⊢
      walk_at "vl"
      rw [kfind_m, if_pos hex]
      walk_at "vl"
      rw [at_embD (0 : Int) u0.1 (by omega)]
      walk_at "vl"
      refine sel_d (fun c => ?_) (fun c => ?_)
      · walk_at "vl"
        rw [Int.zero_add]
        exact fin
      · walk_at "vl"
        have hv2 : mget m3 (u.1, u.2.1 + (i : Int)) = base L (u.1, u.2.1 + (i : Int)) + cov (U.take j) u.1 (u.2.1 + (i : Int)) + 1 := by
          rw [hv]
          show _ + (if u.1 = u.1 ∧ u.2.1 ≤ u.2.1 + (i : Int) ∧ u.2.1 + (i : Int) < u.2.1 + ((i + 1 : Nat) : Int) then 1 else 0) = _
          rw [if_pos ⟨rfl, by omega, by omega⟩]
        refine hN2 _ ⟨m3, _, hp, fun t h1 h2 => ?_, rfl⟩
        by_cases ct : (t : Int) < u.2.1 + (i : Int)
        · exact fk2 t h1 ct
        · have e : (t : Int) = u.2.1 + (i : Int) := by omega
          rw [e]; omega
    · rintro ρ ⟨m2, y8, cn2, fk2, rfl⟩
      have ec : ∀ k t : Int, cov (U.take (j + 1)) k t = cov (U.take j) k t + if u.1 = k ∧ u.2.1 ≤ t ∧ t < u.2.2 then 1 else 0 := fun k t => by
        have eu : U[j]? = some u := by
          rw [← hu9, List.getD_eq_getElem?_getD, List.getElem?_eq_getElem jl]; rfl
        rw [List.take_succ, eu, cov_app]
        show _ + cov [u] k t = _
        rw [cov_cons, show cov [] k t = 0 from rfl, Int.add_zero]
      refine hN _ ⟨m2, _, _, _, _, _, cn2.cg (fun p => ?_) (by omega), fun k hk t => ?_, rfl⟩
      · show base L p + cov (U.take (j + 1)) p.1 p.2 = (base L p + cov (U.take j) p.1 p.2) + _
        rw [ec]
        by_cases c : p.1 = u.1 ∧ u.2.1 ≤ p.2 ∧ p.2 < u.2.2
        · rw [if_pos (by omega), if_pos (by omega)]; omega
        · rw [if_neg (by omega), if_neg (by omega)]; omega
      · rw [ec]
        have f1 := fk k hk t
        split
        · rename_i c
          have f2 := fk2 t c.2.1 (by omega)
          rw [show k = u.1.toNat by omega]
          rw [show ((u.1.toNat : Nat) : Int) = u.1 by omega]
          omega
        · omega
  · rintro ρ ⟨m, y4, y5, y6, y7, y8, cn, fk, rfl⟩
    walk_at "go"
    rw [Int.toNat_natCast] at fk
    exact hq U.length (Nat.le_refl _) (fit_cov lo (hut _) fk)
def P_law_uses_keep (CB : Addr) : PV := fun ds Q _ => ∃ (ps : List Pl) (U : List U3), ds = [.lst .a (ps.map (boD CB)), .lst .a (ps.map plD), .lst .a (U.map uD)] ∧ 0 < ps.length ∧ ps.length ≤ 20 ∧ (∀ p, p ∈ ps → PlOk p) ∧ (∀ p, p ∈ ps → UOk p.2.length U) ∧ U.length ≤ 60 ∧ fitB (ps.getD 0 p0).1 (lw (ps.getD 0 p0).2 U) = true ∧ Q (.bl true)
theorem m_law_uses_keep : ∀ ds Q Ed, ds.length = 3 → P_law_uses_keep C_Board ds Q Ed → t_law_uses_keep (P_Board_add C_Board) (P_Board_covers C_Board) (P_Board_fits C_Board) P_law_counts P_law_covers P_law_fit (P_law_is_board C_Board) P_law_rows C_Board { nx := fun _ => Q .non, rt := Q } (startD 10 ds) := by
  rintro ds Q Ed - ⟨ps, U, rfl, hl0, hl, hp, hu, u60, hf, hq⟩
  have hB : ∀ i : Nat, i < ps.length → atI (ps.map (boD C_Board)) ((0 : Int) + (i : Int)) = some (boD C_Board (ps.getD i p0)) := fun i hi => by
    rw [at_embD p0 (by omega) (by omega), show (0 + (i : Int)).toNat = i by omega]
  have hP : ∀ i : Nat, i < ps.length → atI (ps.map plD) ((0 : Int) + (i : Int)) = some (plD (ps.getD i p0)) := fun i hi => by
    rw [at_embD p0 (by omega) (by omega), show (0 + (i : Int)).toNat = i by omega]
  have hB0 := hB 0 hl0
  have hP0 := hP 0 hl0
  rw [show (0 : Int) + ((0 : Nat) : Int) = 0 from rfl] at hB0 hP0
  have oka := hp _ (VL.getD_mem (d := p0) hl0)
  have ua := hu _ (VL.getD_mem (d := p0) hl0)
  generalize ps.getD 0 p0 = a at oka ua hf hB0 hP0
  have na := oka.n
  simp only [boD, rI] at hB0
  simp only [plD, rI] at hP0
  unfold t_law_uses_keep
  walk_at "vl"
  rw [hB0]
  walk_at "vl"
  refine ⟨.inl True.intro, a, U, rfl, oka, ua, u60, hf, ?_⟩
  simp only [boD, rI, plus]
  walk_at "vl"
  rw [hP0]
  walk_at "vl"
  refine ⟨a.2, U, 1, rfl, .inl rfl, oka.L, ua, by omega, u60, fun m hm => ?_⟩
  walk_at "vl"
  try rw [hP0]
  walk_at "vl"
  refine ⟨a.2, U, m, _, rfl, rfl, oka.L, ua, by omega, hm, ?_⟩
  clear hm m
  walk_at "go"
  have okA := plus_ok oka ua hf
  refine forL_range (fun j ρ => ∃ y5 y6 y7 y8 y9 : Option D, ρ = [some (.lst .a (ps.map (boD C_Board))), some (.lst .a (ps.map plD)), some (.lst .a (U.map uD)), some (boD C_Board (plus a U)), some (plD (plus a U)), y5, y6, y7, y8, y9]) ⟨none, none, none, none, none, rfl⟩ ?_ ?_
  · rintro j hj ρ ⟨y5, y6, y7, y8, y9, rfl⟩ N hN
    have hj2 : j < ps.length := by omega
    have hBj := hB j hj2
    have hPj := hP j hj2
    have okb := hp _ (VL.getD_mem (d := p0) hj2)
    have ub := hu _ (VL.getD_mem (d := p0) hj2)
    generalize ps.getD j p0 = b at okb ub hBj hPj
    have nb := okb.n
    have fin : ∀ y5 y6 y7 y8 y9, N [some (.lst .a (ps.map (boD C_Board))), some (.lst .a (ps.map plD)), some (.lst .a (U.map uD)), some (boD C_Board (plus a U)), some (plD (plus a U)), y5, y6, y7, y8, y9] := fun y5 y6 y7 y8 y9 => hN _ ⟨y5, y6, y7, y8, y9, rfl⟩
    clear hN
    simp only [boD, plD, rI, plus] at hBj hPj fin ⊢
    walk_at "vl"
    rw [hBj]
    walk_at "vl"
    refine ⟨b, U, rfl, okb, ub, u60, ?_⟩
    walk_at "vl"
    rw [hPj]
    walk_at "vl"
    try rw [hPj]
    walk_at "vl"
    refine ⟨b.2, U, b.1, rfl, okb.L, ub, by omega, u60, okb.cap, ?_⟩
    walk_at "vl"
    rw [hP0]
    walk_at "vl"
    rw [hPj]
    walk_at "vl"
    refine ⟨a, b, rfl, oka, okb, ?_⟩
    cases hcv : cvB a b
    · walk_at "vl"
      refine sel_b (fun e => ?_) (fun e => ?_)
      · have okB := plus_ok okb ub e
        walk_at "vl"
        rw [hBj]
        walk_at "vl"
        refine ⟨.inl True.intro, b, U, rfl, okb, ub, u60, e, ?_⟩
        simp only [boD, rI, plus]
        walk_at "vl"
        rw [hPj]
        walk_at "vl"
        refine ⟨b.2, U, 1, rfl, .inl rfl, okb.L, ub, by omega, u60, fun m hm => ?_⟩
        walk_at "vl"
        try rw [hPj]
        walk_at "vl"
        refine ⟨b.2, U, m, _, rfl, rfl, okb.L, ub, by omega, hm, ?_⟩
        clear hm m
        walk_at "vl"
        refine ⟨plus a U, plus b U, rfl, okA, okB, ?_⟩
        walk_at "vl"
        refine ⟨plus b U, rfl, okB, ?_⟩
        walk_at "vl"
        refine ⟨plus a U, plus b U, rfl, okA, okB, ?_⟩
        walk_at "vl"
        rw [hP0]
        walk_at "vl"
        rw [hPj]
        walk_at "vl"
        refine ⟨a, b, rfl, oka, okb, ?_⟩
        rw [hcv]
        walk_at "vl"
        exact fin _ _ _ _ _
      · walk_at "vl"
        exact fin _ _ _ _ _
    · have e := cv_fit oka okb ua hcv hf
      have ecv := cv_plus oka okb ua hcv
      have efin := fin
      rw [e]
      have okB := plus_ok okb ub e
      walk_at "vl"
      rw [hBj]
      walk_at "vl"
      refine ⟨.inl True.intro, b, U, rfl, okb, ub, u60, e, ?_⟩
      simp only [boD, rI, plus]
      walk_at "vl"
      rw [hPj]
      walk_at "vl"
      refine ⟨b.2, U, 1, rfl, .inl rfl, okb.L, ub, by omega, u60, fun m hm => ?_⟩
      walk_at "vl"
      try rw [hPj]
      walk_at "vl"
      refine ⟨b.2, U, m, _, rfl, rfl, okb.L, ub, by omega, hm, ?_⟩
      clear hm m
      walk_at "vl"
      refine ⟨plus a U, plus b U, rfl, okA, okB, ?_⟩
      walk_at "vl"
      refine ⟨plus b U, rfl, okB, ?_⟩
      walk_at "vl"
      refine ⟨plus a U, plus b U, rfl, okA, okB, ?_⟩
      walk_at "vl"
      rw [hP0]
      walk_at "vl"
      rw [hPj]
      walk_at "vl"
      refine ⟨a, b, rfl, oka, okb, ?_⟩
      rw [hcv]
      walk_at "vl"
      try rw [ecv]
      walk_at "vl"
      exact fin _ _ _ _ _
  · rintro ρ ⟨y5, y6, y7, y8, y9, rfl⟩
    walk_at "go"
    exact hq
omit C_Board KK in
theorem mx_pos (l : List Int) : 0 ≤ mx l := (fold_max l 0).2 0 List.mem_cons_self
omit C_Board KK in
theorem mx_ge {l : List Int} {x : Int} (h : x ∈ l) : x ≤ mx l := (fold_max l 0).2 x (List.mem_cons_of_mem _ h)
set_option maxHeartbeats 4000000 in
theorem m_law : ∀ ds Q Ed, ds.length = 1 → LawP ds Q Ed → t_law (P_Board_later C_Board) P_law_capacity P_law_clipped P_law_counts P_law_cut P_law_draw P_law_lowered P_law_other (P_law_pairs C_Board) P_law_prefix P_law_raised P_law_row P_law_rows P_law_uses (P_law_uses_keep C_Board) (P_Board_init C_Board) C_Board { nx := fun _ => Q .non, rt := Q } (startD 18 ds) := by
  rintro ds Q Ed - ⟨ns, rfl, hl, hq⟩
  unfold t_law
  walk_at "vl"
  refine draw_ok hl (by decide) (by decide) (by decide) fun r r0 r1 => ?_
  walk_at "st"
  refine stp_cut (fun ρ => ∃ n : Int, 1 ≤ n ∧ n ≤ 10 ∧ ρ = [some (sc ns), some (.int n), none, none, none, none, none, none, none, none, none, none, none, none, none, none, none, none]) (fun N hN => ?_) ?_
  · walk_at "go"
    · rename_i q q0 q1
      exact hN _ ⟨6 + q, by omega, by omega, rfl⟩
    · exact hN _ ⟨1 + r, by omega, by omega, rfl⟩
  clear r0 r1 r
  rintro ρ ⟨n, n0, n1, rfl⟩
  walk_at "vl"
  refine draw_ok hl (by decide) (by decide) (by decide) fun c c0 c1 => ?_
  walk_at "st"
  refine stp_cut (fun ρ => ∃ (n c : Int), 0 ≤ n ∧ n ≤ 10 ∧ 0 ≤ c ∧ c ≤ 6 ∧ (c = 0 ∨ 0 < n) ∧ ρ = [some (sc ns), some (.int n), some (.int c), none, none, none, none, none, none, none, none, none, none, none, none, none, none, none]) (fun N hN => ?_) ?_
  · walk_at "go"
    · exact hN _ ⟨0, 0, by omega, by omega, by omega, by omega, .inl rfl, rfl⟩
    · exact hN _ ⟨n, c, by omega, by omega, by omega, by omega, .inr (by omega), rfl⟩
  clear n0 n1 c0 c1 n c
  rintro ρ ⟨n, c, n0, n1, c0, c1, nc, rfl⟩
  refine seq_cut (fun ρ => ∃ L : List (List Int), n = L.length ∧ (∀ l, l ∈ L → LnOk l ∧ (∀ t, l.getD t 0 ≤ 32) ∧ l.length ≤ 40) ∧ ρ = [some (sc ns), some (.int n), some (.int c), some (.tup (L.map rI)), none, none, none, none, none, none, none, none, none, none, none, none, none, none]) (fun N hN => ?_) ?_
  · walk_at "go"
    refine lc_some (fun d => ∃ l : List Int, (LnOk l ∧ (∀ t, l.getD t 0 ≤ 32) ∧ l.length ≤ 40) ∧ d = rI l) (fun x hx N2 hN2 => ?_) fun ys hy hys => ?_
    · rw [upTo_ints] at hx
      obtain ⟨k, hk, rfl⟩ := List.mem_map.mp hx
      have := mem_rngI.mp hk
      walk_at "vl"
      refine ⟨by unfold CMul; omega, ?_⟩
      refine ⟨ns, _, rfl, hl, by omega, by omega, fun l h1 h2 h3 => ?_⟩
      simp only [rI] at hN2 ⊢
      walk_at "vl"
      exact hN2 _ ⟨l, ⟨h1, h2, h3⟩, rfl⟩ (by simp [D.nb, D.all, Hd.fl, nbF, alls_ints])
    obtain ⟨L, rfl, lb⟩ := emb_ex rI (fun l => LnOk l ∧ (∀ t, l.getD t 0 ≤ 32) ∧ l.length ≤ 40) (fun y h => by obtain ⟨x, h1, h2⟩ := hys y h; exact ⟨x, h1, h2⟩)
    rw [List.length_map, upTo_len] at hy
    rw [List.nil_append]
    walk_at "vl"
    exact hN _ ⟨L, by omega, lb, rfl⟩
  rintro ρ ⟨L, nL, lb, rfl⟩
  have hL : LOk L := LOk.of fun l h => (lb l h).1
  have l10 : L.length ≤ 10 := by omega
  refine seq_cut (fun ρ => ∃ U : List U3, U.length = c.toNat ∧ UOk L.length U ∧ ρ = [some (sc ns), some (.int n), some (.int c), some (.tup (L.map rI)), some (.lst .l (U.map uD)), none, none, none, none, none, none, none, none, none, none, none, none, none]) (fun N hN => ?_) ?_
  · walk_at "vl"
    refine ⟨ns, 600, n, c, rfl, hl, by decide, by decide, c0, by omega, by omega, fun U hU uo => ?_⟩
    rw [show n.toNat = L.length by omega] at uo
    walk_at "vl"
    exact hN _ ⟨U, hU, uo, rfl⟩
  rintro ρ ⟨U, hU, uo, rfl⟩
  have u60 : U.length ≤ 60 := by omega
  refine seq_cut (fun ρ => ∃ R : List (List Int), R.length = L.length ∧ (∀ r, r ∈ R → r.length ≤ 60) ∧ ρ = [some (sc ns), some (.int n), some (.int c), some (.tup (L.map rI)), some (.lst .l (U.map uD)), some (.tup (R.map rI)), none, none, none, none, none, none, none, none, none, none, none, none]) (fun N hN => ?_) ?_
  · obtain ⟨a1, a2, a3⟩ := lw_all U hL uo
    walk_at "vl"
    refine ⟨L, U, 1, rfl, .inl rfl, hL, uo, by omega, u60, fun m hm => ?_⟩
    walk_at "vl"
    refine ⟨L, U, m, _, rfl, nL, hL, uo, by omega, hm, ?_⟩
    walk_at "vl"
    exact hN _ ⟨lw L U, a2, row60 a1, rfl⟩
  rintro ρ ⟨R, rL, r60, rfl⟩
  refine seq_cut (fun ρ => ∃ caps : List Int, caps.length = L.length ∧ (∀ x, x ∈ caps → 0 ≤ x ∧ x ≤ 32) ∧ Fit caps L ∧ ρ = [some (sc ns), some (.int n), some (.int c), some (.tup (L.map rI)), some (.lst .l (U.map uD)), some (.tup (R.map rI)), some (.tup (caps.map .int)), none, none, none, none, none, none, none, none, none, none, none]) (fun N hN => ?_) ?_
  · walk_at "go"
    rw [upTo_ints]
    refine lc_relI (fun k x => mx (L.getD k.toNat []) ≤ x ∧ x ≤ 32) (fun k hk N2 hN2 => ?_) fun is hi hs => ?_
    · have hk2 : k < L.length := by omega
      have ll := lb _ (VL.getD_mem (d := []) hk2)
      have rl := r60 _ (VL.getD_mem (d := []) (show k < R.length by omega))
      walk_at "go"
      simp only [Int.toNat_natCast]
      refine ⟨by omega, by omega, fun q q0 q1 => ⟨by omega, by omega, fun q2 _ _ => ?_⟩⟩
      have eq := mx_uniq q0 q1
      have qp := q1 0 List.mem_cons_self
      have q32 : q ≤ 32 := by
        rcases List.mem_cons.mp q0 with e | e
        · omega
        · obtain ⟨i, hi, e2⟩ := List.getElem_of_mem e
          have := ll.2.1 i
          rw [List.getD_eq_getElem?_getD, List.getElem?_eq_getElem hi] at this
          rw [← e2]; exact this
      refine ⟨ns, _, _, _, rfl, hl, by omega, by omega, qp, q32, fun x h1 h2 => ?_⟩
      walk_at "vl"
      exact hN2 _ ⟨by rw [Int.toNat_natCast]; omega, h2⟩
    have il : is.length = L.length := by omega
    walk_at "go"
    refine hN _ ⟨is, il, fun x hx => ?_, fun k hk t ht => ?_, rfl⟩
    · obtain ⟨k, hk, e⟩ := List.getElem_of_mem hx
      have := hs k (by omega)
      rw [List.getD_eq_getElem?_getD (l := is), List.getElem?_eq_getElem hk] at this
      have h1 : mx (L.getD (k : Int).toNat []) ≤ is[k] ∧ is[k] ≤ 32 := this
      have h2 := mx_pos (L.getD (k : Int).toNat [])
      rw [e] at h1
      omega
    · have := hs k (by omega)
      rw [Int.toNat_natCast] at this
      have h2 := mx_ge (VL.getD_mem (d := 0) ht)
      omega
  rintro ρ ⟨caps, cl, cr, cf, rfl⟩
  refine seq_cut (fun ρ => ∃ V : List U3, UOk L.length V ∧ V.length ≤ 60 ∧ fitB caps (lw L V) = true ∧ ρ = [some (sc ns), some (.int n), some (.int c), some (.tup (L.map rI)), some (.lst .l (V.map uD)), some (.tup (R.map rI)), some (.tup (caps.map .int)), none, none, none, none, none, none, none, none, none, none, none]) (fun N hN => ?_) ?_
  · simp only [rI] at hN ⊢
    walk_at "vl"
    refine ⟨caps, L, U, rfl, hL, uo, cl, by omega, u60, cr, cf, fun j hj hf => ?_⟩
    walk_at "vl"
    rw [cutL_to _ (by omega), Int.toNat_natCast]
    exact hN _ ⟨U.take j, fun u hu => uo u (List.mem_of_mem_take hu), by rw [List.length_take]; omega, hf, rfl⟩
  clear uo u60 hU U
  rintro ρ ⟨U, uo, u60, uf, rfl⟩
  refine seq_cut (fun ρ => ∃ Lo : List (List Int), Lo.length = L.length ∧ LOk Lo ∧ Fit caps Lo ∧ (∀ l, l ∈ Lo → l.length ≤ 40) ∧ ρ = [some (sc ns), some (.int n), some (.int c), some (.tup (L.map rI)), some (.lst .l (U.map uD)), some (.tup (R.map rI)), some (.tup (caps.map .int)), some (.tup (Lo.map rI)), none, none, none, none, none, none, none, none, none, none]) (fun N hN => ?_) ?_
  · walk_at "go"
    rw [upTo_ints]
    refine lc_rel D.int rI (fun k l => LnOk l ∧ (∀ t, l.getD t 0 ≤ (L.getD k.toNat []).getD t 0) ∧ l.length ≤ 40) (fun b => fix_rI.all rfl b) (fun x hx N2 hN2 => ?_) fun Lo hi hs => ?_
    · have xr := mem_rngI.mp hx
      have ll := lb _ (VL.getD_mem (d := []) (show x.toNat < L.length by omega))
      walk_at "go"
      refine ⟨ns, _, _, rfl, hl, by omega, by omega, ll.1, fun d h1 h2 h3 => ?_⟩
      simp only [rI] at hN2 ⊢
      walk_at "vl"
      exact hN2 _ ⟨h1, h2, by omega⟩
    rw [rngI_len] at hi
    rw [List.nil_append]
    have hk : ∀ k, k < L.length → LnOk (Lo.getD k []) ∧ (∀ t, (Lo.getD k []).getD t 0 ≤ (L.getD k []).getD t 0) ∧ (Lo.getD k []).length ≤ 40 := fun k hk => by
      have := hs k (k : Int) (Lo.getD k []) (by unfold rngI; rw [List.getElem?_map, List.getElem?_range (by omega)]; simp) (by rw [List.getD_eq_getElem?_getD, List.getElem?_eq_getElem (by omega)]; rfl)
      rw [Int.toNat_natCast] at this
      exact this
    walk_at "go"
    refine hN _ ⟨Lo, by omega, fun k h => (hk k (by omega)).1, fun k h t ht => ?_, fun l h => ?_, rfl⟩
    · have h1 := (hk k (by omega)).2.1 t
      by_cases c : t < (L.getD k []).length
      · have := cf k (by omega) t c
        omega
      · rw [getD_far (l := L.getD k []) (by omega)] at h1
        have := cr _ (VL.getD_mem (d := 0) (show k < caps.length by omega))
        omega
    · obtain ⟨k, h1, e⟩ := List.getElem_of_mem h
      have := (hk k (by omega)).2.2
      rw [List.getD_eq_getElem?_getD, List.getElem?_eq_getElem h1] at this
      rw [← e]; exact this
  rintro ρ ⟨Lo, lol, loo, lof, lo40, rfl⟩
  refine seq_cut (fun ρ => ∃ Mi : List (List Int), Mi.length = L.length ∧ LOk Mi ∧ Fit caps Mi ∧ ρ = [some (sc ns), some (.int n), some (.int c), some (.tup (L.map rI)), some (.lst .l (U.map uD)), some (.tup (R.map rI)), some (.tup (caps.map .int)), some (.tup (Lo.map rI)), some (.tup (Mi.map rI)), none, none, none, none, none, none, none, none, none]) (fun N hN => ?_) ?_
  · simp only [rI] at hN ⊢
    walk_at "vl"
    refine ⟨ns, 1600, caps, Lo, rfl, hl, by decide, by decide, by omega, by omega, loo, fun r hr => Nat.le_trans (lo40 r hr) (by decide), cr, lof, fun Mi h1 h2 h3 => ?_⟩
    simp only [rI]
    walk_at "vl"
    exact hN _ ⟨Mi, by omega, h2, h3, rfl⟩
  rintro ρ ⟨Mi, mil, mio, mif, rfl⟩
  refine seq_cut (fun ρ => ∃ Fr : List (List Int), Fr.length = L.length ∧ LOk Fr ∧ Fit caps Fr ∧ ρ = [some (sc ns), some (.int n), some (.int c), some (.tup (L.map rI)), some (.lst .l (U.map uD)), some (.tup (R.map rI)), some (.tup (caps.map .int)), some (.tup (Lo.map rI)), some (.tup (Mi.map rI)), some (.tup (Fr.map rI)), none, none, none, none, none, none, none, none]) (fun N hN => ?_) ?_
  · walk_at "go"
    refine lc_some (fun d => ∃ l : List Int, (LnOk l ∧ (∀ t, l.getD t 0 ≤ 32) ∧ l.length ≤ 40) ∧ d = rI l) (fun x hx N2 hN2 => ?_) fun ys hy hys => ?_
    · rw [upTo_ints] at hx
      obtain ⟨k, hk, rfl⟩ := List.mem_map.mp hx
      have := mem_rngI.mp hk
      walk_at "vl"
      refine ⟨by unfold CMul; omega, ?_⟩
      refine ⟨ns, _, rfl, hl, by omega, by omega, fun l h1 h2 h3 => ?_⟩
      simp only [rI] at hN2 ⊢
      walk_at "vl"
      exact hN2 _ ⟨l, ⟨h1, h2, h3⟩, rfl⟩ (by simp [D.nb, D.all, Hd.fl, nbF, alls_ints])
    obtain ⟨F0, rfl, fb⟩ := emb_ex rI (fun l => LnOk l ∧ (∀ t, l.getD t 0 ≤ 32) ∧ l.length ≤ 40) (fun y h => by obtain ⟨x, h1, h2⟩ := hys y h; exact ⟨x, h1, h2⟩)
    rw [List.length_map, upTo_len] at hy
    rw [List.nil_append]
    walk_at "vl"
    refine ⟨caps, F0, _, rfl, .inl rfl, by omega, by omega, LOk.of fun l h => (fb l h).1, cr, fun p h1 h2 h3 h4 => ?_⟩
    simp only [rI]
    walk_at "vl"
    exact hN _ ⟨p.2, by omega, h3, h4, rfl⟩
  rintro ρ ⟨Fr, frl, fro, frf, rfl⟩
  have ok0 : ∀ X : List (List Int), X.length = L.length → LOk X → Fit caps X → PlOk (caps, X) := fun X h1 h2 h3 => ⟨by show caps.length = X.length; omega, by show X.length ≤ 11; omega, h2, cr, h3⟩
  refine seq_cut (fun ρ => ∃ ps : List Pl, ps.length = 4 ∧ ps.getD 0 p0 = (caps, L) ∧ (∀ p, p ∈ ps → PlOk p ∧ L.length ≤ p.2.length) ∧ ρ = [some (sc ns), some (.int n), some (.int c), some (.tup (L.map rI)), some (.lst .l (U.map uD)), some (.tup (R.map rI)), some (.tup (caps.map .int)), some (.tup (Lo.map rI)), some (.tup (Mi.map rI)), some (.tup (Fr.map rI)), some (.lst .o (ps.map plD)), none, none, none, none, none, none, none]) (fun N hN => ?_) ?_
  · have k := hN _ ⟨[(caps, L), (caps, Lo), (caps, Mi), (caps, Fr)], rfl, rfl, fun p hp => by
      simp only [List.mem_cons, List.not_mem_nil, or_false] at hp
      rcases hp with rfl | rfl | rfl | rfl
      · exact ⟨ok0 L rfl hL cf, Nat.le_refl _⟩
      · exact ⟨ok0 Lo lol loo lof, Nat.le_of_eq lol.symm⟩
      · exact ⟨ok0 Mi mil mio mif, Nat.le_of_eq mil.symm⟩
      · exact ⟨ok0 Fr frl fro frf, Nat.le_of_eq frl.symm⟩, rfl⟩
    simp only [List.map_cons, List.map_nil, plD, rI] at k
    walk_at "go"
    exact k
  rintro ρ ⟨ps, pl, pg, po, rfl⟩
  refine seq_cut (fun ρ => ∃ ps : List Pl, ps.length = 5 ∧ ps.getD 0 p0 = (caps, L) ∧ (∀ p, p ∈ ps → PlOk p ∧ L.length ≤ p.2.length) ∧ ρ = [some (sc ns), some (.int n), some (.int c), some (.tup (L.map rI)), some (.lst .l (U.map uD)), some (.tup (R.map rI)), some (.tup (caps.map .int)), some (.tup (Lo.map rI)), some (.tup (Mi.map rI)), some (.tup (Fr.map rI)), some (.lst .o (ps.map plD)), none, none, none, none, none, none, none]) (fun N hN => ?_) ?_
  · have k := hN _ ⟨ps ++ [(caps ++ [1], Lo ++ [[]])], by rw [List.length_append, pl]; rfl, by rw [List.getD_eq_getElem?_getD, List.getElem?_append_left (by omega), ← List.getD_eq_getElem?_getD]; exact pg, fun p hp => ?_, rfl⟩
    · rw [List.map_append] at k
      simp only [List.map_cons, List.map_nil, plD, rI] at k
      rw [show (Lo ++ [([] : List Int)]).map rI = Lo.map rI ++ [D.tup []] from by rw [List.map_append]; rfl] at k
      walk_at "go"
      exact k
    · rcases List.mem_append.mp hp with h | h
      · exact po p h
      · rw [List.mem_singleton.mp h]
        exact ⟨ext_ok (ok0 Lo lol loo lof) (by omega), by show L.length ≤ (Lo ++ [[]]).length; rw [List.length_append]; omega⟩
  rintro ρ ⟨ps, pl, pg, po, rfl⟩
  refine seq_cut (fun ρ => ∃ (ps : List Pl) (y : Option D), ps.length ≤ 6 ∧ 0 < ps.length ∧ ps.getD 0 p0 = (caps, L) ∧ (∀ p, p ∈ ps → PlOk p ∧ L.length ≤ p.2.length) ∧ ρ = [some (sc ns), some (.int n), some (.int c), some (.tup (L.map rI)), some (.lst .l (U.map uD)), some (.tup (R.map rI)), some (.tup (caps.map .int)), some (.tup (Lo.map rI)), some (.tup (Mi.map rI)), some (.tup (Fr.map rI)), some (.lst .o (ps.map plD)), y, none, none, none, none, none, none]) (fun N hN => ?_) ?_
  · walk_at "vl"
    refine sel_d (fun h => ?_) (fun h => ?_)
    · walk_at "vl"
      refine ⟨ns, 1610, caps, rfl, hl, by decide, by decide, by omega, by omega, cr, fun ot ol oc => ?_⟩
      simp only [rI]
      walk_at "vl"
      refine ⟨ot, Lo, _, rfl, .inr rfl, by omega, by omega, loo, oc, fun p h1 h2 h3 h4 => ?_⟩
      simp only [rI]
      walk_at "vl"
      refine ⟨by omega, ?_⟩
      have k := hN _ ⟨ps ++ [p], some (.tup (ot.map .int)), by simp [pl], by simp, by rw [List.getD_eq_getElem?_getD, List.getElem?_append_left (by omega), ← List.getD_eq_getElem?_getD]; exact pg, fun q hq2 => ?_, rfl⟩
      · rw [List.map_append] at k
        simp only [List.map_cons, List.map_nil, plD, rI, h1] at k
        exact k
      · rcases List.mem_append.mp hq2 with h | h
        · exact po q h
        · rw [List.mem_singleton.mp h]
          exact ⟨⟨by rw [h1]; omega, by omega, h3, by rw [h1]; exact oc, by rw [h1]; exact h4⟩, by omega⟩
    · walk_at "vl"
      exact hN _ ⟨ps, none, by omega, by omega, pg, po, rfl⟩
  clear pl pg po ps
  rintro ρ ⟨ps, y11, pl, pl0, pg, po, rfl⟩
  have pok : ∀ p, p ∈ ps → PlOk p := fun p h => (po p h).1
  refine seq_cut (fun ρ => ρ = [some (sc ns), some (.int n), some (.int c), some (.tup (L.map rI)), some (.lst .l (U.map uD)), some (.tup (R.map rI)), some (.tup (caps.map .int)), some (.tup (Lo.map rI)), some (.tup (Mi.map rI)), some (.tup (Fr.map rI)), some (.lst .l (ps.map plD)), y11, some (.lst .l (ps.map (boD C_Board))), none, none, none, none, none]) (fun N hN => ?_) ?_
  · walk_at "go"
    refine lc_emb1 plD (boD C_Board) (fun p hp N2 hN2 => ?_) ?_
    · have ok := pok p hp
      have n11 := ok.n
      simp only [plD, boD, rI] at hN2 ⊢
      walk_at "go"
      refine lc_emb1 rI (kL .o) (fun x hx N3 hN3 => ?_) ?_
      · simp only [rI, kL] at hN3 ⊢
        walk_at "go"
        exact hN3
      walk_at "go"
      refine ⟨p, _, _, ok, rfl, rfl, .inl rfl, .inr rfl, ?_⟩
      walk_at "go"
      exact hN2
    walk_at "go"
    exact hN _ rfl
  rintro ρ rfl
  have pok2 : ∀ p, p ∈ ps.map later → PlOk p := fun p h => by
    obtain ⟨q, hq2, rfl⟩ := List.mem_map.mp h
    exact later_ok (pok q hq2)
  walk_at "vl"
  refine ⟨ps, rfl, by omega, pok, ?_⟩
  walk_at "vl"
  refine ⟨ps, rfl, by omega, pok, ?_⟩
  walk_at "vl"
  refine ⟨ps, U, rfl, pl0, by omega, pok, fun p h u hu => ?_, u60, by rw [pg]; exact uf, ?_⟩
  · have h1 := uo u hu
    have h2 := (po p h).2
    unfold u3Ok at h1 ⊢
    omega
  walk_at "go"
  refine lc_emb1 plD (fun p => plD (later p)) (fun p hp N2 hN2 => ?_) ?_
  · have ok := pok p hp
    have n11 := ok.n
    simp only [plD, rI] at hN2 ⊢
    walk_at "go"
    refine lc_emb1 rI (fun l => rI l.tail) (fun x hx N3 hN3 => ?_) ?_
    · have lo := ok.L.mem x hx
      have l6 := lo.len
      simp only [rI] at hN3 ⊢
      walk_at "go"
      rw [cutL_from _ (by decide)]
      refine ⟨_, _, rfl, .inr rfl, by rw [List.length_drop]; omega, fun z zc zv _ => ?_⟩
      have ez : z = x.tail := can_ext zc (can_tail lo.can) fun t => by rw [zv, show List.drop (Int.toNat 1) _ = _ from List.drop_one]
      subst ez
      simp only [rI]
      walk_at "go"
      exact hN3
    rw [show p.2.map (fun l => rI l.tail) = (p.2.map List.tail).map rI by rw [List.map_map]; rfl]
    walk_at "go"
    exact hN2
  rw [show ps.map (fun p => plD (later p)) = (ps.map later).map plD by rw [List.map_map]; rfl]
  walk_at "go"
  refine lc_emb1 (boD C_Board) (fun p => boD C_Board (later p)) (fun p hp N2 hN2 => ?_) ?_
  · have ok := pok p hp
    simp only [boD, rI] at hN2 ⊢
    walk_at "go"
    refine ⟨p, rfl, ok, ?_⟩
    simp only [boD, rI]
    walk_at "go"
    exact hN2
  rw [show ps.map (fun p => boD C_Board (later p)) = (ps.map later).map (boD C_Board) by rw [List.map_map]; rfl]
  walk_at "go"
  refine ⟨ps.map later, rfl, by rw [List.length_map]; omega, pok2, ?_⟩
  walk_at "go"
  refine ⟨ps, rfl, by omega, pok, ?_⟩
  walk_at "go"
  exact hq
end
end K17

/-! ## K17_d -/
set_option maxHeartbeats 4000000
namespace K17
open PySem PySem.Spec L2 VL
open PyProof.Rows hiding St
def top (i : Nat) : Stmt := PySem.Challenge.pw_eveningkept_k17_board_covers.main.body.getD i (.Pass ⟨0, 0, 0, 0⟩)
abbrev N_Board_iter : List Str := ["self"]
abbrev s_lane_later : Stmt := (top 11)
theorem sc_lane_later : FnScope N_lane_later ["lane"] (defScope s_lane_later) := ⟨rfl, rfl, rfl, by decide +kernel, rfl, by decide +kernel, by decide +kernel⟩
abbrev s_lanes_later : Stmt := (top 14)
theorem sc_lanes_later : FnScope N_lanes_later ["lanes"] (defScope s_lanes_later) := ⟨rfl, rfl, rfl, by decide +kernel, rfl, by decide +kernel, by decide +kernel⟩
abbrev s_between : Stmt := (top 7)
theorem sc_between : FnScope N_between ["value", "least", "most"] (defScope s_between) := ⟨rfl, rfl, rfl, by decide +kernel, rfl, by decide +kernel, by decide +kernel⟩
abbrev s_all_between : Stmt := (top 8)
theorem sc_all_between : FnScope N_all_between ["values", "least", "most"] (defScope s_all_between) := ⟨rfl, rfl, rfl, by decide +kernel, rfl, by decide +kernel, by decide +kernel⟩
abbrev s_trimmed : Stmt := (top 6)
theorem sc_trimmed : FnScope N_trimmed ["counts"] (defScope s_trimmed) := ⟨rfl, rfl, rfl, by decide +kernel, rfl, by decide +kernel, by decide +kernel⟩
abbrev s_Board_init : Stmt := (inClass (top 21) 0)
theorem sc_Board_init : FnScope N_Board_init ["self", "capacities", "lanes"] (defScope s_Board_init) := ⟨rfl, rfl, rfl, by decide +kernel, rfl, by decide +kernel, by decide +kernel⟩
abbrev s_Board_later : Stmt := (inClass (top 21) 8)
theorem sc_Board_later : FnScope N_Board_later ["self"] (defScope s_Board_later) := ⟨rfl, rfl, rfl, by decide +kernel, rfl, by decide +kernel, by decide +kernel⟩
abbrev s_law_draw : Stmt := (top 23)
theorem sc_law_draw : FnScope N_law_draw ["script", "k", "size"] (defScope s_law_draw) := ⟨rfl, rfl, rfl, by decide +kernel, rfl, by decide +kernel, by decide +kernel⟩
abbrev s_law_uses : Stmt := (top 27)
theorem sc_law_uses : FnScope N_law_uses ["script", "at", "many", "count"] (defScope s_law_uses) := ⟨rfl, rfl, rfl, by decide +kernel, rfl, by decide +kernel, by decide +kernel⟩
abbrev s_law_cut : Stmt := (top 24)
theorem sc_law_cut : FnScope N_law_cut ["row"] (defScope s_law_cut) := ⟨rfl, rfl, rfl, by decide +kernel, rfl, by decide +kernel, by decide +kernel⟩
abbrev s_law_rows : Stmt := (top 29)
theorem sc_law_rows : FnScope N_law_rows ["counts", "many"] (defScope s_law_rows) := ⟨rfl, rfl, rfl, by decide +kernel, rfl, by decide +kernel, by decide +kernel⟩
abbrev s_law_raised : Stmt := (top 39)
theorem sc_law_raised : FnScope N_law_raised ["script", "at", "capacities", "rows"] (defScope s_law_raised) := ⟨rfl, rfl, rfl, by decide +kernel, rfl, by decide +kernel, by decide +kernel⟩
abbrev s_law_clipped : Stmt := (top 41)
theorem sc_law_clipped : FnScope N_law_clipped ["capacities", "rows"] (defScope s_law_clipped) := ⟨rfl, rfl, rfl, by decide +kernel, rfl, by decide +kernel, by decide +kernel⟩
abbrev s_law_counts : Stmt := (top 28)
theorem sc_law_counts : FnScope N_law_counts ["rows", "uses", "step"] (defScope s_law_counts) := ⟨rfl, rfl, rfl, by decide +kernel, rfl, by decide +kernel, by decide +kernel⟩
abbrev s_law_other : Stmt := (top 40)
theorem sc_law_other : FnScope N_law_other ["script", "at", "capacities"] (defScope s_law_other) := ⟨rfl, rfl, rfl, by decide +kernel, rfl, by decide +kernel, by decide +kernel⟩
abbrev s_never_above : Stmt := (top 12)
theorem sc_never_above : FnScope N_never_above ["lane", "other"] (defScope s_never_above) := ⟨rfl, rfl, rfl, by decide +kernel, rfl, by decide +kernel, by decide +kernel⟩
abbrev s_Board_covers : Stmt := (inClass (top 21) 9)
theorem sc_Board_covers : FnScope N_Board_covers ["self", "other"] (defScope s_Board_covers) := ⟨rfl, rfl, rfl, by decide +kernel, rfl, by decide +kernel, by decide +kernel⟩
abbrev s_Board_len : Stmt := (inClass (top 21) 3)
theorem sc_Board_len : FnScope N_Board_len ["self"] (defScope s_Board_len) := ⟨rfl, rfl, rfl, by decide +kernel, rfl, by decide +kernel, by decide +kernel⟩
abbrev s_law_is_int : Stmt := (top 25)
theorem sc_law_is_int : FnScope N_law_is_int ["value"] (defScope s_law_is_int) := ⟨rfl, rfl, rfl, by decide +kernel, rfl, by decide +kernel, by decide +kernel⟩
abbrev s_law_is_row : Stmt := (top 31)
theorem sc_law_is_row : FnScope N_law_is_row ["told", "due"] (defScope s_law_is_row) := ⟨rfl, rfl, rfl, by decide +kernel, rfl, by decide +kernel, by decide +kernel⟩
abbrev s_law_are_rows : Stmt := (top 32)
theorem sc_law_are_rows : FnScope N_law_are_rows ["told", "due"] (defScope s_law_are_rows) := ⟨rfl, rfl, rfl, by decide +kernel, rfl, by decide +kernel, by decide +kernel⟩
abbrev s_law_is_board : Stmt := (top 33)
theorem sc_law_is_board : FnScope N_law_is_board ["board", "capacities", "rows"] (defScope s_law_is_board) := ⟨rfl, rfl, rfl, by decide +kernel, rfl, by decide +kernel, by decide +kernel⟩
abbrev s_law_below : Stmt := (top 36)
theorem sc_law_below : FnScope N_law_below ["row", "other"] (defScope s_law_below) := ⟨rfl, rfl, rfl, by decide +kernel, rfl, by decide +kernel, by decide +kernel⟩
abbrev s_law_covers : Stmt := (top 37)
theorem sc_law_covers : FnScope N_law_covers ["plain", "other"] (defScope s_law_covers) := ⟨rfl, rfl, rfl, by decide +kernel, rfl, by decide +kernel, by decide +kernel⟩
abbrev s_law_pairs : Stmt := (top 42)
theorem sc_law_pairs : FnScope N_law_pairs ["boards", "plains"] (defScope s_law_pairs) := ⟨rfl, rfl, rfl, by decide +kernel, rfl, by decide +kernel, by decide +kernel⟩
abbrev s_law_row : Stmt := (top 26)
theorem sc_law_row : FnScope N_law_row ["script", "at"] (defScope s_law_row) := ⟨rfl, rfl, rfl, by decide +kernel, rfl, by decide +kernel, by decide +kernel⟩
abbrev s_law_capacity : Stmt := (top 30)
theorem sc_law_capacity : FnScope N_law_capacity ["script", "at", "own", "total"] (defScope s_law_capacity) := ⟨rfl, rfl, rfl, by decide +kernel, rfl, by decide +kernel, by decide +kernel⟩
abbrev s_law_prefix : Stmt := (top 34)
theorem sc_law_prefix : FnScope N_law_prefix ["capacities", "rows", "uses"] (defScope s_law_prefix) := ⟨rfl, rfl, rfl, by decide +kernel, rfl, by decide +kernel, by decide +kernel⟩
abbrev s_law_lowered : Stmt := (top 38)
theorem sc_law_lowered : FnScope N_law_lowered ["script", "at", "row"] (defScope s_law_lowered) := ⟨rfl, rfl, rfl, by decide +kernel, rfl, by decide +kernel, by decide +kernel⟩
abbrev s_raised : Stmt := (top 10)
theorem sc_raised : FnScope N_raised ["lane", "start", "end"] (defScope s_raised) := ⟨rfl, rfl, rfl, by decide +kernel, rfl, by decide +kernel, by decide +kernel⟩
abbrev s_lanes_with : Stmt := (top 13)
theorem sc_lanes_with : FnScope N_lanes_with ["lanes", "uses"] (defScope s_lanes_with) := ⟨rfl, rfl, rfl, by decide +kernel, rfl, by decide +kernel, by decide +kernel⟩
abbrev s_first_excess : Stmt := (top 15)
theorem sc_first_excess : FnScope N_first_excess ["capacities", "lanes", "uses"] (defScope s_first_excess) := ⟨rfl, rfl, rfl, by decide +kernel, rfl, by decide +kernel, by decide +kernel⟩
abbrev s_uses_fit : Stmt := (top 16)
theorem sc_uses_fit : FnScope N_uses_fit ["capacities", "lanes", "uses"] (defScope s_uses_fit) := ⟨rfl, rfl, rfl, by decide +kernel, rfl, by decide +kernel, by decide +kernel⟩
abbrev s_Board_fits : Stmt := (inClass (top 21) 6)
theorem sc_Board_fits : FnScope N_Board_fits ["self", "uses"] (defScope s_Board_fits) := ⟨rfl, rfl, rfl, by decide +kernel, rfl, by decide +kernel, by decide +kernel⟩
abbrev s_Board_add : Stmt := (inClass (top 21) 5)
theorem sc_Board_add : FnScope N_Board_add ["self", "uses"] (defScope s_Board_add) := ⟨rfl, rfl, rfl, by decide +kernel, rfl, by decide +kernel, by decide +kernel⟩
abbrev s_law_fit : Stmt := (top 35)
theorem sc_law_fit : FnScope N_law_fit ["capacities", "rows", "uses"] (defScope s_law_fit) := ⟨rfl, rfl, rfl, by decide +kernel, rfl, by decide +kernel, by decide +kernel⟩
abbrev s_law_uses_keep : Stmt := (top 43)
theorem sc_law_uses_keep : FnScope N_law_uses_keep ["boards", "plains", "uses"] (defScope s_law_uses_keep) := ⟨rfl, rfl, rfl, by decide +kernel, rfl, by decide +kernel, by decide +kernel⟩
abbrev s_law : Stmt := (top 44)
theorem sc_law : FnScope N_law ["script"] (defScope s_law) := ⟨rfl, rfl, rfl, by decide +kernel, rfl, by decide +kernel, by decide +kernel⟩
abbrev s_Board_iter : Stmt := (inClass (top 21) 4)
theorem sc_Board_iter : FnScope N_Board_iter ["self"] (defScope s_Board_iter) := ⟨rfl, rfl, rfl, by decide +kernel, rfl, by decide +kernel, by decide +kernel⟩
variable [KK : KLs]
structure Txt (mg : Str → Option Value) (C_Board : Addr) : Prop where
  m_bool : mg "bool" = none
  m_int : mg "int" = none
  m_isinstance : mg "isinstance" = none
  m_iter : mg "iter" = none
  m_len : mg "len" = none
  m_list : mg "list" = none
  m_max : mg "max" = none
  m_min : mg "min" = none
  m_range : mg "range" = none
  m_tuple : mg "tuple" = none
  mg_Board : mg "Board" = some (.ref C_Board)
  fl_Board_capacities : FldOk KK.K C_Board "capacities"
  fl_Board_lanes : FldOk KK.K C_Board "lanes"
  cf_Board : ClsF KK.K C_Board
  gl_MOST_CAPACITY : ∃ u, mg "MOST_CAPACITY" = some u ∧ RelV (.int 32) u
  ad_Board : AddF KK.K C_Board
section
variable {P : Program} {w : World} {mg : Str → Option Value} {base : Heap}
variable {C_Board : Addr}
theorem okI_Board (X : Txt mg C_Board) {f : Addr} {fd : FuncData} (F : FunD KK.K "__iter__" "Board.__iter__" (defArgs s_Board_iter) (defBody s_Board_iter) (defScope s_Board_iter) [] [] f fd) : FnIt P w KK.K mg base 1 f fd C_Board "lanes" :=
  fn_it F sc_Board_iter (fun cdv A outer s H vs Q E hr h => ⟨_, it_body rfl X.m_iter rfl (by first | exact Or.inl rfl | exact Or.inr (Or.inl rfl) | exact Or.inr (Or.inr rfl)), it_math X.fl_Board_lanes (by decide) h _ rfl⟩)
theorem okL_Board (X : Txt mg C_Board) {f : Addr} {fd : FuncData} (F : FunD KK.K "__len__" "Board.__len__" (defArgs s_Board_len) (defBody s_Board_len) (defScope s_Board_len) [] [] f fd) : FnOk P w KK.K mg base (L2.CX P w) 1 f fd ["self"] (spLn KK.K C_Board "lanes") :=
  F.ok sc_Board_len ln_len (fun cdv A outer s H vs Q E hr h => ⟨_, ln_body rfl X.m_len rfl (by first | exact Or.inl rfl | exact Or.inr (Or.inl rfl) | exact Or.inr (Or.inr rfl)), ln_math X.fl_Board_lanes (by decide) h _ rfl⟩)
theorem ok_lane_later (X : Txt mg C_Board)
    {P_lane_later : PV} (hmath : ∀ ds Q Ed, ds.length = 1 → P_lane_later ds Q Ed → t_lane_later  { nx := fun _ => Q .non, rt := Q } (startD 1 ds)) {f : Addr} {fd : FuncData} (F : FunD KK.K "lane_later" "lane_later" (defArgs s_lane_later) (defBody s_lane_later) (defScope s_lane_later) [] [] f fd) : FnOk P w KK.K mg base (L2.CX P w) 1 f fd ["lane"] (spV 1 P_lane_later) := by
  exact fn_v F sc_lane_later rfl (t := t_lane_later ) (fun cdv A outer s H E hr => ⟨_, (ss_one (s_ret (e_tuple X.m_tuple (a_cons (e_sl (e_var 0) (o_pt e_int) o_no) a_nil))))⟩) hmath
theorem ok_lanes_later (X : Txt mg C_Board)
    {P_lane_later : PV} (H_lane_later : Fnc P w KK.K mg base 1 "lane_later" 1 P_lane_later [])
    {P_lanes_later : PV} (hmath : ∀ ds Q Ed, ds.length = 1 → P_lanes_later ds Q Ed → t_lanes_later P_lane_later { nx := fun _ => Q .non, rt := Q } (startD 2 ds)) {f : Addr} {fd : FuncData} (F : FunD KK.K "lanes_later" "lanes_later" (defArgs s_lanes_later) (defBody s_lanes_later) (defScope s_lanes_later) [] [] f fd) : FnOk P w KK.K mg base (L2.CX P w) 2 f fd ["lanes"] (spV 1 P_lanes_later) := by
  obtain ⟨f_lane_later, fd_lane_later, ps_lane_later, ds_lane_later, dvs_lane_later, F_lane_later, hm_lane_later, kp_lane_later, b_lane_later, d_lane_later, hf_lane_later⟩ := H_lane_later.ex
  exact fn_v F sc_lanes_later rfl (t := t_lanes_later P_lane_later) (fun cdv A outer s H E hr => ⟨_, (ss_one (s_ret (e_tuple X.m_tuple (a_cons (e_lc (own := [("lane", 1)]) rfl sc_lanes_later.nd (i_seq (e_var 0)) (blkOk_by (own := [("lane", 1)]) (N := N_lanes_later) (sc := (defScope s_lanes_later)) (by decide +kernel)) (fun _ _ _ _ _ => (g_name 1 sc_lanes_later.nd)) (by decide) (fun _ _ _ _ _ => ts_nil) (fun _ _ _ _ _ => (e_call F_lane_later hm_lane_later kp_lane_later b_lane_later d_lane_later hf_lane_later hr (by decide) (a_cons (e_var 1) a_nil)))) a_nil))))⟩) hmath
theorem ok_between (X : Txt mg C_Board)
    {P_between : PV} (hmath : ∀ ds Q Ed, ds.length = 3 → P_between ds Q Ed → t_between  { nx := fun _ => Q .non, rt := Q } (startD 3 ds)) {f : Addr} {fd : FuncData} (F : FunD KK.K "between" "between" (defArgs s_between) (defBody s_between) (defScope s_between) [] [] f fd) : FnOk P w KK.K mg base (L2.CX P w) 1 f fd ["value", "least", "most"] (spV 3 P_between) := by
  exact fn_v F sc_between rfl (t := t_between ) (fun cdv A outer s H E hr => ⟨_, (ss_one (s_ret (e_and (e_le (e_var 1) (e_var 0)) (e_one (e_le (e_var 0) (e_var 2))))))⟩) hmath
theorem ok_all_between (X : Txt mg C_Board)
    {P_between : PV} (H_between : Fnc P w KK.K mg base 1 "between" 3 P_between [])
    {P_all_between : PV} (hmath : ∀ ds Q Ed, ds.length = 3 → P_all_between ds Q Ed → t_all_between P_between { nx := fun _ => Q .non, rt := Q } (startD 4 ds)) {f : Addr} {fd : FuncData} (F : FunD KK.K "all_between" "all_between" (defArgs s_all_between) (defBody s_all_between) (defScope s_all_between) [] [] f fd) : FnOk P w KK.K mg base (L2.CX P w) 2 f fd ["values", "least", "most"] (spV 3 P_all_between) := by
  obtain ⟨f_between, fd_between, ps_between, ds_between, dvs_between, F_between, hm_between, kp_between, b_between, d_between, hf_between⟩ := H_between.ex
  exact fn_v F sc_all_between rfl (t := t_all_between P_between) (fun cdv A outer s H E hr => ⟨_, (ss_cons (s_for rfl PassesOwn.never (i_seq (e_var 0)) (g_name 3 sc_all_between.nd) (ss_one (s_if (t_not (t_val (e_call F_between hm_between kp_between b_between d_between hf_between hr (by decide) (a_cons (e_var 3) (a_cons (e_var 1) (a_cons (e_var 2) a_nil)))))) (ss_one (s_ret e_bl)) ss_nil)))
    (ss_one (s_ret e_bl)))⟩) hmath
theorem ok_trimmed (X : Txt mg C_Board)
    {P_trimmed : PV} (hmath : ∀ ds Q Ed, ds.length = 1 → P_trimmed ds Q Ed → t_trimmed  { nx := fun _ => Q .non, rt := Q } (startD 2 ds)) {f : Addr} {fd : FuncData} (F : FunD KK.K "trimmed" "trimmed" (defArgs s_trimmed) (defBody s_trimmed) (defScope s_trimmed) [] [] f fd) : FnOk P w KK.K mg base (L2.CX P w) 1 f fd ["counts"] (spV 1 P_trimmed) := by
  exact fn_v F sc_trimmed rfl (t := t_trimmed ) (fun cdv A outer s H E hr => ⟨_, (ss_cons (s_asgL 1 (e_len X.m_len (a_cons (e_var 0) a_nil)) sc_trimmed.nd)
    (ss_cons (s_while PassesOwn.never (t_w (w_and (t_gt (e_var 1) e_int) (w_andL (t_eq hr (e_ix (e_var 0) (e_sub (e_var 1) e_int)) e_int)))) (ss_one (s_subI 1 e_int sc_trimmed.nd)))
    (ss_one (s_ret (e_tuple X.m_tuple (a_cons (e_sl (e_var 0) o_no (o_pt (e_var 1))) a_nil))))))⟩) hmath
theorem ok_Board_init (X : Txt mg C_Board)
    {P_all_between : PV} (H_all_between : Fnc P w KK.K mg base 2 "all_between" 3 P_all_between [])
    {P_trimmed : PV} (H_trimmed : Fnc P w KK.K mg base 1 "trimmed" 1 P_trimmed [])
    {P_Board_init : PI'} (hmath : ∀ y C ds Qd Ed, ds.length = 2 → P_Board_init C ds Qd Ed → t_Board_init P_all_between P_trimmed C_Board { nx := initEnd C Qd y, rt := fun _ => False } (startD 6 (.slf (.c y) C [] [] :: ds))) {f : Addr} {fd : FuncData} (F : FunD KK.K "__init__" "Board.__init__" (defArgs s_Board_init) (defBody s_Board_init) (defScope s_Board_init) [.non] [] f fd) : FnOk P w KK.K mg base (L2.CX P w) 3 f fd ["self", "capacities", "lanes"] (spI 2 P_Board_init) := by
  obtain ⟨f_all_between, fd_all_between, ps_all_between, ds_all_between, dvs_all_between, F_all_between, hm_all_between, kp_all_between, b_all_between, d_all_between, hf_all_between⟩ := H_all_between.ex
  obtain ⟨f_trimmed, fd_trimmed, ps_trimmed, ds_trimmed, dvs_trimmed, F_trimmed, hm_trimmed, kp_trimmed, b_trimmed, d_trimmed, hf_trimmed⟩ := H_trimmed.ex
  exact fn_i F sc_Board_init rfl (t := t_Board_init P_all_between P_trimmed C_Board) (fun cdv A outer s H E hr => ⟨_, (ss_cons (s_setF 0 (ok := fun C => C = C_Board) (fun C h => h ▸ X.fl_Board_capacities) (e_tuple X.m_tuple (a_cons (e_var 1) a_nil)))
    (ss_cons (s_if (t_not (t_val (e_call F_all_between hm_all_between kp_all_between b_all_between d_all_between hf_all_between hr (by decide) (a_cons (e_fld (ok := fun C => C = C_Board) (fun C h => h ▸ X.fl_Board_capacities) (e_var 0)) (a_cons e_int (a_cons (e_globI X.gl_MOST_CAPACITY) a_nil)))))) (ss_one s_never) ss_nil)
    (ss_cons (s_if (t_isN (e_var 2)) (ss_one (s_lcL (own := [("capacity", 4)]) 2 rfl sc_Board_init.nd (i_seq (e_fld (ok := fun C => C = C_Board) (fun C h => h ▸ X.fl_Board_capacities) (e_var 0))) (blkOk_by (own := [("capacity", 4)]) (N := N_Board_init) (sc := (defScope s_Board_init)) (by decide +kernel)) (fun _ _ _ _ _ => (g_name 4 sc_Board_init.nd)) (by decide) (fun _ _ _ _ _ => ts_nil) (fun _ _ _ _ _ => (e_tup a_nil)))) ss_nil)
    (ss_cons (s_if (t_ne hr (e_len X.m_len (a_cons (e_var 2) a_nil)) (e_len X.m_len (a_cons (e_fld (ok := fun C => C = C_Board) (fun C h => h ▸ X.fl_Board_capacities) (e_var 0)) a_nil))) (ss_one s_never) ss_nil)
    (ss_cons (s_for rfl PassesOwn.never (i_rng1 X.m_range (e_len X.m_len (a_cons (e_fld (ok := fun C => C = C_Board) (fun C h => h ▸ X.fl_Board_capacities) (e_var 0)) a_nil))) (g_name 3 sc_Board_init.nd) (ss_one (s_if (t_not (t_val (e_call F_all_between hm_all_between kp_all_between b_all_between d_all_between hf_all_between hr (by decide) (a_cons (e_ix (e_var 2) (e_var 3)) (a_cons e_int (a_cons (e_ix (e_fld (ok := fun C => C = C_Board) (fun C h => h ▸ X.fl_Board_capacities) (e_var 0)) (e_var 3)) a_nil)))))) (ss_one s_never) ss_nil)))
    (ss_one (s_setF 0 (ok := fun C => C = C_Board) (fun C h => h ▸ X.fl_Board_lanes) (e_tuple X.m_tuple (a_cons (e_lc (own := [("lane", 5)]) rfl sc_Board_init.nd (i_seq (e_var 2)) (blkOk_by (own := [("lane", 5)]) (N := N_Board_init) (sc := (defScope s_Board_init)) (by decide +kernel)) (fun _ _ _ _ _ => (g_name 5 sc_Board_init.nd)) (by decide) (fun _ _ _ _ _ => ts_nil) (fun _ _ _ _ _ => (e_call F_trimmed hm_trimmed kp_trimmed b_trimmed d_trimmed hf_trimmed hr (by decide) (a_cons (e_var 5) a_nil)))) a_nil)))))))))⟩) hmath
theorem ok_Board_later (X : Txt mg C_Board)
    {P_lanes_later : PV} (H_lanes_later : Fnc P w KK.K mg base 2 "lanes_later" 1 P_lanes_later [])
    {P_Board_init : PI'} {f_Board_init : Addr} {fd_Board_init : FuncData} (M_Board : Mk KK.K C_Board f_Board_init) (F_Board_init : FnOk P w KK.K mg base (L2.CX P w) 3 f_Board_init fd_Board_init ["self", "capacities", "lanes"] (spI 2 P_Board_init)) (oc_Board_init : FunD KK.K "__init__" "Board.__init__" (defArgs s_Board_init) (defBody s_Board_init) (defScope s_Board_init) [.non] [] f_Board_init fd_Board_init)
    {P_Board_later : PV} (hmath : ∀ ds Q Ed, ds.length = 1 → P_Board_later ds Q Ed → t_Board_later P_lanes_later P_Board_init C_Board { nx := fun _ => Q .non, rt := Q } (startD 1 ds)) {f : Addr} {fd : FuncData} (F : FunD KK.K "later" "Board.later" (defArgs s_Board_later) (defBody s_Board_later) (defScope s_Board_later) [] [] f fd) : FnOk P w KK.K mg base (L2.CX P w) 5 f fd ["self"] (spV 1 P_Board_later) := by
  obtain ⟨f_lanes_later, fd_lanes_later, ps_lanes_later, ds_lanes_later, dvs_lanes_later, F_lanes_later, hm_lanes_later, kp_lanes_later, b_lanes_later, d_lanes_later, hf_lanes_later⟩ := H_lanes_later.ex
  have b_Board_init := binds_full (ps := ["self", "capacities", "lanes"]) oc_Board_init (by simp) (fun _ _ _ _ _ _ _ us its hl h2 => match us, its, hl, h2 with | [_, _, _], [_], _, _ => ⟨_, rfl, rfl⟩)
  have d_Board_init : Vals ([] : List V) [] := .nil
  have hf_Board_init : Flat [] [] := True.intro
  exact fn_v F sc_Board_later rfl (t := t_Board_later P_lanes_later P_Board_init C_Board) (fun cdv A outer s H E hr => ⟨_, (ss_one (s_ret (e_make M_Board F_Board_init b_Board_init d_Board_init hf_Board_init X.mg_Board hr (by decide) (a_cons (e_fld (ok := fun C => C = C_Board) (fun C h => h ▸ X.fl_Board_capacities) (e_var 0)) (a_cons (e_call F_lanes_later hm_lanes_later kp_lanes_later b_lanes_later d_lanes_later hf_lanes_later hr (by decide) (a_cons (e_fld (ok := fun C => C = C_Board) (fun C h => h ▸ X.fl_Board_lanes) (e_var 0)) a_nil)) a_nil)))))⟩) hmath
theorem ok_law_draw (X : Txt mg C_Board)
    {P_law_draw : PV} (hmath : ∀ ds Q Ed, ds.length = 3 → P_law_draw ds Q Ed → t_law_draw  { nx := fun _ => Q .non, rt := Q } (startD 8 ds)) {f : Addr} {fd : FuncData} (F : FunD KK.K "_law_draw" "_law_draw" (defArgs s_law_draw) (defBody s_law_draw) (defScope s_law_draw) [] [] f fd) : FnOk P w KK.K mg base (L2.CX P w) 1 f fd ["script", "k", "size"] (spV 3 P_law_draw) := by
  exact fn_v F sc_law_draw rfl (t := t_law_draw ) (fun cdv A outer s H E hr => ⟨_, (ss_cons (s_asgL 3 (e_max2 rfl X.m_max (a_cons e_int (a_cons (e_min2 rfl X.m_min (a_cons (e_len X.m_len (a_cons (e_var 0) a_nil)) (a_cons e_int a_nil))) a_nil))) sc_law_draw.nd)
    (ss_cons (s_asgL 4 e_int sc_law_draw.nd)
    (ss_cons (s_if (t_gt (e_len X.m_len (a_cons (e_var 0) a_nil)) e_int) (ss_one (s_asgL 4 (e_ix (e_var 0) (e_mod (e_int1 X.m_int (a_cons (e_var 1) a_nil)) (e_var 3))) sc_law_draw.nd)) ss_nil)
    (ss_cons (s_if (t_ge (e_var 4) (e_pow e_int e_int)) (ss_cons (s_asgL 5 (e_var 4) sc_law_draw.nd)
    (ss_cons (s_for rfl PassesOwn.never (i_rng1 X.m_range (e_min2 rfl X.m_min (a_cons (e_div (e_var 1) (e_var 3)) (a_cons e_int a_nil)))) (g_name 6 sc_law_draw.nd) (ss_one (s_asgL 5 (e_div (e_var 5) e_int) sc_law_draw.nd)))
    (ss_one (s_if (t_gt (e_var 5) e_int) (ss_one (s_ret (e_mod (e_int1 X.m_int (a_cons (e_mod (e_int1 X.m_int (a_cons (e_var 5) a_nil)) e_int) a_nil)) (e_var 2)))) ss_nil)))) ss_nil)
    (ss_cons (s_asgL 7 (e_mod (e_int1 X.m_int (a_cons (e_add (e_add (e_var 4) (e_mul e_int (e_var 1))) e_int) a_nil)) e_int) sc_law_draw.nd)
    (ss_cons (s_asgL 7 (e_mod (e_int1 X.m_int (a_cons (e_mul (e_var 7) (e_add (e_var 7) e_int)) a_nil)) e_int) sc_law_draw.nd)
    (ss_cons (s_asgL 7 (e_mod (e_int1 X.m_int (a_cons (e_add (e_mul (e_var 7) (e_add (e_var 7) e_int)) (e_mul e_int (e_var 1))) a_nil)) e_int) sc_law_draw.nd)
    (ss_one (s_ret (e_mod (e_int1 X.m_int (a_cons (e_div (e_var 7) e_int) a_nil)) (e_var 2)))))))))))⟩) hmath
theorem ok_law_uses (X : Txt mg C_Board)
    {P_law_draw : PV} (H_law_draw : Fnc P w KK.K mg base 1 "_law_draw" 3 P_law_draw [])
    {P_law_uses : PV} (hmath : ∀ ds Q Ed, ds.length = 4 → P_law_uses ds Q Ed → t_law_uses P_law_draw { nx := fun _ => Q .non, rt := Q } (startD 8 ds)) {f : Addr} {fd : FuncData} (F : FunD KK.K "_law_uses" "_law_uses" (defArgs s_law_uses) (defBody s_law_uses) (defScope s_law_uses) [] [] f fd) : FnOk P w KK.K mg base (L2.CX P w) 2 f fd ["script", "at", "many", "count"] (spV 4 P_law_uses) := by
  obtain ⟨f_law_draw, fd_law_draw, ps_law_draw, ds_law_draw, dvs_law_draw, F_law_draw, hm_law_draw, kp_law_draw, b_law_draw, d_law_draw, hf_law_draw⟩ := H_law_draw.ex
  exact fn_v F sc_law_uses rfl (t := t_law_uses P_law_draw) (fun cdv A outer s H E hr => ⟨_, (ss_cons (s_asg 4 (e_lst a_nil) sc_law_uses.nd)
    (ss_cons (s_for rfl PassesOwn.never (i_rng1 X.m_range (e_var 3)) (g_name 5 sc_law_uses.nd) (ss_cons (s_asgL 6 (e_call F_law_draw hm_law_draw kp_law_draw b_law_draw d_law_draw hf_law_draw hr (by decide) (a_cons (e_var 0) (a_cons (e_add (e_add (e_var 1) (e_mul e_int (e_var 5))) e_int) (a_cons e_int a_nil)))) sc_law_uses.nd)
    (ss_cons (s_asgL 7 (e_add (e_add (e_var 6) e_int) (e_call F_law_draw hm_law_draw kp_law_draw b_law_draw d_law_draw hf_law_draw hr (by decide) (a_cons (e_var 0) (a_cons (e_add (e_add (e_var 1) (e_mul e_int (e_var 5))) e_int) (a_cons e_int a_nil))))) sc_law_uses.nd)
    (ss_cons (s_if (t_eq hr (e_call F_law_draw hm_law_draw kp_law_draw b_law_draw d_law_draw hf_law_draw hr (by decide) (a_cons (e_var 0) (a_cons (e_add (e_add (e_var 1) (e_mul e_int (e_var 5))) e_int) (a_cons e_int a_nil)))) e_int) (ss_cons (s_asgL 6 (e_call F_law_draw hm_law_draw kp_law_draw b_law_draw d_law_draw hf_law_draw hr (by decide) (a_cons (e_var 0) (a_cons (e_add (e_add (e_var 1) (e_mul e_int (e_var 5))) e_int) (a_cons e_int a_nil)))) sc_law_uses.nd)
    (ss_one (s_asgL 7 (e_add (e_add (e_var 6) e_int) (e_call F_law_draw hm_law_draw kp_law_draw b_law_draw d_law_draw hf_law_draw hr (by decide) (a_cons (e_var 0) (a_cons (e_add (e_add (e_var 1) (e_mul e_int (e_var 5))) e_int) (a_cons (e_sub e_int (e_var 6)) a_nil))))) sc_law_uses.nd))) ss_nil)
    (ss_one (s_app 4 (e_tup (a_cons (e_call F_law_draw hm_law_draw kp_law_draw b_law_draw d_law_draw hf_law_draw hr (by decide) (a_cons (e_var 0) (a_cons (e_add (e_var 1) (e_mul e_int (e_var 5))) (a_cons (e_var 2) a_nil)))) (a_cons (e_var 6) (a_cons (e_var 7) a_nil))))))))))
    (ss_one (s_retV 4))))⟩) hmath
theorem ok_law_cut (X : Txt mg C_Board)
    {P_law_cut : PV} (hmath : ∀ ds Q Ed, ds.length = 1 → P_law_cut ds Q Ed → t_law_cut  { nx := fun _ => Q .non, rt := Q } (startD 3 ds)) {f : Addr} {fd : FuncData} (F : FunD KK.K "_law_cut" "_law_cut" (defArgs s_law_cut) (defBody s_law_cut) (defScope s_law_cut) [] [] f fd) : FnOk P w KK.K mg base (L2.CX P w) 1 f fd ["row"] (spV 1 P_law_cut) := by
  exact fn_v F sc_law_cut rfl (t := t_law_cut ) (fun cdv A outer s H E hr => ⟨_, (ss_cons (s_asgL 1 (e_len X.m_len (a_cons (e_var 0) a_nil)) sc_law_cut.nd)
    (ss_cons (s_for rfl PassesOwn.never (i_rng1 X.m_range (e_len X.m_len (a_cons (e_var 0) a_nil))) (g_name 2 sc_law_cut.nd) (ss_one (s_if (t_w (w_and (t_gt (e_var 1) e_int) (w_andL (t_eq hr (e_ix (e_var 0) (e_sub (e_var 1) e_int)) e_int)))) (ss_one (s_asgL 1 (e_sub (e_var 1) e_int) sc_law_cut.nd)) ss_nil)))
    (ss_one (s_ret (e_tuple X.m_tuple (a_cons (e_sl (e_var 0) o_no (o_pt (e_var 1))) a_nil))))))⟩) hmath
theorem ok_law_rows (X : Txt mg C_Board)
    {P_law_cut : PV} (H_law_cut : Fnc P w KK.K mg base 1 "_law_cut" 1 P_law_cut [])
    {P_law_rows : PV} (hmath : ∀ ds Q Ed, ds.length = 2 → P_law_rows ds Q Ed → t_law_rows P_law_cut { nx := fun _ => Q .non, rt := Q } (startD 5 ds)) {f : Addr} {fd : FuncData} (F : FunD KK.K "_law_rows" "_law_rows" (defArgs s_law_rows) (defBody s_law_rows) (defScope s_law_rows) [] [] f fd) : FnOk P w KK.K mg base (L2.CX P w) 2 f fd ["counts", "many"] (spV 2 P_law_rows) := by
  obtain ⟨f_law_cut, fd_law_cut, ps_law_cut, ds_law_cut, dvs_law_cut, F_law_cut, hm_law_cut, kp_law_cut, b_law_cut, d_law_cut, hf_law_cut⟩ := H_law_cut.ex
  exact fn_v F sc_law_rows rfl (t := t_law_rows P_law_cut) (fun cdv A outer s H E hr => ⟨_, (ss_cons (s_asg 2 (e_lst a_nil) sc_law_rows.nd)
    (ss_cons (s_for rfl PassesOwn.never (i_rng1 X.m_range (e_var 1)) (g_name 3 sc_law_rows.nd) (ss_one (s_app 2 (e_call F_law_cut hm_law_cut kp_law_cut b_law_cut d_law_cut hf_law_cut hr (by decide) (a_cons (e_lc (own := [("tick", 4)]) rfl sc_law_rows.nd (i_rng1 X.m_range e_int) (blkOk_by (own := [("tick", 4)]) (N := N_law_rows) (sc := (defScope s_law_rows)) (by decide +kernel)) (fun _ _ _ _ _ => (g_name 4 sc_law_rows.nd)) (by decide) (fun _ _ _ _ _ => ts_nil) (fun _ _ _ _ _ => (e_tget2 hr (e_var 0) (e_tup (a_cons (e_var 3) (a_cons (e_var 4) a_nil))) e_int))) a_nil)))))
    (ss_one (s_ret (e_tuple X.m_tuple (a_cons (e_var 2) a_nil))))))⟩) hmath
theorem ok_law_raised (X : Txt mg C_Board)
    {P_law_draw : PV} (H_law_draw : Fnc P w KK.K mg base 1 "_law_draw" 3 P_law_draw [])
    {P_law_cut : PV} (H_law_cut : Fnc P w KK.K mg base 1 "_law_cut" 1 P_law_cut [])
    {P_law_raised : PV} (hmath : ∀ ds Q Ed, ds.length = 4 → P_law_raised ds Q Ed → t_law_raised P_law_cut P_law_draw { nx := fun _ => Q .non, rt := Q } (startD 8 ds)) {f : Addr} {fd : FuncData} (F : FunD KK.K "_law_raised" "_law_raised" (defArgs s_law_raised) (defBody s_law_raised) (defScope s_law_raised) [] [] f fd) : FnOk P w KK.K mg base (L2.CX P w) 2 f fd ["script", "at", "capacities", "rows"] (spV 4 P_law_raised) := by
  obtain ⟨f_law_draw, fd_law_draw, ps_law_draw, ds_law_draw, dvs_law_draw, F_law_draw, hm_law_draw, kp_law_draw, b_law_draw, d_law_draw, hf_law_draw⟩ := H_law_draw.ex
  obtain ⟨f_law_cut, fd_law_cut, ps_law_cut, ds_law_cut, dvs_law_cut, F_law_cut, hm_law_cut, kp_law_cut, b_law_cut, d_law_cut, hf_law_cut⟩ := H_law_cut.ex
  exact fn_v F sc_law_raised rfl (t := t_law_raised P_law_cut P_law_draw) (fun cdv A outer s H E hr => ⟨_, (ss_cons (s_if (t_eq hr (e_len X.m_len (a_cons (e_var 3) a_nil)) e_int) (ss_one (s_ret (e_var 3))) ss_nil)
    (ss_cons (s_asgL 4 (e_call F_law_draw hm_law_draw kp_law_draw b_law_draw d_law_draw hf_law_draw hr (by decide) (a_cons (e_var 0) (a_cons (e_var 1) (a_cons (e_len X.m_len (a_cons (e_var 3) a_nil)) a_nil)))) sc_law_raised.nd)
    (ss_cons (s_asg 5 (e_add (e_list X.m_list (a_cons (e_ix (e_var 3) (e_var 4)) a_nil)) (e_lst (a_cons e_int (a_cons e_int a_nil)))) sc_law_raised.nd)
    (ss_cons (s_asgL 6 (e_call F_law_draw hm_law_draw kp_law_draw b_law_draw d_law_draw hf_law_draw hr (by decide) (a_cons (e_var 0) (a_cons (e_add (e_var 1) e_int) (a_cons (e_len X.m_len (a_cons (e_var 5) a_nil)) a_nil)))) sc_law_raised.nd)
    (ss_cons (s_setIx 5 (e_min2 rfl X.m_min (a_cons (e_ix (e_var 2) (e_var 4)) (a_cons (e_add (e_add (e_ix (e_var 5) (e_var 6)) e_int) (e_call F_law_draw hm_law_draw kp_law_draw b_law_draw d_law_draw hf_law_draw hr (by decide) (a_cons (e_var 0) (a_cons (e_add (e_var 1) e_int) (a_cons e_int a_nil))))) a_nil))) (e_var 6))
    (ss_one (s_ret (e_tuple X.m_tuple (a_cons (e_add (e_add (e_lc (own := [("k", 7)]) rfl sc_law_raised.nd (i_rng1 X.m_range (e_var 4)) (blkOk_by (own := [("k", 7)]) (N := N_law_raised) (sc := (defScope s_law_raised)) (by decide +kernel)) (fun _ _ _ _ _ => (g_name 7 sc_law_raised.nd)) (by decide) (fun _ _ _ _ _ => ts_nil) (fun _ _ _ _ _ => (e_ix (e_var 3) (e_var 7)))) (e_lst (a_cons (e_call F_law_cut hm_law_cut kp_law_cut b_law_cut d_law_cut hf_law_cut hr (by decide) (a_cons (e_var 5) a_nil)) a_nil))) (e_lc (own := [("k", 7)]) rfl sc_law_raised.nd (i_rng2 X.m_range (e_add (e_var 4) e_int) (e_len X.m_len (a_cons (e_var 3) a_nil))) (blkOk_by (own := [("k", 7)]) (N := N_law_raised) (sc := (defScope s_law_raised)) (by decide +kernel)) (fun _ _ _ _ _ => (g_name 7 sc_law_raised.nd)) (by decide) (fun _ _ _ _ _ => ts_nil) (fun _ _ _ _ _ => (e_ix (e_var 3) (e_var 7))))) a_nil)))))))))⟩) hmath
theorem ok_law_clipped (X : Txt mg C_Board)
    {P_law_cut : PV} (H_law_cut : Fnc P w KK.K mg base 1 "_law_cut" 1 P_law_cut [])
    {P_law_clipped : PV} (hmath : ∀ ds Q Ed, ds.length = 2 → P_law_clipped ds Q Ed → t_law_clipped P_law_cut { nx := fun _ => Q .non, rt := Q } (startD 5 ds)) {f : Addr} {fd : FuncData} (F : FunD KK.K "_law_clipped" "_law_clipped" (defArgs s_law_clipped) (defBody s_law_clipped) (defScope s_law_clipped) [] [] f fd) : FnOk P w KK.K mg base (L2.CX P w) 2 f fd ["capacities", "rows"] (spV 2 P_law_clipped) := by
  obtain ⟨f_law_cut, fd_law_cut, ps_law_cut, ds_law_cut, dvs_law_cut, F_law_cut, hm_law_cut, kp_law_cut, b_law_cut, d_law_cut, hf_law_cut⟩ := H_law_cut.ex
  exact fn_v F sc_law_clipped rfl (t := t_law_clipped P_law_cut) (fun cdv A outer s H E hr => ⟨_, (ss_cons (s_asg 2 (e_lst a_nil) sc_law_clipped.nd)
    (ss_cons (s_for rfl PassesOwn.never (i_rng1 X.m_range (e_len X.m_len (a_cons (e_var 0) a_nil))) (g_name 3 sc_law_clipped.nd) (ss_one (s_app 2 (e_call F_law_cut hm_law_cut kp_law_cut b_law_cut d_law_cut hf_law_cut hr (by decide) (a_cons (e_lc (own := [("count", 4)]) rfl sc_law_clipped.nd (i_seq (e_ix (e_var 1) (e_var 3))) (blkOk_by (own := [("count", 4)]) (N := N_law_clipped) (sc := (defScope s_law_clipped)) (by decide +kernel)) (fun _ _ _ _ _ => (g_name 4 sc_law_clipped.nd)) (by decide) (fun _ _ _ _ _ => ts_nil) (fun _ _ _ _ _ => (e_min2 rfl X.m_min (a_cons (e_var 4) (a_cons (e_ix (e_var 0) (e_var 3)) a_nil))))) a_nil)))))
    (ss_one (s_ret (e_tuple X.m_tuple (a_cons (e_var 2) a_nil))))))⟩) hmath
theorem ok_law_counts (X : Txt mg C_Board)
    {P_law_counts : PV} (hmath : ∀ ds Q Ed, ds.length = 3 → P_law_counts ds Q Ed → t_law_counts  { nx := fun _ => Q .non, rt := Q } (startD 8 ds)) {f : Addr} {fd : FuncData} (F : FunD KK.K "_law_counts" "_law_counts" (defArgs s_law_counts) (defBody s_law_counts) (defScope s_law_counts) [] [] f fd) : FnOk P w KK.K mg base (L2.CX P w) 1 f fd ["rows", "uses", "step"] (spV 3 P_law_counts) := by
  exact fn_v F sc_law_counts rfl (t := t_law_counts ) (fun cdv A outer s H E hr => ⟨_, (ss_cons (s_asg 3 e_tct0 sc_law_counts.nd)
    (ss_cons (s_for rfl PassesOwn.never (i_rng1 X.m_range (e_len X.m_len (a_cons (e_var 0) a_nil))) (g_name 4 sc_law_counts.nd) (ss_one (s_for rfl PassesOwn.never (i_rng1 X.m_range (e_len X.m_len (a_cons (e_ix (e_var 0) (e_var 4)) a_nil))) (g_name 5 sc_law_counts.nd) (ss_one (s_tput hr 3 (e_ix (e_ix (e_var 0) (e_var 4)) (e_var 5)) (e_tup (a_cons (e_var 4) (a_cons (e_var 5) a_nil))))))))
    (ss_cons (s_for rfl PassesOwn.never (i_seq (e_var 1)) (g_tup rfl (gs_cons (g_name 4 sc_law_counts.nd) (gs_cons (g_name 6 sc_law_counts.nd) (gs_cons (g_name 7 sc_law_counts.nd) gs_nil)))) (ss_one (s_for rfl PassesOwn.never (i_rng2 X.m_range (e_var 6) (e_var 7)) (g_name 5 sc_law_counts.nd) (ss_one (s_tput hr 3 (e_add (e_tget2 hr (e_var 3) (e_tup (a_cons (e_var 4) (a_cons (e_var 5) a_nil))) e_int) (e_var 2)) (e_tup (a_cons (e_var 4) (a_cons (e_var 5) a_nil))))))))
    (ss_one (s_retV 3)))))⟩) hmath
theorem ok_law_other (X : Txt mg C_Board)
    {P_law_draw : PV} (H_law_draw : Fnc P w KK.K mg base 1 "_law_draw" 3 P_law_draw [])
    {P_law_other : PV} (hmath : ∀ ds Q Ed, ds.length = 3 → P_law_other ds Q Ed → t_law_other P_law_draw { nx := fun _ => Q .non, rt := Q } (startD 6 ds)) {f : Addr} {fd : FuncData} (F : FunD KK.K "_law_other" "_law_other" (defArgs s_law_other) (defBody s_law_other) (defScope s_law_other) [] [] f fd) : FnOk P w KK.K mg base (L2.CX P w) 2 f fd ["script", "at", "capacities"] (spV 3 P_law_other) := by
  obtain ⟨f_law_draw, fd_law_draw, ps_law_draw, ds_law_draw, dvs_law_draw, F_law_draw, hm_law_draw, kp_law_draw, b_law_draw, d_law_draw, hf_law_draw⟩ := H_law_draw.ex
  exact fn_v F sc_law_other rfl (t := t_law_other P_law_draw) (fun cdv A outer s H E hr => ⟨_, (ss_cons (s_asgL 3 (e_call F_law_draw hm_law_draw kp_law_draw b_law_draw d_law_draw hf_law_draw hr (by decide) (a_cons (e_var 0) (a_cons (e_var 1) (a_cons (e_len X.m_len (a_cons (e_var 2) a_nil)) a_nil)))) sc_law_other.nd)
    (ss_cons (s_asgL 4 (e_add (e_ix (e_var 2) (e_var 3)) e_int) sc_law_other.nd)
    (ss_cons (s_if (t_w (w_or (t_gt (e_var 4) e_int) (w_orL (t_w (w_and (t_gt (e_var 4) e_int) (w_andL (t_eq hr (e_call F_law_draw hm_law_draw kp_law_draw b_law_draw d_law_draw hf_law_draw hr (by decide) (a_cons (e_var 0) (a_cons (e_add (e_var 1) e_int) (a_cons e_int a_nil)))) e_int))))))) (ss_one (s_asgL 4 (e_sub (e_ix (e_var 2) (e_var 3)) e_int) sc_law_other.nd)) ss_nil)
    (ss_one (s_ret (e_tuple X.m_tuple (a_cons (e_lc (own := [("k", 5)]) rfl sc_law_other.nd (i_rng1 X.m_range (e_len X.m_len (a_cons (e_var 2) a_nil))) (blkOk_by (own := [("k", 5)]) (N := N_law_other) (sc := (defScope s_law_other)) (by decide +kernel)) (fun _ _ _ _ _ => (g_name 5 sc_law_other.nd)) (by decide) (fun _ _ _ _ _ => ts_nil) (fun _ _ _ _ _ => (e_ix (e_lst (a_cons (e_ix (e_var 2) (e_var 5)) (a_cons (e_var 4) a_nil))) (e_int1 X.m_int (a_cons (e_eq hr (e_var 5) (e_var 3)) a_nil))))) a_nil)))))))⟩) hmath
theorem ok_never_above (X : Txt mg C_Board)
    {P_never_above : PV} (hmath : ∀ ds Q Ed, ds.length = 2 → P_never_above ds Q Ed → t_never_above  { nx := fun _ => Q .non, rt := Q } (startD 4 ds)) {f : Addr} {fd : FuncData} (F : FunD KK.K "never_above" "never_above" (defArgs s_never_above) (defBody s_never_above) (defScope s_never_above) [] [] f fd) : FnOk P w KK.K mg base (L2.CX P w) 1 f fd ["lane", "other"] (spV 2 P_never_above) := by
  exact fn_v F sc_never_above rfl (t := t_never_above ) (fun cdv A outer s H E hr => ⟨_, (ss_cons (s_for rfl PassesOwn.never (i_rng1 X.m_range (e_len X.m_len (a_cons (e_var 0) a_nil))) (g_name 2 sc_never_above.nd) (ss_cons (s_asgL 3 e_int sc_never_above.nd)
    (ss_cons (s_if (t_lt (e_var 2) (e_len X.m_len (a_cons (e_var 1) a_nil))) (ss_one (s_asgL 3 (e_ix (e_var 1) (e_var 2)) sc_never_above.nd)) ss_nil)
    (ss_one (s_if (t_gt (e_ix (e_var 0) (e_var 2)) (e_var 3)) (ss_one (s_ret e_bl)) ss_nil)))))
    (ss_one (s_ret e_bl)))⟩) hmath
theorem ok_Board_covers (X : Txt mg C_Board)
    {P_never_above : PV} (H_never_above : Fnc P w KK.K mg base 1 "never_above" 2 P_never_above [])
    {P_Board_covers : PV} (hmath : ∀ ds Q Ed, ds.length = 2 → P_Board_covers ds Q Ed → t_Board_covers P_never_above C_Board { nx := fun _ => Q .non, rt := Q } (startD 3 ds)) {f : Addr} {fd : FuncData} (F : FunD KK.K "covers" "Board.covers" (defArgs s_Board_covers) (defBody s_Board_covers) (defScope s_Board_covers) [] [] f fd) : FnOk P w KK.K mg base (L2.CX P w) 2 f fd ["self", "other"] (spV 2 P_Board_covers) := by
  obtain ⟨f_never_above, fd_never_above, ps_never_above, ds_never_above, dvs_never_above, F_never_above, hm_never_above, kp_never_above, b_never_above, d_never_above, hf_never_above⟩ := H_never_above.ex
  exact fn_v F sc_Board_covers rfl (t := t_Board_covers P_never_above C_Board) (fun cdv A outer s H E hr => ⟨_, (ss_cons (s_if (t_ne hr (e_fld (ok := fun C => C = C_Board) (fun C h => h ▸ X.fl_Board_capacities) (e_var 0)) (e_fld (ok := fun C => C = C_Board) (fun C h => h ▸ X.fl_Board_capacities) (e_var 1))) (ss_one (s_ret e_bl)) ss_nil)
    (ss_cons (s_for rfl PassesOwn.never (i_rng1 X.m_range (e_len X.m_len (a_cons (e_fld (ok := fun C => C = C_Board) (fun C h => h ▸ X.fl_Board_lanes) (e_var 0)) a_nil))) (g_name 2 sc_Board_covers.nd) (ss_one (s_if (t_not (t_val (e_call F_never_above hm_never_above kp_never_above b_never_above d_never_above hf_never_above hr (by decide) (a_cons (e_ix (e_fld (ok := fun C => C = C_Board) (fun C h => h ▸ X.fl_Board_lanes) (e_var 1)) (e_var 2)) (a_cons (e_ix (e_fld (ok := fun C => C = C_Board) (fun C h => h ▸ X.fl_Board_lanes) (e_var 0)) (e_var 2)) a_nil))))) (ss_one (s_ret e_bl)) ss_nil)))
    (ss_one (s_ret e_bl))))⟩) hmath
theorem ok_Board_len (X : Txt mg C_Board)
    {P_Board_len : PV} (hmath : ∀ ds Q Ed, ds.length = 1 → P_Board_len ds Q Ed → t_Board_len C_Board { nx := fun _ => Q .non, rt := Q } (startD 1 ds)) {f : Addr} {fd : FuncData} (F : FunD KK.K "__len__" "Board.__len__" (defArgs s_Board_len) (defBody s_Board_len) (defScope s_Board_len) [] [] f fd) : FnOk P w KK.K mg base (L2.CX P w) 1 f fd ["self"] (spV 1 P_Board_len) := by
  exact fn_v F sc_Board_len rfl (t := t_Board_len C_Board) (fun cdv A outer s H E hr => ⟨_, (ss_one (s_ret (e_len X.m_len (a_cons (e_fld (ok := fun C => C = C_Board) (fun C h => h ▸ X.fl_Board_lanes) (e_var 0)) a_nil))))⟩) hmath
theorem ok_law_is_int (X : Txt mg C_Board)
    {P_law_is_int : PV} (hmath : ∀ ds Q Ed, ds.length = 1 → P_law_is_int ds Q Ed → t_law_is_int  { nx := fun _ => Q .non, rt := Q } (startD 1 ds)) {f : Addr} {fd : FuncData} (F : FunD KK.K "_law_is_int" "_law_is_int" (defArgs s_law_is_int) (defBody s_law_is_int) (defScope s_law_is_int) [] [] f fd) : FnOk P w KK.K mg base (L2.CX P w) 1 f fd ["value"] (spV 1 P_law_is_int) := by
  exact fn_v F sc_law_is_int rfl (t := t_law_is_int ) (fun cdv A outer s H E hr => ⟨_, (ss_one (s_ret (e_and (e_isi kit_int X.m_isinstance (a_cons (e_var 0) (a_cons (e_bltn X.m_int (by decide +kernel)) a_nil))) (e_one (e_not (e_isi kit_bool X.m_isinstance (a_cons (e_var 0) (a_cons (e_bltn X.m_bool (by decide +kernel)) a_nil))))))))⟩) hmath
theorem ok_law_is_row (X : Txt mg C_Board)
    {P_law_is_int : PV} (H_law_is_int : Fnc P w KK.K mg base 1 "_law_is_int" 1 P_law_is_int [])
    {P_law_is_row : PV} (hmath : ∀ ds Q Ed, ds.length = 2 → P_law_is_row ds Q Ed → t_law_is_row P_law_is_int { nx := fun _ => Q .non, rt := Q } (startD 3 ds)) {f : Addr} {fd : FuncData} (F : FunD KK.K "_law_is_row" "_law_is_row" (defArgs s_law_is_row) (defBody s_law_is_row) (defScope s_law_is_row) [] [] f fd) : FnOk P w KK.K mg base (L2.CX P w) 2 f fd ["told", "due"] (spV 2 P_law_is_row) := by
  obtain ⟨f_law_is_int, fd_law_is_int, ps_law_is_int, ds_law_is_int, dvs_law_is_int, F_law_is_int, hm_law_is_int, kp_law_is_int, b_law_is_int, d_law_is_int, hf_law_is_int⟩ := H_law_is_int.ex
  exact fn_v F sc_law_is_row rfl (t := t_law_is_row P_law_is_int) (fun cdv A outer s H E hr => ⟨_, (ss_cons (s_if (t_w (w_or (t_not (t_val (e_isi kit_tuple X.m_isinstance (a_cons (e_var 0) (a_cons (e_bltn X.m_tuple (by decide +kernel)) a_nil))))) (w_orL (t_ne hr (e_len X.m_len (a_cons (e_var 0) a_nil)) (e_len X.m_len (a_cons (e_var 1) a_nil)))))) (ss_one (s_ret e_bl)) ss_nil)
    (ss_cons (s_for rfl PassesOwn.never (i_rng1 X.m_range (e_len X.m_len (a_cons (e_var 1) a_nil))) (g_name 2 sc_law_is_row.nd) (ss_one (s_if (t_w (w_or (t_not (t_val (e_call F_law_is_int hm_law_is_int kp_law_is_int b_law_is_int d_law_is_int hf_law_is_int hr (by decide) (a_cons (e_ix (e_var 0) (e_var 2)) a_nil)))) (w_orL (t_ne hr (e_ix (e_var 0) (e_var 2)) (e_ix (e_var 1) (e_var 2)))))) (ss_one (s_ret e_bl)) ss_nil)))
    (ss_one (s_ret e_bl))))⟩) hmath
theorem ok_law_are_rows (X : Txt mg C_Board)
    {P_law_is_row : PV} (H_law_is_row : Fnc P w KK.K mg base 2 "_law_is_row" 2 P_law_is_row [])
    {P_law_are_rows : PV} (hmath : ∀ ds Q Ed, ds.length = 2 → P_law_are_rows ds Q Ed → t_law_are_rows P_law_is_row { nx := fun _ => Q .non, rt := Q } (startD 3 ds)) {f : Addr} {fd : FuncData} (F : FunD KK.K "_law_are_rows" "_law_are_rows" (defArgs s_law_are_rows) (defBody s_law_are_rows) (defScope s_law_are_rows) [] [] f fd) : FnOk P w KK.K mg base (L2.CX P w) 3 f fd ["told", "due"] (spV 2 P_law_are_rows) := by
  obtain ⟨f_law_is_row, fd_law_is_row, ps_law_is_row, ds_law_is_row, dvs_law_is_row, F_law_is_row, hm_law_is_row, kp_law_is_row, b_law_is_row, d_law_is_row, hf_law_is_row⟩ := H_law_is_row.ex
  exact fn_v F sc_law_are_rows rfl (t := t_law_are_rows P_law_is_row) (fun cdv A outer s H E hr => ⟨_, (ss_cons (s_if (t_w (w_or (t_not (t_val (e_isi kit_tuple X.m_isinstance (a_cons (e_var 0) (a_cons (e_bltn X.m_tuple (by decide +kernel)) a_nil))))) (w_orL (t_ne hr (e_len X.m_len (a_cons (e_var 0) a_nil)) (e_len X.m_len (a_cons (e_var 1) a_nil)))))) (ss_one (s_ret e_bl)) ss_nil)
    (ss_cons (s_for rfl PassesOwn.never (i_rng1 X.m_range (e_len X.m_len (a_cons (e_var 1) a_nil))) (g_name 2 sc_law_are_rows.nd) (ss_one (s_if (t_not (t_val (e_call F_law_is_row hm_law_is_row kp_law_is_row b_law_is_row d_law_is_row hf_law_is_row hr (by decide) (a_cons (e_ix (e_var 0) (e_var 2)) (a_cons (e_ix (e_var 1) (e_var 2)) a_nil))))) (ss_one (s_ret e_bl)) ss_nil)))
    (ss_one (s_ret e_bl))))⟩) hmath
theorem ok_law_is_board (X : Txt mg C_Board)
    {P_law_are_rows : PV} (H_law_are_rows : Fnc P w KK.K mg base 3 "_law_are_rows" 2 P_law_are_rows [])
    {P_law_is_row : PV} (H_law_is_row : Fnc P w KK.K mg base 2 "_law_is_row" 2 P_law_is_row [])
    {P_Board_len : PV} (H_Board_len : Met P w KK.K mg base 1 C_Board "__len__" 1 P_Board_len)
    (Hi_Board : Itr P w KK.K mg base 1 C_Board "lanes") (Hl_Board : Lnr P w KK.K mg base 1 C_Board "lanes")
    {P_law_is_board : PV} (hmath : ∀ ds Q Ed, ds.length = 3 → P_law_is_board ds Q Ed → t_law_is_board P_Board_len P_law_are_rows P_law_is_row C_Board { nx := fun _ => Q .non, rt := Q } (startD 5 ds)) {f : Addr} {fd : FuncData} (F : FunD KK.K "_law_is_board" "_law_is_board" (defArgs s_law_is_board) (defBody s_law_is_board) (defScope s_law_is_board) [] [] f fd) : FnOk P w KK.K mg base (L2.CX P w) 5 f fd ["board", "capacities", "rows"] (spV 3 P_law_is_board) := by
  obtain ⟨f_law_are_rows, fd_law_are_rows, ps_law_are_rows, ds_law_are_rows, dvs_law_are_rows, F_law_are_rows, hm_law_are_rows, kp_law_are_rows, b_law_are_rows, d_law_are_rows, hf_law_are_rows⟩ := H_law_are_rows.ex
  obtain ⟨f_law_is_row, fd_law_is_row, ps_law_is_row, ds_law_is_row, dvs_law_is_row, F_law_is_row, hm_law_is_row, kp_law_is_row, b_law_is_row, d_law_is_row, hf_law_is_row⟩ := H_law_is_row.ex
  obtain ⟨f_Board_len, fd_Board_len, ps_Board_len, F_Board_len, hs_Board_len, hf_Board_len, hb_Board_len⟩ := H_Board_len.ex
  obtain ⟨fi_Board, fdi_Board, Fi_Board, hc_Board, bi_Board⟩ := Hi_Board.ex
  obtain ⟨gl_Board, gdl_Board, Gl_Board, hg_Board, bg_Board⟩ := Hl_Board.ex
  exact fn_v F sc_law_is_board rfl (t := t_law_is_board P_Board_len P_law_are_rows P_law_is_row C_Board) (fun cdv A outer s H E hr => ⟨_, (ss_cons (s_if (t_w (w_or (t_not (t_val (e_isiO X.cf_Board X.m_isinstance (a_cons (e_var 0) (a_cons (e_clsV X.mg_Board) a_nil))))) (w_orL (t_not (t_val (e_call F_law_is_row hm_law_is_row kp_law_is_row b_law_is_row d_law_is_row hf_law_is_row hr (by decide) (a_cons (e_fld (ok := fun C => C = C_Board) (fun C h => h ▸ X.fl_Board_capacities) (e_var 0)) (a_cons (e_var 1) a_nil)))))))) (ss_one (s_ret e_bl)) ss_nil)
    (ss_cons (s_if (t_w (w_or (t_not (t_val (e_call F_law_are_rows hm_law_are_rows kp_law_are_rows b_law_are_rows d_law_are_rows hf_law_are_rows hr (by decide) (a_cons (e_fld (ok := fun C => C = C_Board) (fun C h => h ▸ X.fl_Board_lanes) (e_var 0)) (a_cons (e_var 2) a_nil))))) (w_orL (t_ne hr (e_lenO F_Board_len hs_Board_len hf_Board_len hb_Board_len hr (by decide) X.m_len (a_cons (e_var 0) a_nil)) (e_len X.m_len (a_cons (e_var 2) a_nil)))))) (ss_one (s_ret e_bl)) ss_nil)
    (ss_cons (s_lcL (own := [("lane", 4)]) 3 rfl sc_law_is_board.nd (i_own hc_Board Fi_Board bi_Board hr (by decide) (e_var 0)) (blkOk_by (own := [("lane", 4)]) (N := N_law_is_board) (sc := (defScope s_law_is_board)) (by decide +kernel)) (fun _ _ _ _ _ => (g_name 4 sc_law_is_board.nd)) (by decide) (fun _ _ _ _ _ => ts_nil) (fun _ _ _ _ _ => (e_var 4)))
    (ss_one (s_ret (e_and (e_call F_law_are_rows hm_law_are_rows kp_law_are_rows b_law_are_rows d_law_are_rows hf_law_are_rows hr (by decide) (a_cons (e_tuple X.m_tuple (a_cons (e_var 3) a_nil)) (a_cons (e_var 2) a_nil))) (e_one (e_call F_law_are_rows hm_law_are_rows kp_law_are_rows b_law_are_rows d_law_are_rows hf_law_are_rows hr (by decide) (a_cons (e_tuple X.m_tuple (a_cons (e_listO hc_Board Fi_Board bi_Board hg_Board Gl_Board bg_Board hr (by decide) X.m_list (a_cons (e_var 0) a_nil)) a_nil)) (a_cons (e_var 2) a_nil))))))))))⟩) hmath
theorem ok_law_below (X : Txt mg C_Board)
    {P_law_below : PV} (hmath : ∀ ds Q Ed, ds.length = 2 → P_law_below ds Q Ed → t_law_below  { nx := fun _ => Q .non, rt := Q } (startD 3 ds)) {f : Addr} {fd : FuncData} (F : FunD KK.K "_law_below" "_law_below" (defArgs s_law_below) (defBody s_law_below) (defScope s_law_below) [] [] f fd) : FnOk P w KK.K mg base (L2.CX P w) 1 f fd ["row", "other"] (spV 2 P_law_below) := by
  exact fn_v F sc_law_below rfl (t := t_law_below ) (fun cdv A outer s H E hr => ⟨_, (ss_cons (s_for rfl PassesOwn.never (i_rng1 X.m_range (e_len X.m_len (a_cons (e_var 0) a_nil))) (g_name 2 sc_law_below.nd) (ss_one (s_if (t_w (w_or (t_w (w_and (t_lt (e_var 2) (e_len X.m_len (a_cons (e_var 1) a_nil))) (w_andL (t_gt (e_ix (e_var 0) (e_var 2)) (e_ix (e_var 1) (e_var 2)))))) (w_orL (t_w (w_and (t_ge (e_var 2) (e_len X.m_len (a_cons (e_var 1) a_nil))) (w_andL (t_gt (e_ix (e_var 0) (e_var 2)) e_int))))))) (ss_one (s_ret e_bl)) ss_nil)))
    (ss_one (s_ret e_bl)))⟩) hmath
theorem ok_law_covers (X : Txt mg C_Board)
    {P_law_below : PV} (H_law_below : Fnc P w KK.K mg base 1 "_law_below" 2 P_law_below [])
    {P_law_covers : PV} (hmath : ∀ ds Q Ed, ds.length = 2 → P_law_covers ds Q Ed → t_law_covers P_law_below { nx := fun _ => Q .non, rt := Q } (startD 3 ds)) {f : Addr} {fd : FuncData} (F : FunD KK.K "_law_covers" "_law_covers" (defArgs s_law_covers) (defBody s_law_covers) (defScope s_law_covers) [] [] f fd) : FnOk P w KK.K mg base (L2.CX P w) 2 f fd ["plain", "other"] (spV 2 P_law_covers) := by
  obtain ⟨f_law_below, fd_law_below, ps_law_below, ds_law_below, dvs_law_below, F_law_below, hm_law_below, kp_law_below, b_law_below, d_law_below, hf_law_below⟩ := H_law_below.ex
  exact fn_v F sc_law_covers rfl (t := t_law_covers P_law_below) (fun cdv A outer s H E hr => ⟨_, (ss_cons (s_if (t_ne hr (e_ix (e_var 0) e_int) (e_ix (e_var 1) e_int)) (ss_one (s_ret e_bl)) ss_nil)
    (ss_one (s_ret (e_eq hr (e_len X.m_len (a_cons (e_lc (own := [("k", 2)]) rfl sc_law_covers.nd (i_rng1 X.m_range (e_len X.m_len (a_cons (e_ix (e_var 0) e_int) a_nil))) (blkOk_by (own := [("k", 2)]) (N := N_law_covers) (sc := (defScope s_law_covers)) (by decide +kernel)) (fun _ _ _ _ _ => (g_name 2 sc_law_covers.nd)) (by decide) (fun _ _ _ _ _ => (ts_one (t_not (t_val (e_call F_law_below hm_law_below kp_law_below b_law_below d_law_below hf_law_below hr (by decide) (a_cons (e_ix (e_ix (e_var 1) e_int) (e_var 2)) (a_cons (e_ix (e_ix (e_var 0) e_int) (e_var 2)) a_nil))))))) (fun _ _ _ _ _ => (e_var 2))) a_nil)) e_int))))⟩) hmath
theorem ok_law_pairs (X : Txt mg C_Board)
    {P_law_is_board : PV} (H_law_is_board : Fnc P w KK.K mg base 5 "_law_is_board" 3 P_law_is_board [])
    {P_law_covers : PV} (H_law_covers : Fnc P w KK.K mg base 2 "_law_covers" 2 P_law_covers [])
    {P_Board_covers : PV} (H_Board_covers : Mth P w KK.K mg base 2 C_Board "covers" 2 P_Board_covers)
    {P_law_pairs : PV} (hmath : ∀ ds Q Ed, ds.length = 2 → P_law_pairs ds Q Ed → t_law_pairs P_Board_covers P_law_covers P_law_is_board C_Board { nx := fun _ => Q .non, rt := Q } (startD 5 ds)) {f : Addr} {fd : FuncData} (F : FunD KK.K "_law_pairs" "_law_pairs" (defArgs s_law_pairs) (defBody s_law_pairs) (defScope s_law_pairs) [] [] f fd) : FnOk P w KK.K mg base (L2.CX P w) 6 f fd ["boards", "plains"] (spV 2 P_law_pairs) := by
  obtain ⟨f_law_is_board, fd_law_is_board, ps_law_is_board, ds_law_is_board, dvs_law_is_board, F_law_is_board, hm_law_is_board, kp_law_is_board, b_law_is_board, d_law_is_board, hf_law_is_board⟩ := H_law_is_board.ex
  obtain ⟨f_law_covers, fd_law_covers, ps_law_covers, ds_law_covers, dvs_law_covers, F_law_covers, hm_law_covers, kp_law_covers, b_law_covers, d_law_covers, hf_law_covers⟩ := H_law_covers.ex
  obtain ⟨f_Board_covers, fd_Board_covers, ps_Board_covers, F_Board_covers, hm_Board_covers, hb_Board_covers⟩ := H_Board_covers.ex
  exact fn_v F sc_law_pairs rfl (t := t_law_pairs P_Board_covers P_law_covers P_law_is_board C_Board) (fun cdv A outer s H E hr => ⟨_, (ss_cons (s_for rfl PassesOwn.never (i_rng1 X.m_range (e_len X.m_len (a_cons (e_var 0) a_nil))) (g_name 2 sc_law_pairs.nd) (ss_one (s_for rfl PassesOwn.never (i_rng1 X.m_range (e_len X.m_len (a_cons (e_var 0) a_nil))) (g_name 3 sc_law_pairs.nd) (ss_cons (s_asgL 4 (e_meth X.cf_Board.cl F_Board_covers hm_Board_covers hb_Board_covers hr (by decide) (e_ix (e_var 0) (e_var 2)) (a_cons (e_ix (e_var 0) (e_var 3)) a_nil)) sc_law_pairs.nd)
    (ss_one (s_if (t_w (w_or (t_not (t_val (e_isi kit_bool X.m_isinstance (a_cons (e_var 4) (a_cons (e_bltn X.m_bool (by decide +kernel)) a_nil))))) (w_orL (t_ne hr (e_var 4) (e_call F_law_covers hm_law_covers kp_law_covers b_law_covers d_law_covers hf_law_covers hr (by decide) (a_cons (e_ix (e_var 1) (e_var 2)) (a_cons (e_ix (e_var 1) (e_var 3)) a_nil))))))) (ss_one (s_ret e_bl)) ss_nil))))))
    (ss_cons (s_for rfl PassesOwn.never (i_rng1 X.m_range (e_len X.m_len (a_cons (e_var 0) a_nil))) (g_name 2 sc_law_pairs.nd) (ss_one (s_if (t_not (t_val (e_call F_law_is_board hm_law_is_board kp_law_is_board b_law_is_board d_law_is_board hf_law_is_board hr (by decide) (a_cons (e_ix (e_var 0) (e_var 2)) (a_cons (e_ix (e_ix (e_var 1) (e_var 2)) e_int) (a_cons (e_ix (e_ix (e_var 1) (e_var 2)) e_int) a_nil)))))) (ss_one (s_ret e_bl)) ss_nil)))
    (ss_one (s_ret e_bl))))⟩) hmath
theorem ok_law_row (X : Txt mg C_Board)
    {P_law_draw : PV} (H_law_draw : Fnc P w KK.K mg base 1 "_law_draw" 3 P_law_draw [])
    {P_law_cut : PV} (H_law_cut : Fnc P w KK.K mg base 1 "_law_cut" 1 P_law_cut [])
    {P_law_row : PV} (hmath : ∀ ds Q Ed, ds.length = 2 → P_law_row ds Q Ed → t_law_row P_law_cut P_law_draw { nx := fun _ => Q .non, rt := Q } (startD 5 ds)) {f : Addr} {fd : FuncData} (F : FunD KK.K "_law_row" "_law_row" (defArgs s_law_row) (defBody s_law_row) (defScope s_law_row) [] [] f fd) : FnOk P w KK.K mg base (L2.CX P w) 2 f fd ["script", "at"] (spV 2 P_law_row) := by
  obtain ⟨f_law_draw, fd_law_draw, ps_law_draw, ds_law_draw, dvs_law_draw, F_law_draw, hm_law_draw, kp_law_draw, b_law_draw, d_law_draw, hf_law_draw⟩ := H_law_draw.ex
  obtain ⟨f_law_cut, fd_law_cut, ps_law_cut, ds_law_cut, dvs_law_cut, F_law_cut, hm_law_cut, kp_law_cut, b_law_cut, d_law_cut, hf_law_cut⟩ := H_law_cut.ex
  exact fn_v F sc_law_row rfl (t := t_law_row P_law_cut P_law_draw) (fun cdv A outer s H E hr => ⟨_, (ss_cons (s_asgL 2 (e_call F_law_draw hm_law_draw kp_law_draw b_law_draw d_law_draw hf_law_draw hr (by decide) (a_cons (e_var 0) (a_cons (e_var 1) (a_cons e_int a_nil)))) sc_law_row.nd)
    (ss_cons (s_if (t_eq hr (e_call F_law_draw hm_law_draw kp_law_draw b_law_draw d_law_draw hf_law_draw hr (by decide) (a_cons (e_var 0) (a_cons (e_add (e_var 1) e_int) (a_cons e_int a_nil)))) e_int) (ss_one (s_asgL 2 (e_call F_law_draw hm_law_draw kp_law_draw b_law_draw d_law_draw hf_law_draw hr (by decide) (a_cons (e_var 0) (a_cons (e_add (e_var 1) e_int) (a_cons e_int a_nil)))) sc_law_row.nd)) ss_nil)
    (ss_cons (s_asgL 3 (e_ix (e_lst (a_cons e_int (a_cons e_int (a_cons e_int (a_cons e_int a_nil))))) (e_call F_law_draw hm_law_draw kp_law_draw b_law_draw d_law_draw hf_law_draw hr (by decide) (a_cons (e_var 0) (a_cons (e_add (e_var 1) e_int) (a_cons e_int a_nil))))) sc_law_row.nd)
    (ss_one (s_ret (e_call F_law_cut hm_law_cut kp_law_cut b_law_cut d_law_cut hf_law_cut hr (by decide) (a_cons (e_lc (own := [("k", 4)]) rfl sc_law_row.nd (i_rng1 X.m_range (e_var 2)) (blkOk_by (own := [("k", 4)]) (N := N_law_row) (sc := (defScope s_law_row)) (by decide +kernel)) (fun _ _ _ _ _ => (g_name 4 sc_law_row.nd)) (by decide) (fun _ _ _ _ _ => ts_nil) (fun _ _ _ _ _ => (e_call F_law_draw hm_law_draw kp_law_draw b_law_draw d_law_draw hf_law_draw hr (by decide) (a_cons (e_var 0) (a_cons (e_add (e_add (e_var 1) e_int) (e_var 4)) (a_cons (e_add (e_var 3) e_int) a_nil)))))) a_nil)))))))⟩) hmath
theorem ok_law_capacity (X : Txt mg C_Board)
    {P_law_draw : PV} (H_law_draw : Fnc P w KK.K mg base 1 "_law_draw" 3 P_law_draw [])
    {P_law_capacity : PV} (hmath : ∀ ds Q Ed, ds.length = 4 → P_law_capacity ds Q Ed → t_law_capacity P_law_draw { nx := fun _ => Q .non, rt := Q } (startD 5 ds)) {f : Addr} {fd : FuncData} (F : FunD KK.K "_law_capacity" "_law_capacity" (defArgs s_law_capacity) (defBody s_law_capacity) (defScope s_law_capacity) [] [] f fd) : FnOk P w KK.K mg base (L2.CX P w) 2 f fd ["script", "at", "own", "total"] (spV 4 P_law_capacity) := by
  obtain ⟨f_law_draw, fd_law_draw, ps_law_draw, ds_law_draw, dvs_law_draw, F_law_draw, hm_law_draw, kp_law_draw, b_law_draw, d_law_draw, hf_law_draw⟩ := H_law_draw.ex
  exact fn_v F sc_law_capacity rfl (t := t_law_capacity P_law_draw) (fun cdv A outer s H E hr => ⟨_, (ss_cons (s_asgL 4 (e_call F_law_draw hm_law_draw kp_law_draw b_law_draw d_law_draw hf_law_draw hr (by decide) (a_cons (e_var 0) (a_cons (e_var 1) (a_cons e_int a_nil)))) sc_law_capacity.nd)
    (ss_cons (s_if (t_eq hr (e_var 4) e_int) (ss_one (s_ret (e_max2 rfl X.m_max (a_cons (e_var 2) (a_cons (e_min2 rfl X.m_min (a_cons e_int (a_cons (e_sub (e_var 3) e_int) a_nil))) a_nil))))) ss_nil)
    (ss_cons (s_if (t_eq hr (e_var 4) e_int) (ss_one (s_ret (e_add (e_var 2) (e_call F_law_draw hm_law_draw kp_law_draw b_law_draw d_law_draw hf_law_draw hr (by decide) (a_cons (e_var 0) (a_cons (e_add (e_var 1) e_int) (a_cons (e_sub e_int (e_var 2)) a_nil))))))) ss_nil)
    (ss_one (s_ret (e_max2 rfl X.m_max (a_cons (e_var 2) (a_cons (e_min2 rfl X.m_min (a_cons e_int (a_cons (e_var 3) a_nil))) a_nil))))))))⟩) hmath
theorem ok_law_prefix (X : Txt mg C_Board)
    {P_law_counts : PV} (H_law_counts : Fnc P w KK.K mg base 1 "_law_counts" 3 P_law_counts [])
    {P_law_prefix : PV} (hmath : ∀ ds Q Ed, ds.length = 3 → P_law_prefix ds Q Ed → t_law_prefix P_law_counts { nx := fun _ => Q .non, rt := Q } (startD 9 ds)) {f : Addr} {fd : FuncData} (F : FunD KK.K "_law_prefix" "_law_prefix" (defArgs s_law_prefix) (defBody s_law_prefix) (defScope s_law_prefix) [] [] f fd) : FnOk P w KK.K mg base (L2.CX P w) 2 f fd ["capacities", "rows", "uses"] (spV 3 P_law_prefix) := by
  obtain ⟨f_law_counts, fd_law_counts, ps_law_counts, ds_law_counts, dvs_law_counts, F_law_counts, hm_law_counts, kp_law_counts, b_law_counts, d_law_counts, hf_law_counts⟩ := H_law_counts.ex
  exact fn_v F sc_law_prefix rfl (t := t_law_prefix P_law_counts) (fun cdv A outer s H E hr => ⟨_, (ss_cons (s_asg 3 (e_call F_law_counts hm_law_counts kp_law_counts b_law_counts d_law_counts hf_law_counts hr (by decide) (a_cons (e_var 1) (a_cons (e_lst a_nil) (a_cons e_int a_nil)))) sc_law_prefix.nd)
    (ss_cons (s_for rfl PassesOwn.never (i_rng1 X.m_range (e_len X.m_len (a_cons (e_var 2) a_nil))) (g_name 4 sc_law_prefix.nd) (ss_cons (s_asgG (e_ix (e_var 2) (e_var 4)) (g_tup rfl (gs_cons (g_name 5 sc_law_prefix.nd) (gs_cons (g_name 6 sc_law_prefix.nd) (gs_cons (g_name 7 sc_law_prefix.nd) gs_nil)))))
    (ss_one (s_for rfl PassesOwn.never (i_rng2 X.m_range (e_var 6) (e_var 7)) (g_name 8 sc_law_prefix.nd) (ss_cons (s_tput hr 3 (e_add (e_tget2 hr (e_var 3) (e_tup (a_cons (e_var 5) (a_cons (e_var 8) a_nil))) e_int) e_int) (e_tup (a_cons (e_var 5) (a_cons (e_var 8) a_nil))))
    (ss_one (s_if (t_gt (e_tget hr (e_var 3) (e_tup (a_cons (e_var 5) (a_cons (e_var 8) a_nil)))) (e_ix (e_var 0) (e_var 5))) (ss_one (s_retV 4)) ss_nil)))))))
    (ss_one (s_ret (e_len X.m_len (a_cons (e_var 2) a_nil))))))⟩) hmath
theorem ok_law_lowered (X : Txt mg C_Board)
    {P_law_cut : PV} (H_law_cut : Fnc P w KK.K mg base 1 "_law_cut" 1 P_law_cut [])
    {P_law_draw : PV} (H_law_draw : Fnc P w KK.K mg base 1 "_law_draw" 3 P_law_draw [])
    {P_law_lowered : PV} (hmath : ∀ ds Q Ed, ds.length = 3 → P_law_lowered ds Q Ed → t_law_lowered P_law_cut P_law_draw { nx := fun _ => Q .non, rt := Q } (startD 4 ds)) {f : Addr} {fd : FuncData} (F : FunD KK.K "_law_lowered" "_law_lowered" (defArgs s_law_lowered) (defBody s_law_lowered) (defScope s_law_lowered) [] [] f fd) : FnOk P w KK.K mg base (L2.CX P w) 2 f fd ["script", "at", "row"] (spV 3 P_law_lowered) := by
  obtain ⟨f_law_cut, fd_law_cut, ps_law_cut, ds_law_cut, dvs_law_cut, F_law_cut, hm_law_cut, kp_law_cut, b_law_cut, d_law_cut, hf_law_cut⟩ := H_law_cut.ex
  obtain ⟨f_law_draw, fd_law_draw, ps_law_draw, ds_law_draw, dvs_law_draw, F_law_draw, hm_law_draw, kp_law_draw, b_law_draw, d_law_draw, hf_law_draw⟩ := H_law_draw.ex
  exact fn_v F sc_law_lowered rfl (t := t_law_lowered P_law_cut P_law_draw) (fun cdv A outer s H E hr => ⟨_, (ss_one (s_ret (e_call F_law_cut hm_law_cut kp_law_cut b_law_cut d_law_cut hf_law_cut hr (by decide) (a_cons (e_lc (own := [("k", 3)]) rfl sc_law_lowered.nd (i_rng1 X.m_range (e_len X.m_len (a_cons (e_var 2) a_nil))) (blkOk_by (own := [("k", 3)]) (N := N_law_lowered) (sc := (defScope s_law_lowered)) (by decide +kernel)) (fun _ _ _ _ _ => (g_name 3 sc_law_lowered.nd)) (by decide) (fun _ _ _ _ _ => ts_nil) (fun _ _ _ _ _ => (e_max2 rfl X.m_max (a_cons e_int (a_cons (e_sub (e_ix (e_var 2) (e_var 3)) (e_ix (e_lst (a_cons e_int (a_cons e_int (a_cons e_int (a_cons e_int a_nil))))) (e_call F_law_draw hm_law_draw kp_law_draw b_law_draw d_law_draw hf_law_draw hr (by decide) (a_cons (e_var 0) (a_cons (e_add (e_var 1) (e_var 3)) (a_cons e_int a_nil)))))) a_nil))))) a_nil))))⟩) hmath
theorem ok_raised (X : Txt mg C_Board)
    {P_raised : PV} (hmath : ∀ ds Q Ed, ds.length = 3 → P_raised ds Q Ed → t_raised  { nx := fun _ => Q .non, rt := Q } (startD 5 ds)) {f : Addr} {fd : FuncData} (F : FunD KK.K "raised" "raised" (defArgs s_raised) (defBody s_raised) (defScope s_raised) [] [] f fd) : FnOk P w KK.K mg base (L2.CX P w) 1 f fd ["lane", "start", "end"] (spV 3 P_raised) := by
  exact fn_v F sc_raised rfl (t := t_raised ) (fun cdv A outer s H E hr => ⟨_, (ss_cons (s_asg 3 (e_list X.m_list (a_cons (e_var 0) a_nil)) sc_raised.nd)
    (ss_cons (s_if (t_lt (e_var 1) (e_var 2)) (ss_one (s_ext 3 (e_rep (e_lst (a_cons e_int a_nil)) (e_sub (e_var 2) (e_len X.m_len (a_cons (e_var 3) a_nil)))))) ss_nil)
    (ss_cons (s_for rfl PassesOwn.never (i_rng2 X.m_range (e_var 1) (e_var 2)) (g_name 4 sc_raised.nd) (ss_one (s_setIx 3 (e_add (e_ix (e_var 3) (e_var 4)) e_int) (e_var 4))))
    (ss_one (s_ret (e_tuple X.m_tuple (a_cons (e_var 3) a_nil)))))))⟩) hmath
theorem ok_lanes_with (X : Txt mg C_Board)
    {P_raised : PV} (H_raised : Fnc P w KK.K mg base 1 "raised" 3 P_raised [])
    {P_lanes_with : PV} (hmath : ∀ ds Q Ed, ds.length = 2 → P_lanes_with ds Q Ed → t_lanes_with P_raised { nx := fun _ => Q .non, rt := Q } (startD 7 ds)) {f : Addr} {fd : FuncData} (F : FunD KK.K "lanes_with" "lanes_with" (defArgs s_lanes_with) (defBody s_lanes_with) (defScope s_lanes_with) [] [] f fd) : FnOk P w KK.K mg base (L2.CX P w) 2 f fd ["lanes", "uses"] (spV 2 P_lanes_with) := by
  obtain ⟨f_raised, fd_raised, ps_raised, ds_raised, dvs_raised, F_raised, hm_raised, kp_raised, b_raised, d_raised, hf_raised⟩ := H_raised.ex
  exact fn_v F sc_lanes_with rfl (t := t_lanes_with P_raised) (fun cdv A outer s H E hr => ⟨_, (ss_cons (s_lc (own := [("lane", 6)]) 2 rfl sc_lanes_with.nd (i_seq (e_var 0)) (blkOk_by (own := [("lane", 6)]) (N := N_lanes_with) (sc := (defScope s_lanes_with)) (by decide +kernel)) (fun _ _ _ _ _ => (g_name 6 sc_lanes_with.nd)) (by decide) (fun _ _ _ _ _ => ts_nil) (fun _ _ _ _ _ => (e_tuple X.m_tuple (a_cons (e_var 6) a_nil))))
    (ss_cons (s_for rfl PassesOwn.never (i_seq (e_var 1)) (g_tup rfl (gs_cons (g_name 3 sc_lanes_with.nd) (gs_cons (g_name 4 sc_lanes_with.nd) (gs_cons (g_name 5 sc_lanes_with.nd) gs_nil)))) (ss_one (s_setIx 2 (e_call F_raised hm_raised kp_raised b_raised d_raised hf_raised hr (by decide) (a_cons (e_ix (e_var 2) (e_var 3)) (a_cons (e_var 4) (a_cons (e_var 5) a_nil)))) (e_var 3))))
    (ss_one (s_ret (e_tuple X.m_tuple (a_cons (e_var 2) a_nil))))))⟩) hmath
theorem ok_first_excess (X : Txt mg C_Board)
    {P_lanes_with : PV} (H_lanes_with : Fnc P w KK.K mg base 2 "lanes_with" 2 P_lanes_with [])
    {P_first_excess : PV} (hmath : ∀ ds Q Ed, ds.length = 3 → P_first_excess ds Q Ed → t_first_excess P_lanes_with { nx := fun _ => Q .non, rt := Q } (startD 6 ds)) {f : Addr} {fd : FuncData} (F : FunD KK.K "first_excess" "first_excess" (defArgs s_first_excess) (defBody s_first_excess) (defScope s_first_excess) [] [] f fd) : FnOk P w KK.K mg base (L2.CX P w) 3 f fd ["capacities", "lanes", "uses"] (spV 3 P_first_excess) := by
  obtain ⟨f_lanes_with, fd_lanes_with, ps_lanes_with, ds_lanes_with, dvs_lanes_with, F_lanes_with, hm_lanes_with, kp_lanes_with, b_lanes_with, d_lanes_with, hf_lanes_with⟩ := H_lanes_with.ex
  exact fn_v F sc_first_excess rfl (t := t_first_excess P_lanes_with) (fun cdv A outer s H E hr => ⟨_, (ss_cons (s_asgL 3 (e_call F_lanes_with hm_lanes_with kp_lanes_with b_lanes_with d_lanes_with hf_lanes_with hr (by decide) (a_cons (e_var 1) (a_cons (e_var 2) a_nil))) sc_first_excess.nd)
    (ss_cons (s_for rfl PassesOwn.never (i_rng1 X.m_range (e_len X.m_len (a_cons (e_var 3) a_nil))) (g_name 4 sc_first_excess.nd) (ss_one (s_for rfl PassesOwn.never (i_rng1 X.m_range (e_len X.m_len (a_cons (e_ix (e_var 3) (e_var 4)) a_nil))) (g_name 5 sc_first_excess.nd) (ss_one (s_if (t_gt (e_ix (e_ix (e_var 3) (e_var 4)) (e_var 5)) (e_ix (e_var 0) (e_var 4))) (ss_one (s_ret (e_tup (a_cons (e_var 4) (a_cons (e_var 5) a_nil))))) ss_nil)))))
    (ss_one (s_ret e_non))))⟩) hmath
theorem ok_uses_fit (X : Txt mg C_Board)
    {P_first_excess : PV} (H_first_excess : Fnc P w KK.K mg base 3 "first_excess" 3 P_first_excess [])
    {P_uses_fit : PV} (hmath : ∀ ds Q Ed, ds.length = 3 → P_uses_fit ds Q Ed → t_uses_fit P_first_excess { nx := fun _ => Q .non, rt := Q } (startD 3 ds)) {f : Addr} {fd : FuncData} (F : FunD KK.K "uses_fit" "uses_fit" (defArgs s_uses_fit) (defBody s_uses_fit) (defScope s_uses_fit) [] [] f fd) : FnOk P w KK.K mg base (L2.CX P w) 4 f fd ["capacities", "lanes", "uses"] (spV 3 P_uses_fit) := by
  obtain ⟨f_first_excess, fd_first_excess, ps_first_excess, ds_first_excess, dvs_first_excess, F_first_excess, hm_first_excess, kp_first_excess, b_first_excess, d_first_excess, hf_first_excess⟩ := H_first_excess.ex
  exact fn_v F sc_uses_fit rfl (t := t_uses_fit P_first_excess) (fun cdv A outer s H E hr => ⟨_, (ss_one (s_ret (e_isN (e_call F_first_excess hm_first_excess kp_first_excess b_first_excess d_first_excess hf_first_excess hr (by decide) (a_cons (e_var 0) (a_cons (e_var 1) (a_cons (e_var 2) a_nil)))))))⟩) hmath
theorem ok_Board_fits (X : Txt mg C_Board)
    {P_uses_fit : PV} (H_uses_fit : Fnc P w KK.K mg base 4 "uses_fit" 3 P_uses_fit [])
    {P_Board_fits : PV} (hmath : ∀ ds Q Ed, ds.length = 2 → P_Board_fits ds Q Ed → t_Board_fits P_uses_fit C_Board { nx := fun _ => Q .non, rt := Q } (startD 2 ds)) {f : Addr} {fd : FuncData} (F : FunD KK.K "fits" "Board.fits" (defArgs s_Board_fits) (defBody s_Board_fits) (defScope s_Board_fits) [] [] f fd) : FnOk P w KK.K mg base (L2.CX P w) 5 f fd ["self", "uses"] (spV 2 P_Board_fits) := by
  obtain ⟨f_uses_fit, fd_uses_fit, ps_uses_fit, ds_uses_fit, dvs_uses_fit, F_uses_fit, hm_uses_fit, kp_uses_fit, b_uses_fit, d_uses_fit, hf_uses_fit⟩ := H_uses_fit.ex
  exact fn_v F sc_Board_fits rfl (t := t_Board_fits P_uses_fit C_Board) (fun cdv A outer s H E hr => ⟨_, (ss_one (s_ret (e_call F_uses_fit hm_uses_fit kp_uses_fit b_uses_fit d_uses_fit hf_uses_fit hr (by decide) (a_cons (e_fld (ok := fun C => C = C_Board) (fun C h => h ▸ X.fl_Board_capacities) (e_var 0)) (a_cons (e_fld (ok := fun C => C = C_Board) (fun C h => h ▸ X.fl_Board_lanes) (e_var 0)) (a_cons (e_var 1) a_nil))))))⟩) hmath
theorem ok_Board_add (X : Txt mg C_Board)
    {P_first_excess : PV} (H_first_excess : Fnc P w KK.K mg base 3 "first_excess" 3 P_first_excess [])
    {P_lanes_with : PV} (H_lanes_with : Fnc P w KK.K mg base 2 "lanes_with" 2 P_lanes_with [])
    {P_Board_init : PI'} {f_Board_init : Addr} {fd_Board_init : FuncData} (M_Board : Mk KK.K C_Board f_Board_init) (F_Board_init : FnOk P w KK.K mg base (L2.CX P w) 3 f_Board_init fd_Board_init ["self", "capacities", "lanes"] (spI 2 P_Board_init)) (oc_Board_init : FunD KK.K "__init__" "Board.__init__" (defArgs s_Board_init) (defBody s_Board_init) (defScope s_Board_init) [.non] [] f_Board_init fd_Board_init)
    {P_Board_add : PV} (hmath : ∀ ds Q Ed, ds.length = 2 → P_Board_add ds Q Ed → t_Board_add P_first_excess P_lanes_with P_Board_init C_Board { nx := fun _ => Q .non, rt := Q } (startD 3 ds)) {f : Addr} {fd : FuncData} (F : FunD KK.K "__add__" "Board.__add__" (defArgs s_Board_add) (defBody s_Board_add) (defScope s_Board_add) [] [] f fd) : FnOk P w KK.K mg base (L2.CX P w) 5 f fd ["self", "uses"] (spV 2 P_Board_add) := by
  obtain ⟨f_first_excess, fd_first_excess, ps_first_excess, ds_first_excess, dvs_first_excess, F_first_excess, hm_first_excess, kp_first_excess, b_first_excess, d_first_excess, hf_first_excess⟩ := H_first_excess.ex
  obtain ⟨f_lanes_with, fd_lanes_with, ps_lanes_with, ds_lanes_with, dvs_lanes_with, F_lanes_with, hm_lanes_with, kp_lanes_with, b_lanes_with, d_lanes_with, hf_lanes_with⟩ := H_lanes_with.ex
  have b_Board_init := binds_full (ps := ["self", "capacities", "lanes"]) oc_Board_init (by simp) (fun _ _ _ _ _ _ _ us its hl h2 => match us, its, hl, h2 with | [_, _, _], [_], _, _ => ⟨_, rfl, rfl⟩)
  have d_Board_init : Vals ([] : List V) [] := .nil
  have hf_Board_init : Flat [] [] := True.intro
  exact fn_v F sc_Board_add rfl (t := t_Board_add P_first_excess P_lanes_with P_Board_init C_Board) (fun cdv A outer s H E hr => ⟨_, (ss_cons (s_asgL 2 (e_call F_first_excess hm_first_excess kp_first_excess b_first_excess d_first_excess hf_first_excess hr (by decide) (a_cons (e_fld (ok := fun C => C = C_Board) (fun C h => h ▸ X.fl_Board_capacities) (e_var 0)) (a_cons (e_fld (ok := fun C => C = C_Board) (fun C h => h ▸ X.fl_Board_lanes) (e_var 0)) (a_cons (e_var 1) a_nil)))) sc_Board_add.nd)
    (ss_cons (s_if (t_notN (e_var 2)) (ss_one s_never) ss_nil)
    (ss_one (s_ret (e_make M_Board F_Board_init b_Board_init d_Board_init hf_Board_init X.mg_Board hr (by decide) (a_cons (e_fld (ok := fun C => C = C_Board) (fun C h => h ▸ X.fl_Board_capacities) (e_var 0)) (a_cons (e_call F_lanes_with hm_lanes_with kp_lanes_with b_lanes_with d_lanes_with hf_lanes_with hr (by decide) (a_cons (e_fld (ok := fun C => C = C_Board) (fun C h => h ▸ X.fl_Board_lanes) (e_var 0)) (a_cons (e_var 1) a_nil))) a_nil)))))))⟩) hmath
theorem ok_law_fit (X : Txt mg C_Board)
    {P_law_counts : PV} (H_law_counts : Fnc P w KK.K mg base 1 "_law_counts" 3 P_law_counts [])
    {P_law_fit : PV} (hmath : ∀ ds Q Ed, ds.length = 3 → P_law_fit ds Q Ed → t_law_fit P_law_counts { nx := fun _ => Q .non, rt := Q } (startD 5 ds)) {f : Addr} {fd : FuncData} (F : FunD KK.K "_law_fit" "_law_fit" (defArgs s_law_fit) (defBody s_law_fit) (defScope s_law_fit) [] [] f fd) : FnOk P w KK.K mg base (L2.CX P w) 2 f fd ["capacities", "rows", "uses"] (spV 3 P_law_fit) := by
  obtain ⟨f_law_counts, fd_law_counts, ps_law_counts, ds_law_counts, dvs_law_counts, F_law_counts, hm_law_counts, kp_law_counts, b_law_counts, d_law_counts, hf_law_counts⟩ := H_law_counts.ex
  exact fn_v F sc_law_fit rfl (t := t_law_fit P_law_counts) (fun cdv A outer s H E hr => ⟨_, (ss_cons (s_asg 3 (e_call F_law_counts hm_law_counts kp_law_counts b_law_counts d_law_counts hf_law_counts hr (by decide) (a_cons (e_var 1) (a_cons (e_var 2) (a_cons e_int a_nil)))) sc_law_fit.nd)
    (ss_one (s_ret (e_eq hr (e_len X.m_len (a_cons (e_lockT 3 (e_keyC (own := [("key", 4)]) (by decide) (by decide) rfl sc_law_fit.nd (i_keys (e_var 3)) (blkOk_by (own := [("key", 4)]) (N := N_law_fit) (sc := (defScope s_law_fit)) (by decide +kernel)) (fun _ _ _ _ _ => (g_name 4 sc_law_fit.nd)) (by decide) (fun _ _ _ _ _ => (ts_one (t_gt (e_tget hr (e_var 3) (e_var 4)) (e_ix (e_var 0) (e_ix (e_var 4) e_int))))) (fun _ _ _ _ _ => (e_var 4)))) a_nil)) e_int))))⟩) hmath
theorem ok_law_uses_keep (X : Txt mg C_Board)
    {P_law_rows : PV} (H_law_rows : Fnc P w KK.K mg base 2 "_law_rows" 2 P_law_rows [])
    {P_law_counts : PV} (H_law_counts : Fnc P w KK.K mg base 1 "_law_counts" 3 P_law_counts [])
    {P_law_covers : PV} (H_law_covers : Fnc P w KK.K mg base 2 "_law_covers" 2 P_law_covers [])
    {P_law_fit : PV} (H_law_fit : Fnc P w KK.K mg base 2 "_law_fit" 3 P_law_fit [])
    {P_law_is_board : PV} (H_law_is_board : Fnc P w KK.K mg base 5 "_law_is_board" 3 P_law_is_board [])
    {P_Board_add : PV} (H_Board_add : Met P w KK.K mg base 5 C_Board "__add__" 2 P_Board_add)
    {P_Board_fits : PV} (H_Board_fits : Mth P w KK.K mg base 5 C_Board "fits" 2 P_Board_fits)
    {P_Board_covers : PV} (H_Board_covers : Mth P w KK.K mg base 2 C_Board "covers" 2 P_Board_covers)
    {P_law_uses_keep : PV} (hmath : ∀ ds Q Ed, ds.length = 3 → P_law_uses_keep ds Q Ed → t_law_uses_keep P_Board_add P_Board_covers P_Board_fits P_law_counts P_law_covers P_law_fit P_law_is_board P_law_rows C_Board { nx := fun _ => Q .non, rt := Q } (startD 10 ds)) {f : Addr} {fd : FuncData} (F : FunD KK.K "_law_uses_keep" "_law_uses_keep" (defArgs s_law_uses_keep) (defBody s_law_uses_keep) (defScope s_law_uses_keep) [] [] f fd) : FnOk P w KK.K mg base (L2.CX P w) 7 f fd ["boards", "plains", "uses"] (spV 3 P_law_uses_keep) := by
  obtain ⟨f_law_rows, fd_law_rows, ps_law_rows, ds_law_rows, dvs_law_rows, F_law_rows, hm_law_rows, kp_law_rows, b_law_rows, d_law_rows, hf_law_rows⟩ := H_law_rows.ex
  obtain ⟨f_law_counts, fd_law_counts, ps_law_counts, ds_law_counts, dvs_law_counts, F_law_counts, hm_law_counts, kp_law_counts, b_law_counts, d_law_counts, hf_law_counts⟩ := H_law_counts.ex
  obtain ⟨f_law_covers, fd_law_covers, ps_law_covers, ds_law_covers, dvs_law_covers, F_law_covers, hm_law_covers, kp_law_covers, b_law_covers, d_law_covers, hf_law_covers⟩ := H_law_covers.ex
  obtain ⟨f_law_fit, fd_law_fit, ps_law_fit, ds_law_fit, dvs_law_fit, F_law_fit, hm_law_fit, kp_law_fit, b_law_fit, d_law_fit, hf_law_fit⟩ := H_law_fit.ex
  obtain ⟨f_law_is_board, fd_law_is_board, ps_law_is_board, ds_law_is_board, dvs_law_is_board, F_law_is_board, hm_law_is_board, kp_law_is_board, b_law_is_board, d_law_is_board, hf_law_is_board⟩ := H_law_is_board.ex
  obtain ⟨f_Board_add, fd_Board_add, ps_Board_add, F_Board_add, hs_Board_add, hf_Board_add, hb_Board_add⟩ := H_Board_add.ex
  obtain ⟨f_Board_fits, fd_Board_fits, ps_Board_fits, F_Board_fits, hm_Board_fits, hb_Board_fits⟩ := H_Board_fits.ex
  obtain ⟨f_Board_covers, fd_Board_covers, ps_Board_covers, F_Board_covers, hm_Board_covers, hb_Board_covers⟩ := H_Board_covers.ex
  exact fn_v F sc_law_uses_keep rfl (t := t_law_uses_keep P_Board_add P_Board_covers P_Board_fits P_law_counts P_law_covers P_law_fit P_law_is_board P_law_rows C_Board) (fun cdv A outer s H E hr => ⟨_, (ss_cons (s_asgL 3 (e_addO X.ad_Board F_Board_add hs_Board_add hf_Board_add hb_Board_add hr (by decide) (e_ix (e_var 0) e_int) (e_list X.m_list (a_cons (e_var 2) a_nil))) sc_law_uses_keep.nd)
    (ss_cons (s_asgL 4 (e_tup (a_cons (e_ix (e_ix (e_var 1) e_int) e_int) (a_cons (e_call F_law_rows hm_law_rows kp_law_rows b_law_rows d_law_rows hf_law_rows hr (by decide) (a_cons (e_call F_law_counts hm_law_counts kp_law_counts b_law_counts d_law_counts hf_law_counts hr (by decide) (a_cons (e_ix (e_ix (e_var 1) e_int) e_int) (a_cons (e_var 2) (a_cons e_int a_nil)))) (a_cons (e_len X.m_len (a_cons (e_ix (e_ix (e_var 1) e_int) e_int) a_nil)) a_nil))) a_nil))) sc_law_uses_keep.nd)
    (ss_cons (s_for rfl PassesOwn.never (i_rng1 X.m_range (e_len X.m_len (a_cons (e_var 0) a_nil))) (g_name 5 sc_law_uses_keep.nd) (ss_cons (s_asgL 6 (e_meth X.cf_Board.cl F_Board_fits hm_Board_fits hb_Board_fits hr (by decide) (e_ix (e_var 0) (e_var 5)) (a_cons (e_list X.m_list (a_cons (e_var 2) a_nil)) a_nil)) sc_law_uses_keep.nd)
    (ss_cons (s_if (t_w (w_or (t_not (t_val (e_isi kit_bool X.m_isinstance (a_cons (e_var 6) (a_cons (e_bltn X.m_bool (by decide +kernel)) a_nil))))) (w_orL (t_ne hr (e_var 6) (e_call F_law_fit hm_law_fit kp_law_fit b_law_fit d_law_fit hf_law_fit hr (by decide) (a_cons (e_ix (e_ix (e_var 1) (e_var 5)) e_int) (a_cons (e_ix (e_ix (e_var 1) (e_var 5)) e_int) (a_cons (e_var 2) a_nil)))))))) (ss_one (s_ret e_bl)) ss_nil)
    (ss_cons (s_if (t_w (w_and (t_val (e_call F_law_covers hm_law_covers kp_law_covers b_law_covers d_law_covers hf_law_covers hr (by decide) (a_cons (e_ix (e_var 1) e_int) (a_cons (e_ix (e_var 1) (e_var 5)) a_nil)))) (w_andL (t_notB (e_var 6) e_bl)))) (ss_one (s_ret e_bl)) ss_nil)
    (ss_one (s_if (t_val (e_var 6)) (ss_cons (s_asgL 7 (e_addO X.ad_Board F_Board_add hs_Board_add hf_Board_add hb_Board_add hr (by decide) (e_ix (e_var 0) (e_var 5)) (e_list X.m_list (a_cons (e_var 2) a_nil))) sc_law_uses_keep.nd)
    (ss_cons (s_asgL 8 (e_tup (a_cons (e_ix (e_ix (e_var 1) (e_var 5)) e_int) (a_cons (e_call F_law_rows hm_law_rows kp_law_rows b_law_rows d_law_rows hf_law_rows hr (by decide) (a_cons (e_call F_law_counts hm_law_counts kp_law_counts b_law_counts d_law_counts hf_law_counts hr (by decide) (a_cons (e_ix (e_ix (e_var 1) (e_var 5)) e_int) (a_cons (e_var 2) (a_cons e_int a_nil)))) (a_cons (e_len X.m_len (a_cons (e_ix (e_ix (e_var 1) (e_var 5)) e_int) a_nil)) a_nil))) a_nil))) sc_law_uses_keep.nd)
    (ss_cons (s_asgL 9 (e_meth X.cf_Board.cl F_Board_covers hm_Board_covers hb_Board_covers hr (by decide) (e_var 3) (a_cons (e_var 7) a_nil)) sc_law_uses_keep.nd)
    (ss_cons (s_if (t_w (w_or (t_not (t_val (e_call F_law_is_board hm_law_is_board kp_law_is_board b_law_is_board d_law_is_board hf_law_is_board hr (by decide) (a_cons (e_var 7) (a_cons (e_ix (e_var 8) e_int) (a_cons (e_ix (e_var 8) e_int) a_nil)))))) (w_or (t_not (t_val (e_isi kit_bool X.m_isinstance (a_cons (e_var 9) (a_cons (e_bltn X.m_bool (by decide +kernel)) a_nil))))) (w_orL (t_ne hr (e_var 9) (e_call F_law_covers hm_law_covers kp_law_covers b_law_covers d_law_covers hf_law_covers hr (by decide) (a_cons (e_var 4) (a_cons (e_var 8) a_nil)))))))) (ss_one (s_ret e_bl)) ss_nil)
    (ss_one (s_if (t_w (w_and (t_val (e_call F_law_covers hm_law_covers kp_law_covers b_law_covers d_law_covers hf_law_covers hr (by decide) (a_cons (e_ix (e_var 1) e_int) (a_cons (e_ix (e_var 1) (e_var 5)) a_nil)))) (w_andL (t_notB (e_var 9) e_bl)))) (ss_one (s_ret e_bl)) ss_nil)))))) ss_nil))))))
    (ss_one (s_ret e_bl)))))⟩) hmath
theorem ok_law (X : Txt mg C_Board)
    {P_law_draw : PV} (H_law_draw : Fnc P w KK.K mg base 1 "_law_draw" 3 P_law_draw [])
    {P_law_uses : PV} (H_law_uses : Fnc P w KK.K mg base 2 "_law_uses" 4 P_law_uses [])
    {P_law_rows : PV} (H_law_rows : Fnc P w KK.K mg base 2 "_law_rows" 2 P_law_rows [])
    {P_law_raised : PV} (H_law_raised : Fnc P w KK.K mg base 2 "_law_raised" 4 P_law_raised [])
    {P_law_clipped : PV} (H_law_clipped : Fnc P w KK.K mg base 2 "_law_clipped" 2 P_law_clipped [])
    {P_law_counts : PV} (H_law_counts : Fnc P w KK.K mg base 1 "_law_counts" 3 P_law_counts [])
    {P_law_other : PV} (H_law_other : Fnc P w KK.K mg base 2 "_law_other" 3 P_law_other [])
    {P_law_pairs : PV} (H_law_pairs : Fnc P w KK.K mg base 6 "_law_pairs" 2 P_law_pairs [])
    {P_law_row : PV} (H_law_row : Fnc P w KK.K mg base 2 "_law_row" 2 P_law_row [])
    {P_law_capacity : PV} (H_law_capacity : Fnc P w KK.K mg base 2 "_law_capacity" 4 P_law_capacity [])
    {P_law_prefix : PV} (H_law_prefix : Fnc P w KK.K mg base 2 "_law_prefix" 3 P_law_prefix [])
    {P_law_lowered : PV} (H_law_lowered : Fnc P w KK.K mg base 2 "_law_lowered" 3 P_law_lowered [])
    {P_law_uses_keep : PV} (H_law_uses_keep : Fnc P w KK.K mg base 7 "_law_uses_keep" 3 P_law_uses_keep [])
    {P_law_cut : PV} (H_law_cut : Fnc P w KK.K mg base 1 "_law_cut" 1 P_law_cut [])
    {P_Board_later : PV} (H_Board_later : Mth P w KK.K mg base 5 C_Board "later" 1 P_Board_later)
    {P_Board_init : PI'} {f_Board_init : Addr} {fd_Board_init : FuncData} (M_Board : Mk KK.K C_Board f_Board_init) (F_Board_init : FnOk P w KK.K mg base (L2.CX P w) 3 f_Board_init fd_Board_init ["self", "capacities", "lanes"] (spI 2 P_Board_init)) (oc_Board_init : FunD KK.K "__init__" "Board.__init__" (defArgs s_Board_init) (defBody s_Board_init) (defScope s_Board_init) [.non] [] f_Board_init fd_Board_init)
    (hmath : ∀ ds Q Ed, ds.length = 1 → LawP ds Q Ed → t_law P_Board_later P_law_capacity P_law_clipped P_law_counts P_law_cut P_law_draw P_law_lowered P_law_other P_law_pairs P_law_prefix P_law_raised P_law_row P_law_rows P_law_uses P_law_uses_keep P_Board_init C_Board { nx := fun _ => Q .non, rt := Q } (startD 18 ds)) {f : Addr} {fd : FuncData} (F : FunD KK.K "law" "law" (defArgs s_law) (defBody s_law) (defScope s_law) [] [] f fd) : FnOk P w KK.K mg base (L2.CX P w) 8 f fd ["script"] (spV 1 LawP) := by
  obtain ⟨f_law_draw, fd_law_draw, ps_law_draw, ds_law_draw, dvs_law_draw, F_law_draw, hm_law_draw, kp_law_draw, b_law_draw, d_law_draw, hf_law_draw⟩ := H_law_draw.ex
  obtain ⟨f_law_uses, fd_law_uses, ps_law_uses, ds_law_uses, dvs_law_uses, F_law_uses, hm_law_uses, kp_law_uses, b_law_uses, d_law_uses, hf_law_uses⟩ := H_law_uses.ex
  obtain ⟨f_law_rows, fd_law_rows, ps_law_rows, ds_law_rows, dvs_law_rows, F_law_rows, hm_law_rows, kp_law_rows, b_law_rows, d_law_rows, hf_law_rows⟩ := H_law_rows.ex
  obtain ⟨f_law_raised, fd_law_raised, ps_law_raised, ds_law_raised, dvs_law_raised, F_law_raised, hm_law_raised, kp_law_raised, b_law_raised, d_law_raised, hf_law_raised⟩ := H_law_raised.ex
  obtain ⟨f_law_clipped, fd_law_clipped, ps_law_clipped, ds_law_clipped, dvs_law_clipped, F_law_clipped, hm_law_clipped, kp_law_clipped, b_law_clipped, d_law_clipped, hf_law_clipped⟩ := H_law_clipped.ex
  obtain ⟨f_law_counts, fd_law_counts, ps_law_counts, ds_law_counts, dvs_law_counts, F_law_counts, hm_law_counts, kp_law_counts, b_law_counts, d_law_counts, hf_law_counts⟩ := H_law_counts.ex
  obtain ⟨f_law_other, fd_law_other, ps_law_other, ds_law_other, dvs_law_other, F_law_other, hm_law_other, kp_law_other, b_law_other, d_law_other, hf_law_other⟩ := H_law_other.ex
  obtain ⟨f_law_pairs, fd_law_pairs, ps_law_pairs, ds_law_pairs, dvs_law_pairs, F_law_pairs, hm_law_pairs, kp_law_pairs, b_law_pairs, d_law_pairs, hf_law_pairs⟩ := H_law_pairs.ex
  obtain ⟨f_law_row, fd_law_row, ps_law_row, ds_law_row, dvs_law_row, F_law_row, hm_law_row, kp_law_row, b_law_row, d_law_row, hf_law_row⟩ := H_law_row.ex
  obtain ⟨f_law_capacity, fd_law_capacity, ps_law_capacity, ds_law_capacity, dvs_law_capacity, F_law_capacity, hm_law_capacity, kp_law_capacity, b_law_capacity, d_law_capacity, hf_law_capacity⟩ := H_law_capacity.ex
  obtain ⟨f_law_prefix, fd_law_prefix, ps_law_prefix, ds_law_prefix, dvs_law_prefix, F_law_prefix, hm_law_prefix, kp_law_prefix, b_law_prefix, d_law_prefix, hf_law_prefix⟩ := H_law_prefix.ex
  obtain ⟨f_law_lowered, fd_law_lowered, ps_law_lowered, ds_law_lowered, dvs_law_lowered, F_law_lowered, hm_law_lowered, kp_law_lowered, b_law_lowered, d_law_lowered, hf_law_lowered⟩ := H_law_lowered.ex
  obtain ⟨f_law_uses_keep, fd_law_uses_keep, ps_law_uses_keep, ds_law_uses_keep, dvs_law_uses_keep, F_law_uses_keep, hm_law_uses_keep, kp_law_uses_keep, b_law_uses_keep, d_law_uses_keep, hf_law_uses_keep⟩ := H_law_uses_keep.ex
  obtain ⟨f_law_cut, fd_law_cut, ps_law_cut, ds_law_cut, dvs_law_cut, F_law_cut, hm_law_cut, kp_law_cut, b_law_cut, d_law_cut, hf_law_cut⟩ := H_law_cut.ex
  obtain ⟨f_Board_later, fd_Board_later, ps_Board_later, F_Board_later, hm_Board_later, hb_Board_later⟩ := H_Board_later.ex
  have b_Board_init := binds_full (ps := ["self", "capacities", "lanes"]) oc_Board_init (by simp) (fun _ _ _ _ _ _ _ us its hl h2 => match us, its, hl, h2 with | [_, _, _], [_], _, _ => ⟨_, rfl, rfl⟩)
  have d_Board_init : Vals ([] : List V) [] := .nil
  have hf_Board_init : Flat [] [] := True.intro
  exact fn_v F sc_law rfl (t := t_law P_Board_later P_law_capacity P_law_clipped P_law_counts P_law_cut P_law_draw P_law_lowered P_law_other P_law_pairs P_law_prefix P_law_raised P_law_row P_law_rows P_law_uses P_law_uses_keep P_Board_init C_Board) (fun cdv A outer s H E hr => ⟨_, (ss_cons (s_asgL 1 (e_add e_int (e_call F_law_draw hm_law_draw kp_law_draw b_law_draw d_law_draw hf_law_draw hr (by decide) (a_cons (e_var 0) (a_cons e_int (a_cons e_int a_nil))))) sc_law.nd)
    (ss_cons (s_if (t_eq hr (e_call F_law_draw hm_law_draw kp_law_draw b_law_draw d_law_draw hf_law_draw hr (by decide) (a_cons (e_var 0) (a_cons e_int (a_cons e_int a_nil)))) e_int) (ss_one (s_asgL 1 (e_add e_int (e_call F_law_draw hm_law_draw kp_law_draw b_law_draw d_law_draw hf_law_draw hr (by decide) (a_cons (e_var 0) (a_cons e_int (a_cons e_int a_nil))))) sc_law.nd)) ss_nil)
    (ss_cons (s_asgL 2 (e_call F_law_draw hm_law_draw kp_law_draw b_law_draw d_law_draw hf_law_draw hr (by decide) (a_cons (e_var 0) (a_cons e_int (a_cons e_int a_nil)))) sc_law.nd)
    (ss_cons (s_if (t_eq hr (e_call F_law_draw hm_law_draw kp_law_draw b_law_draw d_law_draw hf_law_draw hr (by decide) (a_cons (e_var 0) (a_cons e_int (a_cons e_int a_nil)))) e_int) (ss_cons (s_asgL 1 e_int sc_law.nd)
    (ss_one (s_asgL 2 e_int sc_law.nd))) ss_nil)
    (ss_cons (s_asgL 3 (e_tuple X.m_tuple (a_cons (e_lc (own := [("k", 14)]) rfl sc_law.nd (i_rng1 X.m_range (e_var 1)) (blkOk_by (own := [("k", 14)]) (N := N_law) (sc := (defScope s_law)) (by decide +kernel)) (fun _ _ _ _ _ => (g_name 14 sc_law.nd)) (by decide) (fun _ _ _ _ _ => ts_nil) (fun _ _ _ _ _ => (e_call F_law_row hm_law_row kp_law_row b_law_row d_law_row hf_law_row hr (by decide) (a_cons (e_var 0) (a_cons (e_add e_int (e_mul e_int (e_var 14))) a_nil))))) a_nil)) sc_law.nd)
    (ss_cons (s_asgL 4 (e_call F_law_uses hm_law_uses kp_law_uses b_law_uses d_law_uses hf_law_uses hr (by decide) (a_cons (e_var 0) (a_cons e_int (a_cons (e_var 1) (a_cons (e_var 2) a_nil))))) sc_law.nd)
    (ss_cons (s_asgL 5 (e_call F_law_rows hm_law_rows kp_law_rows b_law_rows d_law_rows hf_law_rows hr (by decide) (a_cons (e_call F_law_counts hm_law_counts kp_law_counts b_law_counts d_law_counts hf_law_counts hr (by decide) (a_cons (e_var 3) (a_cons (e_var 4) (a_cons e_int a_nil)))) (a_cons (e_var 1) a_nil))) sc_law.nd)
    (ss_cons (s_asgL 6 (e_tuple X.m_tuple (a_cons (e_lc (own := [("k", 14)]) rfl sc_law.nd (i_rng1 X.m_range (e_var 1)) (blkOk_by (own := [("k", 14)]) (N := N_law) (sc := (defScope s_law)) (by decide +kernel)) (fun _ _ _ _ _ => (g_name 14 sc_law.nd)) (by decide) (fun _ _ _ _ _ => ts_nil) (fun _ _ _ _ _ => (e_call F_law_capacity hm_law_capacity kp_law_capacity b_law_capacity d_law_capacity hf_law_capacity hr (by decide) (a_cons (e_var 0) (a_cons (e_add e_int (e_mul e_int (e_var 14))) (a_cons (e_maxT rfl X.m_max (a_cons (e_add (e_tup (a_cons e_int a_nil)) (e_ix (e_var 3) (e_var 14))) a_nil)) (a_cons (e_maxT rfl X.m_max (a_cons (e_add (e_tup (a_cons e_int a_nil)) (e_ix (e_var 5) (e_var 14))) a_nil)) a_nil))))))) a_nil)) sc_law.nd)
    (ss_cons (s_asgL 4 (e_sl (e_var 4) o_no (o_pt (e_call F_law_prefix hm_law_prefix kp_law_prefix b_law_prefix d_law_prefix hf_law_prefix hr (by decide) (a_cons (e_var 6) (a_cons (e_var 3) (a_cons (e_var 4) a_nil)))))) sc_law.nd)
    (ss_cons (s_asgL 7 (e_tuple X.m_tuple (a_cons (e_lc (own := [("k", 14)]) rfl sc_law.nd (i_rng1 X.m_range (e_var 1)) (blkOk_by (own := [("k", 14)]) (N := N_law) (sc := (defScope s_law)) (by decide +kernel)) (fun _ _ _ _ _ => (g_name 14 sc_law.nd)) (by decide) (fun _ _ _ _ _ => ts_nil) (fun _ _ _ _ _ => (e_call F_law_lowered hm_law_lowered kp_law_lowered b_law_lowered d_law_lowered hf_law_lowered hr (by decide) (a_cons (e_var 0) (a_cons (e_add e_int (e_mul e_int (e_var 14))) (a_cons (e_ix (e_var 3) (e_var 14)) a_nil)))))) a_nil)) sc_law.nd)
    (ss_cons (s_asgL 8 (e_call F_law_raised hm_law_raised kp_law_raised b_law_raised d_law_raised hf_law_raised hr (by decide) (a_cons (e_var 0) (a_cons e_int (a_cons (e_var 6) (a_cons (e_var 7) a_nil))))) sc_law.nd)
    (ss_cons (s_asgL 9 (e_call F_law_clipped hm_law_clipped kp_law_clipped b_law_clipped d_law_clipped hf_law_clipped hr (by decide) (a_cons (e_var 6) (a_cons (e_lc (own := [("k", 14)]) rfl sc_law.nd (i_rng1 X.m_range (e_var 1)) (blkOk_by (own := [("k", 14)]) (N := N_law) (sc := (defScope s_law)) (by decide +kernel)) (fun _ _ _ _ _ => (g_name 14 sc_law.nd)) (by decide) (fun _ _ _ _ _ => ts_nil) (fun _ _ _ _ _ => (e_call F_law_row hm_law_row kp_law_row b_law_row d_law_row hf_law_row hr (by decide) (a_cons (e_var 0) (a_cons (e_add e_int (e_mul e_int (e_var 14))) a_nil))))) a_nil))) sc_law.nd)
    (ss_cons (s_asg 10 (e_lst (a_cons (e_tup (a_cons (e_var 6) (a_cons (e_var 3) a_nil))) (a_cons (e_tup (a_cons (e_var 6) (a_cons (e_var 7) a_nil))) (a_cons (e_tup (a_cons (e_var 6) (a_cons (e_var 8) a_nil))) (a_cons (e_tup (a_cons (e_var 6) (a_cons (e_var 9) a_nil))) a_nil))))) sc_law.nd)
    (ss_cons (s_app 10 (e_tup (a_cons (e_add (e_var 6) (e_tup (a_cons e_int a_nil))) (a_cons (e_add (e_var 7) (e_tup (a_cons (e_tup a_nil) a_nil))) a_nil))))
    (ss_cons (s_if (t_gt (e_var 1) e_int) (ss_cons (s_asgL 11 (e_call F_law_other hm_law_other kp_law_other b_law_other d_law_other hf_law_other hr (by decide) (a_cons (e_var 0) (a_cons e_int (a_cons (e_var 6) a_nil)))) sc_law.nd)
    (ss_one (s_app 10 (e_tup (a_cons (e_var 11) (a_cons (e_call F_law_clipped hm_law_clipped kp_law_clipped b_law_clipped d_law_clipped hf_law_clipped hr (by decide) (a_cons (e_var 11) (a_cons (e_var 7) a_nil))) a_nil)))))) ss_nil)
    (ss_cons (s_frz 10 (s_lcL (own := [("plain", 15)]) 12 rfl sc_law.nd (i_seq (e_var 10)) (blkOk_by (own := [("plain", 15)]) (N := N_law) (sc := (defScope s_law)) (by decide +kernel)) (fun _ _ _ _ _ => (g_name 15 sc_law.nd)) (by decide) (fun _ _ _ _ _ => ts_nil) (fun _ _ _ _ _ => (e_make M_Board F_Board_init b_Board_init d_Board_init hf_Board_init X.mg_Board hr (by decide) (a_cons (e_list X.m_list (a_cons (e_ix (e_var 15) e_int) a_nil)) (a_cons (e_lc (own := [("row", 16)]) rfl sc_law.nd (i_seq (e_ix (e_var 15) e_int)) (blkOk_by (own := [("row", 16)]) (N := N_law) (by kernel_rfl)) (fun _ _ _ _ _ => (g_name 16 sc_law.nd)) (by decide) (fun _ _ _ _ _ => ts_nil) (fun _ _ _ _ _ => (e_list X.m_list (a_cons (e_var 16) a_nil)))) a_nil))))))
    (ss_cons (s_if (t_w (w_or (t_not (t_val (e_call F_law_pairs hm_law_pairs kp_law_pairs b_law_pairs d_law_pairs hf_law_pairs hr (by decide) (a_cons (e_var 12) (a_cons (e_var 10) a_nil))))) (w_or (t_not (t_val (e_call F_law_pairs hm_law_pairs kp_law_pairs b_law_pairs d_law_pairs hf_law_pairs hr (by decide) (a_cons (e_var 12) (a_cons (e_var 10) a_nil))))) (w_orL (t_not (t_val (e_call F_law_uses_keep hm_law_uses_keep kp_law_uses_keep b_law_uses_keep d_law_uses_keep hf_law_uses_keep hr (by decide) (a_cons (e_var 12) (a_cons (e_var 10) (a_cons (e_var 4) a_nil)))))))))) (ss_one (s_ret e_bl)) ss_nil)
    (ss_cons (s_lcL (own := [("plain", 15)]) 13 rfl sc_law.nd (i_seq (e_var 10)) (blkOk_by (own := [("plain", 15)]) (N := N_law) (sc := (defScope s_law)) (by decide +kernel)) (fun _ _ _ _ _ => (g_name 15 sc_law.nd)) (by decide) (fun _ _ _ _ _ => ts_nil) (fun _ _ _ _ _ => (e_tup (a_cons (e_ix (e_var 15) e_int) (a_cons (e_tuple X.m_tuple (a_cons (e_lc (own := [("row", 16)]) rfl sc_law.nd (i_seq (e_ix (e_var 15) e_int)) (blkOk_by (own := [("row", 16)]) (N := N_law) (by kernel_rfl)) (fun _ _ _ _ _ => (g_name 16 sc_law.nd)) (by decide) (fun _ _ _ _ _ => ts_nil) (fun _ _ _ _ _ => (e_call F_law_cut hm_law_cut kp_law_cut b_law_cut d_law_cut hf_law_cut hr (by decide) (a_cons (e_sl (e_var 16) (o_pt e_int) o_no) a_nil)))) a_nil)) a_nil)))))
    (ss_one (s_ret (e_and (e_call F_law_pairs hm_law_pairs kp_law_pairs b_law_pairs d_law_pairs hf_law_pairs hr (by decide) (a_cons (e_lc (own := [("board", 17)]) rfl sc_law.nd (i_seq (e_var 12)) (blkOk_by (own := [("board", 17)]) (N := N_law) (sc := (defScope s_law)) (by decide +kernel)) (fun _ _ _ _ _ => (g_name 17 sc_law.nd)) (by decide) (fun _ _ _ _ _ => ts_nil) (fun _ _ _ _ _ => (e_meth0 X.cf_Board.cl F_Board_later hm_Board_later hb_Board_later hr (by decide) (e_var 17)))) (a_cons (e_var 13) a_nil))) (e_one (e_call F_law_pairs hm_law_pairs kp_law_pairs b_law_pairs d_law_pairs hf_law_pairs hr (by decide) (a_cons (e_var 12) (a_cons (e_var 10) a_nil)))))))))))))))))))))))))⟩) hmath
end
end K17

/-! ## K17_e -/
namespace K17
open PySem PySem.Spec L2 VL
open PyProof.Rows hiding St
set_option maxHeartbeats 4000000 in
theorem all_mk {l : PySem.W.OpenLaw} {w : World} {K : PySem.W.Frag} {h : Heap} {mg : Str → Option Value} {fa : Addr} (X : K.In h) (G : h.Ns mainGlobals mg) (hfa : mg "law" = some (.ref fa))
    {C_Board f_lane_later f_lanes_later f_between f_all_between f_trimmed f_Board_init dT_Board_init f_Board_later f_law_draw f_law_uses f_law_cut f_law_rows f_law_raised f_law_clipped f_law_counts f_law_other f_never_above f_Board_covers f_Board_len f_law_is_int f_law_is_row f_law_are_rows f_law_is_board f_law_below f_law_covers f_law_pairs f_law_row f_law_capacity f_law_prefix f_law_lowered f_raised f_lanes_with f_first_excess f_uses_fit f_Board_fits f_Board_add f_law_fit f_law_uses_keep f_law f_Board_iter : Addr} {od_lane_later an_lane_later od_lanes_later an_lanes_later od_between an_between od_all_between an_all_between od_trimmed an_trimmed od_Board_init an_Board_init od_Board_later an_Board_later od_law_draw an_law_draw od_law_uses an_law_uses od_law_cut an_law_cut od_law_rows an_law_rows od_law_raised an_law_raised od_law_clipped an_law_clipped od_law_counts an_law_counts od_law_other an_law_other od_never_above an_never_above od_Board_covers an_Board_covers od_Board_len an_Board_len od_law_is_int an_law_is_int od_law_is_row an_law_is_row od_law_are_rows an_law_are_rows od_law_is_board an_law_is_board od_law_below an_law_below od_law_covers an_law_covers od_law_pairs an_law_pairs od_law_row an_law_row od_law_capacity an_law_capacity od_law_prefix an_law_prefix od_law_lowered an_law_lowered od_raised an_raised od_lanes_with an_lanes_with od_first_excess an_first_excess od_uses_fit an_uses_fit od_Board_fits an_Board_fits od_Board_add an_Board_add od_law_fit an_law_fit od_law_uses_keep an_law_uses_keep od_law an_law od_Board_iter an_Board_iter od_Board_init_ : Option Addr} {sl_lane_later sl_lanes_later sl_between sl_all_between sl_trimmed sl_Board_init sl_Board_later sl_law_draw sl_law_uses sl_law_cut sl_law_rows sl_law_raised sl_law_clipped sl_law_counts sl_law_other sl_never_above sl_Board_covers sl_Board_len sl_law_is_int sl_law_is_row sl_law_are_rows sl_law_is_board sl_law_below sl_law_covers sl_law_pairs sl_law_row sl_law_capacity sl_law_prefix sl_law_lowered sl_raised sl_lanes_with sl_first_excess sl_uses_fit sl_Board_fits sl_Board_add sl_law_fit sl_law_uses_keep sl_law sl_Board_iter sl_Board_init_ : Array (Option Value)} {oc_lane_later dc_lane_later pm_lane_later cd_lane_later ct_lane_later kV_lane_later oc_lanes_later dc_lanes_later pm_lanes_later cd_lanes_later ct_lanes_later kV_lanes_later oc_between dc_between pm_between cd_between ct_between kV_between oc_all_between dc_all_between pm_all_between cd_all_between ct_all_between kV_all_between oc_trimmed dc_trimmed pm_trimmed cd_trimmed ct_trimmed kV_trimmed oc_Board_init dc_Board_init pm_Board_init cd_Board_init ct_Board_init kV_Board_init dc_Board_init_ oc_Board_later dc_Board_later pm_Board_later cd_Board_later ct_Board_later kV_Board_later oc_law_draw dc_law_draw pm_law_draw cd_law_draw ct_law_draw kV_law_draw oc_law_uses dc_law_uses pm_law_uses cd_law_uses ct_law_uses kV_law_uses oc_law_cut dc_law_cut pm_law_cut cd_law_cut ct_law_cut kV_law_cut oc_law_rows dc_law_rows pm_law_rows cd_law_rows ct_law_rows kV_law_rows oc_law_raised dc_law_raised pm_law_raised cd_law_raised ct_law_raised kV_law_raised oc_law_clipped dc_law_clipped pm_law_clipped cd_law_clipped ct_law_clipped kV_law_clipped oc_law_counts dc_law_counts pm_law_counts cd_law_counts ct_law_counts kV_law_counts oc_law_other dc_law_other pm_law_other cd_law_other ct_law_other kV_law_other oc_never_above dc_never_above pm_never_above cd_never_above ct_never_above kV_never_above oc_Board_covers dc_Board_covers pm_Board_covers cd_Board_covers ct_Board_covers kV_Board_covers oc_Board_len dc_Board_len pm_Board_len cd_Board_len ct_Board_len kV_Board_len oc_law_is_int dc_law_is_int pm_law_is_int cd_law_is_int ct_law_is_int kV_law_is_int oc_law_is_row dc_law_is_row pm_law_is_row cd_law_is_row ct_law_is_row kV_law_is_row oc_law_are_rows dc_law_are_rows pm_law_are_rows cd_law_are_rows ct_law_are_rows kV_law_are_rows oc_law_is_board dc_law_is_board pm_law_is_board cd_law_is_board ct_law_is_board kV_law_is_board oc_law_below dc_law_below pm_law_below cd_law_below ct_law_below kV_law_below oc_law_covers dc_law_covers pm_law_covers cd_law_covers ct_law_covers kV_law_covers oc_law_pairs dc_law_pairs pm_law_pairs cd_law_pairs ct_law_pairs kV_law_pairs oc_law_row dc_law_row pm_law_row cd_law_row ct_law_row kV_law_row oc_law_capacity dc_law_capacity pm_law_capacity cd_law_capacity ct_law_capacity kV_law_capacity oc_law_prefix dc_law_prefix pm_law_prefix cd_law_prefix ct_law_prefix kV_law_prefix oc_law_lowered dc_law_lowered pm_law_lowered cd_law_lowered ct_law_lowered kV_law_lowered oc_raised dc_raised pm_raised cd_raised ct_raised kV_raised oc_lanes_with dc_lanes_with pm_lanes_with cd_lanes_with ct_lanes_with kV_lanes_with oc_first_excess dc_first_excess pm_first_excess cd_first_excess ct_first_excess kV_first_excess oc_uses_fit dc_uses_fit pm_uses_fit cd_uses_fit ct_uses_fit kV_uses_fit oc_Board_fits dc_Board_fits pm_Board_fits cd_Board_fits ct_Board_fits kV_Board_fits oc_Board_add dc_Board_add pm_Board_add cd_Board_add ct_Board_add kV_Board_add oc_law_fit dc_law_fit pm_law_fit cd_law_fit ct_law_fit kV_law_fit oc_law_uses_keep dc_law_uses_keep pm_law_uses_keep cd_law_uses_keep ct_law_uses_keep kV_law_uses_keep oc_law dc_law pm_law cd_law ct_law kV_law oc_Board_iter dc_Board_iter pm_Board_iter cd_Board_iter ct_Board_iter kV_Board_iter gv_MOST_CAPACITY : Value} {dn_Board_init : Nat}
    (aC_Board : PySem.W.nsIn K mainGlobals "Board" = some (some (.ref C_Board)))
    (pg_Board : PySem.W.plainGet K C_Board Str.empty = true)
    (hd_Board : PySem.W.hasDictIn K C_Board = true)
    (po_Board : PySem.W.plainOver K C_Board = true)
    (sa_Board : PySem.W.findIn K (.ref C_Board) "__setattr__" = some (some (.builtin "object.__setattr__")))
    (mk_Board : PySem.W.makesIn K C_Board = true)
    (kc_Board : PySem.W.keepIn K (.ref C_Board) = true)
    (ic_Board : PySem.W.isClsIn K C_Board = true)
    (ct_Board : PySem.W.typeIn K (.ref C_Board) = some (.type "type"))
    (ca_Board : PySem.W.findIn K (.ref C_Board) "__class__" = some (some (.builtin "object.__class__")))
    (cn_Board : PySem.W.specialIn K (.builtin "object.__class__") "__get__" = some (some (.builtin "getset_descriptor.__get__")))
    (ck_Board : PySem.W.takesIn K (.builtin "object.__class__") = some true)
    (cm_Board : PySem.W.mroIn K C_Board (.type "object") = some true)
    (gn_MOST_CAPACITY : PySem.W.nsIn K mainGlobals "MOST_CAPACITY" = some (some gv_MOST_CAPACITY))
    (r_MOST_CAPACITY : RelV (.int 32) gv_MOST_CAPACITY)
    (sf_Board : PySem.W.selfFirst K C_Board = true)
    (ra_Board : PySem.W.findIn K (.ref C_Board) "__radd__" = some none)
    (no_Board_capacities : PySem.W.findIn K (.ref C_Board) "capacities" = some none)
    (no_Board_lanes : PySem.W.findIn K (.ref C_Board) "lanes" = some none)
    (z_bool : PySem.W.nsIn K mainGlobals "bool" = some none)
    (z_int : PySem.W.nsIn K mainGlobals "int" = some none)
    (z_isinstance : PySem.W.nsIn K mainGlobals "isinstance" = some none)
    (z_iter : PySem.W.nsIn K mainGlobals "iter" = some none)
    (z_len : PySem.W.nsIn K mainGlobals "len" = some none)
    (z_list : PySem.W.nsIn K mainGlobals "list" = some none)
    (z_max : PySem.W.nsIn K mainGlobals "max" = some none)
    (z_min : PySem.W.nsIn K mainGlobals "min" = some none)
    (z_range : PySem.W.nsIn K mainGlobals "range" = some none)
    (z_tuple : PySem.W.nsIn K mainGlobals "tuple" = some none)
    (a_lane_later : PySem.W.nsIn K mainGlobals "lane_later" = some (some (.ref f_lane_later)))
    (l_lane_later : K.lookup f_lane_later = some ⟨oc_lane_later, od_lane_later, .func (PySem.W.fnOf "lane_later" "lane_later" (defArgs s_lane_later) (defBody s_lane_later) (defScope s_lane_later) .none kV_lane_later dc_lane_later pm_lane_later an_lane_later cd_lane_later ct_lane_later), sl_lane_later⟩)
    (c_lane_later : PySem.W.codeIn K cd_lane_later "lane_later" = true)
    (k_lane_later : PySem.W.keepIn K (.ref f_lane_later) = true)
    (a_lanes_later : PySem.W.nsIn K mainGlobals "lanes_later" = some (some (.ref f_lanes_later)))
    (l_lanes_later : K.lookup f_lanes_later = some ⟨oc_lanes_later, od_lanes_later, .func (PySem.W.fnOf "lanes_later" "lanes_later" (defArgs s_lanes_later) (defBody s_lanes_later) (defScope s_lanes_later) .none kV_lanes_later dc_lanes_later pm_lanes_later an_lanes_later cd_lanes_later ct_lanes_later), sl_lanes_later⟩)
    (c_lanes_later : PySem.W.codeIn K cd_lanes_later "lanes_later" = true)
    (k_lanes_later : PySem.W.keepIn K (.ref f_lanes_later) = true)
    (a_between : PySem.W.nsIn K mainGlobals "between" = some (some (.ref f_between)))
    (l_between : K.lookup f_between = some ⟨oc_between, od_between, .func (PySem.W.fnOf "between" "between" (defArgs s_between) (defBody s_between) (defScope s_between) .none kV_between dc_between pm_between an_between cd_between ct_between), sl_between⟩)
    (c_between : PySem.W.codeIn K cd_between "between" = true)
    (k_between : PySem.W.keepIn K (.ref f_between) = true)
    (a_all_between : PySem.W.nsIn K mainGlobals "all_between" = some (some (.ref f_all_between)))
    (l_all_between : K.lookup f_all_between = some ⟨oc_all_between, od_all_between, .func (PySem.W.fnOf "all_between" "all_between" (defArgs s_all_between) (defBody s_all_between) (defScope s_all_between) .none kV_all_between dc_all_between pm_all_between an_all_between cd_all_between ct_all_between), sl_all_between⟩)
    (c_all_between : PySem.W.codeIn K cd_all_between "all_between" = true)
    (k_all_between : PySem.W.keepIn K (.ref f_all_between) = true)
    (a_trimmed : PySem.W.nsIn K mainGlobals "trimmed" = some (some (.ref f_trimmed)))
    (l_trimmed : K.lookup f_trimmed = some ⟨oc_trimmed, od_trimmed, .func (PySem.W.fnOf "trimmed" "trimmed" (defArgs s_trimmed) (defBody s_trimmed) (defScope s_trimmed) .none kV_trimmed dc_trimmed pm_trimmed an_trimmed cd_trimmed ct_trimmed), sl_trimmed⟩)
    (c_trimmed : PySem.W.codeIn K cd_trimmed "trimmed" = true)
    (k_trimmed : PySem.W.keepIn K (.ref f_trimmed) = true)
    (a_Board_init : PySem.W.findIn K (.ref C_Board) "__init__" = some (some (.ref f_Board_init)))
    (i_Board_init : PySem.W.isFn K (.ref f_Board_init) = true)
    (l_Board_init : K.lookup f_Board_init = some ⟨oc_Board_init, od_Board_init, .func (PySem.W.fnOf "__init__" "Board.__init__" (defArgs s_Board_init) (defBody s_Board_init) (defScope s_Board_init) (.ref dT_Board_init) kV_Board_init dc_Board_init pm_Board_init an_Board_init cd_Board_init ct_Board_init), sl_Board_init⟩)
    (dt_Board_init : K.lookup dT_Board_init = some ⟨dc_Board_init_, od_Board_init_, .seq #[.none] dn_Board_init, sl_Board_init_⟩)
    (c_Board_init : PySem.W.codeIn K cd_Board_init "Board.__init__" = true)
    (k_Board_init : PySem.W.keepIn K (.ref f_Board_init) = true)
    (a_Board_later : PySem.W.findIn K (.ref C_Board) "later" = some (some (.ref f_Board_later)))
    (i_Board_later : PySem.W.isFn K (.ref f_Board_later) = true)
    (l_Board_later : K.lookup f_Board_later = some ⟨oc_Board_later, od_Board_later, .func (PySem.W.fnOf "later" "Board.later" (defArgs s_Board_later) (defBody s_Board_later) (defScope s_Board_later) .none kV_Board_later dc_Board_later pm_Board_later an_Board_later cd_Board_later ct_Board_later), sl_Board_later⟩)
    (c_Board_later : PySem.W.codeIn K cd_Board_later "Board.later" = true)
    (k_Board_later : PySem.W.keepIn K (.ref f_Board_later) = true)
    (a_law_draw : PySem.W.nsIn K mainGlobals "_law_draw" = some (some (.ref f_law_draw)))
    (l_law_draw : K.lookup f_law_draw = some ⟨oc_law_draw, od_law_draw, .func (PySem.W.fnOf "_law_draw" "_law_draw" (defArgs s_law_draw) (defBody s_law_draw) (defScope s_law_draw) .none kV_law_draw dc_law_draw pm_law_draw an_law_draw cd_law_draw ct_law_draw), sl_law_draw⟩)
    (c_law_draw : PySem.W.codeIn K cd_law_draw "_law_draw" = true)
    (k_law_draw : PySem.W.keepIn K (.ref f_law_draw) = true)
    (a_law_uses : PySem.W.nsIn K mainGlobals "_law_uses" = some (some (.ref f_law_uses)))
    (l_law_uses : K.lookup f_law_uses = some ⟨oc_law_uses, od_law_uses, .func (PySem.W.fnOf "_law_uses" "_law_uses" (defArgs s_law_uses) (defBody s_law_uses) (defScope s_law_uses) .none kV_law_uses dc_law_uses pm_law_uses an_law_uses cd_law_uses ct_law_uses), sl_law_uses⟩)
    (c_law_uses : PySem.W.codeIn K cd_law_uses "_law_uses" = true)
    (k_law_uses : PySem.W.keepIn K (.ref f_law_uses) = true)
    (a_law_cut : PySem.W.nsIn K mainGlobals "_law_cut" = some (some (.ref f_law_cut)))
    (l_law_cut : K.lookup f_law_cut = some ⟨oc_law_cut, od_law_cut, .func (PySem.W.fnOf "_law_cut" "_law_cut" (defArgs s_law_cut) (defBody s_law_cut) (defScope s_law_cut) .none kV_law_cut dc_law_cut pm_law_cut an_law_cut cd_law_cut ct_law_cut), sl_law_cut⟩)
    (c_law_cut : PySem.W.codeIn K cd_law_cut "_law_cut" = true)
    (k_law_cut : PySem.W.keepIn K (.ref f_law_cut) = true)
    (a_law_rows : PySem.W.nsIn K mainGlobals "_law_rows" = some (some (.ref f_law_rows)))
    (l_law_rows : K.lookup f_law_rows = some ⟨oc_law_rows, od_law_rows, .func (PySem.W.fnOf "_law_rows" "_law_rows" (defArgs s_law_rows) (defBody s_law_rows) (defScope s_law_rows) .none kV_law_rows dc_law_rows pm_law_rows an_law_rows cd_law_rows ct_law_rows), sl_law_rows⟩)
    (c_law_rows : PySem.W.codeIn K cd_law_rows "_law_rows" = true)
    (k_law_rows : PySem.W.keepIn K (.ref f_law_rows) = true)
    (a_law_raised : PySem.W.nsIn K mainGlobals "_law_raised" = some (some (.ref f_law_raised)))
    (l_law_raised : K.lookup f_law_raised = some ⟨oc_law_raised, od_law_raised, .func (PySem.W.fnOf "_law_raised" "_law_raised" (defArgs s_law_raised) (defBody s_law_raised) (defScope s_law_raised) .none kV_law_raised dc_law_raised pm_law_raised an_law_raised cd_law_raised ct_law_raised), sl_law_raised⟩)
    (c_law_raised : PySem.W.codeIn K cd_law_raised "_law_raised" = true)
    (k_law_raised : PySem.W.keepIn K (.ref f_law_raised) = true)
    (a_law_clipped : PySem.W.nsIn K mainGlobals "_law_clipped" = some (some (.ref f_law_clipped)))
    (l_law_clipped : K.lookup f_law_clipped = some ⟨oc_law_clipped, od_law_clipped, .func (PySem.W.fnOf "_law_clipped" "_law_clipped" (defArgs s_law_clipped) (defBody s_law_clipped) (defScope s_law_clipped) .none kV_law_clipped dc_law_clipped pm_law_clipped an_law_clipped cd_law_clipped ct_law_clipped), sl_law_clipped⟩)
    (c_law_clipped : PySem.W.codeIn K cd_law_clipped "_law_clipped" = true)
    (k_law_clipped : PySem.W.keepIn K (.ref f_law_clipped) = true)
    (a_law_counts : PySem.W.nsIn K mainGlobals "_law_counts" = some (some (.ref f_law_counts)))
    (l_law_counts : K.lookup f_law_counts = some ⟨oc_law_counts, od_law_counts, .func (PySem.W.fnOf "_law_counts" "_law_counts" (defArgs s_law_counts) (defBody s_law_counts) (defScope s_law_counts) .none kV_law_counts dc_law_counts pm_law_counts an_law_counts cd_law_counts ct_law_counts), sl_law_counts⟩)
    (c_law_counts : PySem.W.codeIn K cd_law_counts "_law_counts" = true)
    (k_law_counts : PySem.W.keepIn K (.ref f_law_counts) = true)
    (a_law_other : PySem.W.nsIn K mainGlobals "_law_other" = some (some (.ref f_law_other)))
    (l_law_other : K.lookup f_law_other = some ⟨oc_law_other, od_law_other, .func (PySem.W.fnOf "_law_other" "_law_other" (defArgs s_law_other) (defBody s_law_other) (defScope s_law_other) .none kV_law_other dc_law_other pm_law_other an_law_other cd_law_other ct_law_other), sl_law_other⟩)
    (c_law_other : PySem.W.codeIn K cd_law_other "_law_other" = true)
    (k_law_other : PySem.W.keepIn K (.ref f_law_other) = true)
    (a_never_above : PySem.W.nsIn K mainGlobals "never_above" = some (some (.ref f_never_above)))
    (l_never_above : K.lookup f_never_above = some ⟨oc_never_above, od_never_above, .func (PySem.W.fnOf "never_above" "never_above" (defArgs s_never_above) (defBody s_never_above) (defScope s_never_above) .none kV_never_above dc_never_above pm_never_above an_never_above cd_never_above ct_never_above), sl_never_above⟩)
    (c_never_above : PySem.W.codeIn K cd_never_above "never_above" = true)
    (k_never_above : PySem.W.keepIn K (.ref f_never_above) = true)
    (a_Board_covers : PySem.W.findIn K (.ref C_Board) "covers" = some (some (.ref f_Board_covers)))
    (i_Board_covers : PySem.W.isFn K (.ref f_Board_covers) = true)
    (l_Board_covers : K.lookup f_Board_covers = some ⟨oc_Board_covers, od_Board_covers, .func (PySem.W.fnOf "covers" "Board.covers" (defArgs s_Board_covers) (defBody s_Board_covers) (defScope s_Board_covers) .none kV_Board_covers dc_Board_covers pm_Board_covers an_Board_covers cd_Board_covers ct_Board_covers), sl_Board_covers⟩)
    (c_Board_covers : PySem.W.codeIn K cd_Board_covers "Board.covers" = true)
    (k_Board_covers : PySem.W.keepIn K (.ref f_Board_covers) = true)
    (a_Board_len : PySem.W.findIn K (.ref C_Board) "__len__" = some (some (.ref f_Board_len)))
    (i_Board_len : PySem.W.isFn K (.ref f_Board_len) = true)
    (l_Board_len : K.lookup f_Board_len = some ⟨oc_Board_len, od_Board_len, .func (PySem.W.fnOf "__len__" "Board.__len__" (defArgs s_Board_len) (defBody s_Board_len) (defScope s_Board_len) .none kV_Board_len dc_Board_len pm_Board_len an_Board_len cd_Board_len ct_Board_len), sl_Board_len⟩)
    (c_Board_len : PySem.W.codeIn K cd_Board_len "Board.__len__" = true)
    (k_Board_len : PySem.W.keepIn K (.ref f_Board_len) = true)
    (a_law_is_int : PySem.W.nsIn K mainGlobals "_law_is_int" = some (some (.ref f_law_is_int)))
    (l_law_is_int : K.lookup f_law_is_int = some ⟨oc_law_is_int, od_law_is_int, .func (PySem.W.fnOf "_law_is_int" "_law_is_int" (defArgs s_law_is_int) (defBody s_law_is_int) (defScope s_law_is_int) .none kV_law_is_int dc_law_is_int pm_law_is_int an_law_is_int cd_law_is_int ct_law_is_int), sl_law_is_int⟩)
    (c_law_is_int : PySem.W.codeIn K cd_law_is_int "_law_is_int" = true)
    (k_law_is_int : PySem.W.keepIn K (.ref f_law_is_int) = true)
    (a_law_is_row : PySem.W.nsIn K mainGlobals "_law_is_row" = some (some (.ref f_law_is_row)))
    (l_law_is_row : K.lookup f_law_is_row = some ⟨oc_law_is_row, od_law_is_row, .func (PySem.W.fnOf "_law_is_row" "_law_is_row" (defArgs s_law_is_row) (defBody s_law_is_row) (defScope s_law_is_row) .none kV_law_is_row dc_law_is_row pm_law_is_row an_law_is_row cd_law_is_row ct_law_is_row), sl_law_is_row⟩)
    (c_law_is_row : PySem.W.codeIn K cd_law_is_row "_law_is_row" = true)
    (k_law_is_row : PySem.W.keepIn K (.ref f_law_is_row) = true)
    (a_law_are_rows : PySem.W.nsIn K mainGlobals "_law_are_rows" = some (some (.ref f_law_are_rows)))
    (l_law_are_rows : K.lookup f_law_are_rows = some ⟨oc_law_are_rows, od_law_are_rows, .func (PySem.W.fnOf "_law_are_rows" "_law_are_rows" (defArgs s_law_are_rows) (defBody s_law_are_rows) (defScope s_law_are_rows) .none kV_law_are_rows dc_law_are_rows pm_law_are_rows an_law_are_rows cd_law_are_rows ct_law_are_rows), sl_law_are_rows⟩)
    (c_law_are_rows : PySem.W.codeIn K cd_law_are_rows "_law_are_rows" = true)
    (k_law_are_rows : PySem.W.keepIn K (.ref f_law_are_rows) = true)
    (a_law_is_board : PySem.W.nsIn K mainGlobals "_law_is_board" = some (some (.ref f_law_is_board)))
    (l_law_is_board : K.lookup f_law_is_board = some ⟨oc_law_is_board, od_law_is_board, .func (PySem.W.fnOf "_law_is_board" "_law_is_board" (defArgs s_law_is_board) (defBody s_law_is_board) (defScope s_law_is_board) .none kV_law_is_board dc_law_is_board pm_law_is_board an_law_is_board cd_law_is_board ct_law_is_board), sl_law_is_board⟩)
    (c_law_is_board : PySem.W.codeIn K cd_law_is_board "_law_is_board" = true)
    (k_law_is_board : PySem.W.keepIn K (.ref f_law_is_board) = true)
    (a_law_below : PySem.W.nsIn K mainGlobals "_law_below" = some (some (.ref f_law_below)))
    (l_law_below : K.lookup f_law_below = some ⟨oc_law_below, od_law_below, .func (PySem.W.fnOf "_law_below" "_law_below" (defArgs s_law_below) (defBody s_law_below) (defScope s_law_below) .none kV_law_below dc_law_below pm_law_below an_law_below cd_law_below ct_law_below), sl_law_below⟩)
    (c_law_below : PySem.W.codeIn K cd_law_below "_law_below" = true)
    (k_law_below : PySem.W.keepIn K (.ref f_law_below) = true)
    (a_law_covers : PySem.W.nsIn K mainGlobals "_law_covers" = some (some (.ref f_law_covers)))
    (l_law_covers : K.lookup f_law_covers = some ⟨oc_law_covers, od_law_covers, .func (PySem.W.fnOf "_law_covers" "_law_covers" (defArgs s_law_covers) (defBody s_law_covers) (defScope s_law_covers) .none kV_law_covers dc_law_covers pm_law_covers an_law_covers cd_law_covers ct_law_covers), sl_law_covers⟩)
    (c_law_covers : PySem.W.codeIn K cd_law_covers "_law_covers" = true)
    (k_law_covers : PySem.W.keepIn K (.ref f_law_covers) = true)
    (a_law_pairs : PySem.W.nsIn K mainGlobals "_law_pairs" = some (some (.ref f_law_pairs)))
    (l_law_pairs : K.lookup f_law_pairs = some ⟨oc_law_pairs, od_law_pairs, .func (PySem.W.fnOf "_law_pairs" "_law_pairs" (defArgs s_law_pairs) (defBody s_law_pairs) (defScope s_law_pairs) .none kV_law_pairs dc_law_pairs pm_law_pairs an_law_pairs cd_law_pairs ct_law_pairs), sl_law_pairs⟩)
    (c_law_pairs : PySem.W.codeIn K cd_law_pairs "_law_pairs" = true)
    (k_law_pairs : PySem.W.keepIn K (.ref f_law_pairs) = true)
    (a_law_row : PySem.W.nsIn K mainGlobals "_law_row" = some (some (.ref f_law_row)))
    (l_law_row : K.lookup f_law_row = some ⟨oc_law_row, od_law_row, .func (PySem.W.fnOf "_law_row" "_law_row" (defArgs s_law_row) (defBody s_law_row) (defScope s_law_row) .none kV_law_row dc_law_row pm_law_row an_law_row cd_law_row ct_law_row), sl_law_row⟩)
    (c_law_row : PySem.W.codeIn K cd_law_row "_law_row" = true)
    (k_law_row : PySem.W.keepIn K (.ref f_law_row) = true)
    (a_law_capacity : PySem.W.nsIn K mainGlobals "_law_capacity" = some (some (.ref f_law_capacity)))
    (l_law_capacity : K.lookup f_law_capacity = some ⟨oc_law_capacity, od_law_capacity, .func (PySem.W.fnOf "_law_capacity" "_law_capacity" (defArgs s_law_capacity) (defBody s_law_capacity) (defScope s_law_capacity) .none kV_law_capacity dc_law_capacity pm_law_capacity an_law_capacity cd_law_capacity ct_law_capacity), sl_law_capacity⟩)
    (c_law_capacity : PySem.W.codeIn K cd_law_capacity "_law_capacity" = true)
    (k_law_capacity : PySem.W.keepIn K (.ref f_law_capacity) = true)
    (a_law_prefix : PySem.W.nsIn K mainGlobals "_law_prefix" = some (some (.ref f_law_prefix)))
    (l_law_prefix : K.lookup f_law_prefix = some ⟨oc_law_prefix, od_law_prefix, .func (PySem.W.fnOf "_law_prefix" "_law_prefix" (defArgs s_law_prefix) (defBody s_law_prefix) (defScope s_law_prefix) .none kV_law_prefix dc_law_prefix pm_law_prefix an_law_prefix cd_law_prefix ct_law_prefix), sl_law_prefix⟩)
    (c_law_prefix : PySem.W.codeIn K cd_law_prefix "_law_prefix" = true)
    (k_law_prefix : PySem.W.keepIn K (.ref f_law_prefix) = true)
    (a_law_lowered : PySem.W.nsIn K mainGlobals "_law_lowered" = some (some (.ref f_law_lowered)))
    (l_law_lowered : K.lookup f_law_lowered = some ⟨oc_law_lowered, od_law_lowered, .func (PySem.W.fnOf "_law_lowered" "_law_lowered" (defArgs s_law_lowered) (defBody s_law_lowered) (defScope s_law_lowered) .none kV_law_lowered dc_law_lowered pm_law_lowered an_law_lowered cd_law_lowered ct_law_lowered), sl_law_lowered⟩)
    (c_law_lowered : PySem.W.codeIn K cd_law_lowered "_law_lowered" = true)
    (k_law_lowered : PySem.W.keepIn K (.ref f_law_lowered) = true)
    (a_raised : PySem.W.nsIn K mainGlobals "raised" = some (some (.ref f_raised)))
    (l_raised : K.lookup f_raised = some ⟨oc_raised, od_raised, .func (PySem.W.fnOf "raised" "raised" (defArgs s_raised) (defBody s_raised) (defScope s_raised) .none kV_raised dc_raised pm_raised an_raised cd_raised ct_raised), sl_raised⟩)
    (c_raised : PySem.W.codeIn K cd_raised "raised" = true)
    (k_raised : PySem.W.keepIn K (.ref f_raised) = true)
    (a_lanes_with : PySem.W.nsIn K mainGlobals "lanes_with" = some (some (.ref f_lanes_with)))
    (l_lanes_with : K.lookup f_lanes_with = some ⟨oc_lanes_with, od_lanes_with, .func (PySem.W.fnOf "lanes_with" "lanes_with" (defArgs s_lanes_with) (defBody s_lanes_with) (defScope s_lanes_with) .none kV_lanes_with dc_lanes_with pm_lanes_with an_lanes_with cd_lanes_with ct_lanes_with), sl_lanes_with⟩)
    (c_lanes_with : PySem.W.codeIn K cd_lanes_with "lanes_with" = true)
    (k_lanes_with : PySem.W.keepIn K (.ref f_lanes_with) = true)
    (a_first_excess : PySem.W.nsIn K mainGlobals "first_excess" = some (some (.ref f_first_excess)))
    (l_first_excess : K.lookup f_first_excess = some ⟨oc_first_excess, od_first_excess, .func (PySem.W.fnOf "first_excess" "first_excess" (defArgs s_first_excess) (defBody s_first_excess) (defScope s_first_excess) .none kV_first_excess dc_first_excess pm_first_excess an_first_excess cd_first_excess ct_first_excess), sl_first_excess⟩)
    (c_first_excess : PySem.W.codeIn K cd_first_excess "first_excess" = true)
    (k_first_excess : PySem.W.keepIn K (.ref f_first_excess) = true)
    (a_uses_fit : PySem.W.nsIn K mainGlobals "uses_fit" = some (some (.ref f_uses_fit)))
    (l_uses_fit : K.lookup f_uses_fit = some ⟨oc_uses_fit, od_uses_fit, .func (PySem.W.fnOf "uses_fit" "uses_fit" (defArgs s_uses_fit) (defBody s_uses_fit) (defScope s_uses_fit) .none kV_uses_fit dc_uses_fit pm_uses_fit an_uses_fit cd_uses_fit ct_uses_fit), sl_uses_fit⟩)
    (c_uses_fit : PySem.W.codeIn K cd_uses_fit "uses_fit" = true)
    (k_uses_fit : PySem.W.keepIn K (.ref f_uses_fit) = true)
    (a_Board_fits : PySem.W.findIn K (.ref C_Board) "fits" = some (some (.ref f_Board_fits)))
    (i_Board_fits : PySem.W.isFn K (.ref f_Board_fits) = true)
    (l_Board_fits : K.lookup f_Board_fits = some ⟨oc_Board_fits, od_Board_fits, .func (PySem.W.fnOf "fits" "Board.fits" (defArgs s_Board_fits) (defBody s_Board_fits) (defScope s_Board_fits) .none kV_Board_fits dc_Board_fits pm_Board_fits an_Board_fits cd_Board_fits ct_Board_fits), sl_Board_fits⟩)
    (c_Board_fits : PySem.W.codeIn K cd_Board_fits "Board.fits" = true)
    (k_Board_fits : PySem.W.keepIn K (.ref f_Board_fits) = true)
    (a_Board_add : PySem.W.findIn K (.ref C_Board) "__add__" = some (some (.ref f_Board_add)))
    (i_Board_add : PySem.W.isFn K (.ref f_Board_add) = true)
    (l_Board_add : K.lookup f_Board_add = some ⟨oc_Board_add, od_Board_add, .func (PySem.W.fnOf "__add__" "Board.__add__" (defArgs s_Board_add) (defBody s_Board_add) (defScope s_Board_add) .none kV_Board_add dc_Board_add pm_Board_add an_Board_add cd_Board_add ct_Board_add), sl_Board_add⟩)
    (c_Board_add : PySem.W.codeIn K cd_Board_add "Board.__add__" = true)
    (k_Board_add : PySem.W.keepIn K (.ref f_Board_add) = true)
    (a_law_fit : PySem.W.nsIn K mainGlobals "_law_fit" = some (some (.ref f_law_fit)))
    (l_law_fit : K.lookup f_law_fit = some ⟨oc_law_fit, od_law_fit, .func (PySem.W.fnOf "_law_fit" "_law_fit" (defArgs s_law_fit) (defBody s_law_fit) (defScope s_law_fit) .none kV_law_fit dc_law_fit pm_law_fit an_law_fit cd_law_fit ct_law_fit), sl_law_fit⟩)
    (c_law_fit : PySem.W.codeIn K cd_law_fit "_law_fit" = true)
    (k_law_fit : PySem.W.keepIn K (.ref f_law_fit) = true)
    (a_law_uses_keep : PySem.W.nsIn K mainGlobals "_law_uses_keep" = some (some (.ref f_law_uses_keep)))
    (l_law_uses_keep : K.lookup f_law_uses_keep = some ⟨oc_law_uses_keep, od_law_uses_keep, .func (PySem.W.fnOf "_law_uses_keep" "_law_uses_keep" (defArgs s_law_uses_keep) (defBody s_law_uses_keep) (defScope s_law_uses_keep) .none kV_law_uses_keep dc_law_uses_keep pm_law_uses_keep an_law_uses_keep cd_law_uses_keep ct_law_uses_keep), sl_law_uses_keep⟩)
    (c_law_uses_keep : PySem.W.codeIn K cd_law_uses_keep "_law_uses_keep" = true)
    (k_law_uses_keep : PySem.W.keepIn K (.ref f_law_uses_keep) = true)
    (a_law : PySem.W.nsIn K mainGlobals "law" = some (some (.ref f_law)))
    (l_law : K.lookup f_law = some ⟨oc_law, od_law, .func (PySem.W.fnOf "law" "law" (defArgs s_law) (defBody s_law) (defScope s_law) .none kV_law dc_law pm_law an_law cd_law ct_law), sl_law⟩)
    (c_law : PySem.W.codeIn K cd_law "law" = true)
    (k_law : PySem.W.keepIn K (.ref f_law) = true)
    (a_Board_iter : PySem.W.findIn K (.ref C_Board) "__iter__" = some (some (.ref f_Board_iter)))
    (i_Board_iter : PySem.W.isFn K (.ref f_Board_iter) = true)
    (l_Board_iter : K.lookup f_Board_iter = some ⟨oc_Board_iter, od_Board_iter, .func (PySem.W.fnOf "__iter__" "Board.__iter__" (defArgs s_Board_iter) (defBody s_Board_iter) (defScope s_Board_iter) .none kV_Board_iter dc_Board_iter pm_Board_iter an_Board_iter cd_Board_iter ct_Board_iter), sl_Board_iter⟩)
    (c_Board_iter : PySem.W.codeIn K cd_Board_iter "Board.__iter__" = true)
    (k_Board_iter : PySem.W.keepIn K (.ref f_Board_iter) = true) :
    ∃ fd : FuncData, (∀ (s : Shared) (v : Value), BindsTo s fd ⟨[v], []⟩ [("script", v)]) ∧ ∀ base : Heap, K.In base → base.Ns mainGlobals mg → FnOk l.prog w K mg base (L2.CX l.prog w) 8 fa fd ["script"] (@spV ⟨K⟩ 1 (@LawP)) := by
  have e : f_law = fa := by have e := hfa.symm.trans (PySem.W.mg_of X G a_law); cases e; rfl
  subst e
  letI : KLs := ⟨K⟩
  have T : Txt mg C_Board := ⟨PySem.W.mg_none_of X G z_bool, PySem.W.mg_none_of X G z_int, PySem.W.mg_none_of X G z_isinstance, PySem.W.mg_none_of X G z_iter, PySem.W.mg_none_of X G z_len, PySem.W.mg_none_of X G z_list, PySem.W.mg_none_of X G z_max, PySem.W.mg_none_of X G z_min, PySem.W.mg_none_of X G z_range, PySem.W.mg_none_of X G z_tuple, PySem.W.mg_of X G aC_Board, ⟨⟨pg_Board, hd_Board, po_Board, sa_Board⟩, no_Board_capacities⟩, ⟨⟨pg_Board, hd_Board, po_Board, sa_Board⟩, no_Board_lanes⟩, ⟨⟨pg_Board, hd_Board, po_Board, sa_Board⟩, ic_Board, ct_Board, ca_Board, cn_Board, ck_Board, cm_Board⟩, ⟨_, PySem.W.mg_of X G gn_MOST_CAPACITY, r_MOST_CAPACITY⟩, ⟨sf_Board, ra_Board⟩⟩
  have D_lane_later : FunD K "lane_later" "lane_later" (defArgs s_lane_later) (defBody s_lane_later) (defScope s_lane_later) [] [] f_lane_later _ := ⟨⟨_, _, _, _, _, _, _, _, _, _, rfl, l_lane_later, c_lane_later, .inl ⟨rfl, rfl⟩, .inl rfl⟩, k_lane_later⟩
  have D_lanes_later : FunD K "lanes_later" "lanes_later" (defArgs s_lanes_later) (defBody s_lanes_later) (defScope s_lanes_later) [] [] f_lanes_later _ := ⟨⟨_, _, _, _, _, _, _, _, _, _, rfl, l_lanes_later, c_lanes_later, .inl ⟨rfl, rfl⟩, .inl rfl⟩, k_lanes_later⟩
  have D_between : FunD K "between" "between" (defArgs s_between) (defBody s_between) (defScope s_between) [] [] f_between _ := ⟨⟨_, _, _, _, _, _, _, _, _, _, rfl, l_between, c_between, .inl ⟨rfl, rfl⟩, .inl rfl⟩, k_between⟩
  have D_all_between : FunD K "all_between" "all_between" (defArgs s_all_between) (defBody s_all_between) (defScope s_all_between) [] [] f_all_between _ := ⟨⟨_, _, _, _, _, _, _, _, _, _, rfl, l_all_between, c_all_between, .inl ⟨rfl, rfl⟩, .inl rfl⟩, k_all_between⟩
  have D_trimmed : FunD K "trimmed" "trimmed" (defArgs s_trimmed) (defBody s_trimmed) (defScope s_trimmed) [] [] f_trimmed _ := ⟨⟨_, _, _, _, _, _, _, _, _, _, rfl, l_trimmed, c_trimmed, .inl ⟨rfl, rfl⟩, .inl rfl⟩, k_trimmed⟩
  have D_Board_init : FunD K "__init__" "Board.__init__" (defArgs s_Board_init) (defBody s_Board_init) (defScope s_Board_init) [.non] [] f_Board_init _ := ⟨⟨_, _, _, _, _, _, _, _, _, _, rfl, l_Board_init, c_Board_init, .inr ⟨by simp, _, _, [.none], _, rfl, dt_Board_init, rfl, .cons rfl (.nil)⟩, .inl rfl⟩, k_Board_init⟩
  have D_Board_later : FunD K "later" "Board.later" (defArgs s_Board_later) (defBody s_Board_later) (defScope s_Board_later) [] [] f_Board_later _ := ⟨⟨_, _, _, _, _, _, _, _, _, _, rfl, l_Board_later, c_Board_later, .inl ⟨rfl, rfl⟩, .inl rfl⟩, k_Board_later⟩
  have D_law_draw : FunD K "_law_draw" "_law_draw" (defArgs s_law_draw) (defBody s_law_draw) (defScope s_law_draw) [] [] f_law_draw _ := ⟨⟨_, _, _, _, _, _, _, _, _, _, rfl, l_law_draw, c_law_draw, .inl ⟨rfl, rfl⟩, .inl rfl⟩, k_law_draw⟩
  have D_law_uses : FunD K "_law_uses" "_law_uses" (defArgs s_law_uses) (defBody s_law_uses) (defScope s_law_uses) [] [] f_law_uses _ := ⟨⟨_, _, _, _, _, _, _, _, _, _, rfl, l_law_uses, c_law_uses, .inl ⟨rfl, rfl⟩, .inl rfl⟩, k_law_uses⟩
  have D_law_cut : FunD K "_law_cut" "_law_cut" (defArgs s_law_cut) (defBody s_law_cut) (defScope s_law_cut) [] [] f_law_cut _ := ⟨⟨_, _, _, _, _, _, _, _, _, _, rfl, l_law_cut, c_law_cut, .inl ⟨rfl, rfl⟩, .inl rfl⟩, k_law_cut⟩
  have D_law_rows : FunD K "_law_rows" "_law_rows" (defArgs s_law_rows) (defBody s_law_rows) (defScope s_law_rows) [] [] f_law_rows _ := ⟨⟨_, _, _, _, _, _, _, _, _, _, rfl, l_law_rows, c_law_rows, .inl ⟨rfl, rfl⟩, .inl rfl⟩, k_law_rows⟩
  have D_law_raised : FunD K "_law_raised" "_law_raised" (defArgs s_law_raised) (defBody s_law_raised) (defScope s_law_raised) [] [] f_law_raised _ := ⟨⟨_, _, _, _, _, _, _, _, _, _, rfl, l_law_raised, c_law_raised, .inl ⟨rfl, rfl⟩, .inl rfl⟩, k_law_raised⟩
  have D_law_clipped : FunD K "_law_clipped" "_law_clipped" (defArgs s_law_clipped) (defBody s_law_clipped) (defScope s_law_clipped) [] [] f_law_clipped _ := ⟨⟨_, _, _, _, _, _, _, _, _, _, rfl, l_law_clipped, c_law_clipped, .inl ⟨rfl, rfl⟩, .inl rfl⟩, k_law_clipped⟩
  have D_law_counts : FunD K "_law_counts" "_law_counts" (defArgs s_law_counts) (defBody s_law_counts) (defScope s_law_counts) [] [] f_law_counts _ := ⟨⟨_, _, _, _, _, _, _, _, _, _, rfl, l_law_counts, c_law_counts, .inl ⟨rfl, rfl⟩, .inl rfl⟩, k_law_counts⟩
  have D_law_other : FunD K "_law_other" "_law_other" (defArgs s_law_other) (defBody s_law_other) (defScope s_law_other) [] [] f_law_other _ := ⟨⟨_, _, _, _, _, _, _, _, _, _, rfl, l_law_other, c_law_other, .inl ⟨rfl, rfl⟩, .inl rfl⟩, k_law_other⟩
  have D_never_above : FunD K "never_above" "never_above" (defArgs s_never_above) (defBody s_never_above) (defScope s_never_above) [] [] f_never_above _ := ⟨⟨_, _, _, _, _, _, _, _, _, _, rfl, l_never_above, c_never_above, .inl ⟨rfl, rfl⟩, .inl rfl⟩, k_never_above⟩
  have D_Board_covers : FunD K "covers" "Board.covers" (defArgs s_Board_covers) (defBody s_Board_covers) (defScope s_Board_covers) [] [] f_Board_covers _ := ⟨⟨_, _, _, _, _, _, _, _, _, _, rfl, l_Board_covers, c_Board_covers, .inl ⟨rfl, rfl⟩, .inl rfl⟩, k_Board_covers⟩
  have D_Board_len : FunD K "__len__" "Board.__len__" (defArgs s_Board_len) (defBody s_Board_len) (defScope s_Board_len) [] [] f_Board_len _ := ⟨⟨_, _, _, _, _, _, _, _, _, _, rfl, l_Board_len, c_Board_len, .inl ⟨rfl, rfl⟩, .inl rfl⟩, k_Board_len⟩
  have D_law_is_int : FunD K "_law_is_int" "_law_is_int" (defArgs s_law_is_int) (defBody s_law_is_int) (defScope s_law_is_int) [] [] f_law_is_int _ := ⟨⟨_, _, _, _, _, _, _, _, _, _, rfl, l_law_is_int, c_law_is_int, .inl ⟨rfl, rfl⟩, .inl rfl⟩, k_law_is_int⟩
  have D_law_is_row : FunD K "_law_is_row" "_law_is_row" (defArgs s_law_is_row) (defBody s_law_is_row) (defScope s_law_is_row) [] [] f_law_is_row _ := ⟨⟨_, _, _, _, _, _, _, _, _, _, rfl, l_law_is_row, c_law_is_row, .inl ⟨rfl, rfl⟩, .inl rfl⟩, k_law_is_row⟩
  have D_law_are_rows : FunD K "_law_are_rows" "_law_are_rows" (defArgs s_law_are_rows) (defBody s_law_are_rows) (defScope s_law_are_rows) [] [] f_law_are_rows _ := ⟨⟨_, _, _, _, _, _, _, _, _, _, rfl, l_law_are_rows, c_law_are_rows, .inl ⟨rfl, rfl⟩, .inl rfl⟩, k_law_are_rows⟩
  have D_law_is_board : FunD K "_law_is_board" "_law_is_board" (defArgs s_law_is_board) (defBody s_law_is_board) (defScope s_law_is_board) [] [] f_law_is_board _ := ⟨⟨_, _, _, _, _, _, _, _, _, _, rfl, l_law_is_board, c_law_is_board, .inl ⟨rfl, rfl⟩, .inl rfl⟩, k_law_is_board⟩
  have D_law_below : FunD K "_law_below" "_law_below" (defArgs s_law_below) (defBody s_law_below) (defScope s_law_below) [] [] f_law_below _ := ⟨⟨_, _, _, _, _, _, _, _, _, _, rfl, l_law_below, c_law_below, .inl ⟨rfl, rfl⟩, .inl rfl⟩, k_law_below⟩
  have D_law_covers : FunD K "_law_covers" "_law_covers" (defArgs s_law_covers) (defBody s_law_covers) (defScope s_law_covers) [] [] f_law_covers _ := ⟨⟨_, _, _, _, _, _, _, _, _, _, rfl, l_law_covers, c_law_covers, .inl ⟨rfl, rfl⟩, .inl rfl⟩, k_law_covers⟩
  have D_law_pairs : FunD K "_law_pairs" "_law_pairs" (defArgs s_law_pairs) (defBody s_law_pairs) (defScope s_law_pairs) [] [] f_law_pairs _ := ⟨⟨_, _, _, _, _, _, _, _, _, _, rfl, l_law_pairs, c_law_pairs, .inl ⟨rfl, rfl⟩, .inl rfl⟩, k_law_pairs⟩
  have D_law_row : FunD K "_law_row" "_law_row" (defArgs s_law_row) (defBody s_law_row) (defScope s_law_row) [] [] f_law_row _ := ⟨⟨_, _, _, _, _, _, _, _, _, _, rfl, l_law_row, c_law_row, .inl ⟨rfl, rfl⟩, .inl rfl⟩, k_law_row⟩
  have D_law_capacity : FunD K "_law_capacity" "_law_capacity" (defArgs s_law_capacity) (defBody s_law_capacity) (defScope s_law_capacity) [] [] f_law_capacity _ := ⟨⟨_, _, _, _, _, _, _, _, _, _, rfl, l_law_capacity, c_law_capacity, .inl ⟨rfl, rfl⟩, .inl rfl⟩, k_law_capacity⟩
  have D_law_prefix : FunD K "_law_prefix" "_law_prefix" (defArgs s_law_prefix) (defBody s_law_prefix) (defScope s_law_prefix) [] [] f_law_prefix _ := ⟨⟨_, _, _, _, _, _, _, _, _, _, rfl, l_law_prefix, c_law_prefix, .inl ⟨rfl, rfl⟩, .inl rfl⟩, k_law_prefix⟩
  have D_law_lowered : FunD K "_law_lowered" "_law_lowered" (defArgs s_law_lowered) (defBody s_law_lowered) (defScope s_law_lowered) [] [] f_law_lowered _ := ⟨⟨_, _, _, _, _, _, _, _, _, _, rfl, l_law_lowered, c_law_lowered, .inl ⟨rfl, rfl⟩, .inl rfl⟩, k_law_lowered⟩
  have D_raised : FunD K "raised" "raised" (defArgs s_raised) (defBody s_raised) (defScope s_raised) [] [] f_raised _ := ⟨⟨_, _, _, _, _, _, _, _, _, _, rfl, l_raised, c_raised, .inl ⟨rfl, rfl⟩, .inl rfl⟩, k_raised⟩
  have D_lanes_with : FunD K "lanes_with" "lanes_with" (defArgs s_lanes_with) (defBody s_lanes_with) (defScope s_lanes_with) [] [] f_lanes_with _ := ⟨⟨_, _, _, _, _, _, _, _, _, _, rfl, l_lanes_with, c_lanes_with, .inl ⟨rfl, rfl⟩, .inl rfl⟩, k_lanes_with⟩
  have D_first_excess : FunD K "first_excess" "first_excess" (defArgs s_first_excess) (defBody s_first_excess) (defScope s_first_excess) [] [] f_first_excess _ := ⟨⟨_, _, _, _, _, _, _, _, _, _, rfl, l_first_excess, c_first_excess, .inl ⟨rfl, rfl⟩, .inl rfl⟩, k_first_excess⟩
  have D_uses_fit : FunD K "uses_fit" "uses_fit" (defArgs s_uses_fit) (defBody s_uses_fit) (defScope s_uses_fit) [] [] f_uses_fit _ := ⟨⟨_, _, _, _, _, _, _, _, _, _, rfl, l_uses_fit, c_uses_fit, .inl ⟨rfl, rfl⟩, .inl rfl⟩, k_uses_fit⟩
  have D_Board_fits : FunD K "fits" "Board.fits" (defArgs s_Board_fits) (defBody s_Board_fits) (defScope s_Board_fits) [] [] f_Board_fits _ := ⟨⟨_, _, _, _, _, _, _, _, _, _, rfl, l_Board_fits, c_Board_fits, .inl ⟨rfl, rfl⟩, .inl rfl⟩, k_Board_fits⟩
  have D_Board_add : FunD K "__add__" "Board.__add__" (defArgs s_Board_add) (defBody s_Board_add) (defScope s_Board_add) [] [] f_Board_add _ := ⟨⟨_, _, _, _, _, _, _, _, _, _, rfl, l_Board_add, c_Board_add, .inl ⟨rfl, rfl⟩, .inl rfl⟩, k_Board_add⟩
  have D_law_fit : FunD K "_law_fit" "_law_fit" (defArgs s_law_fit) (defBody s_law_fit) (defScope s_law_fit) [] [] f_law_fit _ := ⟨⟨_, _, _, _, _, _, _, _, _, _, rfl, l_law_fit, c_law_fit, .inl ⟨rfl, rfl⟩, .inl rfl⟩, k_law_fit⟩
  have D_law_uses_keep : FunD K "_law_uses_keep" "_law_uses_keep" (defArgs s_law_uses_keep) (defBody s_law_uses_keep) (defScope s_law_uses_keep) [] [] f_law_uses_keep _ := ⟨⟨_, _, _, _, _, _, _, _, _, _, rfl, l_law_uses_keep, c_law_uses_keep, .inl ⟨rfl, rfl⟩, .inl rfl⟩, k_law_uses_keep⟩
  have D_law : FunD K "law" "law" (defArgs s_law) (defBody s_law) (defScope s_law) [] [] f_law _ := ⟨⟨_, _, _, _, _, _, _, _, _, _, rfl, l_law, c_law, .inl ⟨rfl, rfl⟩, .inl rfl⟩, k_law⟩
  have D_Board_iter : FunD K "__iter__" "Board.__iter__" (defArgs s_Board_iter) (defBody s_Board_iter) (defScope s_Board_iter) [] [] f_Board_iter _ := ⟨⟨_, _, _, _, _, _, _, _, _, _, rfl, l_Board_iter, c_Board_iter, .inl ⟨rfl, rfl⟩, .inl rfl⟩, k_Board_iter⟩
  refine ⟨_, fun s v => D_law.bindsA (ps := ["script"]) (fun _ _ _ _ _ _ us hl => match us, hl with | [_], _ => rfl) s [v] rfl, fun base _ _ => ?_⟩
  have Hi_Board : Itr l.prog w K mg base 1 C_Board "lanes" := ⟨⟨_, _, okI_Board (P := l.prog) (w := w) (base := base) T D_Board_iter, ⟨a_Board_iter, i_Board_iter⟩, D_Board_iter.bindsN (ps := ["self"]) (fun _ _ _ _ _ _ us hl => match us, hl with | [_], _ => rfl)⟩⟩
  have Hl_Board : Lnr l.prog w K mg base 1 C_Board "lanes" := ⟨⟨_, _, okL_Board (P := l.prog) (w := w) (base := base) T D_Board_len, ⟨a_Board_len, i_Board_len⟩, D_Board_len.bindsN (ps := ["self"]) (fun _ _ _ _ _ _ us hl => match us, hl with | [_], _ => rfl)⟩⟩
  have F_lane_later := ok_lane_later (P := l.prog) (w := w) (base := base) T (m_lane_later C_Board) D_lane_later
  have H_lane_later : Fnc l.prog w K mg base 1 "lane_later" 1 _ [] := ⟨⟨_, _, _, _, [], F_lane_later, PySem.W.mg_of X G a_lane_later, k_lane_later, D_lane_later.bindsN (fun _ _ _ _ _ _ us hl => match us, hl with | [_], _ => rfl), .nil, True.intro⟩⟩
  have F_lanes_later := ok_lanes_later (P := l.prog) (w := w) (base := base) T H_lane_later (m_lanes_later C_Board) D_lanes_later
  have H_lanes_later : Fnc l.prog w K mg base 2 "lanes_later" 1 _ [] := ⟨⟨_, _, _, _, [], F_lanes_later, PySem.W.mg_of X G a_lanes_later, k_lanes_later, D_lanes_later.bindsN (fun _ _ _ _ _ _ us hl => match us, hl with | [_], _ => rfl), .nil, True.intro⟩⟩
  have F_between := ok_between (P := l.prog) (w := w) (base := base) T (m_between C_Board) D_between
  have H_between : Fnc l.prog w K mg base 1 "between" 3 _ [] := ⟨⟨_, _, _, _, [], F_between, PySem.W.mg_of X G a_between, k_between, D_between.bindsN (fun _ _ _ _ _ _ us hl => match us, hl with | [_, _, _], _ => rfl), .nil, True.intro⟩⟩
  have F_all_between := ok_all_between (P := l.prog) (w := w) (base := base) T H_between (m_all_between C_Board) D_all_between
  have H_all_between : Fnc l.prog w K mg base 2 "all_between" 3 _ [] := ⟨⟨_, _, _, _, [], F_all_between, PySem.W.mg_of X G a_all_between, k_all_between, D_all_between.bindsN (fun _ _ _ _ _ _ us hl => match us, hl with | [_, _, _], _ => rfl), .nil, True.intro⟩⟩
  have F_trimmed := ok_trimmed (P := l.prog) (w := w) (base := base) T (m_trimmed C_Board) D_trimmed
  have H_trimmed : Fnc l.prog w K mg base 1 "trimmed" 1 _ [] := ⟨⟨_, _, _, _, [], F_trimmed, PySem.W.mg_of X G a_trimmed, k_trimmed, D_trimmed.bindsN (fun _ _ _ _ _ _ us hl => match us, hl with | [_], _ => rfl), .nil, True.intro⟩⟩
  have F_Board_init := ok_Board_init (P := l.prog) (w := w) (base := base) T H_all_between H_trimmed (m_Board_init C_Board) D_Board_init
  have F_Board_later := ok_Board_later (P := l.prog) (w := w) (base := base) T H_lanes_later ⟨mk_Board, a_Board_init, i_Board_init, kc_Board⟩ F_Board_init D_Board_init (m_Board_later C_Board) D_Board_later
  have H_Board_later : Met l.prog w K mg base 5 C_Board "later" 1 _ := ⟨⟨_, _, _, F_Board_later, a_Board_later, i_Board_later, D_Board_later.bindsN (fun _ _ _ _ _ _ us hl => match us, hl with | [_], _ => rfl)⟩⟩
  have Hm_Board_later : Mth l.prog w K mg base 5 C_Board "later" 1 _ := ⟨⟨_, _, _, F_Board_later, ⟨a_Board_later, i_Board_later, k_Board_later⟩, D_Board_later.bindsN (fun _ _ _ _ _ _ us hl => match us, hl with | [_], _ => rfl)⟩⟩
  have F_law_draw := ok_law_draw (P := l.prog) (w := w) (base := base) T (m_law_draw C_Board) D_law_draw
  have H_law_draw : Fnc l.prog w K mg base 1 "_law_draw" 3 _ [] := ⟨⟨_, _, _, _, [], F_law_draw, PySem.W.mg_of X G a_law_draw, k_law_draw, D_law_draw.bindsN (fun _ _ _ _ _ _ us hl => match us, hl with | [_, _, _], _ => rfl), .nil, True.intro⟩⟩
  have F_law_uses := ok_law_uses (P := l.prog) (w := w) (base := base) T H_law_draw (m_law_uses C_Board) D_law_uses
  have H_law_uses : Fnc l.prog w K mg base 2 "_law_uses" 4 _ [] := ⟨⟨_, _, _, _, [], F_law_uses, PySem.W.mg_of X G a_law_uses, k_law_uses, D_law_uses.bindsN (fun _ _ _ _ _ _ us hl => match us, hl with | [_, _, _, _], _ => rfl), .nil, True.intro⟩⟩
  have F_law_cut := ok_law_cut (P := l.prog) (w := w) (base := base) T (m_law_cut C_Board) D_law_cut
  have H_law_cut : Fnc l.prog w K mg base 1 "_law_cut" 1 _ [] := ⟨⟨_, _, _, _, [], F_law_cut, PySem.W.mg_of X G a_law_cut, k_law_cut, D_law_cut.bindsN (fun _ _ _ _ _ _ us hl => match us, hl with | [_], _ => rfl), .nil, True.intro⟩⟩
  have F_law_rows := ok_law_rows (P := l.prog) (w := w) (base := base) T H_law_cut (m_law_rows C_Board) D_law_rows
  have H_law_rows : Fnc l.prog w K mg base 2 "_law_rows" 2 _ [] := ⟨⟨_, _, _, _, [], F_law_rows, PySem.W.mg_of X G a_law_rows, k_law_rows, D_law_rows.bindsN (fun _ _ _ _ _ _ us hl => match us, hl with | [_, _], _ => rfl), .nil, True.intro⟩⟩
  have F_law_raised := ok_law_raised (P := l.prog) (w := w) (base := base) T H_law_draw H_law_cut (m_law_raised C_Board) D_law_raised
  have H_law_raised : Fnc l.prog w K mg base 2 "_law_raised" 4 _ [] := ⟨⟨_, _, _, _, [], F_law_raised, PySem.W.mg_of X G a_law_raised, k_law_raised, D_law_raised.bindsN (fun _ _ _ _ _ _ us hl => match us, hl with | [_, _, _, _], _ => rfl), .nil, True.intro⟩⟩
  have F_law_clipped := ok_law_clipped (P := l.prog) (w := w) (base := base) T H_law_cut (m_law_clipped C_Board) D_law_clipped
  have H_law_clipped : Fnc l.prog w K mg base 2 "_law_clipped" 2 _ [] := ⟨⟨_, _, _, _, [], F_law_clipped, PySem.W.mg_of X G a_law_clipped, k_law_clipped, D_law_clipped.bindsN (fun _ _ _ _ _ _ us hl => match us, hl with | [_, _], _ => rfl), .nil, True.intro⟩⟩
  have F_law_counts := ok_law_counts (P := l.prog) (w := w) (base := base) T (m_law_counts C_Board) D_law_counts
  have H_law_counts : Fnc l.prog w K mg base 1 "_law_counts" 3 _ [] := ⟨⟨_, _, _, _, [], F_law_counts, PySem.W.mg_of X G a_law_counts, k_law_counts, D_law_counts.bindsN (fun _ _ _ _ _ _ us hl => match us, hl with | [_, _, _], _ => rfl), .nil, True.intro⟩⟩
  have F_law_other := ok_law_other (P := l.prog) (w := w) (base := base) T H_law_draw (m_law_other C_Board) D_law_other
  have H_law_other : Fnc l.prog w K mg base 2 "_law_other" 3 _ [] := ⟨⟨_, _, _, _, [], F_law_other, PySem.W.mg_of X G a_law_other, k_law_other, D_law_other.bindsN (fun _ _ _ _ _ _ us hl => match us, hl with | [_, _, _], _ => rfl), .nil, True.intro⟩⟩
  have F_never_above := ok_never_above (P := l.prog) (w := w) (base := base) T (m_never_above C_Board) D_never_above
  have H_never_above : Fnc l.prog w K mg base 1 "never_above" 2 _ [] := ⟨⟨_, _, _, _, [], F_never_above, PySem.W.mg_of X G a_never_above, k_never_above, D_never_above.bindsN (fun _ _ _ _ _ _ us hl => match us, hl with | [_, _], _ => rfl), .nil, True.intro⟩⟩
  have F_Board_covers := ok_Board_covers (P := l.prog) (w := w) (base := base) T H_never_above (m_Board_covers C_Board) D_Board_covers
  have H_Board_covers : Met l.prog w K mg base 2 C_Board "covers" 2 _ := ⟨⟨_, _, _, F_Board_covers, a_Board_covers, i_Board_covers, D_Board_covers.bindsN (fun _ _ _ _ _ _ us hl => match us, hl with | [_, _], _ => rfl)⟩⟩
  have Hm_Board_covers : Mth l.prog w K mg base 2 C_Board "covers" 2 _ := ⟨⟨_, _, _, F_Board_covers, ⟨a_Board_covers, i_Board_covers, k_Board_covers⟩, D_Board_covers.bindsN (fun _ _ _ _ _ _ us hl => match us, hl with | [_, _], _ => rfl)⟩⟩
  have F_Board_len := ok_Board_len (P := l.prog) (w := w) (base := base) T (m_Board_len C_Board) D_Board_len
  have H_Board_len : Met l.prog w K mg base 1 C_Board "__len__" 1 _ := ⟨⟨_, _, _, F_Board_len, a_Board_len, i_Board_len, D_Board_len.bindsN (fun _ _ _ _ _ _ us hl => match us, hl with | [_], _ => rfl)⟩⟩
  have Hm_Board_len : Mth l.prog w K mg base 1 C_Board "__len__" 1 _ := ⟨⟨_, _, _, F_Board_len, ⟨a_Board_len, i_Board_len, k_Board_len⟩, D_Board_len.bindsN (fun _ _ _ _ _ _ us hl => match us, hl with | [_], _ => rfl)⟩⟩
  have F_law_is_int := ok_law_is_int (P := l.prog) (w := w) (base := base) T (m_law_is_int C_Board) D_law_is_int
  have H_law_is_int : Fnc l.prog w K mg base 1 "_law_is_int" 1 _ [] := ⟨⟨_, _, _, _, [], F_law_is_int, PySem.W.mg_of X G a_law_is_int, k_law_is_int, D_law_is_int.bindsN (fun _ _ _ _ _ _ us hl => match us, hl with | [_], _ => rfl), .nil, True.intro⟩⟩
  have F_law_is_row := ok_law_is_row (P := l.prog) (w := w) (base := base) T H_law_is_int (m_law_is_row C_Board) D_law_is_row
  have H_law_is_row : Fnc l.prog w K mg base 2 "_law_is_row" 2 _ [] := ⟨⟨_, _, _, _, [], F_law_is_row, PySem.W.mg_of X G a_law_is_row, k_law_is_row, D_law_is_row.bindsN (fun _ _ _ _ _ _ us hl => match us, hl with | [_, _], _ => rfl), .nil, True.intro⟩⟩
  have F_law_are_rows := ok_law_are_rows (P := l.prog) (w := w) (base := base) T H_law_is_row (m_law_are_rows C_Board) D_law_are_rows
  have H_law_are_rows : Fnc l.prog w K mg base 3 "_law_are_rows" 2 _ [] := ⟨⟨_, _, _, _, [], F_law_are_rows, PySem.W.mg_of X G a_law_are_rows, k_law_are_rows, D_law_are_rows.bindsN (fun _ _ _ _ _ _ us hl => match us, hl with | [_, _], _ => rfl), .nil, True.intro⟩⟩
  have F_law_is_board := ok_law_is_board (P := l.prog) (w := w) (base := base) T H_law_are_rows H_law_is_row H_Board_len Hi_Board Hl_Board (m_law_is_board C_Board) D_law_is_board
  have H_law_is_board : Fnc l.prog w K mg base 5 "_law_is_board" 3 _ [] := ⟨⟨_, _, _, _, [], F_law_is_board, PySem.W.mg_of X G a_law_is_board, k_law_is_board, D_law_is_board.bindsN (fun _ _ _ _ _ _ us hl => match us, hl with | [_, _, _], _ => rfl), .nil, True.intro⟩⟩
  have F_law_below := ok_law_below (P := l.prog) (w := w) (base := base) T (m_law_below C_Board) D_law_below
  have H_law_below : Fnc l.prog w K mg base 1 "_law_below" 2 _ [] := ⟨⟨_, _, _, _, [], F_law_below, PySem.W.mg_of X G a_law_below, k_law_below, D_law_below.bindsN (fun _ _ _ _ _ _ us hl => match us, hl with | [_, _], _ => rfl), .nil, True.intro⟩⟩
  have F_law_covers := ok_law_covers (P := l.prog) (w := w) (base := base) T H_law_below (m_law_covers C_Board) D_law_covers
  have H_law_covers : Fnc l.prog w K mg base 2 "_law_covers" 2 _ [] := ⟨⟨_, _, _, _, [], F_law_covers, PySem.W.mg_of X G a_law_covers, k_law_covers, D_law_covers.bindsN (fun _ _ _ _ _ _ us hl => match us, hl with | [_, _], _ => rfl), .nil, True.intro⟩⟩
  have F_law_pairs := ok_law_pairs (P := l.prog) (w := w) (base := base) T H_law_is_board H_law_covers Hm_Board_covers (m_law_pairs C_Board) D_law_pairs
  have H_law_pairs : Fnc l.prog w K mg base 6 "_law_pairs" 2 _ [] := ⟨⟨_, _, _, _, [], F_law_pairs, PySem.W.mg_of X G a_law_pairs, k_law_pairs, D_law_pairs.bindsN (fun _ _ _ _ _ _ us hl => match us, hl with | [_, _], _ => rfl), .nil, True.intro⟩⟩
  have F_law_row := ok_law_row (P := l.prog) (w := w) (base := base) T H_law_draw H_law_cut (m_law_row C_Board) D_law_row
  have H_law_row : Fnc l.prog w K mg base 2 "_law_row" 2 _ [] := ⟨⟨_, _, _, _, [], F_law_row, PySem.W.mg_of X G a_law_row, k_law_row, D_law_row.bindsN (fun _ _ _ _ _ _ us hl => match us, hl with | [_, _], _ => rfl), .nil, True.intro⟩⟩
  have F_law_capacity := ok_law_capacity (P := l.prog) (w := w) (base := base) T H_law_draw (m_law_capacity C_Board) D_law_capacity
  have H_law_capacity : Fnc l.prog w K mg base 2 "_law_capacity" 4 _ [] := ⟨⟨_, _, _, _, [], F_law_capacity, PySem.W.mg_of X G a_law_capacity, k_law_capacity, D_law_capacity.bindsN (fun _ _ _ _ _ _ us hl => match us, hl with | [_, _, _, _], _ => rfl), .nil, True.intro⟩⟩
  have F_law_prefix := ok_law_prefix (P := l.prog) (w := w) (base := base) T H_law_counts (m_law_prefix C_Board) D_law_prefix
  have H_law_prefix : Fnc l.prog w K mg base 2 "_law_prefix" 3 _ [] := ⟨⟨_, _, _, _, [], F_law_prefix, PySem.W.mg_of X G a_law_prefix, k_law_prefix, D_law_prefix.bindsN (fun _ _ _ _ _ _ us hl => match us, hl with | [_, _, _], _ => rfl), .nil, True.intro⟩⟩
  have F_law_lowered := ok_law_lowered (P := l.prog) (w := w) (base := base) T H_law_cut H_law_draw (m_law_lowered C_Board) D_law_lowered
  have H_law_lowered : Fnc l.prog w K mg base 2 "_law_lowered" 3 _ [] := ⟨⟨_, _, _, _, [], F_law_lowered, PySem.W.mg_of X G a_law_lowered, k_law_lowered, D_law_lowered.bindsN (fun _ _ _ _ _ _ us hl => match us, hl with | [_, _, _], _ => rfl), .nil, True.intro⟩⟩
  have F_raised := ok_raised (P := l.prog) (w := w) (base := base) T (m_raised C_Board) D_raised
  have H_raised : Fnc l.prog w K mg base 1 "raised" 3 _ [] := ⟨⟨_, _, _, _, [], F_raised, PySem.W.mg_of X G a_raised, k_raised, D_raised.bindsN (fun _ _ _ _ _ _ us hl => match us, hl with | [_, _, _], _ => rfl), .nil, True.intro⟩⟩
  have F_lanes_with := ok_lanes_with (P := l.prog) (w := w) (base := base) T H_raised (m_lanes_with C_Board) D_lanes_with
  have H_lanes_with : Fnc l.prog w K mg base 2 "lanes_with" 2 _ [] := ⟨⟨_, _, _, _, [], F_lanes_with, PySem.W.mg_of X G a_lanes_with, k_lanes_with, D_lanes_with.bindsN (fun _ _ _ _ _ _ us hl => match us, hl with | [_, _], _ => rfl), .nil, True.intro⟩⟩
  have F_first_excess := ok_first_excess (P := l.prog) (w := w) (base := base) T H_lanes_with (m_first_excess C_Board) D_first_excess
  have H_first_excess : Fnc l.prog w K mg base 3 "first_excess" 3 _ [] := ⟨⟨_, _, _, _, [], F_first_excess, PySem.W.mg_of X G a_first_excess, k_first_excess, D_first_excess.bindsN (fun _ _ _ _ _ _ us hl => match us, hl with | [_, _, _], _ => rfl), .nil, True.intro⟩⟩
  have F_uses_fit := ok_uses_fit (P := l.prog) (w := w) (base := base) T H_first_excess (m_uses_fit C_Board) D_uses_fit
  have H_uses_fit : Fnc l.prog w K mg base 4 "uses_fit" 3 _ [] := ⟨⟨_, _, _, _, [], F_uses_fit, PySem.W.mg_of X G a_uses_fit, k_uses_fit, D_uses_fit.bindsN (fun _ _ _ _ _ _ us hl => match us, hl with | [_, _, _], _ => rfl), .nil, True.intro⟩⟩
  have F_Board_fits := ok_Board_fits (P := l.prog) (w := w) (base := base) T H_uses_fit (m_Board_fits C_Board) D_Board_fits
  have H_Board_fits : Met l.prog w K mg base 5 C_Board "fits" 2 _ := ⟨⟨_, _, _, F_Board_fits, a_Board_fits, i_Board_fits, D_Board_fits.bindsN (fun _ _ _ _ _ _ us hl => match us, hl with | [_, _], _ => rfl)⟩⟩
  have Hm_Board_fits : Mth l.prog w K mg base 5 C_Board "fits" 2 _ := ⟨⟨_, _, _, F_Board_fits, ⟨a_Board_fits, i_Board_fits, k_Board_fits⟩, D_Board_fits.bindsN (fun _ _ _ _ _ _ us hl => match us, hl with | [_, _], _ => rfl)⟩⟩
  have F_Board_add := ok_Board_add (P := l.prog) (w := w) (base := base) T H_first_excess H_lanes_with ⟨mk_Board, a_Board_init, i_Board_init, kc_Board⟩ F_Board_init D_Board_init (m_Board_add C_Board) D_Board_add
  have H_Board_add : Met l.prog w K mg base 5 C_Board "__add__" 2 _ := ⟨⟨_, _, _, F_Board_add, a_Board_add, i_Board_add, D_Board_add.bindsN (fun _ _ _ _ _ _ us hl => match us, hl with | [_, _], _ => rfl)⟩⟩
  have Hm_Board_add : Mth l.prog w K mg base 5 C_Board "__add__" 2 _ := ⟨⟨_, _, _, F_Board_add, ⟨a_Board_add, i_Board_add, k_Board_add⟩, D_Board_add.bindsN (fun _ _ _ _ _ _ us hl => match us, hl with | [_, _], _ => rfl)⟩⟩
  have F_law_fit := ok_law_fit (P := l.prog) (w := w) (base := base) T H_law_counts (m_law_fit C_Board) D_law_fit
  have H_law_fit : Fnc l.prog w K mg base 2 "_law_fit" 3 _ [] := ⟨⟨_, _, _, _, [], F_law_fit, PySem.W.mg_of X G a_law_fit, k_law_fit, D_law_fit.bindsN (fun _ _ _ _ _ _ us hl => match us, hl with | [_, _, _], _ => rfl), .nil, True.intro⟩⟩
  have F_law_uses_keep := ok_law_uses_keep (P := l.prog) (w := w) (base := base) T H_law_rows H_law_counts H_law_covers H_law_fit H_law_is_board H_Board_add Hm_Board_fits Hm_Board_covers (m_law_uses_keep C_Board) D_law_uses_keep
  have H_law_uses_keep : Fnc l.prog w K mg base 7 "_law_uses_keep" 3 _ [] := ⟨⟨_, _, _, _, [], F_law_uses_keep, PySem.W.mg_of X G a_law_uses_keep, k_law_uses_keep, D_law_uses_keep.bindsN (fun _ _ _ _ _ _ us hl => match us, hl with | [_, _, _], _ => rfl), .nil, True.intro⟩⟩
  have F_law := ok_law (P := l.prog) (w := w) (base := base) T H_law_draw H_law_uses H_law_rows H_law_raised H_law_clipped H_law_counts H_law_other H_law_pairs H_law_row H_law_capacity H_law_prefix H_law_lowered H_law_uses_keep H_law_cut Hm_Board_later ⟨mk_Board, a_Board_init, i_Board_init, kc_Board⟩ F_Board_init D_Board_init (m_law C_Board) D_law
  exact F_law
end K17
open PySem PySem.W PyProof.Rows in
set_option maxRecDepth 100000 in
set_option maxHeartbeats 0 in
theorem PySem.Challenge.cw_eveningkept_k17_board_covers_holds : PySem.Challenge.rw_eveningkept_k17_board_covers.Holds := by
  w_on; o_law; k_head; (case hw => w_witness2)
  k_fill
  refine VL.law_walk (l := PySem.Challenge.rw_eveningkept_k17_board_covers) (k := 8) rfl rfl ⟨rfl, by decide, by decide⟩ (fun w h Y => PySem.W.kIn_of Y) ?F
  case F =>
    intro w mg fa h KX G hmg
    refine' K17.all_mk KX G hmg ?aC_Board ?pg_Board ?hd_Board ?po_Board ?sa_Board ?mk_Board ?kc_Board ?ic_Board ?ct_Board ?ca_Board ?cn_Board ?ck_Board ?cm_Board ?gn_MOST_CAPACITY ?r_MOST_CAPACITY ?sf_Board ?ra_Board ?no_Board_capacities ?no_Board_lanes ?z_bool ?z_int ?z_isinstance ?z_iter ?z_len ?z_list ?z_max ?z_min ?z_range ?z_tuple ?a_lane_later ?l_lane_later ?c_lane_later ?k_lane_later ?a_lanes_later ?l_lanes_later ?c_lanes_later ?k_lanes_later ?a_between ?l_between ?c_between ?k_between ?a_all_between ?l_all_between ?c_all_between ?k_all_between ?a_trimmed ?l_trimmed ?c_trimmed ?k_trimmed ?a_Board_init ?i_Board_init ?l_Board_init ?dt_Board_init ?c_Board_init ?k_Board_init ?a_Board_later ?i_Board_later ?l_Board_later ?c_Board_later ?k_Board_later ?a_law_draw ?l_law_draw ?c_law_draw ?k_law_draw ?a_law_uses ?l_law_uses ?c_law_uses ?k_law_uses ?a_law_cut ?l_law_cut ?c_law_cut ?k_law_cut ?a_law_rows ?l_law_rows ?c_law_rows ?k_law_rows ?a_law_raised ?l_law_raised ?c_law_raised ?k_law_raised ?a_law_clipped ?l_law_clipped ?c_law_clipped ?k_law_clipped ?a_law_counts ?l_law_counts ?c_law_counts ?k_law_counts ?a_law_other ?l_law_other ?c_law_other ?k_law_other ?a_never_above ?l_never_above ?c_never_above ?k_never_above ?a_Board_covers ?i_Board_covers ?l_Board_covers ?c_Board_covers ?k_Board_covers ?a_Board_len ?i_Board_len ?l_Board_len ?c_Board_len ?k_Board_len ?a_law_is_int ?l_law_is_int ?c_law_is_int ?k_law_is_int ?a_law_is_row ?l_law_is_row ?c_law_is_row ?k_law_is_row ?a_law_are_rows ?l_law_are_rows ?c_law_are_rows ?k_law_are_rows ?a_law_is_board ?l_law_is_board ?c_law_is_board ?k_law_is_board ?a_law_below ?l_law_below ?c_law_below ?k_law_below ?a_law_covers ?l_law_covers ?c_law_covers ?k_law_covers ?a_law_pairs ?l_law_pairs ?c_law_pairs ?k_law_pairs ?a_law_row ?l_law_row ?c_law_row ?k_law_row ?a_law_capacity ?l_law_capacity ?c_law_capacity ?k_law_capacity ?a_law_prefix ?l_law_prefix ?c_law_prefix ?k_law_prefix ?a_law_lowered ?l_law_lowered ?c_law_lowered ?k_law_lowered ?a_raised ?l_raised ?c_raised ?k_raised ?a_lanes_with ?l_lanes_with ?c_lanes_with ?k_lanes_with ?a_first_excess ?l_first_excess ?c_first_excess ?k_first_excess ?a_uses_fit ?l_uses_fit ?c_uses_fit ?k_uses_fit ?a_Board_fits ?i_Board_fits ?l_Board_fits ?c_Board_fits ?k_Board_fits ?a_Board_add ?i_Board_add ?l_Board_add ?c_Board_add ?k_Board_add ?a_law_fit ?l_law_fit ?c_law_fit ?k_law_fit ?a_law_uses_keep ?l_law_uses_keep ?c_law_uses_keep ?k_law_uses_keep ?a_law ?l_law ?c_law ?k_law ?a_Board_iter ?i_Board_iter ?l_Board_iter ?c_Board_iter ?k_Board_iter
    (case aC_Board => k_is)
    (case pg_Board => k_is)
    (case hd_Board => k_is)
    (case po_Board => k_is)
    (case sa_Board => k_is)
    (case mk_Board => k_is)
    (case kc_Board => k_is)
    (case ic_Board => k_is)
    (case ct_Board => k_is)
    (case ca_Board => k_is)
    (case cn_Board => k_is)
    (case ck_Board => k_is)
    (case cm_Board => k_is)
    (case gn_MOST_CAPACITY => k_is)
    (case r_MOST_CAPACITY => first | exact ⟨_, rfl⟩ | exact rfl)
    (case sf_Board => k_is)
    (case ra_Board => k_is)
    (case no_Board_capacities => k_is)
    (case no_Board_lanes => k_is)
    (case z_bool => k_is)
    (case z_int => k_is)
    (case z_isinstance => k_is)
    (case z_iter => k_is)
    (case z_len => k_is)
    (case z_list => k_is)
    (case z_max => k_is)
    (case z_min => k_is)
    (case z_range => k_is)
    (case z_tuple => k_is)
    (case a_lane_later => k_is)
    (case l_lane_later => k_is)
    (case c_lane_later => k_is)
    (case k_lane_later => k_is)
    (case a_lanes_later => k_is)
    (case l_lanes_later => k_is)
    (case c_lanes_later => k_is)
    (case k_lanes_later => k_is)
    (case a_between => k_is)
    (case l_between => k_is)
    (case c_between => k_is)
    (case k_between => k_is)
    (case a_all_between => k_is)
    (case l_all_between => k_is)
    (case c_all_between => k_is)
    (case k_all_between => k_is)
    (case a_trimmed => k_is)
    (case l_trimmed => k_is)
    (case c_trimmed => k_is)
    (case k_trimmed => k_is)
    (case a_Board_init => k_is)
    (case i_Board_init => k_is)
    (case l_Board_init => k_is)
    (case dt_Board_init => k_is)
    (case c_Board_init => k_is)
    (case k_Board_init => k_is)
    (case a_Board_later => k_is)
    (case i_Board_later => k_is)
    (case l_Board_later => k_is)
    (case c_Board_later => k_is)
    (case k_Board_later => k_is)
    (case a_law_draw => k_is)
    (case l_law_draw => k_is)
    (case c_law_draw => k_is)
    (case k_law_draw => k_is)
    (case a_law_uses => k_is)
    (case l_law_uses => k_is)
    (case c_law_uses => k_is)
    (case k_law_uses => k_is)
    (case a_law_cut => k_is)
    (case l_law_cut => k_is)
    (case c_law_cut => k_is)
    (case k_law_cut => k_is)
    (case a_law_rows => k_is)
    (case l_law_rows => k_is)
    (case c_law_rows => k_is)
    (case k_law_rows => k_is)
    (case a_law_raised => k_is)
    (case l_law_raised => k_is)
    (case c_law_raised => k_is)
    (case k_law_raised => k_is)
    (case a_law_clipped => k_is)
    (case l_law_clipped => k_is)
    (case c_law_clipped => k_is)
    (case k_law_clipped => k_is)
    (case a_law_counts => k_is)
    (case l_law_counts => k_is)
    (case c_law_counts => k_is)
    (case k_law_counts => k_is)
    (case a_law_other => k_is)
    (case l_law_other => k_is)
    (case c_law_other => k_is)
    (case k_law_other => k_is)
    (case a_never_above => k_is)
    (case l_never_above => k_is)
    (case c_never_above => k_is)
    (case k_never_above => k_is)
    (case a_Board_covers => k_is)
    (case i_Board_covers => k_is)
    (case l_Board_covers => k_is)
    (case c_Board_covers => k_is)
    (case k_Board_covers => k_is)
    (case a_Board_len => k_is)
    (case i_Board_len => k_is)
    (case l_Board_len => k_is)
    (case c_Board_len => k_is)
    (case k_Board_len => k_is)
    (case a_law_is_int => k_is)
    (case l_law_is_int => k_is)
    (case c_law_is_int => k_is)
    (case k_law_is_int => k_is)
    (case a_law_is_row => k_is)
    (case l_law_is_row => k_is)
    (case c_law_is_row => k_is)
    (case k_law_is_row => k_is)
    (case a_law_are_rows => k_is)
    (case l_law_are_rows => k_is)
    (case c_law_are_rows => k_is)
    (case k_law_are_rows => k_is)
    (case a_law_is_board => k_is)
    (case l_law_is_board => k_is)
    (case c_law_is_board => k_is)
    (case k_law_is_board => k_is)
    (case a_law_below => k_is)
    (case l_law_below => k_is)
    (case c_law_below => k_is)
    (case k_law_below => k_is)
    (case a_law_covers => k_is)
    (case l_law_covers => k_is)
    (case c_law_covers => k_is)
    (case k_law_covers => k_is)
    (case a_law_pairs => k_is)
    (case l_law_pairs => k_is)
    (case c_law_pairs => k_is)
    (case k_law_pairs => k_is)
    (case a_law_row => k_is)
    (case l_law_row => k_is)
    (case c_law_row => k_is)
    (case k_law_row => k_is)
    (case a_law_capacity => k_is)
    (case l_law_capacity => k_is)
    (case c_law_capacity => k_is)
    (case k_law_capacity => k_is)
    (case a_law_prefix => k_is)
    (case l_law_prefix => k_is)
    (case c_law_prefix => k_is)
    (case k_law_prefix => k_is)
    (case a_law_lowered => k_is)
    (case l_law_lowered => k_is)
    (case c_law_lowered => k_is)
    (case k_law_lowered => k_is)
    (case a_raised => k_is)
    (case l_raised => k_is)
    (case c_raised => k_is)
    (case k_raised => k_is)
    (case a_lanes_with => k_is)
    (case l_lanes_with => k_is)
    (case c_lanes_with => k_is)
    (case k_lanes_with => k_is)
    (case a_first_excess => k_is)
    (case l_first_excess => k_is)
    (case c_first_excess => k_is)
    (case k_first_excess => k_is)
    (case a_uses_fit => k_is)
    (case l_uses_fit => k_is)
    (case c_uses_fit => k_is)
    (case k_uses_fit => k_is)
    (case a_Board_fits => k_is)
    (case i_Board_fits => k_is)
    (case l_Board_fits => k_is)
    (case c_Board_fits => k_is)
    (case k_Board_fits => k_is)
    (case a_Board_add => k_is)
    (case i_Board_add => k_is)
    (case l_Board_add => k_is)
    (case c_Board_add => k_is)
    (case k_Board_add => k_is)
    (case a_law_fit => k_is)
    (case l_law_fit => k_is)
    (case c_law_fit => k_is)
    (case k_law_fit => k_is)
    (case a_law_uses_keep => k_is)
    (case l_law_uses_keep => k_is)
    (case c_law_uses_keep => k_is)
    (case k_law_uses_keep => k_is)
    (case a_law => k_is)
    (case l_law => k_is)
    (case c_law => k_is)
    (case k_law => k_is)
    (case a_Board_iter => k_is)
    (case i_Board_iter => k_is)
    (case l_Board_iter => k_is)
    (case c_Board_iter => k_is)
    (case k_Board_iter => k_is)

