import PyProof.Rows.All
import Wide.All
import OpenK.AllK
import Wide.FinOn
import HandS.ForMost
import HandS.IsInst
import HandS.MakeKwOnly
import HandS.Defaults
import HandS.TupAny
import HandS.Codes
import HandS.ForExc
import HandS.Conv
import HandS.Deep
import HandS.Style
import HandS.Dict
import HandS.Zip
import HandS.SortRule
import HandS.SortInts
import HandS.Remove
import HandS.SortKw
import HandS.DictTup
import HandS.Exc
import HandS.ExcCtx
import HandS.ExcField
import HandS.ExcInit
import HandS.ExcInitHot
import HandS.ExcOwn
import HandS.HotCalls
import HandS.IterNext
import HandS.IterVal
import HandS.MakeKw
import HandS.NamedTupSort
import HandS.OwnEq
import HandS.OwnIter
import HandS.Text
import HandS.TupSets
import HandS.WordsExc
import KE.DataMinMax
import KE.KDictCopyH
import KE.KDictDisplayH
import KE.KExcIs
import KE.KOpsOwn
import KE.KOwnIter
import OpenK.KOps
import PyProof.EqKinds
import PySem.Challenge.RW_eveningkept_k27_order_rows
set_option Elab.async false
set_option linter.all false
set_option maxRecDepth 100000
/-! ## VLD -/
/-! VL: a value layer over the hand layer: plain data D without a heap; what of the abstract heap a datum stands for (Den); an environment of data (Slots). -/
namespace VL
open PySem PySem.Spec PyProof.Rows L2

/-- i: never changes (tuples, objects); s: the script's list; a: an argument's list, only read; l: a list of this frame that is not changed any more; b: a list that a name of the frame holds, only seen; o: a list that can be changed;
    c: an object that is being made; d: the same, seen; x: nothing is known of its place -/
inductive Fl | i | s | a | l | b | o | c (x : Addr) | d | x
  deriving DecidableEq
/-- a list's flag; the flag of an object that is being made -/
def Fl.ls : Fl → Fl | .s => .s | .a => .a | .l => .l | .b => .b | .o => .o | _ => .a
def Fl.sl : Fl → Fl | .c y => .c y | .d => .d | _ => .x
inductive Hd where
  | tup | lst (f : Fl) | dct (f : Fl) (ks : List Key) | dtt (f : Fl) (ks : List (List Key)) | obj (C : Addr) (ns : List Str) | slf (f : Fl) (C : Addr) (ns : List Str) | lsk (f : Fl)
def Hd.fl : Hd → Fl
  | .tup => .i | .lst f => f.ls | .dct f _ => f.ls | .dtt f _ => f.ls | .obj _ _ => .i | .slf f _ _ => f.sl | .lsk f => f.sl
/-- a change of flags that goes with lists and with objects that are being made -/
structure FOk (g : Fl → Fl) : Prop where
  i : g .i = .i
  s : ∀ f : Fl, (g f).ls = g f.ls
  t : ∀ f : Fl, (g f).sl = g f.sl
def Hd.map (g : Fl → Fl) : Hd → Hd
  | .tup => .tup | .lst f => .lst (g f) | .dct f ks => .dct (g f) ks | .dtt f ks => .dtt (g f) ks | .obj C ns => .obj C ns | .slf f C ns => .slf (g f) C ns | .lsk f => .lsk (g f)
inductive D where
  | non | bl (b : Bool) | int (i : Int) | str (x : Str) | cst (v : V)
  | nd (h : Hd) (xs : List D)
abbrev D.tup (xs : List D) : D := .nd .tup xs
abbrev D.lst (f : Fl) (xs : List D) : D := .nd (.lst f) xs
abbrev D.dct (f : Fl) (ks : List Key) (xs : List D) : D := .nd (.dct f ks) xs
abbrev D.dtt (f : Fl) (ks : List (List Key)) (xs : List D) : D := .nd (.dtt f ks) xs
abbrev D.slf (f : Fl) (C : Addr) (ns : List Str) (xs : List D) : D := .nd (.slf f C ns) xs
abbrev D.obj (C : Addr) (ns : List Str) (xs : List D) : D := .nd (.obj C ns) xs

/-! ### flags -/
mutual
def D.map (g : Fl → Fl) : D → D
  | .non => .non | .bl b => .bl b | .int i => .int i | .str x => .str x | .cst v => .cst v
  | .nd h xs => .nd (h.map g) (D.maps g xs)
def D.maps (g : Fl → Fl) : List D → List D
  | [] => []
  | d :: ds => D.map g d :: D.maps g ds
end
mutual
def D.all (p : Fl → Bool) : D → Bool
  | .non => true | .bl _ => true | .int _ => true | .str _ => true | .cst _ => true
  | .nd h xs => p h.fl && D.alls p xs
def D.alls (p : Fl → Bool) : List D → Bool
  | [] => true
  | d :: ds => D.all p d && D.alls p ds
end
theorem D.maps_eq (g : Fl → Fl) : ∀ ds : List D, D.maps g ds = ds.map (D.map g)
  | [] => rfl
  | d :: ds => by rw [D.maps, D.maps_eq g ds]; rfl
theorem D.alls_eq (p : Fl → Bool) : ∀ ds : List D, D.alls p ds = ds.all (D.all p)
  | [] => rfl
  | d :: ds => by rw [D.alls, D.alls_eq p ds]; rfl
def fBor : Fl → Fl | .o => .b | .c _ => .d | f => f
def fArg : Fl → Fl | .i => .i | .s => .s | .a => .a | .l => .a | .b => .a | .o => .a | _ => .x
def fLoc : Fl → Fl | .o => .l | .c _ => .x | f => f
def nbF : Fl → Bool | .b => false | .d => false | _ => true
def owF : Fl → Bool | .i => true | .l => true | .o => true | _ => false
/-- what a def may hand back: own lists, what it froze, and what its caller holds fixed -/
def ow2F : Fl → Bool | .i => true | .l => true | .o => true | .a => true | _ => false
/-- fixed for the caller, too -/
def fxF : Fl → Bool | .i => true | .l => true | .s => true | .a => true | _ => false
def puF : Fl → Bool | .i => true | _ => false
def arF : Fl → Bool | .i => true | .s => true | .a => true | .x => true | _ => false
/-- seen through a name -/
abbrev D.bor (d : D) : D := d.map fBor
abbrev D.arg (d : D) : D := d.map fArg
abbrev D.loc (d : D) : D := d.map fLoc
abbrev D.nb (d : D) : Bool := d.all nbF
abbrev D.ow (d : D) : Bool := d.all owF
abbrev D.ow2 (d : D) : Bool := d.all ow2F
/-- no list and no dict in it -/
abbrev D.pure (d : D) : Bool := d.all puF

/-! ### what a datum stands for -/
/-- the written part at hand -/
class KLs where
  K : PySem.W.Frag
variable [KK : KLs]
/-- a list of the written part -/
def KLst (a : Addr) (xs : List V) : Prop := ∃ (o : Obj) (its : Array Value) (n : Nat), KK.K.lookup a = some o ∧ o.cls = .type "list" ∧ o.dict = none ∧ o.data = .seq its n ∧ its.size ≤ sizeLine ∧ Vals xs its.toList
def At (Z B H : Hp) : Fl → Addr → HO → Prop
  | .i, a, o => B a = some o
  | .s, a, o => (∃ ob, B a = some (.frz ob o)) ∨ ∃ xs, o = .lst xs ∧ KLst a xs
  | .a, a, o => B a = some o
  | .l, a, o => B a = some o ∧ Z a = none
  | .b, a, o => H a = some o
  | .o, a, o => H a = some o
  | .c y, a, o => H a = some o ∧ a = y
  | .d, a, o => H a = some o
  | .x, _, _ => True
def Cont : Hd → HO → List V → Prop
  | .tup, o, vs => o = .tup vs
  | .lst _, o, vs => o = .lst vs
  | .dct _ ks, o, vs => ks.length = vs.length ∧ o = .dK (ks.zip vs)
  | .dtt _ ks, o, vs => ks.length = vs.length ∧ o = .dT (ks.zip vs)
  | .obj C ns, o, vs => ns.length = vs.length ∧ ∃ dx, o = .ins C dx (ns.zip vs)
  | .slf _ C ns, o, vs => ns.length = vs.length ∧ ∃ dx, o = .ins C dx (ns.zip vs)
  | .lsk _, o, vs => o = .lst vs
def fp : Fl → Addr → List Addr → List Addr
  | .o, a, F => a :: F
  | .c _, a, F => a :: F
  | _, _, F => F
mutual
def Den (Z B H : Hp) : D → V → List Addr → Prop
  | .non, v, F => v = .non ∧ F = []
  | .bl b, v, F => v = .bl b ∧ F = []
  | .int i, v, F => v = .int i ∧ F = []
  | .str x, v, F => v = .str x ∧ F = []
  | .cst u, v, F => v = u ∧ F = []
  | .nd h ds, v, F => ∃ a o vs G, v = .ref a ∧ At Z B H h.fl a o ∧ Cont h o vs ∧ Dens Z B H ds vs G ∧ F = fp h.fl a G
def Dens (Z B H : Hp) : List D → List V → List Addr → Prop
  | [], vs, F => vs = [] ∧ F = []
  | d :: ds, vs, F => ∃ v ws G1 G2, vs = v :: ws ∧ Den Z B H d v G1 ∧ Dens Z B H ds ws G2 ∧ F = G1 ++ G2
end
section
variable {Z Z' B B' H H' : Hp}
theorem At.grow {f : Fl} {a : Addr} {o : HO} (x : At Z B H f a o) (sb : Same B B') (sh : Same H H') : At Z B' H' f a o := by
  cases f with
  | i => exact sb _ _ x
  | s => exact x.imp (fun ⟨ob, x⟩ => ⟨ob, sb _ _ x⟩) id
  | a => exact sb _ _ x
  | l => exact ⟨sb _ _ x.1, x.2⟩
  | b => exact sh _ _ x
  | o => exact sh _ _ x
  | c y => exact ⟨sh _ _ x.1, x.2⟩
  | d => exact sh _ _ x
  | x => exact x
theorem mem_fp {f : Fl} {a b : Addr} {G : List Addr} (h : b ∈ G) : b ∈ fp f a G := by
  cases f <;> first | exact h | exact List.mem_cons_of_mem _ h
mutual
theorem Den.grow (sb : Same B B') (sh : Same H H') : ∀ (d : D) (v : V) (F : List Addr), Den Z B H d v F → Den Z B' H' d v F
  | .non, _, _, h => h
  | .bl _, _, _, h => h
  | .int _, _, _, h => h
  | .str _, _, _, h => h
  | .cst _, _, _, h => h
  | .nd h ds, _, _, ⟨a, o, vs, G, e, x, c, q, f⟩ => ⟨a, o, vs, G, e, x.grow sb sh, c, Dens.grow sb sh ds vs G q, f⟩
theorem Dens.grow (sb : Same B B') (sh : Same H H') : ∀ (ds : List D) (vs : List V) (F : List Addr), Dens Z B H ds vs F → Dens Z B' H' ds vs F
  | [], _, _, h => h
  | d :: ds, _, _, ⟨v, ws, G1, G2, e, x, q, f⟩ => ⟨v, ws, G1, G2, e, Den.grow sb sh d v G1 x, Dens.grow sb sh ds ws G2 q, f⟩
end
mutual
/-- a change of the heap elsewhere -/
theorem Den.keep : ∀ (d : D) (v : V) (F : List Addr), d.nb = true → (∀ a ∈ F, H' a = H a) → Den Z B H d v F → Den Z B H' d v F
  | .non, _, _, _, _, h => h
  | .bl _, _, _, _, _, h => h
  | .int _, _, _, _, _, h => h
  | .str _, _, _, _, _, h => h
  | .cst _, _, _, _, _, h => h
  | .nd h ds, _, _, n, k, ⟨a, o, vs, G, e, x, c, q, f⟩ => by
    subst f
    have n' : nbF h.fl = true ∧ D.alls nbF ds = true := by simpa [D.all] using n
    refine ⟨a, o, vs, G, e, ?_, c, Dens.keep ds vs G n'.2 (fun b hb => k b (mem_fp hb)) q, rfl⟩
    have key : ∀ f : Fl, nbF f = true → (∀ b ∈ fp f a G, H' b = H b) → At Z B H f a o → At Z B H' f a o := by
      intro f
      cases f <;> intro m k x
      · exact x
      · exact x
      · exact x
      · exact x
      · exact nomatch m
      · exact (k a List.mem_cons_self).trans x
      · exact ⟨(k a List.mem_cons_self).trans x.1, x.2⟩
      · exact nomatch m
      · exact x
    exact key _ n'.1 k x
theorem Dens.keep : ∀ (ds : List D) (vs : List V) (F : List Addr), D.alls nbF ds = true → (∀ a ∈ F, H' a = H a) → Dens Z B H ds vs F → Dens Z B H' ds vs F
  | [], _, _, _, _, h => h
  | d :: ds, _, _, n, k, ⟨v, ws, G1, G2, e, x, q, f⟩ => by
    subst f
    have n' : d.nb = true ∧ D.alls nbF ds = true := by simpa [D.alls] using n
    exact ⟨v, ws, G1, G2, e, Den.keep d v G1 n'.1 (fun b hb => k b (List.mem_append_left _ hb)) x, Dens.keep ds ws G2 n'.2 (fun b hb => k b (List.mem_append_right _ hb)) q, rfl⟩
end
theorem Hd.fl_map (g : Fl → Fl) (hi : FOk g) : ∀ h : Hd, (h.map g).fl = g h.fl
  | .tup => hi.i.symm
  | .lst f => hi.s f
  | .dct f _ => hi.s f
  | .dtt f _ => hi.s f
  | .obj _ _ => hi.i.symm
  | .slf f _ _ => hi.t f
  | .lsk f => hi.t f
theorem fok_bor : FOk fBor := ⟨rfl, fun f => by cases f <;> rfl, fun f => by cases f <;> rfl⟩
theorem fok_arg : FOk fArg := ⟨rfl, fun f => by cases f <;> rfl, fun f => by cases f <;> rfl⟩
theorem fok_loc : FOk fLoc := ⟨rfl, fun f => by cases f <;> rfl, fun f => by cases f <;> rfl⟩
theorem Cont.map (g : Fl → Fl) {o : HO} {vs : List V} : ∀ h : Hd, Cont h o vs → Cont (h.map g) o vs
  | .tup, x => x
  | .lst _, x => x
  | .dct _ _, x => x
  | .dtt _ _, x => x
  | .obj _ _, x => x
  | .slf _ _ _, x => x
  | .lsk _, x => x
/-- a change of flags, node by node; the footprint stays or falls away -/
structure FlagOk (g : Fl → Fl) (Z B H Z' B' H' : Hp) (ok : Fl → Bool) (P : Addr → Prop) (R : List Addr → List Addr) : Prop where
  i : FOk g
  at_ : ∀ f a o G, ok f = true → (f = .o ∨ (∃ y, f = .c y) → P a) → At Z B H f a o → At Z' B' H' (g f) a o ∧ R (fp f a G) = fp (g f) a (R G)
  nil : R [] = []
  app : ∀ a b, R (a ++ b) = R a ++ R b
mutual
theorem Den.flag {g : Fl → Fl} {ok : Fl → Bool} {P : Addr → Prop} {R : List Addr → List Addr} (K : FlagOk g Z B H Z' B' H' ok P R) : ∀ (d : D) (v : V) (F : List Addr), d.all ok = true → (∀ a ∈ F, P a) → Den Z B H d v F → Den Z' B' H' (d.map g) v (R F)
  | .non, _, _, _, _, ⟨h, f⟩ => ⟨h, by rw [f]; exact K.nil⟩
  | .bl _, _, _, _, _, ⟨h, f⟩ => ⟨h, by rw [f]; exact K.nil⟩
  | .int _, _, _, _, _, ⟨h, f⟩ => ⟨h, by rw [f]; exact K.nil⟩
  | .str _, _, _, _, _, ⟨h, f⟩ => ⟨h, by rw [f]; exact K.nil⟩
  | .cst _, _, _, _, _, ⟨h, f⟩ => ⟨h, by rw [f]; exact K.nil⟩
  | .nd h ds, _, _, n, k, ⟨a, o, vs, G, e, x, c, q, f⟩ => by
    subst f
    have n' : ok h.fl = true ∧ D.alls ok ds = true := by simpa [D.all] using n
    have z := K.at_ h.fl a o G n'.1 (fun hf => k a (by rcases hf with hf | ⟨y, hf⟩ <;> (rw [hf]; exact List.mem_cons_self))) x
    exact ⟨a, o, vs, R G, e, by rw [Hd.fl_map g K.i]; exact z.1, Cont.map g h c, Dens.flag K ds vs G n'.2 (fun b hb => k b (mem_fp hb)) q, by rw [Hd.fl_map g K.i]; exact z.2⟩
theorem Dens.flag {g : Fl → Fl} {ok : Fl → Bool} {P : Addr → Prop} {R : List Addr → List Addr} (K : FlagOk g Z B H Z' B' H' ok P R) : ∀ (ds : List D) (vs : List V) (F : List Addr), D.alls ok ds = true → (∀ a ∈ F, P a) → Dens Z B H ds vs F → Dens Z' B' H' (D.maps g ds) vs (R F)
  | [], _, _, _, _, ⟨h, f⟩ => ⟨h, by rw [f]; exact K.nil⟩
  | d :: ds, _, _, n, k, ⟨v, ws, G1, G2, e, x, q, f⟩ => by
    subst f
    have n' : d.all ok = true ∧ D.alls ok ds = true := by simpa [D.alls] using n
    exact ⟨v, ws, R G1, R G2, e, Den.flag K d v G1 n'.1 (fun b hb => k b (List.mem_append_left _ hb)) x, Dens.flag K ds ws G2 n'.2 (fun b hb => k b (List.mem_append_right _ hb)) q, K.app _ _⟩
end
mutual
theorem D.all_true : ∀ d : D, d.all (fun _ => true) = true
  | .non => rfl
  | .bl _ => rfl
  | .int _ => rfl
  | .str _ => rfl
  | .cst _ => rfl
  | .nd h ds => by simp [D.all, D.alls_true ds]
theorem D.alls_true : ∀ ds : List D, D.alls (fun _ => true) ds = true
  | [] => rfl
  | d :: ds => by simp [D.alls, D.all_true d, D.alls_true ds]
end
theorem flag_bor : FlagOk fBor Z B H Z B H (fun _ => true) (fun _ => True) (fun _ => []) :=
  ⟨fok_bor, fun f a o G _ _ x => by cases f <;> first | exact ⟨x, rfl⟩ | exact ⟨x.1, rfl⟩, rfl, fun _ _ => rfl⟩
/-- what a name holds, seen -/
theorem Den.see {d : D} {v : V} {F : List Addr} (h : Den Z B H d v F) : Den Z B H d.bor v [] := Den.flag flag_bor d v F (D.all_true d) (fun _ _ => True.intro) h
/-- the callee's base: what is fixed here, and all lists and dicts -/
def argBase (B H : Hp) : Hp := fun a => match H a with
  | some (.lst xs) => some (.lst xs)
  | some (.dK k) => some (.dK k)
  | some (.dT k) => some (.dT k)
  | _ => B a
theorem argBase_of {a : Addr} {o : HO} (sub : Same B H) (h : B a = some o) : argBase B H a = some o := by
  unfold argBase
  rw [sub _ _ h]
  cases o <;> first | rfl | exact h
theorem argBase_sub (sub : Same B H) : Same (argBase B H) H := fun a o h => by
  unfold argBase at h
  split at h
  · rename_i e; rw [e]; exact h
  · rename_i e; rw [e]; exact h
  · rename_i e; rw [e]; exact h
  · exact sub _ _ h
theorem Cont.lists {h : Hd} {o : HO} {vs : List V} (c : Cont h o vs) (hf : h.fl = .a ∨ h.fl = .l ∨ h.fl = .b ∨ h.fl = .o) : (∃ xs, o = .lst xs) ∨ (∃ k, o = .dK k) ∨ ∃ k, o = .dT k := by
  cases h with
  | tup => rcases hf with e | e | e | e <;> cases e
  | lst f => exact .inl ⟨_, c⟩
  | dct f ks => exact .inr (.inl ⟨_, c.2⟩)
  | dtt f ks => exact .inr (.inr ⟨_, c.2⟩)
  | obj C ns => rcases hf with e | e | e | e <;> cases e
  | slf f C ns => rcases hf with e | e | e | e <;> (cases f <;> cases e)
  | lsk f => rcases hf with e | e | e | e <;> (cases f <;> cases e)
theorem argBase_list {h : Hd} {o : HO} {vs : List V} {a : Addr} (c : Cont h o vs) (hf : h.fl = .a ∨ h.fl = .l ∨ h.fl = .b ∨ h.fl = .o) (e : H a = some o) : argBase B H a = some o := by
  unfold argBase
  rcases c.lists hf with ⟨xs, rfl⟩ | ⟨k, rfl⟩ | ⟨k, rfl⟩ <;> rw [e]
theorem hand_at {h : Hd} {o : HO} {vs : List V} {a : Addr} (sub : Same B H) (c : Cont h o vs) (x : At Z B H h.fl a o) : At Z' (argBase B H) H (fArg h.fl) a o := by
  have key : ∀ f : Fl, f = h.fl → At Z B H f a o → At Z' (argBase B H) H (fArg f) a o := by
    intro f ef x
    cases f with
    | i => exact argBase_of sub x
    | s => exact x.imp (fun ⟨ob, x⟩ => ⟨ob, argBase_of sub x⟩) id
    | a => exact argBase_of sub x
    | l => exact argBase_of sub x.1
    | b => exact argBase_list c (.inr (.inr (.inl ef.symm))) x
    | o => exact argBase_list c (.inr (.inr (.inr ef.symm))) x
    | c y => exact True.intro
    | d => exact True.intro
    | x => exact True.intro
  exact key _ rfl x
theorem fp_arg (f : Fl) (a : Addr) : fp (fArg f) a [] = [] := by cases f <;> rfl
mutual
/-- handed to a callee -/
theorem Den.hand (sub : Same B H) : ∀ (d : D) (v : V) (F : List Addr), Den Z B H d v F → Den Z' (argBase B H) H d.arg v []
  | .non, _, _, h => ⟨h.1, rfl⟩
  | .bl _, _, _, h => ⟨h.1, rfl⟩
  | .int _, _, _, h => ⟨h.1, rfl⟩
  | .str _, _, _, h => ⟨h.1, rfl⟩
  | .cst _, _, _, h => ⟨h.1, rfl⟩
  | .nd h ds, _, _, ⟨a, o, vs, G, e, x, c, q, f⟩ =>
    ⟨a, o, vs, [], e, by rw [Hd.fl_map fArg fok_arg]; exact hand_at sub c x, Cont.map fArg h c, Dens.hand sub ds vs G q, by rw [Hd.fl_map fArg fok_arg, fp_arg]⟩
theorem Dens.hand (sub : Same B H) : ∀ (ds : List D) (vs : List V) (F : List Addr), Dens Z B H ds vs F → Dens Z' (argBase B H) H (D.maps fArg ds) vs []
  | [], _, _, h => ⟨h.1, rfl⟩
  | d :: ds, _, _, ⟨v, ws, G1, G2, e, x, q, f⟩ => ⟨v, ws, [], [], e, Den.hand sub d v G1 x, Dens.hand sub ds ws G2 q, rfl⟩
end
end
end VL

/-! ## VLB -/
/-! VL: growth, environments, results. -/
namespace VL
open PySem PySem.Spec PyProof.Rows L2

variable [KK : KLs]
/-- no tuple -/
def NT (o : HO) : Prop := ∀ xs, o ≠ .tup xs
/-- from (B, H) to (B', H'): nothing that stood is changed; what is fixed stays fixed, what stood and was not fixed is not fixed later -/
structure Grow (B H B' H' : Hp) : Prop where
  sb : Same B B'
  sh : Same H H'
  sub : Same B' H'
  old : ∀ a o, H a = some o → NT o → B a = none → B' a = none
theorem Grow.refl {B H : Hp} (s : Same B H) : Grow B H B H := ⟨Same.refl _, Same.refl _, s, fun _ _ _ _ h => h⟩
theorem Grow.trans {B H B1 H1 B2 H2 : Hp} (x : Grow B H B1 H1) (y : Grow B1 H1 B2 H2) : Grow B H B2 H2 :=
  ⟨x.sb.trans y.sb, x.sh.trans y.sh, y.sub, fun a o h t n => y.old a o (x.sh _ _ h) t (x.old a o h t n)⟩
/-- a new fixed object -/
theorem Grow.fix {B H : Hp} {p : Addr} {o : HO} (s : Same B H) (hp : H p = none) : Grow B H (upd B p o) (upd H p o) := by
  have bp : ∀ b x, B b = some x → b ≠ p := fun b x e z => by rw [z] at e; rw [s _ _ e] at hp; cases hp
  refine ⟨fun b x e => by rw [upd_ne (bp b x e)]; exact e, fun b x e => ?_, fun b x e => ?_, fun b x e _ n => ?_⟩
  · rw [upd_ne (ne_of_none e hp)]; exact e
  · by_cases z : b = p
    · subst z; rw [upd_same] at e ⊢; exact e
    · rw [upd_ne z] at e ⊢; exact s _ _ e
  · rw [upd_ne (ne_of_none e hp)]; exact n
/-- a new object that is not fixed -/
theorem Grow.new {B H : Hp} {p : Addr} {o : HO} (s : Same B H) (hp : H p = none) : Grow B H B (upd H p o) := by
  refine ⟨Same.refl _, fun b x e => ?_, fun b x e => ?_, fun b x _ _ n => n⟩
  · rw [upd_ne (ne_of_none e hp)]; exact e
  · rw [upd_ne (ne_of_none (s _ _ e) hp)]; exact s _ _ e
theorem Same.none {B H : Hp} (s : Same B H) {a : Addr} (h : H a = Option.none) : B a = Option.none := s.free h

section
variable {Z B B' H H' : Hp}
mutual
/-- the footprint is tracked -/
theorem Den.live : ∀ (d : D) (v : V) (F : List Addr), Den Z B H d v F → ∀ a ∈ F, ∃ o, H a = some o
  | .non, _, _, ⟨_, f⟩, a, h => by rw [f] at h; cases h
  | .bl _, _, _, ⟨_, f⟩, a, h => by rw [f] at h; cases h
  | .int _, _, _, ⟨_, f⟩, a, h => by rw [f] at h; cases h
  | .str _, _, _, ⟨_, f⟩, a, h => by rw [f] at h; cases h
  | .cst _, _, _, ⟨_, f⟩, a, h => by rw [f] at h; cases h
  | .nd h ds, _, _, ⟨b, o, vs, G, e, x, c, q, f⟩, a, m => by
    subst f
    revert x m
    cases h.fl <;> intro x m
    · exact Dens.live ds vs G q a m
    · exact Dens.live ds vs G q a m
    · exact Dens.live ds vs G q a m
    · exact Dens.live ds vs G q a m
    · exact Dens.live ds vs G q a m
    · rcases List.mem_cons.mp m with z | m
      · exact ⟨o, by rw [z]; exact x⟩
      · exact Dens.live ds vs G q a m
    · rcases List.mem_cons.mp m with z | m
      · exact ⟨o, by rw [z]; exact x.1⟩
      · exact Dens.live ds vs G q a m
    · exact Dens.live ds vs G q a m
    · exact Dens.live ds vs G q a m
theorem Dens.live : ∀ (ds : List D) (vs : List V) (F : List Addr), Dens Z B H ds vs F → ∀ a ∈ F, ∃ o, H a = some o
  | [], _, _, ⟨_, f⟩, a, h => by rw [f] at h; cases h
  | d :: ds, _, _, ⟨v, ws, G1, G2, e, x, q, f⟩, a, h => by
    subst f
    rcases List.mem_append.mp h with h | h
    · exact Den.live d v G1 x a h
    · exact Dens.live ds ws G2 q a h
end
theorem Cont.nt {h : Hd} {o : HO} {vs : List V} (c : Cont h o vs) (hf : h.fl = .o ∨ ∃ y, h.fl = .c y) : NT o := by
  intro xs z
  subst z
  cases h with
  | tup => rcases hf with e | ⟨y, e⟩ <;> cases e
  | lst f => cases (show HO.tup xs = .lst vs from c)
  | dct f ks => cases c.2
  | dtt f ks => cases c.2
  | obj C ns => rcases hf with e | ⟨y, e⟩ <;> cases e
  | slf f C ns => obtain ⟨_, dx, e⟩ := c; cases e
  | lsk f => cases (show HO.tup xs = .lst vs from c)
mutual
/-- .. and no tuple -/
theorem Den.liveN : ∀ (d : D) (v : V) (F : List Addr), Den Z B H d v F → ∀ a ∈ F, ∃ o, H a = some o ∧ NT o
  | .non, _, _, ⟨_, f⟩, a, h => by rw [f] at h; cases h
  | .bl _, _, _, ⟨_, f⟩, a, h => by rw [f] at h; cases h
  | .int _, _, _, ⟨_, f⟩, a, h => by rw [f] at h; cases h
  | .str _, _, _, ⟨_, f⟩, a, h => by rw [f] at h; cases h
  | .cst _, _, _, ⟨_, f⟩, a, h => by rw [f] at h; cases h
  | .nd h ds, _, _, ⟨b, o, vs, G, e, x, c, q, f⟩, a, m => by
    subst f
    have nt := Cont.nt c
    revert x m nt
    cases h.fl <;> intro x m nt
    · exact Dens.liveN ds vs G q a m
    · exact Dens.liveN ds vs G q a m
    · exact Dens.liveN ds vs G q a m
    · exact Dens.liveN ds vs G q a m
    · exact Dens.liveN ds vs G q a m
    · rcases List.mem_cons.mp m with z | m
      · exact ⟨o, by rw [z]; exact x, nt (.inl rfl)⟩
      · exact Dens.liveN ds vs G q a m
    · rcases List.mem_cons.mp m with z | m
      · exact ⟨o, by rw [z]; exact x.1, nt (.inr ⟨_, rfl⟩)⟩
      · exact Dens.liveN ds vs G q a m
    · exact Dens.liveN ds vs G q a m
    · exact Dens.liveN ds vs G q a m
theorem Dens.liveN : ∀ (ds : List D) (vs : List V) (F : List Addr), Dens Z B H ds vs F → ∀ a ∈ F, ∃ o, H a = some o ∧ NT o
  | [], _, _, ⟨_, f⟩, a, h => by rw [f] at h; cases h
  | d :: ds, _, _, ⟨v, ws, G1, G2, e, x, q, f⟩, a, h => by
    subst f
    rcases List.mem_append.mp h with h | h
    · exact Den.liveN d v G1 x a h
    · exact Dens.liveN ds ws G2 q a h
end
theorem Dens.len : ∀ {ds : List D} {vs : List V} {F : List Addr}, Dens Z B H ds vs F → ds.length = vs.length
  | [], _, _, ⟨e, _⟩ => by rw [e]; rfl
  | d :: ds, _, _, ⟨v, ws, G1, G2, e, x, q, f⟩ => by rw [e]; simp only [List.length_cons]; rw [q.len]
theorem Dens.app : ∀ {ds es : List D} {vs ws : List V} {F G : List Addr}, Dens Z B H ds vs F → Dens Z B H es ws G → Dens Z B H (ds ++ es) (vs ++ ws) (F ++ G)
  | [], _, _, _, _, _, ⟨e, f⟩, y => by subst e f; exact y
  | d :: ds, _, _, _, _, _, ⟨v, ws, G1, G2, e, x, q, f⟩, y => by
    subst e f
    exact ⟨v, _, G1, _, rfl, x, q.app y, List.append_assoc _ _ _⟩
theorem Dens.at : ∀ {ds : List D} {vs : List V} {F : List Addr} {i : Nat} {d : D}, Dens Z B H ds vs F → ds[i]? = some d → ∃ v G, vs[i]? = some v ∧ Den Z B H d v G ∧ ∀ a ∈ G, a ∈ F
  | [], _, _, _, _, _, e => by simp at e
  | d :: ds, _, _, 0, d', ⟨v, ws, G1, G2, e, x, q, f⟩, h => by
    subst e f
    simp at h
    subst h
    exact ⟨v, G1, rfl, x, fun a h => List.mem_append_left _ h⟩
  | d :: ds, _, _, i + 1, d', ⟨v, ws, G1, G2, e, x, q, f⟩, h => by
    subst e f
    obtain ⟨v', G, h1, h2, h3⟩ := Dens.at (i := i) q (by simpa using h)
    exact ⟨v', G, by simpa using h1, h2, fun a m => List.mem_append_right _ (h3 a m)⟩
theorem Dens.one {d : D} {v : V} {F : List Addr} (h : Den Z B H d v F) : Dens Z B H [d] [v] F := ⟨v, [], F, [], rfl, h, ⟨rfl, rfl⟩, (List.append_nil _).symm⟩
theorem Dens.split : ∀ {ds es : List D} {vs : List V} {F : List Addr}, Dens Z B H (ds ++ es) vs F → ∃ v1 v2 F1 F2, vs = v1 ++ v2 ∧ F = F1 ++ F2 ∧ Dens Z B H ds v1 F1 ∧ Dens Z B H es v2 F2
  | [], es, vs, F, h => ⟨[], vs, [], F, rfl, rfl, ⟨rfl, rfl⟩, h⟩
  | d :: ds, es, _, _, ⟨v, ws, G1, G2, e, x, q, f⟩ => by
    subst e f
    obtain ⟨v1, v2, F1, F2, e1, e2, q1, q2⟩ := Dens.split q
    subst e1 e2
    exact ⟨v :: v1, v2, G1 ++ F1, F2, rfl, (List.append_assoc _ _ _).symm, ⟨v, v1, G1, F1, rfl, x, q1, rfl⟩, q2⟩
theorem maps_app (g : Fl → Fl) (ds es : List D) : D.maps g (ds ++ es) = D.maps g ds ++ D.maps g es := by simp [D.maps_eq]
theorem alls_app (p : Fl → Bool) (ds es : List D) : D.alls p (ds ++ es) = (D.alls p ds && D.alls p es) := by simp [D.alls_eq]
mutual
theorem D.pure_map {g : Fl → Fl} : ∀ {d : D}, d.pure = true → d.map g = d
  | .non, _ => rfl
  | .bl _, _ => rfl
  | .int _, _ => rfl
  | .str _, _ => rfl
  | .cst _, _ => rfl
  | .nd h ds, n => by
    have n' : puF h.fl = true ∧ D.alls puF ds = true := by simpa [D.all] using n
    have e : h.map g = h := by
      cases h with
      | tup => rfl
      | obj C ns => rfl
      | lst f => cases f <;> exact nomatch n'.1
      | dct f ks => cases f <;> exact nomatch n'.1
      | dtt f ks => cases f <;> exact nomatch n'.1
      | slf f C ns => cases f <;> exact nomatch n'.1
      | lsk f => cases f <;> exact nomatch n'.1
    rw [D.map, e, D.pure_maps n'.2]
theorem D.pure_maps {g : Fl → Fl} : ∀ {ds : List D}, D.alls puF ds = true → D.maps g ds = ds
  | [], _ => rfl
  | d :: ds, n => by
    have n' : d.all puF = true ∧ D.alls puF ds = true := by simpa [D.alls] using n
    rw [D.maps, D.pure_map n'.1, D.pure_maps n'.2]
end
mutual
theorem D.all_imp {p q : Fl → Bool} (k : ∀ f, p f = true → q f = true) : ∀ d : D, d.all p = true → d.all q = true
  | .non, _ => rfl
  | .bl _, _ => rfl
  | .int _, _ => rfl
  | .str _, _ => rfl
  | .cst _, _ => rfl
  | .nd h ds, n => by
    have n' : p h.fl = true ∧ D.alls p ds = true := by simpa [D.all] using n
    simp [D.all, k _ n'.1, D.alls_imp k ds n'.2]
theorem D.alls_imp {p q : Fl → Bool} (k : ∀ f, p f = true → q f = true) : ∀ ds : List D, D.alls p ds = true → D.alls q ds = true
  | [], _ => rfl
  | d :: ds, n => by
    have n' : d.all p = true ∧ D.alls p ds = true := by simpa [D.alls] using n
    simp [D.alls, D.all_imp k d n'.1, D.alls_imp k ds n'.2]
end
theorem D.nb_of_pure {d : D} (h : d.pure = true) : d.nb = true := D.all_imp (fun f e => by cases f <;> first | rfl | exact nomatch e) d h
theorem D.ow_of_pure {d : D} (h : d.pure = true) : d.ow = true := D.all_imp (fun f e => by cases f <;> first | rfl | exact nomatch e) d h
theorem D.nb_of_ow {d : D} (h : d.ow = true) : d.nb = true := D.all_imp (fun f e => by cases f <;> first | rfl | exact nomatch e) d h
mutual
theorem D.map_map (g k : Fl → Fl) : ∀ d : D, (d.map g).map k = d.map (fun f => k (g f))
  | .non => rfl
  | .bl _ => rfl
  | .int _ => rfl
  | .str _ => rfl
  | .cst _ => rfl
  | .nd h ds => by
    have e : (h.map g).map k = h.map (fun f => k (g f)) := by cases h <;> rfl
    rw [D.map, D.map, D.map, e, D.maps_maps g k ds]
theorem D.maps_maps (g k : Fl → Fl) : ∀ ds : List D, D.maps k (D.maps g ds) = D.maps (fun f => k (g f)) ds
  | [] => rfl
  | d :: ds => by rw [D.maps, D.maps, D.maps, D.map_map g k d, D.maps_maps g k ds]
end
mutual
theorem D.all_map {g : Fl → Fl} {p q : Fl → Bool} (hi : FOk g) (k : ∀ f, q f = true → p (g f) = true) : ∀ d : D, d.all q = true → (d.map g).all p = true
  | .non, _ => rfl
  | .bl _, _ => rfl
  | .int _, _ => rfl
  | .str _, _ => rfl
  | .cst _, _ => rfl
  | .nd h ds, n => by
    have n' : q h.fl = true ∧ D.alls q ds = true := by simpa [D.all] using n
    have e : p (h.map g).fl = true := by rw [Hd.fl_map g hi]; exact k _ n'.1
    simp [D.map, D.all, e, D.alls_map hi k ds n'.2]
theorem D.alls_map {g : Fl → Fl} {p q : Fl → Bool} (hi : FOk g) (k : ∀ f, q f = true → p (g f) = true) : ∀ ds : List D, D.alls q ds = true → D.alls p (D.maps g ds) = true
  | [], _ => rfl
  | d :: ds, n => by
    have n' : d.all q = true ∧ D.alls q ds = true := by simpa [D.alls] using n
    simp [D.maps, D.alls, D.all_map hi k d n'.1, D.alls_map hi k ds n'.2]
end
/-- frozen: the footprint becomes fixed -/
theorem flag_loc (sb : Same B B') {F : List Addr} (hF : ∀ a o, a ∈ F → H a = some o → B' a = some o) (hZ : ∀ a ∈ F, Z a = none) : FlagOk fLoc Z B H Z B' H (fun f => nbF f) (fun a => a ∈ F) (fun _ => []) :=
  ⟨fok_loc, fun f a o G n p x => by
    cases f
    · exact ⟨sb _ _ x, rfl⟩
    · exact ⟨x.imp (fun ⟨ob, x⟩ => ⟨ob, sb _ _ x⟩) id, rfl⟩
    · exact ⟨sb _ _ x, rfl⟩
    · exact ⟨⟨sb _ _ x.1, x.2⟩, rfl⟩
    · exact nomatch n
    · exact ⟨⟨hF _ _ (p (.inl rfl)) x, hZ _ (p (.inl rfl))⟩, rfl⟩
    · exact ⟨True.intro, rfl⟩
    · exact nomatch n
    · exact ⟨x, rfl⟩, rfl, fun _ _ => rfl⟩
end

/-! ### behind a call -/
def unB (B H B' : Hp) : Hp := fun a => match B a, H a with
  | none, some (.tup _) => B' a
  | none, some _ => none
  | _, _ => B' a
theorem unB_none {B H B' : Hp} {a : Addr} {o : HO} (h1 : B a = none) (h2 : H a = some o) (t : NT o) : unB B H B' a = none := by
  unfold unB; rw [h1, h2]
  cases o <;> first | rfl | exact absurd rfl (t _)
theorem unB_tup {B H B' : Hp} {a : Addr} {xs : List V} (h2 : H a = some (.tup xs)) : unB B H B' a = B' a := by
  unfold unB; rw [h2]; cases B a <;> rfl
theorem unB_fix {B H B' : Hp} {a : Addr} {o : HO} (h1 : B a = some o) : unB B H B' a = B' a := by unfold unB; rw [h1]
theorem unB_new {B H B' : Hp} {a : Addr} (h2 : H a = none) : unB B H B' a = B' a := by
  unfold unB; rw [h2]; cases B a <;> rfl
theorem unB_sub {B H B' : Hp} {a : Addr} {o : HO} (h : unB B H B' a = some o) : B' a = some o := by
  unfold unB at h
  split at h
  · exact h
  · cases h
  · exact h
section
variable {Z B B' H H' : Hp}
theorem Grow.back (sub : Same B H) (g : Grow (argBase B H) H B' H') : Grow B H (unB B H B') H' :=
  ⟨fun a o e => by rw [unB_fix e]; exact g.sb _ _ (argBase_of sub e), g.sh, fun a o e => g.sub _ _ (unB_sub e), fun a o h t n => unB_none n h t⟩
theorem back_at {h : Hd} {a : Addr} {o : HO} {vs : List V} (sub : Same B H) (g : Grow (argBase B H) H B' H') (hz : ∀ a, H a = none → Z a = none) (c : Cont h o vs) (n : owF h.fl = true) (x : At H B' H' h.fl a o) : At Z (unB B H B') H' h.fl a o := by
  have key : ∀ f : Fl, f = h.fl → owF f = true → At H B' H' f a o → At Z (unB B H B') H' f a o := by
    intro f ef n x
    cases f with
    | i =>
      have x : B' a = some o := x
      show unB B H B' a = some o
      cases hb : B a with
      | some ob => rw [unB_fix hb]; exact x
      | none =>
        cases hh : H a with
        | none => rw [unB_new hh]; exact x
        | some oh =>
          by_cases nt : NT oh
          case neg =>
            have : ∃ xs, oh = .tup xs := Classical.byContradiction fun z => nt fun xs e => z ⟨xs, e⟩
            obtain ⟨xs, e⟩ := this
            subst e
            rw [unB_tup hh]; exact x
          exfalso
          have nl : ¬ ((∃ xs, o = .lst xs) ∨ (∃ k, o = .dK k) ∨ ∃ k, o = .dT k) := by
            cases h with
            | tup => rw [show o = _ from c]; rintro (⟨_, e⟩ | ⟨_, e⟩ | ⟨_, e⟩) <;> cases e
            | lst f => exact fun _ => by cases f <;> cases ef
            | dct f ks => exact fun _ => by cases f <;> cases ef
            | dtt f ks => exact fun _ => by cases f <;> cases ef
            | obj C ns => obtain ⟨_, dx, e⟩ := c; rw [e]; rintro (⟨_, e⟩ | ⟨_, e⟩ | ⟨_, e⟩) <;> cases e
            | slf f C ns => exact fun _ => by cases f <;> cases ef
            | lsk f => exact fun _ => by cases f <;> cases ef
          cases ha : argBase B H a with
          | none => rw [g.old a oh hh nt ha] at x; cases x
          | some oa =>
            have e1 := g.sb _ _ ha
            rw [x] at e1
            cases e1
            have e2 := argBase_sub sub _ _ ha
            unfold argBase at ha
            split at ha
            · exact nl (.inl ⟨_, by cases ha; rfl⟩)
            · exact nl (.inr (.inl ⟨_, by cases ha; rfl⟩))
            · exact nl (.inr (.inr ⟨_, by cases ha; rfl⟩))
            · rw [hb] at ha; cases ha
    | s => exact nomatch n
    | a => exact nomatch n
    | c y => exact nomatch n
    | d => exact nomatch n
    | x => exact nomatch n
    | l => exact ⟨by rw [unB_new x.2]; exact x.1, hz _ x.2⟩
    | b => exact nomatch n
    | o => exact x
  exact key _ rfl n x
mutual
theorem Den.back (sub : Same B H) (g : Grow (argBase B H) H B' H') (hz : ∀ a, H a = none → Z a = none) : ∀ (d : D) (v : V) (F : List Addr), d.ow = true → Den H B' H' d v F → Den Z (unB B H B') H' d v F
  | .non, _, _, _, h => h
  | .bl _, _, _, _, h => h
  | .int _, _, _, _, h => h
  | .str _, _, _, _, h => h
  | .cst _, _, _, _, h => h
  | .nd h ds, _, _, n, ⟨a, o, vs, G, e, x, c, q, f⟩ => by
    have n' : owF h.fl = true ∧ D.alls owF ds = true := by simpa [D.all] using n
    exact ⟨a, o, vs, G, e, back_at sub g hz c n'.1 x, c, Dens.back sub g hz ds vs G n'.2 q, f⟩
theorem Dens.back (sub : Same B H) (g : Grow (argBase B H) H B' H') (hz : ∀ a, H a = none → Z a = none) : ∀ (ds : List D) (vs : List V) (F : List Addr), D.alls owF ds = true → Dens H B' H' ds vs F → Dens Z (unB B H B') H' ds vs F
  | [], _, _, _, h => h
  | d :: ds, _, _, n, ⟨v, ws, G1, G2, e, x, q, f⟩ => by
    have n' : d.ow = true ∧ D.alls owF ds = true := by simpa [D.alls] using n
    exact ⟨v, ws, G1, G2, e, Den.back sub g hz d v G1 n'.1 x, Dens.back sub g hz ds ws G2 n'.2 q, f⟩
end
end

/-! ### environments -/
abbrev Env := List (Option D)
def Slots (Z B H : Hp) : Env → List (Option V) → List Addr → Prop
  | [], σ, F => σ = [] ∧ F = []
  | none :: ρ, σ, F => ∃ v σ', σ = v :: σ' ∧ Slots Z B H ρ σ' F
  | some d :: ρ, σ, F => ∃ v σ' G1 G2, σ = some v :: σ' ∧ d.nb = true ∧ Den Z B H d v G1 ∧ Slots Z B H ρ σ' G2 ∧ F = G1 ++ G2
section
variable {Z B B' H H' : Hp}
theorem Slots.len : ∀ {ρ : Env} {σ : List (Option V)} {F : List Addr}, Slots Z B H ρ σ F → ρ.length = σ.length
  | [], _, _, ⟨e, _⟩ => by rw [e]; rfl
  | none :: ρ, _, _, ⟨v, σ', e, q⟩ => by rw [e]; simp only [List.length_cons]; rw [q.len]
  | some d :: ρ, _, _, ⟨v, σ', G1, G2, e, n, x, q, f⟩ => by rw [e]; simp only [List.length_cons]; rw [q.len]
theorem Slots.grow (sb : Same B B') (sh : Same H H') : ∀ {ρ : Env} {σ : List (Option V)} {F : List Addr}, Slots Z B H ρ σ F → Slots Z B' H' ρ σ F
  | [], _, _, h => h
  | none :: ρ, _, _, ⟨v, σ', e, q⟩ => ⟨v, σ', e, q.grow sb sh⟩
  | some d :: ρ, _, _, ⟨v, σ', G1, G2, e, n, x, q, f⟩ => ⟨v, σ', G1, G2, e, n, x.grow sb sh, q.grow sb sh, f⟩
theorem Slots.live : ∀ {ρ : Env} {σ : List (Option V)} {F : List Addr}, Slots Z B H ρ σ F → ∀ a ∈ F, ∃ o, H a = some o
  | [], _, _, ⟨_, f⟩, a, h => by rw [f] at h; cases h
  | none :: ρ, _, _, ⟨v, σ', e, q⟩, a, h => q.live a h
  | some d :: ρ, _, _, ⟨v, σ', G1, G2, e, n, x, q, f⟩, a, h => by
    subst f
    rcases List.mem_append.mp h with h | h
    · exact x.live _ _ _ a h
    · exact q.live a h
theorem Slots.liveN : ∀ {ρ : Env} {σ : List (Option V)} {F : List Addr}, Slots Z B H ρ σ F → ∀ a ∈ F, ∃ o, H a = some o ∧ NT o
  | [], _, _, ⟨_, f⟩, a, h => by rw [f] at h; cases h
  | none :: ρ, _, _, ⟨v, σ', e, q⟩, a, h => q.liveN a h
  | some d :: ρ, _, _, ⟨v, σ', G1, G2, e, n, x, q, f⟩, a, h => by
    subst f
    rcases List.mem_append.mp h with h | h
    · exact x.liveN _ _ _ a h
    · exact q.liveN a h
theorem Slots.get : ∀ {ρ : Env} {σ : List (Option V)} {F : List Addr} {i : Nat} {d : D}, Slots Z B H ρ σ F → ρ[i]? = some (some d) → ∃ v G, σ[i]? = some (some v) ∧ d.nb = true ∧ Den Z B H d v G ∧ ∀ a ∈ G, a ∈ F
  | [], _, _, i, _, _, h => by simp at h
  | none :: ρ, _, _, 0, _, _, h => by simp at h
  | none :: ρ, _, _, i + 1, d, ⟨v, σ', e, q⟩, h => by
    subst e
    obtain ⟨w, G, h1, h2⟩ := q.get (i := i) (by simpa using h)
    exact ⟨w, G, by simpa using h1, h2⟩
  | some d :: ρ, _, _, 0, d', ⟨v, σ', G1, G2, e, n, x, q, f⟩, h => by
    subst e f
    simp at h
    subst h
    exact ⟨v, G1, rfl, n, x, fun a m => List.mem_append_left _ m⟩
  | some d :: ρ, _, _, i + 1, d', ⟨v, σ', G1, G2, e, n, x, q, f⟩, h => by
    subst e f
    obtain ⟨w, G, h1, h2, h3, h4⟩ := q.get (i := i) (by simpa using h)
    exact ⟨w, G, by simpa using h1, h2, h3, fun a m => List.mem_append_right _ (h4 a m)⟩
/-- a slot gets another datum -/
theorem Slots.set : ∀ {ρ : Env} {σ : List (Option V)} {F : List Addr} {d : D} {v : V} {G : List Addr} (i : Nat), Slots Z B H ρ σ F → F.Nodup → d.nb = true → Den Z B H d v G → G.Nodup → (∀ a ∈ G, a ∉ F) →
    ∃ F', Slots Z B H (ρ.set i (some d)) (σ.set i (some v)) F' ∧ F'.Nodup ∧ ∀ a ∈ F', a ∈ F ∨ a ∈ G
  | [], _, _, d, v, G, i, ⟨e, f⟩, n, nb, x, ng, dj => by subst e f; exact ⟨[], ⟨rfl, rfl⟩, List.nodup_nil, fun a h => .inl h⟩
  | none :: ρ, _, F, d, v, G, 0, ⟨w, σ', e, q⟩, n, nb, x, ng, dj => by
    subst e
    exact ⟨G ++ F, ⟨v, σ', G, F, rfl, nb, x, q, rfl⟩, List.nodup_append.mpr ⟨ng, n, fun a h b h' z => dj a h (z ▸ h')⟩, fun a h => (List.mem_append.mp h).symm⟩
  | some d0 :: ρ, _, _, d, v, G, 0, ⟨w, σ', G1, G2, e, n0, x0, q, f⟩, n, nb, x, ng, dj => by
    subst e f
    have n2 := List.nodup_append.mp n
    exact ⟨G ++ G2, ⟨v, σ', G, G2, rfl, nb, x, q, rfl⟩, List.nodup_append.mpr ⟨ng, n2.2.1, fun a h b h' z => dj a h (List.mem_append_right _ (z ▸ h'))⟩, fun a h => (List.mem_append.mp h).symm.imp (List.mem_append_right _) id⟩
  | none :: ρ, _, F, d, v, G, i + 1, ⟨w, σ', e, q⟩, n, nb, x, ng, dj => by
    subst e
    obtain ⟨F', h1, h2, h3⟩ := q.set i n nb x ng dj
    exact ⟨F', ⟨w, _, rfl, h1⟩, h2, h3⟩
  | some d0 :: ρ, _, _, d, v, G, i + 1, ⟨w, σ', G1, G2, e, n0, x0, q, f⟩, n, nb, x, ng, dj => by
    subst e f
    have n2 := List.nodup_append.mp n
    obtain ⟨F', h1, h2, h3⟩ := q.set i n2.2.1 nb x ng (fun a h => fun z => dj a h (List.mem_append_right _ z))
    refine ⟨G1 ++ F', ⟨w, _, G1, F', rfl, n0, x0, h1, rfl⟩, List.nodup_append.mpr ⟨n2.1, h2, fun a h b h' z => ?_⟩, fun a h => ?_⟩
    · subst z
      rcases h3 a h' with k | k
      · exact n2.2.2 a h a k rfl
      · exact dj a k (List.mem_append_left _ h)
    · rcases List.mem_append.mp h with h | h
      · exact .inl (List.mem_append_left _ h)
      · exact (h3 a h).imp (List.mem_append_right _) id
/-- a slot's own list is changed in the heap: the slot's part and the rest -/
theorem Slots.part : ∀ {ρ : Env} {σ : List (Option V)} {F : List Addr} {i : Nat} {d : D}, Slots Z B H ρ σ F → F.Nodup → ρ[i]? = some (some d) →
    ∃ v G R, σ[i]? = some (some v) ∧ d.nb = true ∧ Den Z B H d v G ∧ G.Nodup ∧ (∀ a ∈ G, a ∉ R) ∧ (∀ a, a ∈ G ∨ a ∈ R → a ∈ F) ∧ R.Nodup ∧ Slots Z B H (ρ.set i none) σ R
  | [], _, _, i, _, _, _, h => by simp at h
  | none :: ρ, _, _, 0, _, _, _, h => by simp at h
  | none :: ρ, _, _, i + 1, d, ⟨v, σ', e, q⟩, n, h => by
    subst e
    obtain ⟨w, G, R, h1, h2, h3, h4, h5, h6, h7, h8⟩ := q.part (i := i) n (by simpa using h)
    exact ⟨w, G, R, by simpa using h1, h2, h3, h4, h5, h6, h7, ⟨v, _, rfl, h8⟩⟩
  | some d :: ρ, _, _, 0, d', ⟨v, σ', G1, G2, e, n0, x, q, f⟩, n, h => by
    subst e f
    simp at h
    subst h
    have n2 := List.nodup_append.mp n
    exact ⟨v, G1, G2, rfl, n0, x, n2.1, fun a h h' => n2.2.2 a h a h' rfl, fun a h => h.elim (List.mem_append_left _) (List.mem_append_right _), n2.2.1, ⟨_, _, rfl, q⟩⟩
  | some d0 :: ρ, _, _, i + 1, d, ⟨v, σ', G1, G2, e, n0, x0, q, f⟩, n, h => by
    subst e f
    have n2 := List.nodup_append.mp n
    obtain ⟨w, G, R, h1, h2, h3, h4, h5, h6, h7, h8⟩ := q.part (i := i) n2.2.1 (by simpa using h)
    refine ⟨w, G, G1 ++ R, by simpa using h1, h2, h3, h4, fun a h h' => ?_, fun a h => ?_, List.nodup_append.mpr ⟨n2.1, h7, fun a h b h' z => n2.2.2 a h b (h6 b (.inr h')) z⟩, ⟨v, _, G1, R, rfl, n0, x0, h8, rfl⟩⟩
    · rcases List.mem_append.mp h' with k | k
      · exact n2.2.2 a k a (h6 a (.inl h)) rfl
      · exact h5 a h k
    · rcases h with h | h
      · exact List.mem_append_right _ (h6 a (.inl h))
      · rcases List.mem_append.mp h with h | h
        · exact List.mem_append_left _ h
        · exact List.mem_append_right _ (h6 a (.inr h))
theorem Slots.keep : ∀ {ρ : Env} {σ : List (Option V)} {F : List Addr}, Slots Z B H ρ σ F → (∀ a ∈ F, H' a = H a) → Slots Z B H' ρ σ F
  | [], _, _, h, _ => h
  | none :: ρ, _, _, ⟨v, σ', e, q⟩, k => ⟨v, σ', e, q.keep k⟩
  | some d :: ρ, _, _, ⟨v, σ', G1, G2, e, n, x, q, f⟩, k => by
    subst f
    exact ⟨v, σ', G1, G2, e, n, Den.keep d v G1 n (fun a h => k a (List.mem_append_left _ h)) x, q.keep (fun a h => k a (List.mem_append_right _ h)), rfl⟩
/-- an empty slot is filled with what the frame holds there -/
theorem Slots.fill : ∀ {ρ : Env} {σ : List (Option V)} {F : List Addr} {d : D} {v : V} {G : List Addr} {i : Nat}, Slots Z B H (ρ.set i none) σ F → i < ρ.length → σ[i]? = some (some v) → F.Nodup → d.nb = true → Den Z B H d v G → G.Nodup → (∀ a ∈ G, a ∉ F) →
    ∃ F', Slots Z B H (ρ.set i (some d)) σ F' ∧ F'.Nodup ∧ ∀ a ∈ F', a ∈ F ∨ a ∈ G := by
  intro ρ σ F d v G i q hi hv n nb x ng dj
  obtain ⟨F', h1, h2, h3⟩ := q.set i n nb x ng dj
  refine ⟨F', ?_, h2, h3⟩
  have e1 : (ρ.set i none).set i (some d) = ρ.set i (some d) := List.set_set _
  have e2 : σ.set i (some v) = σ := by
    apply List.ext_getElem?
    intro j
    by_cases hj : i = j
    · subst hj
      rw [List.getElem?_set_self (by have := List.getElem?_eq_some_iff.mp hv; exact this.1), hv]
    · rw [List.getElem?_set_ne hj]
  rw [e1, e2] at h1
  exact h1
/-- forgetting a slot -/
theorem Slots.drop : ∀ {ρ : Env} {σ : List (Option V)} {F : List Addr} (i : Nat), Slots Z B H ρ σ F → F.Nodup → ∃ F', Slots Z B H (ρ.set i none) (σ.set i none) F' ∧ F'.Nodup ∧ ∀ a ∈ F', a ∈ F
  | [], _, _, i, ⟨e, f⟩, n => by subst e f; exact ⟨[], ⟨rfl, rfl⟩, List.nodup_nil, fun a h => h⟩
  | none :: ρ, _, F, 0, ⟨w, σ', e, q⟩, n => by subst e; exact ⟨F, ⟨_, σ', rfl, q⟩, n, fun a h => h⟩
  | some d0 :: ρ, _, _, 0, ⟨w, σ', G1, G2, e, n0, x0, q, f⟩, n => by
    subst e f
    exact ⟨G2, ⟨_, σ', rfl, q⟩, (List.nodup_append.mp n).2.1, fun a h => List.mem_append_right _ h⟩
  | none :: ρ, _, F, i + 1, ⟨w, σ', e, q⟩, n => by
    subst e
    obtain ⟨F', h1, h2, h3⟩ := q.drop i n
    exact ⟨F', ⟨w, _, rfl, h1⟩, h2, h3⟩
  | some d0 :: ρ, _, _, i + 1, ⟨w, σ', G1, G2, e, n0, x0, q, f⟩, n => by
    subst e f
    have n2 := List.nodup_append.mp n
    obtain ⟨F', h1, h2, h3⟩ := q.drop i n2.2.1
    exact ⟨G1 ++ F', ⟨w, _, G1, F', rfl, n0, x0, h1, rfl⟩, List.nodup_append.mpr ⟨n2.1, h2, fun a h b h' z => n2.2.2 a h b (h3 b h') z⟩, fun a h => by
      rcases List.mem_append.mp h with h | h
      · exact List.mem_append_left _ h
      · exact List.mem_append_right _ (h3 a h)⟩
end

/-- an exception, as data: its class, the names of its attributes, their data -/
abbrev XD := Addr × List Str × List D
def OutX (Z B H : Hp) (x : XD) (cls : Value) (dx : Option Addr) (H' : Hp) : Prop := cls = .ref x.1 ∧ ∃ B', Grow B H B' H' ∧ (x.2.1 = [] ∨ ∃ d vs, dx = some d ∧ B' d = some (.xd (x.2.1.zip vs)) ∧ x.2.1.length = vs.length ∧ Dens Z B' H' x.2.2 vs [])
omit KK in
theorem passN {X : L2.Cx} : L2.Passes (L2N.CX X.prog X.w) X L2.E0 := fun _ _ _ _ _ _ _ ⟨_, _, _, _, _, _, _, _, _, _, _, _, h⟩ => h.elim
/-- what is wished of an exception at hand, over the heap and over data; what is known of the base -/
class XW where
  W : L2.WX
  Ed : XD → Env → Prop
  kn : Hp → Prop
  mono : ∀ B B' : Hp, Same B B' → kn B → kn B'
instance (priority := low) xw0 : XW := ⟨fun _ _ _ _ => False, fun _ _ => False, fun _ => True, fun _ _ _ _ => True.intro⟩
variable [XX : XW]
/-- the frame: base B0 and heap Z at its entry; B, H now -/
structure Rep0 (B0 Z B H : Hp) (σ : List (Option V)) (ρ : Env) : Prop where
  gr : Grow B0 Z B H
  ex : ∃ F, Slots Z B H ρ σ F ∧ F.Nodup ∧ ∀ a ∈ F, B a = none ∧ Z a = none
/-- a wish over data is one over the heap -/
structure XL (B0 Z : Hp) : Prop where
  kn : XX.kn B0
  ll : ∀ (B H : Hp) (σ : List (Option V)) (ρ : Env) (x : XD) (cls : Value) (dx : Option Addr) (H' : Hp), Rep0 B0 Z B H σ ρ → OutX Z B H x cls dx H' → D.alls puF x.2.2 = true → XX.Ed x ρ → XX.W cls dx σ H'
structure Rep (B0 Z B H : Hp) (σ : List (Option V)) (ρ : Env) : Prop where
  xl : XL B0 Z
  gr : Grow B0 Z B H
  ex : ∃ F, Slots Z B H ρ σ F ∧ F.Nodup ∧ ∀ a ∈ F, B a = none ∧ Z a = none
section
variable {B0 Z B B' H H' : Hp} {σ : List (Option V)} {ρ : Env}
omit XX in
theorem xl0 {B0 Z : Hp} : XL (XX := xw0) B0 Z := ⟨True.intro, fun _ _ _ _ _ _ _ _ _ _ _ h => False.elim h⟩
theorem Rep.to0 (R : Rep B0 Z B H σ ρ) : Rep0 B0 Z B H σ ρ := ⟨R.gr, R.ex⟩
theorem Rep.sub (R : Rep B0 Z B H σ ρ) : Same B H := R.gr.sub
theorem Rep.z (R : Rep B0 Z B H σ ρ) : ∀ a, H a = none → Z a = none := fun a h => R.gr.sh.free h
theorem Rep.len (R : Rep B0 Z B H σ ρ) : ρ.length = σ.length := let ⟨_, q, _⟩ := R.ex; q.len
theorem Rep.grow (R : Rep B0 Z B H σ ρ) (g : Grow B H B' H') : Rep B0 Z B' H' σ ρ := by
  obtain ⟨F, q, n, z⟩ := R.ex
  exact ⟨R.xl, R.gr.trans g, F, q.grow g.sb g.sh, n, fun a h => let ⟨o, e, nt⟩ := q.liveN a h; ⟨g.old a o e nt (z a h).1, (z a h).2⟩⟩
theorem Rep.get {i : Nat} {d : D} (R : Rep B0 Z B H σ ρ) (h : ρ[i]? = some (some d)) : ∃ v, σ[i]? = some (some v) ∧ Den Z B H d.bor v [] := by
  obtain ⟨F, q, _, _⟩ := R.ex
  obtain ⟨v, G, h1, _, h2, _⟩ := q.get h
  exact ⟨v, h1, h2.see⟩
theorem Rep.get' {i : Nat} {d : D} (R : Rep B0 Z B H σ ρ) (h : ρ[i]? = some (some d)) : ∃ v G, σ[i]? = some (some v) ∧ d.nb = true ∧ Den Z B H d v G ∧ G.Nodup ∧ ∀ a ∈ G, B a = none ∧ Z a = none := by
  obtain ⟨F, q, n, z⟩ := R.ex
  obtain ⟨v, G, R', h1, h2, h3, h4, _, h6, _, _⟩ := q.part n h
  exact ⟨v, G, h1, h2, h3, h4, fun a m => z a (h6 a (.inl m))⟩
theorem Rep.drop (i : Nat) (R : Rep B0 Z B H σ ρ) : Rep B0 Z B H (σ.set i none) (ρ.set i none) := by
  obtain ⟨F, q, n, z⟩ := R.ex
  obtain ⟨F', h1, h2, h3⟩ := q.drop i n
  exact ⟨R.xl, R.gr, F', h1, h2, fun a h => z a (h3 a h)⟩
end
/-- what an expression gives -/
def Out (Z B H : Hp) (d : D) (v : V) (H' : Hp) : Prop := ∃ B' F, Grow B H B' H' ∧ Den Z B' H' d v F ∧ F.Nodup ∧ ∀ a ∈ F, B' a = none ∧ H a = none
def Outs (Z B H : Hp) (ds : List D) (vs : List V) (H' : Hp) : Prop := ∃ B' F, Grow B H B' H' ∧ Dens Z B' H' ds vs F ∧ F.Nodup ∧ ∀ a ∈ F, B' a = none ∧ H a = none
section
variable {B0 Z B B1 B' H H1 H' : Hp} {σ : List (Option V)} {ρ : Env}
theorem Rep.set {i : Nat} {d : D} {v : V} (R : Rep B0 Z B H σ ρ) (h : Out Z B H d v H') (nb : d.nb = true) : ∃ B', Grow B H B' H' ∧ Rep B0 Z B' H' (σ.set i (some v)) (ρ.set i (some d)) := by
  obtain ⟨B', G, g, x, ng, f⟩ := h
  obtain ⟨F, q, n, z⟩ := (R.grow g).ex
  obtain ⟨F0, q0, _, _⟩ := R.ex
  have R' := R.grow g
  obtain ⟨F, q, n, z⟩ : ∃ F, Slots Z B' H' ρ σ F ∧ F.Nodup ∧ (∀ a ∈ F, (B' a = none ∧ Z a = none) ∧ ∃ o, H a = some o) := by
    obtain ⟨F, q, n, z⟩ := R.ex
    exact ⟨F, q.grow g.sb g.sh, n, fun a h => let ⟨o, e, nt⟩ := q.liveN a h; ⟨⟨g.old a o e nt (z a h).1, (z a h).2⟩, o, e⟩⟩
  have dj : ∀ a ∈ G, a ∉ F := fun a h h' => by
    obtain ⟨o, e⟩ := (z a h').2
    rw [(f a h).2] at e
    cases e
  obtain ⟨F', h1, h2, h3⟩ := q.set i n nb x ng dj
  refine ⟨B', g, R'.xl, R'.gr, F', h1, h2, fun a h => ?_⟩
  rcases h3 a h with k | k
  · exact (z a k).1
  · exact ⟨(f a k).1, R.z a (f a k).2⟩
theorem Out.of {d : D} {v : V} (sub : Same B H) (h : Den Z B H d v []) : Out Z B H d v H := ⟨B, [], Grow.refl sub, h, List.nodup_nil, fun a h => nomatch h⟩
theorem Out.after {d : D} {v : V} (g : Grow B H B1 H1) (h : Out Z B1 H1 d v H') : Out Z B H d v H' := by
  obtain ⟨B', F, g', x, n, f⟩ := h
  exact ⟨B', F, g.trans g', x, n, fun a h => ⟨(f a h).1, g.sh.free (f a h).2⟩⟩
theorem Outs.after {ds : List D} {vs : List V} (g : Grow B H B1 H1) (h : Outs Z B1 H1 ds vs H') : Outs Z B H ds vs H' := by
  obtain ⟨B', F, g', x, n, f⟩ := h
  exact ⟨B', F, g.trans g', x, n, fun a h => ⟨(f a h).1, g.sh.free (f a h).2⟩⟩
theorem Outs.nil (sub : Same B H) : Outs Z B H [] [] H := ⟨B, [], Grow.refl sub, ⟨rfl, rfl⟩, List.nodup_nil, fun a h => nomatch h⟩
/-- one item, then the others -/
theorem Outs.cons {d : D} {v : V} {ds : List D} {vs : List V} {F : List Addr} (g : Grow B H B1 H1) (x : Den Z B1 H1 d v F) (n : F.Nodup) (f : ∀ a ∈ F, B1 a = none ∧ H a = none) (h : Outs Z B1 H1 ds vs H') : Outs Z B H (d :: ds) (v :: vs) H' := by
  obtain ⟨B', G, g', y, m, f'⟩ := h
  refine ⟨B', F ++ G, g.trans g', ⟨v, vs, F, G, rfl, x.grow g'.sb g'.sh, y, rfl⟩, List.nodup_append.mpr ⟨n, m, fun a h b h' z => ?_⟩, fun a h => ?_⟩
  · subst z
    obtain ⟨o, e, nt⟩ := x.liveN _ _ _ a h
    rw [(f' a h').2] at e
    cases e
  · rcases List.mem_append.mp h with k | k
    · obtain ⟨o, e, nt⟩ := x.liveN _ _ _ a k
      exact ⟨g'.old a o e nt (f a k).1, (f a k).2⟩
    · exact ⟨(f' a k).1, g.sh.free (f' a k).2⟩
end
end VL

/-! ## VLE -/
/-! VL: expressions. -/
namespace VL
open PySem PySem.Spec L2
open PyProof.Rows hiding St

variable [KK : KLs] [XX : XW]
theorem ls_ne (f : Fl) : f.ls ≠ .x := by cases f <;> (intro h; cases h)
theorem ls_ni (f : Fl) : f.ls ≠ .i := by cases f <;> (intro h; cases h)
abbrev TEv := Env → (D → Prop) → Prop
abbrev TTv := Env → (Bool → Prop) → Prop
abbrev TAv := Env → (List D → Prop) → Prop
/-- T, read over the heap, follows from t, read over data -/
def LE (T : TE) (t : TEv) : Prop := ∀ (B0 Z B H : Hp) (σ : St) (ρ : Env) (Qd : D → Prop) (Q : VK), Rep B0 Z B H σ ρ → t ρ Qd → (∀ d v H', Out Z B H d v H' → Qd d → Q v H') → T σ H Q
def LT (T : TT) (t : TTv) : Prop := ∀ (B0 Z B H : Hp) (σ : St) (ρ : Env) (Qd : Bool → Prop) (Q : Bool → Hp → Prop), Rep B0 Z B H σ ρ → t ρ Qd → (∀ k B' H', Grow B H B' H' → Qd k → Q k H') → T σ H Q
def LA (T : TA) (t : TAv) : Prop := ∀ (B0 Z B H : Hp) (σ : St) (ρ : Env) (Qd : List D → Prop) (Q : List V → Hp → Prop), Rep B0 Z B H σ ρ → t ρ Qd → (∀ ds vs H', Outs Z B H ds vs H' → Qd ds → Q vs H') → T σ H Q
structure VE (X : Cx) (e : Expr) (T : TE) (t : TEv) : Prop where
  pe : PE X e T
  lk : LE T t
structure VT (X : Cx) (e : Expr) (T : TT) (t : TTv) : Prop where
  pt : PT X e T
  lk : LT T t
structure VW (X : Cx) (e : Expr) (T : TT) (t : TTv) : Prop where
  pw : PW X e T
  lk : LT T t
structure VA (X : Cx) (es : List Expr) (T : TA) (t : TAv) : Prop where
  pa : PA X es T
  lk : LA T t

/-! ### names, constants -/
section
variable {Z B H : Hp}
theorem den_non : Den Z B H .non .non [] := ⟨rfl, rfl⟩
theorem den_bl {b : Bool} : Den Z B H (.bl b) (.bl b) [] := ⟨rfl, rfl⟩
theorem den_int {i : Int} : Den Z B H (.int i) (.int i) [] := ⟨rfl, rfl⟩
theorem den_str {i : Str} : Den Z B H (.str i) (.str i) [] := ⟨rfl, rfl⟩
theorem den_cst {i : V} : Den Z B H (.cst i) i [] := ⟨rfl, rfl⟩
end
def vVar (i : Nat) : TEv := fun ρ Q => match ρ[i]? with
  | some (some d) => Q d.bor
  | _ => False
def vC (d : D) : TEv := fun _ Q => Q d
theorem lk_var (i : Nat) : LE (tVar i) (vVar i) := by
  intro B0 Z B H σ ρ Qd Q R h k
  unfold vVar at h
  split at h
  · rename_i d e
    obtain ⟨v, e1, x⟩ := R.get e
    exact ⟨v, e1, k _ _ _ (Out.of R.sub x) h⟩
  · exact h.elim
theorem lk_c {v : V} {d : D} (hd : ∀ Z B H, Den Z B H d v []) : LE (tC v) (vC d) := fun B0 Z B H σ ρ Qd Q R h k => k _ _ _ (Out.of R.sub (hd _ _ _)) h
section
variable {X : Cx}
theorem e_var (i : Nat) {x : Str} {pos : Pos} (hN : X.N[i]? = some x := by rfl) (hv : Vis X.env.scope x := by first | exact Or.inl rfl | exact Or.inr (Or.inl rfl) | exact Or.inr (Or.inr rfl)) (hd : (x == ("__debug__" : Str)) = false := by decide)
    (hcd : (x == ("__classdict__" : Str)) = false := by decide) : VE X (.Name x pos) (tVar i) (vVar i) := ⟨pe_var hN hv hd hcd, lk_var i⟩
theorem e_int {i j pos} : VE X (.Constant (.int i) j pos) (tC (.int i)) (vC (.int i)) := ⟨pe_int, lk_c fun _ _ _ => ⟨rfl, rfl⟩⟩
theorem e_bl {b j pos} : VE X (.Constant (.bool b) j pos) (tC (.bl b)) (vC (.bl b)) := ⟨pe_bl, lk_c fun _ _ _ => ⟨rfl, rfl⟩⟩
theorem e_non {j pos} : VE X (.Constant .none j pos) (tC .non) (vC .non) := ⟨pe_non, lk_c fun _ _ _ => ⟨rfl, rfl⟩⟩
theorem e_str {x j pos} : VE X (.Constant (.str x) j pos) (tC (.str x)) (vC (.str x)) := ⟨pe_str, lk_c fun _ _ _ => ⟨rfl, rfl⟩⟩
end

/-! ### operators on two data, on one -/
abbrev RDv := D → D → (D → Prop) → Prop
abbrev RUv := D → (D → Prop) → Prop
def LR2 (r : R2) (rv : RDv) : Prop := ∀ (B0 Z B H : Hp) (σ : St) (ρ : Env) (x y : D) (vx vy : V) (F G : List Addr) (Qd : D → Prop) (Q : VK), Rep B0 Z B H σ ρ → Den Z B H x vx F → Den Z B H y vy G → rv x y Qd → (∀ d v H', Out Z B H d v H' → Qd d → Q v H') → r vx vy H Q
def LR1 (r : V → Hp → VK → Prop) (rv : RUv) : Prop := ∀ (B0 Z B H : Hp) (σ : St) (ρ : Env) (x : D) (vx : V) (F : List Addr) (Qd : D → Prop) (Q : VK), Rep B0 Z B H σ ρ → Den Z B H x vx F → rv x Qd → (∀ d v H', Out Z B H d v H' → Qd d → Q v H') → r vx H Q
def vOp (r : RDv) (ta tb : TEv) : TEv := fun ρ Q => ta ρ fun x => tb ρ fun y => r x y Q
def vUn (r : RUv) (ta : TEv) : TEv := fun ρ Q => ta ρ fun x => r x Q
theorem lk_op {r : R2} {rv : RDv} {Ta Tb : TE} {ta tb : TEv} (lr : LR2 r rv) (la : LE Ta ta) (lb : LE Tb tb) : LE (tOp r Ta Tb) (vOp rv ta tb) := by
  intro B0 Z B H σ ρ Qd Q R h k
  refine la B0 Z B H σ ρ _ _ R h fun x vx H1 ⟨B1, F, g, dx, n, f⟩ h1 => ?_
  refine lb B0 Z B1 H1 σ ρ _ _ (R.grow g) h1 fun y vy H2 ⟨B2, G, g2, dy, n2, f2⟩ h2 => ?_
  exact lr B0 Z B2 H2 σ ρ x y vx vy F G Qd Q ((R.grow g).grow g2) (dx.grow g2.sb g2.sh) dy h2 fun d v H3 o q => k d v H3 ((o.after g2).after g) q
theorem lk_un {r : V → Hp → VK → Prop} {rv : RUv} {Ta : TE} {ta : TEv} (lr : LR1 r rv) (la : LE Ta ta) : LE (tUn r Ta) (vUn rv ta) := by
  intro B0 Z B H σ ρ Qd Q R h k
  refine la B0 Z B H σ ρ _ _ R h fun x vx H1 ⟨B1, F, g, dx, n, f⟩ h1 => ?_
  exact lr B0 Z B1 H1 σ ρ x vx F Qd Q (R.grow g) dx h1 fun d v H3 o q => k d v H3 (o.after g) q
theorem LR2.or_l {r r' : R2} {rv : RDv} (h : LR2 r rv) : LR2 (fun x y H Q => r x y H Q ∨ r' x y H Q) rv := fun B0 Z B H σ ρ x y vx vy F G Qd Q R dx dy h1 k => .inl (h B0 Z B H σ ρ x y vx vy F G Qd Q R dx dy h1 k)
theorem LR2.or_r {r r' : R2} {rv : RDv} (h : LR2 r' rv) : LR2 (fun x y H Q => r x y H Q ∨ r' x y H Q) rv := fun B0 Z B H σ ρ x y vx vy F G Qd Q R dx dy h1 k => .inr (h B0 Z B H σ ρ x y vx vy F G Qd Q R dx dy h1 k)
/-- ints -/
def dI (C : Int → Int → Prop) (g : Int → Int → D) : RDv := fun x y Q => match x, y with
  | .int i, .int j => C i j ∧ Q (g i j)
  | _, _ => False
def dI0 (g : Int → Int → D) : RDv := fun x y Q => match x, y with
  | .int i, .int j => Q (g i j)
  | _, _ => False
theorem lr_I {C : Int → Int → Prop} {g : Int → Int → V} {gd : Int → Int → D} (hg : ∀ i j Z B H, Den Z B H (gd i j) (g i j) []) : LR2 (rI C g) (dI C gd) := by
  intro B0 Z B H σ ρ x y vx vy F G Qd Q R dx dy h k
  unfold dI at h
  split at h
  · exact ⟨_, _, dx.1, dy.1, h.1, k _ _ _ (Out.of R.sub (hg _ _ _ _ _)) h.2⟩
  · exact h.elim
theorem lr_I0 {g : Int → Int → V} {gd : Int → Int → D} (hg : ∀ i j Z B H, Den Z B H (gd i j) (g i j) []) : LR2 (rI0 g) (dI0 gd) := by
  intro B0 Z B H σ ρ x y vx vy F G Qd Q R dx dy h k
  unfold dI0 at h
  split at h
  · exact ⟨_, _, dx.1, dy.1, k _ _ _ (Out.of R.sub (hg _ _ _ _ _)) h⟩
  · exact h.elim
abbrev dSub : RDv := dI0 fun i j => .int (i - j)
abbrev dMul : RDv := dI CMul fun i j => .int (i * j)
abbrev dMod : RDv := dI (fun _ j => 0 < j) fun i j => .int (i % j)
abbrev dDiv : RDv := dI CDiv fun i j => .int (i / j)
abbrev dPow : RDv := dI CPow fun i j => .int (i ^ j.toNat)
abbrev dLt : RDv := dI0 fun i j => .bl (decide (i < j))
abbrev dLe : RDv := dI0 fun i j => .bl (decide (i ≤ j))
abbrev dGt : RDv := dI0 fun i j => .bl (decide (j < i))
abbrev dGe : RDv := dI0 fun i j => .bl (decide (j ≤ i))
section
variable {X : Cx} {a b e : Expr} {pos : Pos} {Ta Tb : TE} {ta tb : TEv}
theorem e_sub (ha : VE X a Ta ta) (hb : VE X b Tb tb) : VE X (.BinOp a .Sub b pos) (tOp (rI0 fun i j => .int (i - j)) Ta Tb) (vOp dSub ta tb) := ⟨pe_op op_sub ha.pe hb.pe, lk_op (lr_I0 fun _ _ _ _ _ => ⟨rfl, rfl⟩) ha.lk hb.lk⟩
theorem e_mul (ha : VE X a Ta ta) (hb : VE X b Tb tb) : VE X (.BinOp a .Mult b pos) (tOp (rI CMul fun i j => .int (i * j)) Ta Tb) (vOp dMul ta tb) := ⟨pe_op op_mul ha.pe hb.pe, lk_op (lr_I fun _ _ _ _ _ => ⟨rfl, rfl⟩) ha.lk hb.lk⟩
theorem e_mod (ha : VE X a Ta ta) (hb : VE X b Tb tb) : VE X (.BinOp a .Mod b pos) (tOp (rI (fun _ j => 0 < j) fun i j => .int (i % j)) Ta Tb) (vOp dMod ta tb) := ⟨pe_op op_mod ha.pe hb.pe, lk_op (lr_I fun _ _ _ _ _ => ⟨rfl, rfl⟩) ha.lk hb.lk⟩
theorem e_div (ha : VE X a Ta ta) (hb : VE X b Tb tb) : VE X (.BinOp a .FloorDiv b pos) (tOp (rI CDiv fun i j => .int (i / j)) Ta Tb) (vOp dDiv ta tb) := ⟨pe_op op_fdiv ha.pe hb.pe, lk_op (lr_I fun _ _ _ _ _ => ⟨rfl, rfl⟩) ha.lk hb.lk⟩
theorem e_pow (ha : VE X a Ta ta) (hb : VE X b Tb tb) : VE X (.BinOp a .Pow b pos) (tOp (rI CPow fun i j => .int (i ^ j.toNat)) Ta Tb) (vOp dPow ta tb) := ⟨pe_op op_pow ha.pe hb.pe, lk_op (lr_I fun _ _ _ _ _ => ⟨rfl, rfl⟩) ha.lk hb.lk⟩
theorem e_lt (ha : VE X a Ta ta) (hb : VE X b Tb tb) : VE X (.Compare a [.Lt] [b] pos) (tOp (rI0 fun i j => .bl (decide (i < j))) Ta Tb) (vOp dLt ta tb) := ⟨pe_cmpR op_lt ha.pe hb.pe (nomark _), lk_op (lr_I0 fun _ _ _ _ _ => ⟨rfl, rfl⟩) ha.lk hb.lk⟩
theorem e_le (ha : VE X a Ta ta) (hb : VE X b Tb tb) : VE X (.Compare a [.LtE] [b] pos) (tOp (rI0 fun i j => .bl (decide (i ≤ j))) Ta Tb) (vOp dLe ta tb) := ⟨pe_cmpR op_le ha.pe hb.pe (nomark _), lk_op (lr_I0 fun _ _ _ _ _ => ⟨rfl, rfl⟩) ha.lk hb.lk⟩
theorem e_gt (ha : VE X a Ta ta) (hb : VE X b Tb tb) : VE X (.Compare a [.Gt] [b] pos) (tOp (rI0 fun i j => .bl (decide (j < i))) Ta Tb) (vOp dGt ta tb) := ⟨pe_cmpR op_gt ha.pe hb.pe (nomark _), lk_op (lr_I0 fun _ _ _ _ _ => ⟨rfl, rfl⟩) ha.lk hb.lk⟩
theorem e_ge (ha : VE X a Ta ta) (hb : VE X b Tb tb) : VE X (.Compare a [.GtE] [b] pos) (tOp (rI0 fun i j => .bl (decide (j ≤ i))) Ta Tb) (vOp dGe ta tb) := ⟨pe_cmpR op_ge ha.pe hb.pe (nomark _), lk_op (lr_I0 fun _ _ _ _ _ => ⟨rfl, rfl⟩) ha.lk hb.lk⟩
def dNeg : RUv := fun x Q => match x with
  | .int i => Q (.int (-i))
  | _ => False
theorem lr_neg : LR1 (rU fun i => .int (-i)) dNeg := by
  intro B0 Z B H σ ρ x vx F Qd Q R dx h k
  unfold dNeg at h
  split at h
  · exact ⟨_, dx.1, k _ _ _ (Out.of R.sub den_int) h⟩
  · exact h.elim
theorem e_neg (ha : VE X a Ta ta) : VE X (.UnaryOp .USub a pos) (tUn (rU fun i => .int (-i)) Ta) (vUn dNeg ta) := ⟨pe_un un_neg ha.pe, lk_un lr_neg ha.lk⟩
end

/-! ### is None -/
def D.isNon : D → Bool | .non => true | _ => false
def dIsN : RUv := fun x Q => Q (.bl x.isNon)
def dNotN : RUv := fun x Q => Q (.bl (!x.isNon))
section
variable {Z B H : Hp}
/-- no opaque value that is None -/
theorem Den.isNon {x : D} {v : V} {F : List Addr} (h : Den Z B H x v F) (hc : ∀ u, x ≠ .cst u) : decide (v = .non) = x.isNon := by
  cases x with
  | non => rw [h.1]; rfl
  | bl b => rw [h.1]; rfl
  | int i => rw [h.1]; rfl
  | str x => rw [h.1]; rfl
  | cst u => exact absurd rfl (hc u)
  | nd hd xs => obtain ⟨a, _, _, _, e, _⟩ := h; rw [e]; rfl
end
def D.isCst : D → Bool | .cst _ => true | _ => false
theorem D.nocst {x : D} (h : x.isCst = false) : ∀ u, x ≠ .cst u := fun u e => by subst e; cases h
def vIsN (neg : Bool) (ta : TEv) : TEv := fun ρ Q => ta ρ fun x => x.isCst = false ∧ Q (.bl (if neg then !x.isNon else x.isNon))
theorem lk_isN {Ta : TE} {ta : TEv} (la : LE Ta ta) : LE (tOp (fun x y H Q => y = .non ∧ Q (.bl (decide (x = .non))) H) Ta (tC .non)) (vIsN false ta) := by
  intro B0 Z B H σ ρ Qd Q R h k
  refine la B0 Z B H σ ρ _ _ R h fun x vx H1 ⟨B1, F, g, dx, n, f⟩ h1 => ⟨rfl, ?_⟩
  rw [dx.isNon (D.nocst h1.1)]
  exact k _ _ _ ((Out.of g.sub den_bl).after g) h1.2
theorem lk_notN {Ta : TE} {ta : TEv} (la : LE Ta ta) : LE (tOp (fun x y H Q => y = .non ∧ Q (.bl (!decide (x = .non))) H) Ta (tC .non)) (vIsN true ta) := by
  intro B0 Z B H σ ρ Qd Q R h k
  refine la B0 Z B H σ ρ _ _ R h fun x vx H1 ⟨B1, F, g, dx, n, f⟩ h1 => ⟨rfl, ?_⟩
  rw [dx.isNon (D.nocst h1.1)]
  exact k _ _ _ ((Out.of g.sub den_bl).after g) h1.2
section
variable {X : Cx} {a b e : Expr} {pos pos' : Pos} {Ta Tb : TE} {ta tb : TEv} {j : Nat}
theorem e_isN {j} (ha : VE X a Ta ta) : VE X (.Compare a [.Is] [.Constant .none j pos'] pos) (tOp (fun x y H Q => y = .non ∧ Q (.bl (decide (x = .non))) H) Ta (tC .non)) (vIsN false ta) := ⟨pe_cmpR op_isN ha.pe pe_non (nomark _), lk_isN ha.lk⟩
theorem e_notN {j} (ha : VE X a Ta ta) : VE X (.Compare a [.IsNot] [.Constant .none j pos'] pos) (tOp (fun x y H Q => y = .non ∧ Q (.bl (!decide (x = .non))) H) Ta (tC .non)) (vIsN true ta) := ⟨pe_cmpR op_notN ha.pe pe_non (nomark _), lk_notN ha.lk⟩
end

/-! ### == of plain data -/
mutual
def D.py : D → PyData
  | .non => .none | .bl b => .bool b | .int i => .int i | .str x => .str x | .cst _ => .none
  | .nd .tup xs => .tuple (D.pys xs)
  | .nd _ xs => .list (D.pys xs)
def D.pys : List D → List PyData
  | [] => []
  | d :: ds => D.py d :: D.pys ds
end
mutual
/-- None, bools, ints, texts, lists and tuples of these -/
def D.plain : D → Bool
  | .cst _ => false
  | .nd .tup xs => D.plains xs
  | .nd (.lst _) xs => D.plains xs
  | .nd _ _ => false
  | _ => true
def D.plains : List D → Bool
  | [] => true
  | d :: ds => D.plain d && D.plains ds
end
section
variable {Z B H : Hp}
theorem At.rd {f : Fl} {a : Addr} {o : HO} (s : Same B H) (n : f ≠ .x) (x : At Z B H f a o) : Rd H a o ∨ ∃ xs, o = .lst xs ∧ KLst a xs := by
  cases f with
  | i => exact .inl (.inl (s _ _ x))
  | s => exact x.imp (fun ⟨ob, x⟩ => .inr ⟨ob, s _ _ x⟩) id
  | a => exact .inl (.inl (s _ _ x))
  | l => exact .inl (.inl (s _ _ x.1))
  | b => exact .inl (.inl x)
  | o => exact .inl (.inl x)
  | c y => exact .inl (.inl x.1)
  | d => exact .inl (.inl x)
  | x => exact absurd rfl n
theorem At.sql {f : Fl} {a : Addr} {vs : List V} (s : Same B H) (n : f ≠ .x) (x : At Z B H f a (.lst vs)) : SqL KK.K H a vs := by
  rcases x.rd s n with h | ⟨xs, e, h⟩
  · exact .inl h
  · cases e; exact .inr h
mutual
theorem Den.dp (s : Same B H) : ∀ (d : D) (v : V) (F : List Addr), d.plain = true → Den Z B H d v F → Dp KK.K H v d.py
  | .non, _, _, _, h => by rw [h.1]; exact .non
  | .bl b, _, _, _, h => by rw [h.1]; exact .bl b
  | .int i, _, _, _, h => by rw [h.1]; exact .int i
  | .str x, _, _, _, h => by rw [h.1]; exact .str x
  | .cst _, _, _, n, _ => nomatch n
  | .nd .tup ds, _, _, n, ⟨a, o, vs, G, e, x, c, q, f⟩ => by
    subst e
    have c : o = .tup vs := c
    subst c
    have n : D.plains ds = true := n
    exact .tup (.inl (.inl (s _ _ x))) (Dens.dp s ds vs G n q)
  | .nd (.lst f) ds, _, _, n, ⟨a, o, vs, G, e, x, c, q, f'⟩ => by
    subst e
    have c : o = .lst vs := c
    subst c
    have n : D.plains ds = true := n
    exact .lst (At.sql s (ls_ne f) x) (Dens.dp s ds vs G n q)
  | .nd (.dct f ks) ds, _, _, n, _ => nomatch n
  | .nd (.dtt f ks) ds, _, _, n, _ => nomatch n
  | .nd (.obj C ns) ds, _, _, n, _ => nomatch n
  | .nd (.slf f C ns) ds, _, _, n, _ => nomatch n
  | .nd (.lsk f) ds, _, _, n, _ => nomatch n
theorem Dens.dp (s : Same B H) : ∀ (ds : List D) (vs : List V) (F : List Addr), D.plains ds = true → Dens Z B H ds vs F → DpAll KK.K H vs (D.pys ds)
  | [], _, _, _, h => by rw [h.1]; exact .nil
  | d :: ds, _, _, n, ⟨v, ws, G1, G2, e, x, q, f⟩ => by
    subst e
    have n' : d.plain = true ∧ D.plains ds = true := by simpa [D.plains] using n
    exact .cons (Den.dp s d v G1 n'.1 x) (Dens.dp s ds ws G2 n'.2 q)
end
end
/-- == as data tells it -/
def D.eqv (x y : D) : Bool := PyData.eqv x.py y.py
/-- the data that == is told of -/
def D.okEq (x : D) : Prop := x.plain = true ∧ SeqAt.shaped x.py = true
def dEqN (neg : Bool) : RDv := fun x y Q => match x, y with
  | .int i, .int j => Q (.bl (if neg then !decide (i = j) else decide (i = j)))
  | .str i, .str j => Q (.bl (if neg then !decide (i = j) else decide (i = j)))
  | x, y => x.okEq ∧ y.okEq ∧ Q (.bl (if neg then !D.eqv x y else D.eqv x y))
abbrev dEq : RDv := dEqN false
abbrev dNe : RDv := dEqN true
def rEqA : R2 := fun x y H Q => rEq x y H Q ∨ rEqD KK.K x y H Q
def rNeA : R2 := fun x y H Q => rNe x y H Q ∨ rNeD KK.K x y H Q
theorem vint_eq (i j : Int) : decide (V.int i = V.int j) = decide (i = j) := by
  by_cases h : i = j
  · subst h; simp
  · rw [decide_eq_false h, decide_eq_false fun q => h (V.int.inj q)]
theorem vstr_eq (i j : Str) : decide (V.str i = V.str j) = decide (i = j) := by
  by_cases h : i = j
  · subst h; simp
  · rw [decide_eq_false h, decide_eq_false fun q => h (V.str.inj q)]
theorem lr_eqA : LR2 rEqA dEq := by
  intro B0 Z B H σ ρ x y vx vy F G Qd Q R dx dy h k
  unfold dEq dEqN at h
  split at h
  · refine .inl ⟨by rw [dx.1, dy.1]; rfl, k _ _ _ (Out.of R.sub ?_) h⟩
    rw [dx.1, dy.1, vint_eq]
    exact den_bl
  · refine .inl ⟨by rw [dx.1, dy.1]; rfl, k _ _ _ (Out.of R.sub ?_) h⟩
    rw [dx.1, dy.1, vstr_eq]
    exact den_bl
  · obtain ⟨h1, h2, q⟩ := h
    exact .inr ⟨x.py, y.py, dx.dp R.sub _ _ _ h1.1, dy.dp R.sub _ _ _ h2.1, h1.2, h2.2, k _ _ _ (Out.of R.sub den_bl) q⟩
theorem lr_neA : LR2 rNeA dNe := by
  intro B0 Z B H σ ρ x y vx vy F G Qd Q R dx dy h k
  unfold dNe dEqN at h
  split at h
  · refine .inl ⟨by rw [dx.1, dy.1]; rfl, k _ _ _ (Out.of R.sub ?_) h⟩
    rw [dx.1, dy.1, vint_eq]
    exact den_bl
  · refine .inl ⟨by rw [dx.1, dy.1]; rfl, k _ _ _ (Out.of R.sub ?_) h⟩
    rw [dx.1, dy.1, vstr_eq]
    exact den_bl
  · obtain ⟨h1, h2, q⟩ := h
    exact .inr ⟨x.py, y.py, dx.dp R.sub _ _ _ h1.1, dy.dp R.sub _ _ _ h2.1, h1.2, h2.2, k _ _ _ (Out.of R.sub den_bl) q⟩
section
variable {X : Cx} {a b e : Expr} {pos pos' : Pos} {Ta Tb : TE} {ta tb : TEv} {n : Nat}
theorem e_eq (hr : Room n X.A) (ha : VE X a Ta ta) (hb : VE X b Tb tb) (hK : X.K = KK.K := by rfl) : VE X (.Compare a [.Eq] [b] pos) (tOp rEqA Ta Tb) (vOp dEq ta tb) := by
  unfold rEqA
  rw [← hK]
  exact ⟨pe_cmpR (op_eq.or (op_eqD hr.units)) ha.pe hb.pe (nomark _), by rw [hK]; exact lk_op lr_eqA ha.lk hb.lk⟩
theorem e_ne (hr : Room n X.A) (ha : VE X a Ta ta) (hb : VE X b Tb tb) (hK : X.K = KK.K := by rfl) : VE X (.Compare a [.NotEq] [b] pos) (tOp rNeA Ta Tb) (vOp dNe ta tb) := by
  unfold rNeA
  rw [← hK]
  exact ⟨pe_cmpR (op_ne.or (op_neD hr.units)) ha.pe hb.pe (nomark _), by rw [hK]; exact lk_op lr_neA ha.lk hb.lk⟩
end

/-! ### and, or, not; tests -/
def vAnd (ta tb : TEv) : TEv := fun ρ Q => ta ρ fun x => match x with
  | .bl k => if k = true then tb ρ Q else Q (.bl false)
  | _ => False
def vOr (ta tb : TEv) : TEv := fun ρ Q => ta ρ fun x => match x with
  | .bl k => if k = true then Q (.bl true) else tb ρ Q
  | _ => False
def vNot (ta : TEv) : TEv := fun ρ Q => ta ρ fun x => match x with
  | .bl k => Q (.bl (!k))
  | _ => False
theorem lk_and {Ta Tb : TE} {ta tb : TEv} (la : LE Ta ta) (lb : LE Tb tb) : LE (tAndV Ta Tb) (vAnd ta tb) := by
  intro B0 Z B H σ ρ Qd Q R h k
  refine la B0 Z B H σ ρ _ _ R h fun x vx H1 ⟨B1, F, g, dx, n, f⟩ h1 => ?_
  split at h1
  · rename_i b _
    refine ⟨b, dx.1, ?_⟩
    cases b with
    | true =>
      rw [if_pos rfl] at h1 ⊢
      exact lb B0 Z B1 H1 σ ρ _ _ (R.grow g) h1 fun d v H2 o q => k d v H2 (o.after g) q
    | false =>
      rw [if_neg Bool.false_ne_true] at h1 ⊢
      exact k _ _ _ ((Out.of g.sub den_bl).after g) h1
  · exact h1.elim
theorem lk_or {Ta Tb : TE} {ta tb : TEv} (la : LE Ta ta) (lb : LE Tb tb) : LE (tOrV Ta Tb) (vOr ta tb) := by
  intro B0 Z B H σ ρ Qd Q R h k
  refine la B0 Z B H σ ρ _ _ R h fun x vx H1 ⟨B1, F, g, dx, n, f⟩ h1 => ?_
  split at h1
  · rename_i b _
    refine ⟨b, dx.1, ?_⟩
    cases b with
    | true =>
      rw [if_pos rfl] at h1 ⊢
      exact k _ _ _ ((Out.of g.sub den_bl).after g) h1
    | false =>
      rw [if_neg Bool.false_ne_true] at h1 ⊢
      exact lb B0 Z B1 H1 σ ρ _ _ (R.grow g) h1 fun d v H2 o q => k d v H2 (o.after g) q
  · exact h1.elim
theorem lk_not {Ta : TE} {ta : TEv} (la : LE Ta ta) : LE (tNotV Ta) (vNot ta) := by
  intro B0 Z B H σ ρ Qd Q R h k
  refine la B0 Z B H σ ρ _ _ R h fun x vx H1 ⟨B1, F, g, dx, n, f⟩ h1 => ?_
  split at h1
  · exact ⟨_, dx.1, k _ _ _ ((Out.of g.sub den_bl).after g) h1⟩
  · exact h1.elim
def vTest (ta : TEv) : TTv := fun ρ Q => ta ρ fun x => match x with
  | .bl k => Q k
  | _ => False
theorem lk_test {Ta : TE} {ta : TEv} (la : LE Ta ta) : LT (tTest Ta) (vTest ta) := by
  intro B0 Z B H σ ρ Qd Q R h k
  refine la B0 Z B H σ ρ _ _ R h fun x vx H1 ⟨B1, F, g, dx, n, f⟩ h1 => ?_
  split at h1
  · exact ⟨_, dx.1, k _ _ _ g h1⟩
  · exact h1.elim
def vAndT (ta tb : TTv) : TTv := fun ρ Q => ta ρ fun k => if k = true then tb ρ Q else Q false
def vOrT (ta tb : TTv) : TTv := fun ρ Q => ta ρ fun k => if k = true then Q true else tb ρ Q
def vNotT (ta : TTv) : TTv := fun ρ Q => ta ρ fun k => Q (!k)
theorem lk_andT {Ta Tb : TT} {ta tb : TTv} (la : LT Ta ta) (lb : LT Tb tb) : LT (tAnd Ta Tb) (vAndT ta tb) := by
  intro B0 Z B H σ ρ Qd Q R h k
  refine la B0 Z B H σ ρ _ _ R h fun c B1 H1 g h1 => ?_
  cases c with
  | true => rw [if_pos rfl] at h1 ⊢; exact lb B0 Z B1 H1 σ ρ _ _ (R.grow g) h1 fun c B2 H2 g2 q => k _ _ _ (g.trans g2) q
  | false => rw [if_neg Bool.false_ne_true] at h1 ⊢; exact k _ _ _ g h1
theorem lk_orT {Ta Tb : TT} {ta tb : TTv} (la : LT Ta ta) (lb : LT Tb tb) : LT (tOr Ta Tb) (vOrT ta tb) := by
  intro B0 Z B H σ ρ Qd Q R h k
  refine la B0 Z B H σ ρ _ _ R h fun c B1 H1 g h1 => ?_
  cases c with
  | true => rw [if_pos rfl] at h1 ⊢; exact k _ _ _ g h1
  | false => rw [if_neg Bool.false_ne_true] at h1 ⊢; exact lb B0 Z B1 H1 σ ρ _ _ (R.grow g) h1 fun c B2 H2 g2 q => k _ _ _ (g.trans g2) q
theorem lk_notT {Ta : TT} {ta : TTv} (la : LT Ta ta) : LT (tNot Ta) (vNotT ta) := by
  intro B0 Z B H σ ρ Qd Q R h k
  exact la B0 Z B H σ ρ _ _ R h fun c B1 H1 g h1 => k _ _ _ g h1
section
variable {X : Cx} {a b e : Expr} {rest : List Expr} {pos pos' : Pos} {Ta Tb : TE} {ta tb : TEv} {Tc Td : TT} {tc td : TTv}
theorem e_one {op} (ha : VE X a Ta ta) : VE X (.BoolOp op [a] pos) Ta ta := ⟨pe_one ha.pe, ha.lk⟩
theorem e_and (ha : VE X a Ta ta) (hb : VE X (.BoolOp .And (b :: rest) pos) Tb tb) : VE X (.BoolOp .And (a :: b :: rest) pos) (tAndV Ta Tb) (vAnd ta tb) := ⟨pe_and ha.pe hb.pe, lk_and ha.lk hb.lk⟩
theorem e_or (ha : VE X a Ta ta) (hb : VE X (.BoolOp .Or (b :: rest) pos) Tb tb) : VE X (.BoolOp .Or (a :: b :: rest) pos) (tOrV Ta Tb) (vOr ta tb) := ⟨pe_or ha.pe hb.pe, lk_or ha.lk hb.lk⟩
theorem e_not (ha : VE X a Ta ta) : VE X (.UnaryOp .Not a pos) (tNotV Ta) (vNot ta) := ⟨pe_not ha.pe, lk_not ha.lk⟩
theorem lk_val {Ta : TE} {ta : TEv} (la : LE Ta ta) : LT (tB Ta) (vTest ta) := by
  intro B0 Z B H σ ρ Qd Q R h k
  refine la B0 Z B H σ ρ _ _ R h fun x vx H1 ⟨B1, F, g, dx, n, f⟩ h1 => ?_
  split at h1
  · exact ⟨_, dx.1, k _ _ _ g h1⟩
  · exact h1.elim
/-- an expression that gives True or False, as a test -/
theorem t_val (ha : VE X a Ta ta) (he : ∀ whole, isTrue a X.env whole = (do let v ← whole; standAt a.pos; holding [v] (truthy v)) := by intro _; rfl) : VT X a (tB Ta) (vTest ta) := ⟨pt_val ha.pe he, lk_val ha.lk⟩
theorem t_cmp {op : CmpOp} {r : R2} {rv : RDv} (ho : OpR X (compareOp op) r) (lr : LR2 r rv) (ha : VE X a Ta ta) (hb : VE X b Tb tb) (hm : behindInMarks op b = false) : VT X (.Compare a [op] [b] pos) (tTest (tOp r Ta Tb)) (vTest (vOp rv ta tb)) := ⟨pt_cmpR ho ha.pe hb.pe hm, lk_test (lk_op lr ha.lk hb.lk)⟩
theorem t_lt (ha : VE X a Ta ta) (hb : VE X b Tb tb) : VT X (.Compare a [.Lt] [b] pos) (tTest (tOp (rI0 fun i j => .bl (decide (i < j))) Ta Tb)) (vTest (vOp dLt ta tb)) := t_cmp op_lt (lr_I0 fun _ _ _ _ _ => ⟨rfl, rfl⟩) ha hb (nomark _)
theorem t_le (ha : VE X a Ta ta) (hb : VE X b Tb tb) : VT X (.Compare a [.LtE] [b] pos) (tTest (tOp (rI0 fun i j => .bl (decide (i ≤ j))) Ta Tb)) (vTest (vOp dLe ta tb)) := t_cmp op_le (lr_I0 fun _ _ _ _ _ => ⟨rfl, rfl⟩) ha hb (nomark _)
theorem t_gt (ha : VE X a Ta ta) (hb : VE X b Tb tb) : VT X (.Compare a [.Gt] [b] pos) (tTest (tOp (rI0 fun i j => .bl (decide (j < i))) Ta Tb)) (vTest (vOp dGt ta tb)) := t_cmp op_gt (lr_I0 fun _ _ _ _ _ => ⟨rfl, rfl⟩) ha hb (nomark _)
theorem t_ge (ha : VE X a Ta ta) (hb : VE X b Tb tb) : VT X (.Compare a [.GtE] [b] pos) (tTest (tOp (rI0 fun i j => .bl (decide (j ≤ i))) Ta Tb)) (vTest (vOp dGe ta tb)) := t_cmp op_ge (lr_I0 fun _ _ _ _ _ => ⟨rfl, rfl⟩) ha hb (nomark _)
theorem t_eq {n : Nat} (hr : Room n X.A) (ha : VE X a Ta ta) (hb : VE X b Tb tb) (hK : X.K = KK.K := by rfl) : VT X (.Compare a [.Eq] [b] pos) (tTest (tOp rEqA Ta Tb)) (vTest (vOp dEq ta tb)) := by
  unfold rEqA
  rw [← hK]
  exact t_cmp (op_eq.or (op_eqD hr.units)) (by rw [hK]; exact lr_eqA) ha hb (nomark _)
theorem t_ne {n : Nat} (hr : Room n X.A) (ha : VE X a Ta ta) (hb : VE X b Tb tb) (hK : X.K = KK.K := by rfl) : VT X (.Compare a [.NotEq] [b] pos) (tTest (tOp rNeA Ta Tb)) (vTest (vOp dNe ta tb)) := by
  unfold rNeA
  rw [← hK]
  exact t_cmp (op_ne.or (op_neD hr.units)) (by rw [hK]; exact lr_neA) ha hb (nomark _)
theorem t_isN {j} (ha : VE X a Ta ta) : VT X (.Compare a [.Is] [.Constant .none j pos'] pos) (tTest (tOp (fun x y H Q => y = .non ∧ Q (.bl (decide (x = .non))) H) Ta (tC .non))) (vTest (vIsN false ta)) := ⟨pt_cmpR op_isN ha.pe pe_non (nomark _), lk_test (lk_isN ha.lk)⟩
theorem t_notN {j} (ha : VE X a Ta ta) : VT X (.Compare a [.IsNot] [.Constant .none j pos'] pos) (tTest (tOp (fun x y H Q => y = .non ∧ Q (.bl (!decide (x = .non))) H) Ta (tC .non))) (vTest (vIsN true ta)) := ⟨pt_cmpR op_notN ha.pe pe_non (nomark _), lk_test (lk_notN ha.lk)⟩
theorem w_andL (ha : VT X a Tc tc) : VW X (.BoolOp .And [a] pos) Tc tc := ⟨pw_and1 ha.pt, ha.lk⟩
theorem w_orL (ha : VT X a Tc tc) : VW X (.BoolOp .Or [a] pos) Tc tc := ⟨pw_or1 ha.pt, ha.lk⟩
theorem w_and (ha : VT X a Tc tc) (hb : VW X (.BoolOp .And (b :: rest) pos) Td td) : VW X (.BoolOp .And (a :: b :: rest) pos) (tAnd Tc Td) (vAndT tc td) := ⟨pw_and ha.pt hb.pw, lk_andT ha.lk hb.lk⟩
theorem w_or (ha : VT X a Tc tc) (hb : VW X (.BoolOp .Or (b :: rest) pos) Td td) : VW X (.BoolOp .Or (a :: b :: rest) pos) (tOr Tc Td) (vOrT tc td) := ⟨pw_or ha.pt hb.pw, lk_orT ha.lk hb.lk⟩
theorem t_w (h : VW X a Tc tc) : VT X a Tc tc := ⟨h.pw.pt, h.lk⟩
theorem t_not (ha : VT X a Tc tc) : VT X (.UnaryOp .Not a pos) (tNot Tc) (vNotT tc) := ⟨pt_not ha.pt, lk_notT ha.lk⟩
end
end VL

/-! ## VLF -/
/-! VL: arguments, displays, built-in functions, subscripts, attributes, calls. -/
namespace VL
open PySem PySem.Spec L2
open PyProof.Rows hiding St

variable [KK : KLs] [XX : XW]
/-! ### argument lists, displays -/
def vNil : TAv := fun _ Q => Q []
def vCons (ta : TEv) (tr : TAv) : TAv := fun ρ Q => ta ρ fun d => tr ρ fun ds => Q (d :: ds)
theorem lk_nil : LA tNil vNil := fun B0 Z B H σ ρ Qd Q R h k => k _ _ _ (Outs.nil R.sub) h
theorem lk_cons {Ta : TE} {ta : TEv} {Tr : TA} {tr : TAv} (la : LE Ta ta) (lr : LA Tr tr) : LA (tCons Ta Tr) (vCons ta tr) := by
  intro B0 Z B H σ ρ Qd Q R h k
  refine la B0 Z B H σ ρ _ _ R h fun x vx H1 ⟨B1, F, g, dx, n, f⟩ h1 => ?_
  exact lr B0 Z B1 H1 σ ρ _ _ (R.grow g) h1 fun ds vs H2 o q => k _ _ _ (Outs.cons g dx n f o) q
section
variable {X : Cx} {e : Expr} {es : List Expr} {pos : Pos} {Te : TE} {te : TEv} {T : TA} {t : TAv}
theorem a_nil : VA X [] tNil vNil := ⟨pa_nil, lk_nil⟩
theorem a_cons (ha : VE X e Te te) (hr : VA X es T t) (hs : starEach (e :: es) X.env = (false, eval e X.env) :: starEach es X.env := by rfl) : VA X (e :: es) (tCons Te T) (vCons te t) := ⟨pa_cons ha.pe hr.pa hs, lk_cons ha.lk hr.lk⟩
end
def vTup (t : TAv) : TEv := fun ρ Q => t ρ fun ds => ds.length ≤ 1000000 ∧ D.alls nbF ds = true ∧ Q (.tup ds)
def vLst (t : TAv) : TEv := fun ρ Q => t ρ fun ds => ds.length ≤ 1000000 ∧ D.alls nbF ds = true ∧ Q (.lst .o ds)
theorem million {n : Nat} (h : n ≤ 1000000) : n < sizeLine := Nat.lt_of_le_of_lt h (by decide)
section
variable {Z B H B1 H1 : Hp}
theorem out_tup {ds : List D} {vs : List V} {p : Addr} (h : Outs Z B H ds vs H1) (hp : H1 p = none) : Out Z B H (.tup ds) (.ref p) (upd H1 p (.tup vs)) := by
  obtain ⟨B1, F, g, q, n, f⟩ := h
  have g2 := Grow.fix (o := .tup vs) g.sub hp
  refine ⟨_, F, g.trans g2, ⟨p, _, vs, F, rfl, upd_same, rfl, Dens.grow g2.sb g2.sh ds vs F q, rfl⟩, n, fun a h => ?_⟩
  obtain ⟨o, e, nt⟩ := Dens.liveN ds vs F q a h
  exact ⟨g2.old a o e nt (f a h).1, (f a h).2⟩
theorem out_lst {ds : List D} {vs : List V} {p : Addr} (h : Outs Z B H ds vs H1) (hp : H1 p = none) : Out Z B H (.lst .o ds) (.ref p) (upd H1 p (.lst vs)) := by
  obtain ⟨B1, F, g, q, n, f⟩ := h
  have g2 := Grow.new (o := .lst vs) g.sub hp
  have ne : ∀ a ∈ F, a ≠ p := fun a h e => by
    obtain ⟨o, e'⟩ := Dens.live ds vs F q a h
    rw [e, hp] at e'
    cases e'
  refine ⟨B1, p :: F, g.trans g2, ⟨p, _, vs, F, rfl, upd_same, rfl, Dens.grow g2.sb g2.sh ds vs F q, rfl⟩, List.nodup_cons.mpr ⟨fun h => ne p h rfl, n⟩, fun a h => ?_⟩
  rcases List.mem_cons.mp h with e | h
  · subst e
    exact ⟨g.sub.free hp, g.sh.free hp⟩
  · exact f a h
end
theorem Outs.len {Z B H H' : Hp} {ds : List D} {vs : List V} (h : Outs Z B H ds vs H') : ds.length = vs.length := let ⟨_, _, _, q, _⟩ := h; q.len
theorem lk_tup {T : TA} {t : TAv} (l : LA T t) : LE (tTup T) (vTup t) := by
  intro B0 Z B H σ ρ Qd Q R h k
  refine l B0 Z B H σ ρ _ _ R h fun ds vs H1 o q => ⟨Nat.le_of_lt (million (by rw [← o.len]; exact q.1)), fun p hp => k _ _ _ (out_tup o hp) q.2.2⟩
theorem lk_lst {T : TA} {t : TAv} (l : LA T t) : LE (tLst T) (vLst t) := by
  intro B0 Z B H σ ρ Qd Q R h k
  refine l B0 Z B H σ ρ _ _ R h fun ds vs H1 o q => ⟨Nat.le_of_lt (million (by rw [← o.len]; exact q.1)), fun p hp => k _ _ _ (out_lst o hp) q.2.2⟩
section
variable {X : Cx} {e : Expr} {es : List Expr} {pos : Pos} {T : TA} {t : TAv}
theorem e_tup {x1} (h : VA X es T t) : VE X (.Tuple es x1 pos) (tTup T) (vTup t) := ⟨pe_tup h.pa, lk_tup h.lk⟩
theorem e_lst (h : VA X es T t) : VE X (.List es pos) (tLst T) (vLst t) := ⟨pe_lst h.pa, lk_lst h.lk⟩
end

/-! ### built-in functions -/
abbrev RNv := List D → (D → Prop) → Prop
def LRn (r : List V → Hp → VK → Prop) (rv : RNv) : Prop := ∀ (B0 Z B H : Hp) (σ : L2.St) (ρ : Env) (ds : List D) (vs : List V) (F : List Addr) (Qd : D → Prop) (Q : VK), Rep B0 Z B H σ ρ → Dens Z B H ds vs F → rv ds Qd → (∀ d v H', Out Z B H d v H' → Qd d → Q v H') → r vs H Q
def vB (r : RNv) (t : TAv) : TEv := fun ρ Q => t ρ fun ds => r ds Q
theorem lk_cb {r : List V → Hp → VK → Prop} {rv : RNv} {T : TA} {t : TAv} (lr : LRn r rv) (l : LA T t) : LE (tCB r T) (vB rv t) := by
  intro B0 Z B H σ ρ Qd Q R h k
  refine l B0 Z B H σ ρ _ _ R h fun ds vs H1 ⟨B1, F, g, q, n, f⟩ h1 => ?_
  exact lr B0 Z B1 H1 σ ρ ds vs F Qd Q (R.grow g) q h1 fun d v H2 o q => k _ _ _ (o.after g) q
section
variable {X : Cx} {x : Str} {p pos : Pos} {e : Expr} {es : List Expr} {T : TA} {t : TAv} {id tn : String} {r : List V → Hp → VK → Prop} {rv : RNv}
theorem e_callB (hc : CallR X (.builtin id) r) (lr : LRn r rv) (hg : Gl X x) (hm : X.mg x = none) (hv : bootBuiltins x = some (.builtin id)) (ha : VA X (e :: es) T t) (hn : x ≠ "__name__" := by decide) (hdb : (x == ("__debug__" : Str)) = false := by decide)
    (he : starEach (e :: es) X.env = (false, eval e X.env) :: starEach es X.env := by rfl) (hpl : (backTo pos (starEach es X.env)).any (·.1) = false := by rfl) : VE X (.Call (.Name x p) (e :: es) [] pos) (tCB r T) (vB rv t) :=
  ⟨pe_callB hc hg hm hv ha.pa hn hdb he hpl, lk_cb lr ha.lk⟩
theorem e_callTy (hc : CallR X (.type tn) r) (lr : LRn r rv) (hg : Gl X x) (hm : X.mg x = none) (hv : bootBuiltins x = some (.type tn)) (ha : VA X (e :: es) T t) (hn : x ≠ "__name__" := by decide) (hdb : (x == ("__debug__" : Str)) = false := by decide)
    (he : starEach (e :: es) X.env = (false, eval e X.env) :: starEach es X.env := by rfl) (hpl : (backTo pos (starEach es X.env)).any (·.1) = false := by rfl) : VE X (.Call (.Name x p) (e :: es) [] pos) (tCB r T) (vB rv t) :=
  ⟨pe_callTy hc hg hm hv ha.pa hn hdb he hpl, lk_cb lr ha.lk⟩
end
/-- max, min of two ints -/
def dMax2 : RNv := fun ds Q => match ds with
  | [.int i, .int j] => Q (.int (max i j))
  | _ => False
def dMin2 : RNv := fun ds Q => match ds with
  | [.int i, .int j] => Q (.int (min i j))
  | _ => False
section
variable {Z B H : Hp}
theorem dens_int1 {i : Int} {vs : List V} {F : List Addr} (h : Dens Z B H [.int i] vs F) : vs = [.int i] := by
  obtain ⟨v, ws, G1, G2, e, x, q, f⟩ := h
  rw [e, q.1, x.1]
theorem dens_int2 {i j : Int} {vs : List V} {F : List Addr} (h : Dens Z B H [.int i, .int j] vs F) : vs = [.int i, .int j] := by
  obtain ⟨v, ws, G1, G2, e, x, q, f⟩ := h
  rw [e, dens_int1 q, x.1]
theorem dens_one {d : D} {vs : List V} {F : List Addr} (h : Dens Z B H [d] vs F) : ∃ v, vs = [v] ∧ Den Z B H d v F := by
  obtain ⟨v, ws, G1, G2, e, x, q, f⟩ := h
  refine ⟨v, by rw [e, q.1], ?_⟩
  rw [f, q.2, List.append_nil]
  exact x
theorem dens_two {d e : D} {vs : List V} {F : List Addr} (h : Dens Z B H [d, e] vs F) : ∃ v w G1 G2, vs = [v, w] ∧ Den Z B H d v G1 ∧ Den Z B H e w G2 ∧ F = G1 ++ G2 := by
  obtain ⟨v, ws, G1, G2, e, x, q, f⟩ := h
  obtain ⟨w, e2, y⟩ := dens_one q
  exact ⟨v, w, G1, G2, by rw [e, e2], x, y, f⟩
end
theorem lr_max2 : LRn (fun xs H Q => ∃ i j, xs = [.int i, .int j] ∧ Q (.int (if j > i then j else i)) H) dMax2 := by
  intro B0 Z B H σ ρ ds vs F Qd Q R q h k
  unfold dMax2 at h
  split at h
  · rename_i i j
    refine ⟨_, _, dens_int2 q, k _ _ _ (Out.of R.sub ?_) h⟩
    have e : max i j = if j > i then j else i := by split <;> omega
    rw [e]
    exact den_int
  · exact h.elim
theorem lr_min2 : LRn (fun xs H Q => ∃ i j, xs = [.int i, .int j] ∧ Q (.int (if j < i then j else i)) H) dMin2 := by
  intro B0 Z B H σ ρ ds vs F Qd Q R q h k
  unfold dMin2 at h
  split at h
  · rename_i i j
    refine ⟨_, _, dens_int2 q, k _ _ _ (Out.of R.sub ?_) h⟩
    have e : min i j = if j < i then j else i := by split <;> omega
    rw [e]
    exact den_int
  · exact h.elim
def dInt1 : RNv := fun ds Q => match ds with
  | [.int i] => Q (.int i)
  | [.bl k] => Q (.int (if k then 1 else 0))
  | _ => False
theorem lr_int1 : LRn (fun xs H Q => (∃ i, xs = [.int i] ∧ Q (.int i) H) ∨ ∃ k, xs = [.bl k] ∧ Q (.int (if k then 1 else 0)) H) dInt1 := by
  intro B0 Z B H σ ρ ds vs F Qd Q R q h k
  unfold dInt1 at h
  split at h
  · obtain ⟨v, e, x⟩ := dens_one q
    exact .inl ⟨_, by rw [e, x.1], k _ _ _ (Out.of R.sub den_int) h⟩
  · obtain ⟨v, e, x⟩ := dens_one q
    exact .inr ⟨_, by rw [e, x.1], k _ _ _ (Out.of R.sub den_int) h⟩
  · exact h.elim
/-- len -/
def D.seq : D → Option (List D)
  | .nd .tup xs => some xs
  | .nd (.lst _) xs => some xs
  | _ => none
def dLen : RNv := fun ds Q => match ds with
  | [.nd .tup xs] => Q (.int xs.length)
  | [.nd (.lst _) xs] => Q (.int xs.length)
  | [.str z] => z.length ≤ 1000000 ∧ Q (.int z.length)
  | _ => False
section
variable {Z B H : Hp}
theorem den_lst {f : Fl} {xs : List D} {v : V} {F : List Addr} (s : Same B H) (h : Den Z B H (.lst f xs) v F) : ∃ a vs G, v = .ref a ∧ SqL KK.K H a vs ∧ Dens Z B H xs vs G ∧ F = fp f.ls a G := by
  obtain ⟨a, o, vs, G, e, x, c, q, f'⟩ := h
  have c : o = .lst vs := c
  subst c
  exact ⟨a, vs, G, e, At.sql s (ls_ne f) x, q, f'⟩
theorem den_tup {xs : List D} {v : V} {F : List Addr} (s : Same B H) (h : Den Z B H (.tup xs) v F) : ∃ a vs, v = .ref a ∧ H a = some (.tup vs) ∧ B a = some (.tup vs) ∧ Dens Z B H xs vs F := by
  obtain ⟨a, o, vs, G, e, x, c, q, f'⟩ := h
  have c : o = .tup vs := c
  subst c
  have f' : F = G := f'
  subst f'
  exact ⟨a, vs, e, s _ _ x, x, q⟩
end
theorem lr_len : LRn (fun xs H Q => ∃ x n, xs = [x] ∧ LenV KK.K x H n ∧ Q (.int n) H) dLen := by
  intro B0 Z B H σ ρ ds vs F Qd Q R q h k
  unfold dLen at h
  split at h
  · obtain ⟨v, e, x⟩ := dens_one q
    obtain ⟨a, ws, e2, t, _, y⟩ := den_tup R.sub x
    subst e2
    rw [y.len] at h
    exact ⟨_, _, e, .inr ⟨ws, SqT.of t, rfl⟩, k _ _ _ (Out.of R.sub den_int) h⟩
  · obtain ⟨v, e, x⟩ := dens_one q
    obtain ⟨a, ws, G, e2, t, y, _⟩ := den_lst R.sub x
    subst e2
    rw [y.len] at h
    exact ⟨_, _, e, .inl ⟨ws, t, rfl⟩, k _ _ _ (Out.of R.sub den_int) h⟩
  · obtain ⟨v, e, x⟩ := dens_one q
    rename_i z
    have e3 : v = .str z := x.1
    subst e3
    exact ⟨_, _, e, ⟨Nat.le_of_lt (million h.1), rfl⟩, k _ _ _ (Out.of R.sub den_int) h.2⟩
  · exact h.elim
/-- list(x), tuple(x): the items are copied, so no list of them may be an own one -/
def coF : Fl → Bool | .o => false | .c _ => false | .b => false | .d => false | _ => true
def dList : RNv := fun ds Q => match ds with
  | [.nd .tup xs] => D.alls coF xs = true ∧ Q (.lst .o xs)
  | [.nd (.lst _) xs] => D.alls coF xs = true ∧ Q (.lst .o xs)
  | _ => False
def dTuple : RNv := fun ds Q => match ds with
  | [.nd .tup xs] => D.alls coF xs = true ∧ Q (.tup xs)
  | [.nd (.lst _) xs] => D.alls coF xs = true ∧ Q (.tup xs)
  | _ => False
section
variable {Z B H : Hp}
mutual
theorem Den.nofp : ∀ (d : D) (v : V) (F : List Addr), d.all coF = true → Den Z B H d v F → F = []
  | .non, _, _, _, h => h.2
  | .bl _, _, _, _, h => h.2
  | .int _, _, _, _, h => h.2
  | .str _, _, _, _, h => h.2
  | .cst _, _, _, _, h => h.2
  | .nd h ds, _, _, n, ⟨a, o, vs, G, e, x, c, q, f⟩ => by
    have n' : coF h.fl = true ∧ D.alls coF ds = true := by simpa [D.all] using n
    rw [f, Dens.nofp ds vs G n'.2 q]
    revert n'
    cases h.fl <;> intro n' <;> first | rfl | exact nomatch n'.1
theorem Dens.nofp : ∀ (ds : List D) (vs : List V) (F : List Addr), D.alls coF ds = true → Dens Z B H ds vs F → F = []
  | [], _, _, _, h => h.2
  | d :: ds, _, _, n, ⟨v, ws, G1, G2, e, x, q, f⟩ => by
    have n' : d.all coF = true ∧ D.alls coF ds = true := by simpa [D.alls] using n
    rw [f, Den.nofp d v G1 n'.1 x, Dens.nofp ds ws G2 n'.2 q]
    rfl
end
theorem Outs.of {ds : List D} {vs : List V} {F : List Addr} (s : Same B H) (n : D.alls coF ds = true) (h : Dens Z B H ds vs F) : Outs Z B H ds vs H := by
  have e := Dens.nofp ds vs F n h
  subst e
  exact ⟨B, [], Grow.refl s, h, List.nodup_nil, fun a h => nomatch h⟩
end
theorem lr_list : LRn (fun xs H Q => ∃ p ys, xs = [.ref p] ∧ (SqL KK.K H p ys ∨ SqT KK.K H p ys) ∧ ∀ l, H l = none → Q (.ref l) (upd H l (.lst ys))) dList := by
  intro B0 Z B H σ ρ ds vs F Qd Q R q h k
  unfold dList at h
  split at h
  · obtain ⟨v, e, x⟩ := dens_one q
    obtain ⟨a, ws, e2, t, _, y⟩ := den_tup R.sub x
    subst e2
    exact ⟨a, ws, e, .inr (SqT.of t), fun l hl => k _ _ _ (out_lst (Outs.of R.sub h.1 y) hl) h.2⟩
  · obtain ⟨v, e, x⟩ := dens_one q
    obtain ⟨a, ws, G, e2, t, y, _⟩ := den_lst R.sub x
    subst e2
    exact ⟨a, ws, e, .inl t, fun l hl => k _ _ _ (out_lst (Outs.of R.sub h.1 y) hl) h.2⟩
  · exact h.elim
/-- (a tuple is itself) -/
theorem lr_tuple : LRn (fun xs H Q => ∃ p ys, xs = [.ref p] ∧ ((SqL KK.K H p ys ∧ ∀ l, H l = none → Q (.ref l) (upd H l (.tup ys))) ∨ (SqT KK.K H p ys ∧ Q (.ref p) H))) dTuple := by
  intro B0 Z B H σ ρ ds vs F Qd Q R q h k
  unfold dTuple at h
  split at h
  · obtain ⟨v, e, x⟩ := dens_one q
    obtain ⟨a, ws, e2, t, tb, y⟩ := den_tup R.sub x
    subst e2
    have ef := Dens.nofp _ _ _ h.1 y
    subst ef
    exact ⟨a, ws, e, .inr ⟨SqT.of t, k (.tup _) _ _ (Out.of R.sub ⟨a, _, ws, [], rfl, tb, rfl, y, rfl⟩) h.2⟩⟩
  · obtain ⟨v, e, x⟩ := dens_one q
    obtain ⟨a, ws, G, e2, t, y, _⟩ := den_lst R.sub x
    subst e2
    exact ⟨a, ws, e, .inl ⟨t, fun l hl => k _ _ _ (out_tup (Outs.of R.sub h.1 y) hl) h.2⟩⟩
  · exact h.elim
/-- sum of ints -/
def ints? : List D → Option (List Int)
  | [] => some []
  | .int i :: ds => (ints? ds).map (i :: ·)
  | _ :: _ => none
theorem ints_of : ∀ {ds : List D} {ns : List Int}, ints? ds = some ns → ds = ns.map D.int
  | [], ns, h => by cases h; rfl
  | .int i :: ds, ns, h => by
    cases e : ints? ds with
    | none => simp [ints?, e] at h
    | some ms => simp [ints?, e] at h; subst h; rw [ints_of e]; rfl
  | .non :: ds, ns, h => nomatch h
  | .bl _ :: ds, ns, h => nomatch h
  | .str _ :: ds, ns, h => nomatch h
  | .cst _ :: ds, ns, h => nomatch h
  | .nd _ _ :: ds, ns, h => nomatch h
theorem ints_map : ∀ ns : List Int, ints? (ns.map D.int) = some ns
  | [] => rfl
  | n :: ns => by simp [ints?, ints_map ns]
section
variable {Z B H : Hp}
theorem dens_ints : ∀ {ns : List Int} {vs : List V} {F : List Addr}, Dens Z B H (ns.map D.int) vs F → vs = ns.map V.int
  | [], _, _, h => h.1
  | n :: ns, _, _, ⟨v, ws, G1, G2, e, x, q, f⟩ => by rw [e, x.1, dens_ints q]; rfl
end
def dSum : RNv := fun ds Q => match ds with
  | [.nd (.lst _) xs] => match ints? xs with
    | some ns => Q (.int ns.sum)
    | none => False
  | _ => False
theorem lr_sum : LRn (rSum KK.K) dSum := by
  intro B0 Z B H σ ρ ds vs F Qd Q R q h k
  unfold dSum at h
  split at h
  · split at h
    · rename_i f xs ns e
      obtain ⟨v, e1, x⟩ := dens_one q
      obtain ⟨a, ws, G, e2, t, y, _⟩ := den_lst R.sub x
      subst e2
      rw [ints_of e] at y
      rw [dens_ints y] at t
      exact ⟨a, ns, e1, t, k _ _ _ (Out.of R.sub den_int) h⟩
    · exact h.elim
  · exact h.elim
/-- max, min of a list of ints -/
def dMaxL : RNv := fun ds Q => match ds with
  | [.nd (.lst _) xs] => match ints? xs with
    | some ns => 0 < ns.length ∧ ∀ m, m ∈ ns → (∀ y, y ∈ ns → y ≤ m) → Q (.int m)
    | none => False
  | _ => False
theorem lr_maxL : LRn (rMax KK.K) dMaxL := by
  intro B0 Z B H σ ρ ds vs F Qd Q R q h k
  unfold dMaxL at h
  split at h
  · split at h
    · rename_i f xs ns e
      obtain ⟨v, e1, x⟩ := dens_one q
      obtain ⟨a, ws, G, e2, t, y, _⟩ := den_lst R.sub x
      subst e2
      rw [ints_of e] at y
      rw [dens_ints y] at t
      exact ⟨a, ns, e1, t, h.1, fun m h1 h2 => k _ _ _ (Out.of R.sub den_int) (h.2 m h1 h2)⟩
    · exact h.elim
  · exact h.elim
/-- isinstance(x, T), T a built-in type -/
def D.ty : D → String
  | .non => "NoneType" | .bl _ => "bool" | .int _ => "int" | .str _ => "str" | .cst _ => "?"
  | .nd .tup _ => "tuple" | .nd (.lst _) _ => "list" | .nd (.dct _ _) _ => "dict" | .nd (.dtt _ _) _ => "?" | .nd (.obj _ _) _ => "?" | .nd (.slf _ _ _) _ => "?" | .nd (.lsk _) _ => "?"
def tySub (a b : String) : Bool := a == b || (a == "bool" && b == "int")
def tyNames : List String := ["NoneType", "bool", "int", "str", "tuple", "list", "dict"]
def dIsi (n : String) : RNv := fun ds Q => match ds with
  | [.cst _, _] => False
  | [.nd (.obj _ _) _, _] => False
  | [.nd (.slf _ _ _) _, _] => False
  | [.nd (.dtt _ _) _, _] => False
  | [.nd (.lsk _) _, _] => False
  | [d, .cst (.ty m)] => m = n ∧ Q (.bl (tySub d.ty n))
  | _ => False
section
variable {Z B H : Hp}
theorem den_tyx {d : D} {v : V} {F : List Addr} (s : Same B H) (h : Den Z B H d v F) (n : d.ty ≠ "?") : TyX KK.K H v (.type d.ty) := by
  cases d with
  | non => rw [h.1]; exact .base .non
  | bl b => rw [h.1]; exact .base (.bl b)
  | int i => rw [h.1]; exact .base (.int i)
  | str x => rw [h.1]; exact .base (.str x)
  | cst u => exact absurd rfl n
  | nd hd xs =>
    obtain ⟨a, o, vs, G, e, x, c, q, f⟩ := h
    subst e
    cases hd with
    | tup =>
      have c : o = .tup vs := c
      subst c
      exact .base (.tup (s _ _ x))
    | lst f =>
      have c : o = .lst vs := c
      subst c
      rcases At.rd s (ls_ne _) x with (y | ⟨ob, y⟩) | ⟨xs, _, o, its, n, y, c, _⟩
      · exact .base (.lst y)
      · exact .base (.frz y)
      · exact .kList y c
    | dct f ks =>
      have c : o = .dK (ks.zip vs) := c.2
      subst c
      rcases At.rd s (ls_ne _) x with (y | ⟨ob, y⟩) | ⟨xs, e, _⟩
      · exact .base (.dK y)
      · exact .fDict y
      · cases e
    | dtt f ks => exact absurd rfl n
    | obj C ns => exact absurd rfl n
    | slf f C ns => exact absurd rfl n
    | lsk f => exact absurd rfl n
theorem ty_mem {d : D} (n : d.ty ≠ "?") : d.ty ∈ tyNames := by
  cases d with
  | nd hd xs => cases hd <;> first | exact absurd rfl n | (simp [D.ty, tyNames])
  | cst u => exact absurd rfl n
  | _ => simp [D.ty, tyNames]
end
theorem lr_isi {n : String} (hn : ∀ t ∈ tyNames, kitB t n = some (tySub t n)) : LRn (rIsi KK.K) (dIsi n) := by
  intro B0 Z B H σ ρ ds vs F Qd Q R q h k
  unfold dIsi at h
  split at h
  · exact h.elim
  · exact h.elim
  · exact h.elim
  · exact h.elim
  · exact h.elim
  · rename_i d m h1 h2 h3 h4 h5
    obtain ⟨v, w, G1, G2, e, x, y, _⟩ := dens_two q
    have y : w = .ty m := y.1
    subst y
    obtain ⟨rfl, h⟩ := h
    have nq : d.ty ≠ "?" := by
      cases d with
      | nd hd xs =>
        cases hd with
        | obj C ns => exact fun _ => h2 _ _ _ rfl
        | slf f C ns => exact fun _ => h3 _ _ _ _ rfl
        | tup => show "tuple" ≠ "?"; decide
        | lst f => show "list" ≠ "?"; decide
        | dct f ks => show "dict" ≠ "?"; decide
        | dtt f ks => exact fun _ => h4 _ _ _ rfl
        | lsk f => exact fun _ => h5 _ _ rfl
      | cst u => exact fun _ => h1 _ rfl
      | non => decide
      | bl b => show "bool" ≠ "?"; decide
      | int i => show "int" ≠ "?"; decide
      | str x => show "str" ≠ "?"; decide
    refine ⟨v, _, _, _, _, e, .ty m, den_tyx R.sub x nq, kit_ty (hn _ (ty_mem nq)), k _ _ _ (Out.of R.sub den_bl) h⟩
  · exact h.elim
section
variable {X : Cx} {x : Str} {pos : Pos} {v : V} {u : Value}
theorem e_bltn {x : Str} {pos : Pos} {n : String} (hm : X.mg x = none) (hv : bootBuiltins x = some (.type n)) (hg : Gl X x := by rfl) (hn : x ≠ "__name__" := by decide) (hd : (x == ("__debug__" : Str)) = false := by decide) : VE X (.Name x pos) (tC (.ty n)) (vC (.cst (.ty n))) :=
  ⟨pe_bltn hg hm hv (r := (rfl : RelV (.ty n) (.type n))) hn hd, lk_c fun _ _ _ => den_cst⟩
end
section
variable {X : Cx} {p pos : Pos} {e e2 : Expr} {es : List Expr} {T : TA} {t : TAv}
def rLen (K : PySem.W.Frag) : List V → Hp → VK → Prop := fun xs H Q => ∃ x n, xs = [x] ∧ LenV K x H n ∧ Q (.int n) H
def rListOf (K : PySem.W.Frag) : List V → Hp → VK → Prop := fun xs H Q => ∃ p ys, xs = [.ref p] ∧ (SqL K H p ys ∨ SqT K H p ys) ∧ ∀ l, H l = none → Q (.ref l) (upd H l (.lst ys))
def rTupOf (K : PySem.W.Frag) : List V → Hp → VK → Prop := fun xs H Q => ∃ p ys, xs = [.ref p] ∧ ((SqL K H p ys ∧ ∀ l, H l = none → Q (.ref l) (upd H l (.tup ys))) ∨ (SqT K H p ys ∧ Q (.ref p) H))
def rMax2 : List V → Hp → VK → Prop := fun xs H Q => ∃ i j, xs = [.int i, .int j] ∧ Q (.int (if j > i then j else i)) H
def rMin2 : List V → Hp → VK → Prop := fun xs H Q => ∃ i j, xs = [.int i, .int j] ∧ Q (.int (if j < i then j else i)) H
def rInt1 : List V → Hp → VK → Prop := fun xs H Q => (∃ i, xs = [.int i] ∧ Q (.int i) H) ∨ ∃ k, xs = [.bl k] ∧ Q (.int (if k then 1 else 0)) H
abbrev St1 (X : Cx) (e : Expr) (es : List Expr) (pos : Pos) : Prop := starEach (e :: es) X.env = (false, eval e X.env) :: starEach es X.env ∧ (backTo pos (starEach es X.env)).any (·.1) = false
theorem e_len (hm : X.mg "len" = none) (ha : VA X (e :: es) T t) (hg : Gl X "len" := by rfl) (hs : St1 X e es pos := by exact ⟨rfl, rfl⟩) (hK : X.K = KK.K := by rfl) : VE X (.Call (.Name "len" p) (e :: es) [] pos) (tCB (rLen KK.K) T) (vB dLen t) := by
  rw [← hK]
  exact e_callB (r := rLen X.K) call_len (by rw [hK]; exact lr_len) hg hm PySem.boot_len ha (by decide) (by decide) hs.1 hs.2
theorem e_list (hm : X.mg "list" = none) (ha : VA X (e :: es) T t) (hg : Gl X "list" := by rfl) (hs : St1 X e es pos := by exact ⟨rfl, rfl⟩) (hK : X.K = KK.K := by rfl) : VE X (.Call (.Name "list" p) (e :: es) [] pos) (tCB (rListOf KK.K) T) (vB dList t) := by
  rw [← hK]
  exact e_callTy (r := rListOf X.K) call_list_of (by rw [hK]; exact lr_list) hg hm (by decide +kernel) ha (by decide) (by decide) hs.1 hs.2
theorem e_tuple (hm : X.mg "tuple" = none) (ha : VA X (e :: es) T t) (hg : Gl X "tuple" := by rfl) (hs : St1 X e es pos := by exact ⟨rfl, rfl⟩) (hK : X.K = KK.K := by rfl) : VE X (.Call (.Name "tuple" p) (e :: es) [] pos) (tCB (rTupOf KK.K) T) (vB dTuple t) := by
  rw [← hK]
  exact e_callTy (r := rTupOf X.K) call_tuple_of (by rw [hK]; exact lr_tuple) hg hm (by decide +kernel) ha (by decide) (by decide) hs.1 hs.2
theorem e_sum (hc : X.calm = true) (hm : X.mg "sum" = none) (ha : VA X (e :: es) T t) (hg : Gl X "sum" := by rfl) (hs : St1 X e es pos := by exact ⟨rfl, rfl⟩) (hK : X.K = KK.K := by rfl) : VE X (.Call (.Name "sum" p) (e :: es) [] pos) (tCB (rSum KK.K) T) (vB dSum t) := by
  rw [← hK]
  exact e_callB (cr_sum hc) (by rw [hK]; exact lr_sum) hg hm (by decide +kernel) ha (by decide) (by decide) hs.1 hs.2
theorem e_maxL (hc : X.calm = true) (hm : X.mg "max" = none) (ha : VA X (e :: es) T t) (hg : Gl X "max" := by rfl) (hs : St1 X e es pos := by exact ⟨rfl, rfl⟩) (hK : X.K = KK.K := by rfl) : VE X (.Call (.Name "max" p) (e :: es) [] pos) (tCB (rMax KK.K) T) (vB dMaxL t) := by
  rw [← hK]
  exact e_callB (cr_max hc) (by rw [hK]; exact lr_maxL) hg hm (by decide +kernel) ha (by decide) (by decide) hs.1 hs.2
theorem e_max2 (hc : X.calm = true) (hm : X.mg "max" = none) (ha : VA X (e :: es) T t) (hg : Gl X "max" := by rfl) (hs : St1 X e es pos := by exact ⟨rfl, rfl⟩) : VE X (.Call (.Name "max" p) (e :: es) [] pos) (tCB rMax2 T) (vB dMax2 t) :=
  e_callB (call_max2 hc) lr_max2 hg hm (by decide +kernel) ha (by decide) (by decide) hs.1 hs.2
theorem e_min2 (hc : X.calm = true) (hm : X.mg "min" = none) (ha : VA X (e :: es) T t) (hg : Gl X "min" := by rfl) (hs : St1 X e es pos := by exact ⟨rfl, rfl⟩) : VE X (.Call (.Name "min" p) (e :: es) [] pos) (tCB rMin2 T) (vB dMin2 t) :=
  e_callB (call_min2 hc) lr_min2 hg hm (by decide +kernel) ha (by decide) (by decide) hs.1 hs.2
theorem e_int1 (hm : X.mg "int" = none) (ha : VA X (e :: es) T t) (hg : Gl X "int" := by rfl) (hs : St1 X e es pos := by exact ⟨rfl, rfl⟩) : VE X (.Call (.Name "int" p) (e :: es) [] pos) (tCB rInt1 T) (vB dInt1 t) :=
  e_callTy call_int1 lr_int1 hg hm (by decide +kernel) ha (by decide) (by decide) hs.1 hs.2
theorem kit_int : ∀ t ∈ tyNames, kitB t "int" = some (tySub t "int") := by decide +kernel
theorem kit_bool : ∀ t ∈ tyNames, kitB t "bool" = some (tySub t "bool") := by decide +kernel
theorem kit_tuple : ∀ t ∈ tyNames, kitB t "tuple" = some (tySub t "tuple") := by decide +kernel
theorem kit_list : ∀ t ∈ tyNames, kitB t "list" = some (tySub t "list") := by decide +kernel
theorem kit_str : ∀ t ∈ tyNames, kitB t "str" = some (tySub t "str") := by decide +kernel
theorem e_isi {n : String} (hn : ∀ t ∈ tyNames, kitB t n = some (tySub t n)) (hm : X.mg "isinstance" = none) (ha : VA X (e :: es) T t) (hg : Gl X "isinstance" := by rfl) (hs : St1 X e es pos := by exact ⟨rfl, rfl⟩) (hK : X.K = KK.K := by rfl) : VE X (.Call (.Name "isinstance" p) (e :: es) [] pos) (tCB (rIsi KK.K) T) (vB (dIsi n) t) := by
  rw [← hK]
  exact e_callB call_isi (by rw [hK]; exact lr_isi hn) hg hm (by decide +kernel) ha (by decide) (by decide) hs.1 hs.2
end
end VL

/-! ## VLG -/
/-! VL: +, subscripts, attributes, calls of defs, what is walked, comprehensions. -/
namespace VL
open PySem PySem.Spec L2
open PyProof.Rows hiding St

/-! ### + -/
variable [KK : KLs] [XX : XW]
def nsF : Fl → Bool | .s => false | _ => true
def dAdd : RDv := fun x y Q => match x, y with
  | .int i, .int j => Q (.int (i + j))
  | .nd (.lst f) xs, .nd (.lst g) ys => nsF f.ls = true ∧ nsF g.ls = true ∧ xs.length + ys.length ≤ 1000000 ∧ D.alls coF xs = true ∧ D.alls coF ys = true ∧ Q (.lst .o (xs ++ ys))
  | .nd .tup xs, .nd .tup ys => xs.length + ys.length ≤ 1000000 ∧ D.alls coF xs = true ∧ D.alls coF ys = true ∧ Q (.tup (xs ++ ys))
  | .str s, .str t => s.length + t.length ≤ 1000000 ∧ Q (.str (s ++ t))
  | _, _ => False
def rStrCat : R2 := fun x y H Q => ∃ i j, x = .str i ∧ y = .str j ∧ i.length + j.length ≤ sizeLine ∧ Q (.str (i ++ j)) H
def rAddA : R2 := fun x y H Q => rI0 (fun i j => .int (i + j)) x y H Q ∨ (rCat x y H Q ∨ (rCatA KK.K x y H Q ∨ rStrCat x y H Q))
section
variable {Z B H : Hp}
/-- a list that is no locked one stands as a list -/
theorem den_lst' {f : Fl} {xs : List D} {v : V} {F : List Addr} (s : Same B H) (n : nsF f.ls = true) (h : Den Z B H (.lst f xs) v F) : ∃ a vs G, v = .ref a ∧ H a = some (.lst vs) ∧ Dens Z B H xs vs G ∧ F = fp f.ls a G ∧ At Z B H f.ls a (.lst vs) := by
  obtain ⟨a, o, vs, G, e, x, c, q, f'⟩ := h
  have c : o = .lst vs := c
  subst c
  refine ⟨a, vs, G, e, ?_, q, f', x⟩
  have x : At Z B H f.ls a (.lst vs) := x
  revert x n
  have nx := ls_ne f
  revert nx
  cases f.ls <;> intro nx n x
  · exact s _ _ x
  · exact nomatch n
  · exact s _ _ x
  · exact s _ _ x.1
  · exact x
  · exact x
  · exact x.1
  · exact x
  · exact absurd rfl nx
end
theorem lr_add : LR2 rAddA dAdd := by
  intro B0 Z B H σ ρ x y vx vy F G Qd Q R dx dy h k
  unfold dAdd at h
  split at h
  · exact .inl ⟨_, _, dx.1, dy.1, k _ _ _ (Out.of R.sub den_int) h⟩
  · obtain ⟨n1, n2, hl, c1, c2, q⟩ := h
    obtain ⟨a, us, G1, e1, t1, y1, _⟩ := den_lst' R.sub n1 dx
    obtain ⟨b, ws, G2, e2, t2, y2, _⟩ := den_lst' R.sub n2 dy
    refine .inr (.inl ⟨a, b, us, ws, e1, e2, t1, t2, by rw [← y1.len, ← y2.len]; exact Nat.le_of_lt (million hl), fun p hp => k _ _ _ (out_lst ?_ hp) q⟩)
    have f1 := Dens.nofp _ _ _ c1 y1
    have f2 := Dens.nofp _ _ _ c2 y2
    subst f1 f2
    exact ⟨B, [], Grow.refl R.sub, y1.app y2, List.nodup_nil, fun a h => nomatch h⟩
  · obtain ⟨hl, c1, c2, q⟩ := h
    rename_i xs ys
    obtain ⟨a, us, e1, t1, b1, y1⟩ := den_tup R.sub dx
    obtain ⟨b, ws, e2, t2, b2, y2⟩ := den_tup R.sub dy
    have f1 := Dens.nofp _ _ _ c1 y1
    have f2 := Dens.nofp _ _ _ c2 y2
    subst f1 f2
    refine .inr (.inr (.inl ⟨a, b, us, ws, e1, e2, SqT.of t1, SqT.of t2, by rw [← y1.len, ← y2.len]; exact Nat.le_of_lt (million hl), fun z => ?_, fun z z2 => ?_, fun z z2 p hp => k _ _ _ (out_tup ?_ hp) q⟩))
    · have ex : xs = [] := List.eq_nil_of_length_eq_zero (by rw [y1.len, z]; rfl)
      rw [ex, List.nil_append] at q
      rw [e2] at dy
      exact k _ _ _ (Out.of R.sub dy) q
    · have ey : ys = [] := List.eq_nil_of_length_eq_zero (by rw [y2.len, z2]; rfl)
      rw [ey, List.append_nil] at q
      rw [e1] at dx
      exact k _ _ _ (Out.of R.sub dx) q
    · exact ⟨B, [], Grow.refl R.sub, y1.app y2, List.nodup_nil, fun a h => nomatch h⟩
  · exact .inr (.inr (.inr ⟨_, _, dx.1, dy.1, Nat.le_of_lt (million h.1), k _ _ _ (Out.of R.sub den_str) h.2⟩))
  · exact h.elim
section
variable {X : Cx} {a b e : Expr} {pos : Pos} {Ta Tb : TE} {ta tb : TEv} {f : Str}
theorem e_add (ha : VE X a Ta ta) (hb : VE X b Tb tb) (hK : X.K = KK.K := by rfl) : VE X (.BinOp a .Add b pos) (tOp rAddA Ta Tb) (vOp dAdd ta tb) := by
  unfold rAddA
  rw [← hK]
  exact ⟨pe_op (op_add.or (op_cat.or (op_catA.or op_add_str))) ha.pe hb.pe, by rw [hK]; exact lk_op lr_add ha.lk hb.lk⟩
end

/-! ### subscripts -/
def dIx : RDv := fun x y Q => match x, y with
  | .nd .tup xs, .int i => match atI xs i with
    | some d => Q d.bor
    | none => False
  | .nd (.lst _) xs, .int i => match atI xs i with
    | some d => Q d.bor
    | none => False
  | .str z, .int i => z.length ≤ 1000000 ∧ match atI z.cps.toList i with
    | some c => Q (.str ⟨#[c]⟩)
    | none => False
  | _, _ => False
theorem atI_len {α β : Type} {xs : List α} {ys : List β} (h : xs.length = ys.length) {i : Int} {d : α} (e : atI xs i = some d) : ∃ j : Nat, xs[j]? = some d ∧ ∀ y, ys[j]? = some y → atI ys i = some y := by
  unfold atI at e ⊢
  rw [h] at e
  cases q : ixN ys.length i with
  | none => rw [q] at e; cases e
  | some j => rw [q] at e; exact ⟨j, e, fun y h => h⟩
theorem lr_ix : LR2 (rIx KK.K) dIx := by
  intro B0 Z B H σ ρ x y vx vy F G Qd Q R dx dy h k
  unfold dIx at h
  split at h
  · split at h
    · rename_i xs i d e
      obtain ⟨a, us, e1, t1, b1, y1⟩ := den_tup R.sub dx
      obtain ⟨j, h1, h2⟩ := atI_len y1.len e
      obtain ⟨v, G', h3, h4, _⟩ := y1.at h1
      exact .inr (.inl ⟨a, us, _, v, e1, dy.1, SqT.of t1, h2 _ h3, k _ _ _ (Out.of R.sub h4.see) h⟩)
    · exact h.elim
  · split at h
    · rename_i f xs i d e
      obtain ⟨a, us, G1, e1, t1, y1, _⟩ := den_lst R.sub dx
      obtain ⟨j, h1, h2⟩ := atI_len y1.len e
      obtain ⟨v, G', h3, h4, _⟩ := y1.at h1
      exact .inl ⟨a, us, _, v, e1, dy.1, t1, h2 _ h3, k _ _ _ (Out.of R.sub h4.see) h⟩
    · exact h.elim
  · obtain ⟨hl, h⟩ := h
    split at h
    · rename_i z i c e
      exact .inr (.inr ⟨_, _, _, dx.1, dy.1, Nat.le_of_lt (million hl), e, k _ _ _ (Out.of R.sub den_str) h⟩)
    · exact h.elim
  · exact h.elim
section
variable {X : Cx} {a b e : Expr} {pos : Pos} {Ta Tb : TE} {ta tb : TEv} {f : Str}
theorem e_ix (ha : VE X a Ta ta) (hb : VE X b Tb tb) (hs : PlainIx b := by exact fun _ _ => rfl) (hK : X.K = KK.K := by rfl) : VE X (.Subscript a b pos) (tOp (rIx KK.K) Ta Tb) (vOp dIx ta tb) := by
  rw [← hK]
  exact ⟨pe_ix ix_seq ha.pe hb.pe hs, by rw [hK]; exact lk_op lr_ix ha.lk hb.lk⟩
end

/-! ### attributes of objects -/
def dFld (f : Str) : RUv := fun x Q => match x with
  | .nd (.obj _ ns) xs => match (ns.zip xs).lookup f with
    | some d => Q d.bor
    | none => False
  | .nd (.slf .d _ ns) xs => match (ns.zip xs).lookup f with
    | some d => Q d.bor
    | none => False
  | _ => False
theorem lookup_zip {Z B H : Hp} {f : Str} : ∀ {ns : List Str} {xs : List D} {vs : List V} {F : List Addr} {d : D}, ns.length = vs.length → Dens Z B H xs vs F → (ns.zip xs).lookup f = some d → ∃ v G, (ns.zip vs).lookup f = some v ∧ Den Z B H d v G
  | [], xs, vs, F, d, _, _, h => by simp at h
  | n :: ns, [], vs, F, d, _, _, h => by simp at h
  | n :: ns, x :: xs, _, _, d, l, ⟨v, ws, G1, G2, e, y, q, f'⟩, h => by
    subst e
    simp only [List.zip_cons_cons, List.lookup_cons] at h ⊢
    split at h
    · cases h; exact ⟨v, G1, rfl, y⟩
    · exact lookup_zip (by simpa using l) q h
/-- the facts of a class whose attribute f is read or stored -/
structure FldOk (K : PySem.W.Frag) (C : Addr) (f : Str) : Prop where
  cl : Cls K C
  no : NoAttr K C f
def vFld (ok : Addr → Prop) (ta : TEv) (f : Str) : TEv := fun ρ Q => ta ρ fun x => (match x with
  | .nd (.obj C _) _ => ok C
  | .nd (.slf _ C _) _ => ok C
  | _ => False) ∧ dFld f x Q
theorem lk_fld {K : PySem.W.Frag} {f : Str} {ok : Addr → Prop} {Ta : TE} {ta : TEv} (hk : ∀ C, ok C → FldOk K C f) (la : LE Ta ta) : LE (tFld K Ta f) (vFld ok ta f) := by
  intro B0 Z B H σ ρ Qd Q R h k
  refine la B0 Z B H σ ρ _ _ R h fun x vx H1 ⟨B1, F, g, dx, n, fr⟩ ⟨h0, h1⟩ => ?_
  have fin : ∀ d v G, Den Z B1 H1 d v G → Qd d.bor → Q v H1 := fun d v G y q => k _ _ _ ((Out.of g.sub y.see).after g) q
  cases x with
  | nd hd xs =>
    obtain ⟨a, o, vs, G, e, x, c, q, f'⟩ := dx
    cases hd with
    | obj C ns =>
      obtain ⟨l, ddx, c⟩ := c
      subst c
      simp only [dFld] at h1
      split at h1
      · rename_i d e2
        obtain ⟨v, G', e3, y⟩ := lookup_zip l q e2
        exact ⟨a, C, ddx, _, v, e, g.sub _ _ x, (hk C h0).cl, (hk C h0).no, e3, fin d v G' y h1⟩
      · exact h1.elim
    | slf f C ns =>
      obtain ⟨l, ddx, c⟩ := c
      subst c
      cases f with
      | d =>
        simp only [dFld] at h1
        split at h1
        · rename_i d e2
          obtain ⟨v, G', e3, y⟩ := lookup_zip l q e2
          exact ⟨a, C, ddx, _, v, e, x, (hk C h0).cl, (hk C h0).no, e3, fin d v G' y h1⟩
        · exact h1.elim
      | _ => exact h1.elim
    | _ => exact h0.elim
  | _ => exact h0.elim
section
variable {X : Cx} {a b e : Expr} {pos : Pos} {Ta Tb : TE} {ta tb : TEv} {f : Str} {ok : Addr → Prop}
theorem e_fld (hk : ∀ C, ok C → FldOk KK.K C f) (he : VE X e Ta ta) (hb : attributeBase e f X.env (eval e X.env) = eval e X.env := by rfl) (hK : X.K = KK.K := by rfl) : VE X (.Attribute e f pos) (tFld KK.K Ta f) (vFld ok ta f) := by
  rw [← hK]
  exact ⟨pe_fld he.pe hb, by rw [hK]; exact lk_fld hk he.lk⟩
end

/-! ### calls of defs -/
abbrev PV := List D → (D → Prop) → (XD → Prop) → Prop
/-- a def's promise over data -/
def spV (n : Nat) (P : PV) : Sp := fun vs H Q E => ∃ (B : Hp) (ds : List D) (Qd : D → Prop) (Ed : XD → Prop), ds.length = n ∧ Same B H ∧ Dens H B H ds vs [] ∧ D.alls arF ds = true ∧ P ds Qd Ed ∧
  (∀ d v H', Out H B H d v H' → d.ow2 = true → Qd d → Q v H') ∧ (∀ x cls dx H', OutX H B H x cls dx H' → D.alls puF x.2.2 = true → Ed x → E cls dx H')
theorem maps_id : ∀ ds : List D, D.maps id ds = ds := fun ds =>
  D.rec_1 (motive_1 := fun d => D.map id d = d) (motive_2 := fun ds => D.maps id ds = ds) rfl (fun _ => rfl) (fun _ => rfl) (fun _ => rfl) (fun _ => rfl) (fun h xs ih => by rw [D.map, ih]; cases h <;> rfl) rfl (fun d ds h1 h2 => by rw [D.maps, h1, h2]) ds
theorem Dens.base {Z Z' B B' H : Hp} : ∀ {ds : List D} {vs : List V}, Dens Z B H ds vs [] → D.alls arF ds = true → Dens Z' B H ds vs [] := by
  intro ds vs h n
  have K : FlagOk id Z B H Z' B H arF (fun _ => True) id := ⟨⟨rfl, fun _ => rfl, fun _ => rfl⟩, fun f a o G hf _ x => ⟨by cases f <;> first | exact x | (exact nomatch hf), rfl⟩, rfl, fun _ _ => rfl⟩
  have e : D.maps id ds = ds := maps_id ds
  have := Dens.flag K ds vs [] n (fun _ _ => True.intro) h
  rwa [e] at this
/-- constant defaults -/
def Flat : List D → List V → Prop
  | [], [] => True
  | .non :: ds, .non :: vs => Flat ds vs
  | .bl b :: ds, .bl c :: vs => b = c ∧ Flat ds vs
  | .int b :: ds, .int c :: vs => b = c ∧ Flat ds vs
  | .str b :: ds, .str c :: vs => b = c ∧ Flat ds vs
  | _, _ => False
theorem Flat.dens {Z B H : Hp} : ∀ (ds : List D) (vs : List V), Flat ds vs → Dens Z B H ds vs [] ∧ D.alls arF ds = true
  | [], [], _ => ⟨⟨rfl, rfl⟩, rfl⟩
  | .non :: ds, .non :: vs, h => have ih := Flat.dens (Z := Z) (B := B) (H := H) ds vs h; ⟨⟨_, _, [], [], rfl, den_non, ih.1, rfl⟩, ih.2⟩
  | .bl b :: ds, .bl c :: vs, h => have ih := Flat.dens (Z := Z) (B := B) (H := H) ds vs h.2; ⟨⟨_, _, [], [], rfl, by rw [h.1]; exact den_bl, ih.1, rfl⟩, ih.2⟩
  | .int b :: ds, .int c :: vs, h => have ih := Flat.dens (Z := Z) (B := B) (H := H) ds vs h.2; ⟨⟨_, _, [], [], rfl, by rw [h.1]; exact den_int, ih.1, rfl⟩, ih.2⟩
  | .str b :: ds, .str c :: vs, h => have ih := Flat.dens (Z := Z) (B := B) (H := H) ds vs h.2; ⟨⟨_, _, [], [], rfl, by rw [h.1]; exact den_str, ih.1, rfl⟩, ih.2⟩
theorem ar_arg (ds : List D) : D.alls arF (D.maps fArg ds) = true := by
  have h : ∀ d : D, (d.map fArg).all arF = true := by
    intro d
    refine D.rec (motive_1 := fun d => (d.map fArg).all arF = true) (motive_2 := fun ds => D.alls arF (D.maps fArg ds) = true) rfl (fun _ => rfl) (fun _ => rfl) (fun _ => rfl) (fun _ => rfl) (fun h xs ih => ?_) rfl (fun d ds h1 h2 => ?_) d
    · have e : arF (h.map fArg).fl = true := by rw [Hd.fl_map fArg fok_arg]; cases h.fl <;> rfl
      simp [D.map, D.all, e, ih]
    · simp [D.maps, D.alls, h1, h2]
  rw [D.maps_eq, D.alls_eq]
  simp [h]
/-- the arguments as the callee sees them, and back -/
theorem hand_call {n : Nat} {P : PV} {B0 Z B H B1 H1 : Hp} {σ : L2.St} {ρ : Env} {ds dds : List D} {vs dvs : List V} {F : List Addr} {Qd : D → Prop} {Q : VK} (R : Rep B0 Z B H σ ρ) (g : Grow B H B1 H1) (q : Dens Z B1 H1 ds vs F) (hd : Flat dds dvs)
    (hl : (D.maps fArg ds ++ dds).length = n) (hP : P (D.maps fArg ds ++ dds) (fun d => d.ow = true ∧ Qd d) (fun _ => False)) (k : ∀ d v H', Out Z B H d v H' → Qd d → Q v H') : spV n P (vs ++ dvs) H1 Q E0 := by
  have s1 := argBase_sub g.sub
  have R1 := R.grow g
  refine ⟨argBase B1 H1, D.maps fArg ds ++ dds, fun d => d.ow = true ∧ Qd d, fun _ => False, hl, s1, Dens.app (F := []) (G := []) (Dens.hand g.sub ds vs F q) (hd.dens _ _).1, by rw [alls_app, ar_arg, (hd.dens (Z := Z) (B := B) (H := H) _ _).2]; rfl, hP, fun d v H' o _ ⟨ow, q⟩ => ?_, fun _ _ _ _ _ _ z => z.elim⟩
  obtain ⟨B', G, g', x, ng, f⟩ := o
  have gb := Grow.back g.sub g'
  exact k d v H' ⟨unB B1 H1 B', G, g.trans gb, Den.back g.sub g' R1.z d v G ow x, ng, fun a h => by
    obtain ⟨o, e, nt⟩ := x.liveN _ _ _ a h
    refine ⟨?_, g.sh.free (f a h).2⟩
    cases hu : unB B1 H1 B' a with
    | none => rfl
    | some o' =>
      have := unB_sub hu
      rw [(f a h).1] at this
      cases this⟩ q
def vCall (n : Nat) (P : PV) (dds : List D) (t : TAv) : TEv := fun ρ Q => t ρ fun ds => (D.maps fArg ds ++ dds).length = n ∧ P (D.maps fArg ds ++ dds) (fun d => d.ow = true ∧ Q d) (fun _ => False)
theorem lk_call {n : Nat} {P : PV} {dds : List D} {dvs : List V} {T : TA} {t : TAv} (hd : Flat dds dvs) (l : LA T t) : LE (tCall (spV n P) dvs E0 T) (vCall n P dds t) := by
  intro B0 Z B H σ ρ Qd Q R h k
  refine l B0 Z B H σ ρ _ _ R h fun ds vs H1 ⟨B1, F, g, q, nd, f⟩ h1 => ?_
  exact hand_call R g q hd h1.1 h1.2 k
/-! ### a call whose arguments are fixed: what it hands back may hold parts of them -/
theorem Dens.handW {Z Z' B H : Hp} {ds : List D} {vs : List V} {F : List Addr} (h : Dens Z B H ds vs F) (n : D.alls fxF ds = true) : Dens Z' B H (D.maps fArg ds) vs [] := by
  have K : FlagOk fArg Z B H Z' B H fxF (fun _ => True) (fun _ => []) := ⟨fok_arg, fun f a o G hf _ x => by
    cases f <;> first | exact ⟨x, rfl⟩ | exact ⟨x.1, rfl⟩ | (exact nomatch hf), rfl, fun _ _ => rfl⟩
  exact Dens.flag K ds vs F n (fun _ _ => True.intro) h
theorem Den.backW {Z H1 B' H' : Hp} {d : D} {v : V} {F : List Addr} (hz : ∀ a, H1 a = none → Z a = none) (h : Den H1 B' H' d v F) (n : d.ow2 = true) : Den Z B' H' d v F := by
  have K : FlagOk id H1 B' H' Z B' H' ow2F (fun _ => True) id := ⟨⟨rfl, fun _ => rfl, fun _ => rfl⟩, fun f a o G hf _ x => by
    cases f <;> first | exact ⟨⟨x.1, hz _ x.2⟩, rfl⟩ | exact ⟨x, rfl⟩ | (exact nomatch hf), rfl, fun _ _ => rfl⟩
  have := Den.flag K d v F n (fun _ _ => True.intro) h
  have e : D.map id d = d := by
    have := maps_id [d]
    rw [D.maps, D.maps] at this
    exact (List.cons.inj this).1
  rwa [e] at this
def vCallW (n : Nat) (P : PV) (dds : List D) (t : TAv) : TEv := fun ρ Q => t ρ fun ds => D.alls fxF ds = true ∧ (D.maps fArg ds ++ dds).length = n ∧ P (D.maps fArg ds ++ dds) Q (fun _ => False)
theorem lk_callW {n : Nat} {P : PV} {dds : List D} {dvs : List V} {T : TA} {t : TAv} (hd : Flat dds dvs) (l : LA T t) : LE (tCall (spV n P) dvs E0 T) (vCallW n P dds t) := by
  intro B0 Z B H σ ρ Qd Q R h k
  refine l B0 Z B H σ ρ _ _ R h fun ds vs H1 ⟨B1, F, g, q, nd, f⟩ ⟨fx, hl, hP⟩ => ?_
  have R1 := R.grow g
  refine ⟨B1, D.maps fArg ds ++ dds, Qd, fun _ => False, hl, g.sub, Dens.app (F := []) (G := []) (q.handW fx) (hd.dens _ _).1, by rw [alls_app, ar_arg, (hd.dens (Z := Z) (B := B) (H := H) _ _).2]; rfl, hP, fun d v H' o ow q => ?_, fun _ _ _ _ _ _ z => z.elim⟩
  obtain ⟨B', G, g', x, ng, f⟩ := o
  exact k d v H' ⟨B', G, g.trans g', x.backW R1.z ow, ng, fun a h => ⟨(f a h).1, g.sh.free (f a h).2⟩⟩ q
/-- a def that may be called by its name -/
structure Fnc (P : Program) (w : World) (K : PySem.W.Frag) (mg : Str → Option Value) (base : Heap) (k : Nat) (x : Str) (n : Nat) (Pv : PV) (dds : List D) : Prop where
  ex : ∃ (f : Addr) (fd : FuncData) (ps : List Str) (ds : List Value) (dvs : List V), FnOk P w K mg base (L2N.CX P w) k f fd ps (spV n Pv) ∧ mg x = some (.ref f) ∧ PySem.W.keepIn K (.ref f) = true ∧ Binds K fd ps ds ∧ Vals dvs ds ∧ Flat dds dvs
section
variable {X : Cx} {k j n : Nat} {C : Addr} {x m : Str} {P : PV} {dds : List D} {p pos apos : Pos} {e o : Expr} {es : List Expr} {T : TA} {t : TAv}
theorem e_callW {dvs : List V} {f : Addr} {fd : FuncData} {ps : List Str} {ds : List Value} (F : FnOk X.prog X.w X.K X.mg X.base (L2N.CX X.prog X.w) k f fd ps (spV n P)) (hm : X.mg x = some (.ref f)) (kp : PySem.W.keepIn X.K (.ref f) = true) (b : Binds X.K fd ps ds) (d : Vals dvs ds) (hf : Flat dds dvs)
    (hr : Room j X.A) (hk : k ≤ j) (ha : VA X (e :: es) T t) (hg : Gl X x := by rfl)
    (hdb : (x == ("__debug__" : Str)) = false := by decide) (he : starEach (e :: es) X.env = (false, eval e X.env) :: starEach es X.env := by rfl) (hpl : (backTo pos (starEach es X.env)).any (·.1) = false := by rfl) :
    VE X (.Call (.Name x p) (e :: es) [] pos) (tCall (spV n P) dvs E0 T) (vCallW n P dds t) := ⟨pe_call F (hr.mono hk) hg hm kp b d passN ha.pa hdb he hpl, lk_callW hf ha.lk⟩
theorem e_call {dvs : List V} {f : Addr} {fd : FuncData} {ps : List Str} {ds : List Value} (F : FnOk X.prog X.w X.K X.mg X.base (L2N.CX X.prog X.w) k f fd ps (spV n P)) (hm : X.mg x = some (.ref f)) (kp : PySem.W.keepIn X.K (.ref f) = true) (b : Binds X.K fd ps ds) (d : Vals dvs ds) (hf : Flat dds dvs)
    (hr : Room j X.A) (hk : k ≤ j) (ha : VA X (e :: es) T t) (hg : Gl X x := by rfl)
    (hdb : (x == ("__debug__" : Str)) = false := by decide) (he : starEach (e :: es) X.env = (false, eval e X.env) :: starEach es X.env := by rfl) (hpl : (backTo pos (starEach es X.env)).any (·.1) = false := by rfl) :
    VE X (.Call (.Name x p) (e :: es) [] pos) (tCall (spV n P) dvs E0 T) (vCall n P dds t) := ⟨pe_call F (hr.mono hk) hg hm kp b d passN ha.pa hdb he hpl, lk_call hf ha.lk⟩
end
end VL

/-! ## VLS -/
/-! VL: statements, loops, comprehensions, a def's body. -/
namespace VL
open PySem PySem.Spec L2
open PyProof.Rows hiding St

variable [KK : KLs] [XX : XW]
structure Ev where
  nx : Env → Prop
  rt : D → Prop
  bk : Env → Prop := fun _ => False
  ct : Env → Prop := fun _ => False
abbrev TSv := Ev → Env → Prop
/-- what is wanged over the heap follows from what is wanted over data -/
structure Sim (B0 Z : Hp) (Dv : Ev) (De : Ends) : Prop where
  nx : ∀ B H σ ρ, Rep B0 Z B H σ ρ → Dv.nx ρ → De.nx σ H
  rt : ∀ d v H, Out Z B0 Z d v H → d.ow2 = true → Dv.rt d → De.rt v H
  bk : ∀ B H σ ρ, Rep B0 Z B H σ ρ → Dv.bk ρ → De.bk σ H
  ct : ∀ B H σ ρ, Rep B0 Z B H σ ρ → Dv.ct ρ → De.ct σ H
def LS (T : TS) (t : TSv) : Prop := ∀ (B0 Z B H : Hp) (σ : L2.St) (ρ : Env) (Dv : Ev) (De : Ends), Rep B0 Z B H σ ρ → t Dv ρ → Sim B0 Z Dv De → T De σ H
structure VS (X : Cx) (st : Stmt) (T : TS) (t : TSv) : Prop where
  ps : PS X st T
  lk : LS T t
structure VSs (X : Cx) (sts : List Stmt) (T : TS) (t : TSv) : Prop where
  ps : PSs X sts T
  lk : LS T t

/-! ### rows of statements -/
def vNext : TSv := fun D ρ => D.nx ρ
def vSeq (t u : TSv) : TSv := fun D ρ => t { D with nx := u D } ρ
theorem lk_next : LS tNext vNext := fun B0 Z B H σ ρ Dv De R h S => S.nx _ _ _ _ R h
theorem lk_seq {T U : TS} {t u : TSv} (lt : LS T t) (lu : LS U u) : LS (tSeq T U) (vSeq t u) := fun B0 Z B H σ ρ Dv De R h S =>
  lt B0 Z B H σ ρ _ _ R h ⟨fun B H σ ρ R h => lu B0 Z B H σ ρ Dv De R h S, S.rt, S.bk, S.ct⟩
section
variable {X : Cx} {st : Stmt} {rest : List Stmt} {T U : TS} {t u : TSv}
theorem ss_nil : VSs X [] tNext vNext := ⟨pss_nil, lk_next⟩
theorem ss_cons (h : VS X st T t) (r : VSs X rest U u) : VSs X (st :: rest) (tSeq T U) (vSeq t u) := ⟨pss_cons h.ps r.ps, lk_seq h.lk r.lk⟩
theorem ss_one (h : VS X st T t) : VSs X [st] T t := ⟨pss_one h.ps, h.lk⟩
theorem s_pass {pos} : VS X (.Pass pos) tNext vNext := ⟨ps_pass, lk_next⟩
def vBreak : TSv := fun D ρ => D.bk ρ
def vCont : TSv := fun D ρ => D.ct ρ
theorem s_break {pos} : VS X (.Break pos) tBreak vBreak := ⟨ps_break, fun B0 Z B H σ ρ Dv De R h S => S.bk _ _ _ _ R h⟩
theorem s_cont {pos} : VS X (.Continue pos) tCont vCont := ⟨ps_continue, fun B0 Z B H σ ρ Dv De R h S => S.ct _ _ _ _ R h⟩
def vNever : TSv := fun _ _ => False
theorem s_never : VS X st tNever vNever := ⟨ps_never, fun B0 Z B H σ ρ Dv De R h S => h.elim⟩
theorem ss_never : VSs X rest tNever vNever := ⟨pss_never, fun B0 Z B H σ ρ Dv De R h S => h.elim⟩
end

/-! ### assignment, return, if -/
def vAsg (i : Nat) (te : TEv) : TSv := fun D ρ => te ρ fun d => d.nb = true ∧ D.nx (ρ.set i (some d))
/-- the list in it is not changed later on -/
def vAsgL (i : Nat) (te : TEv) : TSv := fun D ρ => te ρ fun d => d.nb = true ∧ D.nx (ρ.set i (some d.loc))
section
variable {B0 Z B H H' : Hp} {σ : L2.St} {ρ : Env}
/-- what was made is frozen -/
theorem Out.frozen {d : D} {v : V} (hz : ∀ a, H a = none → Z a = none) (h : Out Z B H d v H') (nb : d.nb = true) : ∃ B', Grow B H B' H' ∧ Den Z B' H' d.loc v [] := by
  obtain ⟨B1, F, g, x, n, f⟩ := h
  refine ⟨fun b => if b ∈ F then H' b else B1 b, ⟨fun a o e => ?_, g.sh, fun a o e => ?_, fun a o e nt n => ?_⟩, ?_⟩
  · have : a ∉ F := fun m => by
      have z := (f a m).1
      rw [g.sb _ _ e] at z; cases z
    show (if a ∈ F then H' a else B1 a) = some o
    rw [if_neg this]; exact g.sb _ _ e
  · have e : (if a ∈ F then H' a else B1 a) = some o := e
    split at e
    · exact e
    · exact g.sub _ _ e
  · have : a ∉ F := fun m => by rw [(f a m).2] at e; cases e
    show (if a ∈ F then H' a else B1 a) = none
    rw [if_neg this]; exact g.old a o e nt n
  · refine Den.flag (P := fun a => a ∈ F) (flag_loc (F := F) (fun b o e => ?_) (fun a o m e => ?_) (fun a m => hz a (f a m).2)) d v F nb (fun a h => h) x
    · show (if b ∈ F then H' b else B1 b) = some o
      split
      · exact g.sub _ _ e
      · exact e
    · show (if a ∈ F then H' a else B1 a) = some o
      rw [if_pos m]; exact e
end
theorem nb_loc {d : D} (h : d.nb = true) : d.loc.nb = true := D.all_map fok_loc (fun f e => by cases f <;> first | rfl | exact nomatch e) d h
theorem lk_asg {i : Nat} {T : TE} {t : TEv} (l : LE T t) : LS (tAsg T (gName i)) (vAsg i t) := by
  intro B0 Z B H σ ρ Dv De R h S
  refine l B0 Z B H σ ρ _ _ R h fun d v H1 o q => ?_
  obtain ⟨B1, g, R1⟩ := R.set (i := i) o q.1
  exact S.nx _ _ _ _ R1 q.2
theorem lk_asgL {i : Nat} {T : TE} {t : TEv} (l : LE T t) : LS (tAsg T (gName i)) (vAsgL i t) := by
  intro B0 Z B H σ ρ Dv De R h S
  refine l B0 Z B H σ ρ _ _ R h fun d v H1 o q => ?_
  obtain ⟨B1, g, x⟩ := o.frozen R.z q.1
  obtain ⟨B2, g2, R1⟩ := R.set (i := i) (d := d.loc) ⟨B1, [], g, x, List.nodup_nil, fun a h => nomatch h⟩ (nb_loc q.1)
  exact S.nx _ _ _ _ R1 q.2
def vRet (te : TEv) : TSv := fun D ρ => te ρ fun d => d.ow2 = true ∧ D.rt d
theorem Rep.out {B0 Z B H H' : Hp} {σ : L2.St} {ρ : Env} {d : D} {v : V} (R : Rep B0 Z B H σ ρ) (o : Out Z B H d v H') : Out Z B0 Z d v H' := by
  obtain ⟨B1, F, g, x, n, f⟩ := o
  exact ⟨B1, F, R.gr.trans g, x, n, fun a h => ⟨(f a h).1, R.z a (f a h).2⟩⟩
theorem lk_ret {T : TE} {t : TEv} (l : LE T t) : LS (tRet T) (vRet t) := by
  intro B0 Z B H σ ρ Dv De R h S
  exact l B0 Z B H σ ρ _ _ R h fun d v H1 o q => S.rt d v H1 (R.out o) q.1 q.2
/-- return of a name: its own list goes out -/
def vRetV (i : Nat) : TSv := fun D ρ => match ρ[i]? with
  | some (some d) => d.ow2 = true ∧ D.rt d
  | _ => False
theorem lk_retV (i : Nat) : LS (tRet (tVar i)) (vRetV i) := by
  intro B0 Z B H σ ρ Dv De R h S
  unfold vRetV at h
  split at h
  · rename_i d e
    obtain ⟨v, G, h1, h2, h3, h4, h5⟩ := R.get' e
    exact ⟨v, h1, S.rt d v H ⟨B, G, R.gr, h3, h4, h5⟩ h.1 h.2⟩
  · exact h.elim
def vIf (tc : TTv) (t u : TSv) : TSv := fun D ρ => tc ρ fun k => if k = true then t D ρ else u D ρ
theorem lk_if {Tc : TT} {tc : TTv} {T U : TS} {t u : TSv} (lc : LT Tc tc) (lt : LS T t) (lu : LS U u) : LS (tIfS Tc T U) (vIf tc t u) := by
  intro B0 Z B H σ ρ Dv De R h S
  refine lc B0 Z B H σ ρ _ _ R h fun k B1 H1 g q => ?_
  cases k with
  | true => rw [if_pos rfl] at q ⊢; exact lt B0 Z B1 H1 σ ρ Dv De (R.grow g) q S
  | false => rw [if_neg Bool.false_ne_true] at q ⊢; exact lu B0 Z B1 H1 σ ρ Dv De (R.grow g) q S
def vIfE (tc : TTv) (ta tb : TEv) : TEv := fun ρ Q => tc ρ fun k => if k = true then ta ρ Q else tb ρ Q
theorem lk_ifE {Tc : TT} {tc : TTv} {Ta Tb : TE} {ta tb : TEv} (lc : LT Tc tc) (la : LE Ta ta) (lb : LE Tb tb) : LE (tIf Tc Ta Tb) (vIfE tc ta tb) := by
  intro B0 Z B H σ ρ Qd Q R h k
  refine lc B0 Z B H σ ρ _ _ R h fun c B1 H1 g q => ?_
  cases c with
  | true => rw [if_pos rfl] at q ⊢; exact la B0 Z B1 H1 σ ρ _ _ (R.grow g) q fun d v H2 o h => k _ _ _ (o.after g) h
  | false => rw [if_neg Bool.false_ne_true] at q ⊢; exact lb B0 Z B1 H1 σ ρ _ _ (R.grow g) q fun d v H2 o h => k _ _ _ (o.after g) h
def vDrop (te : TEv) : TSv := fun D ρ => te ρ fun _ => D.nx ρ
theorem lk_drop {T : TE} {t : TEv} (l : LE T t) : LS (tDrop T) (vDrop t) := by
  intro B0 Z B H σ ρ Dv De R h S
  exact l B0 Z B H σ ρ _ _ R h fun d v H1 ⟨B1, F, g, _⟩ q => S.nx _ _ _ _ (R.grow g) q
section
variable {X : Cx} {e c a b : Expr} {pos pos' : Pos} {Te Ta Tb : TE} {te ta tb : TEv} {Tc : TT} {tc : TTv} {ss rr : List Stmt} {T U : TS} {t u : TSv} {x : Str}
theorem s_asg (i : Nat) (he : VE X e Te te) (hN : X.N.Nodup) (hi : X.N[i]? = some x := by rfl) (hx : Loc X.env.scope x := by first | exact Or.inl rfl | exact Or.inr rfl) (hs : swapsWith e (some (.Name x pos')) pos.line X.env = pure false := by rfl)
    (hf : X.fn x = true ∨ X.env.scope.names.lookup x = some .local := by first | exact .inl rfl | exact .inr rfl) : VS X (.Assign [.Name x pos'] e pos) (tAsg Te (gName i)) (vAsg i te) := ⟨ps_set hN hi hx he.pe hs hf, lk_asg he.lk⟩
theorem s_asgL (i : Nat) (he : VE X e Te te) (hN : X.N.Nodup) (hi : X.N[i]? = some x := by rfl) (hx : Loc X.env.scope x := by first | exact Or.inl rfl | exact Or.inr rfl) (hs : swapsWith e (some (.Name x pos')) pos.line X.env = pure false := by rfl)
    (hf : X.fn x = true ∨ X.env.scope.names.lookup x = some .local := by first | exact .inl rfl | exact .inr rfl) : VS X (.Assign [.Name x pos'] e pos) (tAsg Te (gName i)) (vAsgL i te) := ⟨ps_set hN hi hx he.pe hs hf, lk_asgL he.lk⟩
theorem s_ret (he : VE X e Te te) : VS X (.Return (some e) pos) (tRet Te) (vRet te) := ⟨ps_ret he.pe, lk_ret he.lk⟩
theorem s_retV (i : Nat) (hN : X.N[i]? = some x := by rfl) (hv : Vis X.env.scope x := by first | exact Or.inl rfl | exact Or.inr (Or.inl rfl) | exact Or.inr (Or.inr rfl)) (hd : (x == ("__debug__" : Str)) = false := by decide)
    (hcd : (x == ("__classdict__" : Str)) = false := by decide) : VS X (.Return (some (.Name x pos')) pos) (tRet (tVar i)) (vRetV i) := ⟨ps_ret (pe_var hN hv hd hcd), lk_retV i⟩
theorem s_if (hc : VT X c Tc tc) (ha : VSs X ss T t) (hb : VSs X rr U u) : VS X (.If c ss rr pos) (tIfS Tc T U) (vIf tc t u) := ⟨ps_if hc.pt ha.ps hb.ps, lk_if hc.lk ha.lk hb.lk⟩
theorem e_ifE (hc : VT X c Tc tc) (ha : VE X a Ta ta) (hb : VE X b Tb tb) : VE X (.IfExp c a b pos) (tIf Tc Ta Tb) (vIfE tc ta tb) := ⟨pe_ifExp hc.pt ha.pe hb.pe, lk_ifE hc.lk ha.lk hb.lk⟩
theorem s_expr (he : VE X e Te te) (hs : swapsWith e none pos.line X.env = pure false := by rfl) : VS X (.Expr e pos) (tDrop Te) (vDrop te) := ⟨ps_expr he.pe hs, lk_drop he.lk⟩
end

/-! ### what is walked -/
abbrev TIv := Env → (List D → Prop) → Prop
def Yields (Z B : Hp) (J : It) (items : List D) : Prop := ∀ B' H', Same B B' → Same B' H' → (∀ (i : Nat) d, items[i]? = some d → J.go i H' ∧ ∀ x H'', J.yld i H' x H'' → Out Z B' H' d x H'') ∧ J.stop items.length H'
def LI (wi : TI) (ti : TIv) : Prop := ∀ (B0 Z B H : Hp) (σ : L2.St) (ρ : Env) (R : List D → Prop) (RR : It → Hp → Prop), Rep B0 Z B H σ ρ → ti ρ R →
  (∀ J B1 H1 items, Grow B H B1 H1 → Yields Z B1 J items → D.alls coF items = true → R items → RR J H1) → wi σ H RR
structure VI (X : Cx) (tg iter : Expr) (wi : TI) (ti : TIv) : Prop where
  pi : PI X tg iter wi
  lk : LI wi ti
/-- a text's sgns -/
def sgns (z : Str) : List D := z.cps.toList.map fun c => D.str ⟨#[c]⟩
def riF : Fl → Bool | .b => false | .c _ => false | .d => false | .x => false | _ => true
/-- a list or a tuple (not one that a name can change) -/
def vIt (te : TEv) : TIv := fun ρ R => te ρ fun d => match d with
  | .nd .tup xs => D.alls coF xs = true ∧ R xs
  | .nd (.lst f) xs => riF f.ls = true ∧ D.alls nbF xs = true ∧ D.alls coF (D.maps fLoc xs) = true ∧ R (D.maps fLoc xs)
  | .str z => R (sgns z)
  | _ => False
def iSeq (K : PySem.W.Frag) (tl : TE) : TI := fun σ H R => tl σ H fun x H1 => (∃ a, x = .ref a ∧ (∃ ys, SqT K H1 a ys) ∧ R (Itt K a) H1) ∨ (∃ a, x = .ref a ∧ (∃ ys, SqL K H1 a ys) ∧ R (Itl K a) H1) ∨ ∃ z, x = .str z ∧ R (Its z) H1
omit KK XX in
theorem pi_seq {X : Cx} {tg l : Expr} {tl : TE} (hl : PE X l tl) : PI X tg l (iSeq X.K tl) := by
  refine ⟨fun pins s σ H R I h => ?_⟩
  refine thn (hl.run pins s σ H _ I h) fun v s1 ⟨x, H1, I1, r1, q1⟩ => ?_
  rcases q1 with ⟨a, e, ⟨xs, hq⟩, q⟩ | ⟨a, e, ⟨xs, hq⟩, q⟩ | ⟨z, e, q⟩
  · subst e
    cases r1
    obtain ⟨its, rv, p, hz⟩ := I1.tuple hq
    refine wpAny_pyIter_tuple (show s1.heap.IsTuple a its.toArray from p) ?_
    refine ⟨s1.heap.objs.size, [s1.heap.objs.size], _, _, H1, rfl, I1.kept (t' := s1.toks) fun b o e => Heap.get?_push_of_some _ e, turn_tuple a _, ⟨_, Heap.get?_push_size _ rfl, rfl, rfl⟩, fun b hb => ?_, q⟩
    have e : b = s1.heap.objs.size := by simpa using hb
    subst e
    exact I1.fpOk (Nat.le_refl _) (I1.hok.fresh (Nat.le_refl _))
  · subst e
    cases r1
    obtain ⟨its, rv, p, hz⟩ := I1.list hq
    refine wpAny_pyIter_list p.isList ?_
    refine ⟨s1.heap.objs.size, [s1.heap.objs.size], _, _, H1, rfl, I1.kept (t' := s1.toks) fun b o e => Heap.get?_push_of_some _ e, turn_list a _, ⟨_, Heap.get?_push_size _ rfl, rfl, rfl⟩, fun b hb => ?_, q⟩
    have e : b = s1.heap.objs.size := by simpa using hb
    subst e
    exact I1.fpOk (Nat.le_refl _) (I1.hok.fresh (Nat.le_refl _))
  · subst e
    obtain ⟨t, rfl⟩ := r1
    cases ha : z.cps.all (· < 128)
    · exact wpAny_pyIter_wide ha (pi_one (tk := s1.toks) I1 _ (turn_str _ z t "str_iterator" (.inr rfl)) ⟨_, Heap.get?_push_size _ rfl, rfl, rfl⟩ q)
    · exact wpAny_pyIter_ascii ha (pi_one (tk := s1.toks) I1 _ (turn_str _ z t "str_ascii_iterator" (.inl rfl)) ⟨_, Heap.get?_push_size _ rfl, rfl, rfl⟩ q)
theorem out_item {Z B H : Hp} {d : D} {v : V} {F : List Addr} (s : Same B H) (h : Den Z B H d v F) (n : d.all coF = true) : Out Z B H d v H := by
  have e := Den.nofp d v F n h
  subst e
  exact Out.of s h
theorem alls_at {p : Fl → Bool} {xs : List D} {i : Nat} {d : D} (h : D.alls p xs = true) (e : xs[i]? = some d) : d.all p = true := by
  rw [D.alls_eq, List.all_eq_true] at h
  exact h d (List.mem_of_getElem? e)
theorem fixed_at {Z B B' H H' : Hp} {f : Fl} {a : Addr} {o : HO} (n : coF f = true) (sb : Same B B') (x : At Z B H f a o) : At Z B' H' f a o := by
  cases f with
  | i => exact sb _ _ x
  | s => exact x.imp (fun ⟨ob, x⟩ => ⟨ob, sb _ _ x⟩) id
  | a => exact sb _ _ x
  | l => exact ⟨sb _ _ x.1, x.2⟩
  | b => exact nomatch n
  | o => exact nomatch n
  | c y => exact nomatch n
  | d => exact nomatch n
  | x => exact True.intro
mutual
/-- what has no own list in it leans on what is fixed alone -/
theorem Den.fixed {Z B B' H H' : Hp} (sb : Same B B') : ∀ (d : D) (v : V) (F : List Addr), d.all coF = true → Den Z B H d v F → Den Z B' H' d v F
  | .non, _, _, _, h => h
  | .bl _, _, _, _, h => h
  | .int _, _, _, _, h => h
  | .str _, _, _, _, h => h
  | .cst _, _, _, _, h => h
  | .nd h ds, _, _, n, ⟨a, o, vs, G, e, x, c, q, f⟩ => by
    have n' : coF h.fl = true ∧ D.alls coF ds = true := by simpa [D.all] using n
    exact ⟨a, o, vs, G, e, fixed_at n'.1 sb x, c, Dens.fixed sb ds vs G n'.2 q, f⟩
theorem Dens.fixed {Z B B' H H' : Hp} (sb : Same B B') : ∀ (ds : List D) (vs : List V) (F : List Addr), D.alls coF ds = true → Dens Z B H ds vs F → Dens Z B' H' ds vs F
  | [], _, _, _, h => h
  | d :: ds, _, _, n, ⟨v, ws, G1, G2, e, x, q, f⟩ => by
    have n' : d.all coF = true ∧ D.alls coF ds = true := by simpa [D.alls] using n
    exact ⟨v, ws, G1, G2, e, Den.fixed sb d v G1 n'.1 x, Dens.fixed sb ds ws G2 n'.2 q, f⟩
end
theorem yields_tup {Z B H : Hp} {a : Addr} {xs : List D} {vs : List V} {F : List Addr} (hb : B a = some (.tup vs)) (q : Dens Z B H xs vs F) (n : D.alls coF xs = true) : Yields Z B (Itt KK.K a) xs := by
  intro B' H' sb s
  have hs : SqT KK.K H' a vs := SqT.of (s _ _ (sb _ _ hb))
  refine ⟨fun i d e => ?_, ⟨vs, hs, Nat.le_of_eq q.len.symm⟩⟩
  obtain ⟨v, G, h1, h2, _⟩ := q.at e
  refine ⟨⟨vs, v, hs, h1⟩, fun x H'' y => ?_⟩
  obtain ⟨e1, e2⟩ := y
  subst e1
  have e3 := e2 vs hs
  rw [h1] at e3
  cases e3
  have nd := alls_at n e
  exact out_item s (Den.fixed (H' := H'') sb d v G nd h2) nd
theorem yields_lst {Z B H : Hp} {a : Addr} {xs : List D} {vs : List V} {F : List Addr} (hb : ∀ H', Same B H' → SqL KK.K H' a vs) (q : Dens Z B H xs vs F) (n : D.alls coF xs = true) : Yields Z B (Itl KK.K a) xs := by
  intro B' H' sb s
  have hs : SqL KK.K H' a vs := hb H' (sb.trans s)
  refine ⟨fun i d e => ?_, ⟨vs, hs, Nat.le_of_eq q.len.symm⟩⟩
  obtain ⟨v, G, h1, h2, _⟩ := q.at e
  refine ⟨⟨vs, v, hs, h1⟩, fun x H'' y => ?_⟩
  obtain ⟨e1, e2⟩ := y
  subst e1
  have e3 := e2 vs hs
  rw [h1] at e3
  cases e3
  have nd := alls_at n e
  exact out_item s (Den.fixed (H' := H'') sb d v G nd h2) nd
theorem yields_str {Z B : Hp} (z : Str) : Yields Z B (Its z) (sgns z) := by
  intro B' H' sb s
  have hl : (sgns z).length = z.cps.size := by simp [sgns]
  refine ⟨fun i d e => ?_, by rw [hl]; exact Nat.le_refl _⟩
  have hi : i < z.cps.size := by have := (List.getElem?_eq_some_iff.mp e).1; omega
  refine ⟨hi, fun x H'' y => ?_⟩
  obtain ⟨e1, c, e2, e3⟩ := y
  subst e1 e3
  have ed : d = .str ⟨#[c]⟩ := by
    have : (sgns z)[i]? = some (.str ⟨#[c]⟩) := by simp [sgns, e2]
    rw [this] at e
    exact (Option.some.inj e).symm
  subst ed
  exact Out.of s den_str
theorem sgns_co (z : Str) : D.alls coF (sgns z) = true := by
  rw [D.alls_eq, List.all_eq_true]
  intro d h
  obtain ⟨c, _, rfl⟩ := List.mem_map.mp h
  rfl
theorem lk_it {Te : TE} {te : TEv} (l : LE Te te) : LI (iSeq KK.K Te) (vIt te) := by
  intro B0 Z B H σ ρ R RR Rp h k
  refine l B0 Z B H σ ρ _ _ Rp h fun d v H1 o q => ?_
  split at q
  · rename_i xs
    obtain ⟨n, q⟩ := q
    obtain ⟨B1, F, g, x, nf, fr⟩ := o
    obtain ⟨a, vs, e, t, tb, y⟩ := den_tup g.sub x
    exact .inl ⟨a, e, ⟨vs, SqT.of t⟩, k _ B1 H1 xs g (yields_tup tb y n) n q⟩
  · rename_i f xs
    obtain ⟨n1, n2, n3, q⟩ := q
    have nb : D.nb (.lst f xs) = true := by
      show (nbF f.ls && D.alls nbF xs) = true
      rw [n2]
      revert n1
      cases f.ls <;> intro n1 <;> first | rfl | exact nomatch n1
    obtain ⟨B1, g, x⟩ := o.frozen Rp.z nb
    obtain ⟨a, o', vs, G, e, x, c, y, f'⟩ := x
    have c : o' = .lst vs := c
    subst c
    have x : At Z B1 H1 (fLoc f).ls a (.lst vs) := x
    have rd : ∀ H', Same B1 H' → SqL KK.K H' a vs := by
      rw [fok_loc.s] at x
      intro H' s'
      revert x n1
      have nx := ls_ne f
      have hi : f.ls ≠ .i := ls_ni f
      revert nx hi
      cases f.ls <;> intro nx hi n1 x
      · exact absurd rfl hi
      · rcases x with ⟨ob, x⟩ | ⟨ys, e, x⟩
        · exact .inl (.inr ⟨ob, s' _ _ x⟩)
        · cases e; exact .inr x
      · exact .inl (.inl (s' _ _ x))
      · exact .inl (.inl (s' _ _ x.1))
      · exact nomatch n1
      · exact .inl (.inl (s' _ _ x.1))
      · exact nomatch n1
      · exact nomatch n1
      · exact nomatch n1
    exact .inr (.inl ⟨a, e, ⟨vs, rd H1 g.sub⟩, k _ B1 H1 _ g (yields_lst rd y n3) n3 q⟩)
  · rename_i z
    obtain ⟨B1, F, g, x, nf, fr⟩ := o
    exact .inr (.inr ⟨z, x.1, k _ B1 H1 _ g (yields_str z) (sgns_co z) q⟩)
  · exact q.elim
/-- lo, lo + 1, .. -/
def upTo (lo : Int) (n : Nat) : List D := (List.range n).map fun (i : Nat) => D.int (lo + (i : Int))
theorem upTo_co (lo : Int) (n : Nat) : D.alls coF (upTo lo n) = true := by
  rw [D.alls_eq, List.all_eq_true]
  intro d h
  obtain ⟨c, _, rfl⟩ := List.mem_map.mp h
  rfl
theorem yields_rng {Z B : Hp} (lo : Int) (n : Nat) : Yields Z B (Itr lo n) (upTo lo n) := by
  intro B' H' sb s
  have hl : (upTo lo n).length = n := by simp [upTo]
  refine ⟨fun i d e => ?_, by rw [hl]; exact Nat.le_refl _⟩
  have hi : i < n := by have := (List.getElem?_eq_some_iff.mp e).1; omega
  refine ⟨hi, fun x H'' y => ?_⟩
  obtain ⟨e1, e2⟩ := y
  subst e1 e2
  have ed : d = .int (lo + (i : Int)) := by
    have : (upTo lo n)[i]? = some (.int (lo + (i : Int))) := by simp [upTo, hi]
    rw [this] at e
    exact (Option.some.inj e).symm
  subst ed
  exact Out.of s den_int
def bigI (i : Int) : Prop := -4611686018427387904 ≤ i ∧ i < 4611686018427387904
def vRng1 (te : TEv) : TIv := fun ρ R => te ρ fun d => match d with
  | .int j => bigI j ∧ R (upTo 0 j.toNat)
  | _ => False
def vRng2 (ta tb : TEv) : TIv := fun ρ R => ta ρ fun d => tb ρ fun e => match d, e with
  | .int i, .int j => bigI i ∧ bigI j ∧ R (upTo i (j - i).toNat)
  | _, _ => False
theorem lk_rng1 {Te : TE} {te : TEv} (l : LE Te te) : LI (iRng1 (tCons Te tNil)) (vRng1 te) := by
  intro B0 Z B H σ ρ R RR Rp h k
  refine l B0 Z B H σ ρ _ _ Rp h fun d v H1 ⟨B1, F, g, x, _, _⟩ q => ?_
  split at q
  · exact ⟨_, by rw [x.1], q.1.1, q.1.2, k _ B1 H1 _ g (yields_rng _ _) (upTo_co _ _) q.2⟩
  · exact q.elim
theorem lk_rng2 {Ta Tb : TE} {ta tb : TEv} (la : LE Ta ta) (lb : LE Tb tb) : LI (iRng2 (tCons Ta (tCons Tb tNil))) (vRng2 ta tb) := by
  intro B0 Z B H σ ρ R RR Rp h k
  refine la B0 Z B H σ ρ _ _ Rp h fun d v H1 ⟨B1, F, g, x, _, _⟩ q => ?_
  refine lb B0 Z B1 H1 σ ρ _ _ (Rp.grow g) q fun e w H2 ⟨B2, G, g2, y, _, _⟩ q => ?_
  split at q
  · exact ⟨_, _, by rw [x.1, y.1], ⟨q.1.1, q.1.2, q.2.1.1, q.2.1.2⟩, k _ B2 H2 _ (g.trans g2) (yields_rng _ _) (upTo_co _ _) q.2.2⟩
  · exact q.elim
section
variable {X : Cx} {tg e a b : Expr} {pos p : Pos} {Te Ta Tb : TE} {te ta tb : TEv}
theorem i_seq (he : VE X e Te te) (hK : X.K = KK.K := by rfl) : VI X tg e (iSeq KK.K Te) (vIt te) := by
  rw [← hK]
  exact ⟨pi_seq he.pe, by rw [hK]; exact lk_it he.lk⟩
theorem i_rng1 (hm : X.mg "range" = none) (he : VE X e Te te) (hg : Gl X "range" := by rfl) (hs : starEach [e] X.env = [(false, eval e X.env)] := by rfl) : VI X tg (.Call (.Name "range" p) [e] [] pos) (iRng1 (tCons Te tNil)) (vRng1 te) := ⟨pi_range1 hg hm (pa_cons he.pe pa_nil hs) hs, lk_rng1 he.lk⟩
theorem i_rng2 (hm : X.mg "range" = none) (ha : VE X a Ta ta) (hb : VE X b Tb tb) (hg : Gl X "range" := by rfl) (hs : starEach [a, b] X.env = [(false, eval a X.env), (false, eval b X.env)] := by rfl) (hs2 : starEach [b] X.env = [(false, eval b X.env)] := by rfl) (hs3 : starEach [a, b] X.env = (false, eval a X.env) :: starEach [b] X.env := by rfl) : VI X tg (.Call (.Name "range" p) [a, b] [] pos) (iRng2 (tCons Ta (tCons Tb tNil))) (vRng2 ta tb) := ⟨pi_range2 hg hm (pa_cons ha.pe (pa_cons hb.pe pa_nil hs2) hs3) hs hs2, lk_rng2 ha.lk hb.lk⟩
end

/-! ### targets -/
abbrev TGv := D → Env → (Env → Prop) → Prop
def LG (g : TG) (gv : TGv) (vs : List Nat) : Prop := ∀ (B0 Z B H : Hp) (σ : L2.St) (ρ : Env) (d : D) (v : V) (Qd : Env → Prop) (Q : L2.St → Hp → Prop), Rep B0 Z B H σ ρ → Den Z B H d v [] → d.nb = true → gv d ρ Qd →
  (∀ σ' ρ', Rep B0 Z B H σ' ρ' → (∀ i, i ∉ vs → σ'[i]? = σ[i]?) → σ'.length = σ.length → Qd ρ' → Q σ' H) → g v σ H Q
structure VG (X : Cx) (tg : Expr) (g : TG) (gv : TGv) (vs : List Nat) : Prop where
  pg : PG X tg g
  lk : LG g gv vs
def vgName (i : Nat) : TGv := fun d ρ Q => Q (ρ.set i (some d))
theorem lk_gname (i : Nat) : LG (gName i) (vgName i) [i] := by
  intro B0 Z B H σ ρ d v Qd Q R x nb h k
  obtain ⟨F, q, n, z⟩ := R.ex
  obtain ⟨F', h1, h2, h3⟩ := q.set i n nb x List.nodup_nil (fun a h => nomatch h)
  refine k _ _ ⟨R.xl, R.gr, F', h1, h2, fun a h => ?_⟩ (fun j hj => ?_) List.length_set h
  · rcases h3 a h with m | m
    · exact z a m
    · cases m
  · rw [List.getElem?_set_ne (fun e => hj (by rw [e]; exact List.mem_singleton_self _))]
def LGs (g : TGs) (gv : List D → Env → (Env → Prop) → Prop) (vs : List Nat) : Prop := ∀ (B0 Z B H : Hp) (σ : L2.St) (ρ : Env) (ds : List D) (us : List V) (Qd : Env → Prop) (Q : L2.St → Hp → Prop), Rep B0 Z B H σ ρ → Dens Z B H ds us [] → D.alls nbF ds = true → gv ds ρ Qd →
  (∀ σ' ρ', Rep B0 Z B H σ' ρ' → (∀ i, i ∉ vs → σ'[i]? = σ[i]?) → σ'.length = σ.length → Qd ρ' → Q σ' H) → g us σ H Q
structure VGs (X : Cx) (tgs : List Expr) (g : TGs) (gv : List D → Env → (Env → Prop) → Prop) (vs : List Nat) : Prop where
  pg : PGs X tgs g
  lk : LGs g gv vs
def vgNil : List D → Env → (Env → Prop) → Prop := fun ds ρ Q => match ds with
  | [] => Q ρ
  | _ => False
def vgCons (g : TGv) (gs : List D → Env → (Env → Prop) → Prop) : List D → Env → (Env → Prop) → Prop := fun ds ρ Q => match ds with
  | d :: ds => g d ρ fun ρ' => gs ds ρ' Q
  | [] => False
theorem lk_gnil : LGs gNil vgNil [] := by
  intro B0 Z B H σ ρ ds us Qd Q R x nb h k
  cases ds with
  | nil => exact ⟨x.1, k _ _ R (fun _ _ => rfl) rfl h⟩
  | cons d ds => exact h.elim
theorem lk_gcons {g : TG} {gv : TGv} {gs : TGs} {gsv : List D → Env → (Env → Prop) → Prop} {v1 v2 : List Nat} (l : LG g gv v1) (ls : LGs gs gsv v2) : LGs (gCons g gs) (vgCons gv gsv) (v1 ++ v2) := by
  intro B0 Z B H σ ρ ds us Qd Q R x nb h k
  cases ds with
  | nil => exact h.elim
  | cons d ds =>
    obtain ⟨v, ws, G1, G2, e, x1, x2, f⟩ := x
    subst e
    have f1 : G1 = [] := (List.append_eq_nil_iff.mp f.symm).1
    have f2 : G2 = [] := (List.append_eq_nil_iff.mp f.symm).2
    subst f1 f2
    have nb' : d.nb = true ∧ D.alls nbF ds = true := by simpa [D.alls] using nb
    refine ⟨v, ws, rfl, l B0 Z B H σ ρ d v _ _ R x1 nb'.1 h fun σ' ρ' R' e1 e2 h' => ?_⟩
    refine ls B0 Z B H σ' ρ' ds ws _ _ R' x2 nb'.2 h' fun σ2 ρ2 R2 e3 e4 h2 => k _ _ R2 (fun i hi => ?_) (e4.trans e2) h2
    rw [e3 i (fun m => hi (List.mem_append_right _ m)), e1 i (fun m => hi (List.mem_append_left _ m))]
def vgTup (n : Nat) (gs : List D → Env → (Env → Prop) → Prop) : TGv := fun d ρ Q => match d with
  | .nd .tup xs => xs.length = n ∧ gs xs ρ Q
  | _ => False
theorem lk_gtup {K : PySem.W.Frag} {n : Nat} {gs : TGs} {gsv : List D → Env → (Env → Prop) → Prop} {vs : List Nat} (l : LGs gs gsv vs) : LG (gTup K n gs) (vgTup n gsv) vs := by
  intro B0 Z B H σ ρ d v Qd Q R x nb h k
  unfold vgTup at h
  split at h
  · obtain ⟨a, us, e, t, _, y⟩ := den_tup R.sub x
    have nb' : D.alls nbF _ = true := (by simpa [D.all] using nb : _ ∧ _).2
    exact ⟨a, us, e, SqT.of t, by rw [← y.len]; exact h.1, l B0 Z B H σ ρ _ us _ _ R y nb' h.2 k⟩
  · exact h.elim
section
variable {X : Cx} {tg : Expr} {tgs : List Expr} {x : Str} {pos : Pos} {g : TG} {gv : TGv} {gs : TGs} {gsv : List D → Env → (Env → Prop) → Prop} {v1 v2 : List Nat} {k n : Nat}
theorem g_name (i : Nat) (hN : X.N.Nodup) (hi : X.N[i]? = some x := by rfl) (hx : Loc X.env.scope x := by first | exact Or.inl rfl | exact Or.inr rfl) (hf : X.fn x = true ∨ X.env.scope.names.lookup x = some .local := by first | exact .inl rfl | exact .inr rfl) : VG X (.Name x pos) (gName i) (vgName i) [i] := ⟨pg_name hN hi hx hf, lk_gname i⟩
theorem gs_nil : VGs X [] gNil vgNil [] := ⟨pgs_nil, lk_gnil⟩
theorem gs_cons (h : VG X tg g gv v1) (r : VGs X tgs gs gsv v2) (hs : (assignEach (tg :: tgs) X.env).map (·.2) = assign tg X.env :: (assignEach tgs X.env).map (·.2) := by rfl) : VGs X (tg :: tgs) (gCons g gs) (vgCons gv gsv) (v1 ++ v2) := ⟨pgs_cons h.pg r.pg hs, lk_gcons h.lk r.lk⟩
theorem g_tup (hc : X.calm = true) (h : VGs X tgs gs gsv v1) (hn : (assignEach tgs X.env).length = n := by rfl) (hst : (assignEach tgs X.env).findIdx? (·.1) = none := by rfl) (hK : X.K = KK.K := by rfl) : VG X (.Tuple tgs k pos) (gTup KK.K n gs) (vgTup n gsv) v1 := by
  rw [← hK]
  exact ⟨pg_tup hc h.pg hn hst, lk_gtup h.lk⟩
end

/-! ### for -/
theorem Rep.rebase {B0 Z B H : Hp} {σ : L2.St} {ρ : Env} (R : Rep B0 Z B H σ ρ) : Rep B Z B H σ ρ := ⟨⟨XX.mono _ _ R.gr.sb R.xl.kn, fun B1 H1 σ1 ρ1 x cls dx H' R1 => R.xl.ll B1 H1 σ1 ρ1 x cls dx H' ⟨⟨R.gr.sb.trans R1.gr.sb, R1.gr.sh, R1.gr.sub, fun a o e nt n => R1.gr.old a o e nt (R.gr.old a o e nt n)⟩, R1.ex⟩⟩, ⟨Same.refl _, R.gr.sh, R.sub, fun _ _ _ _ n => n⟩, R.ex⟩
theorem Rep.unbase {B0 B1 H1 Z B H : Hp} {σ σ0 : L2.St} {ρ ρ0 : Env} (R : Rep B1 Z B H σ ρ) (R0 : Rep B0 Z B1 H1 σ0 ρ0) : Rep B0 Z B H σ ρ := have g := R0.gr; ⟨R0.xl, ⟨g.sb.trans R.gr.sb, R.gr.sh, R.gr.sub, fun a o e nt n => R.gr.old a o e nt (g.old a o e nt n)⟩, R.ex⟩
theorem Out.unbase {B0 B1 H1 Z H : Hp} {d : D} {v : V} (g : Grow B0 Z B1 H1) (o : Out Z B1 Z d v H) : Out Z B0 Z d v H := by
  obtain ⟨B', F, g', x, n, f⟩ := o
  exact ⟨B', F, ⟨g.sb.trans g'.sb, g'.sh, g'.sub, fun a o e nt n => g'.old a o e nt (g.old a o e nt n)⟩, x, n, f⟩
def forL (g : TGv) (tb : TSv) : List D → TSv
  | [] => fun D ρ => D.nx ρ
  | x :: xs => fun D ρ => g x ρ fun ρ' => tb { nx := forL g tb xs D, rt := D.rt, bk := D.nx, ct := forL g tb xs D } ρ'
def vFor (ti : TIv) (g : TGv) (tb : TSv) : TSv := fun D ρ => ti ρ fun items => forL g tb items D ρ
theorem co_nb {d : D} (h : d.all coF = true) : d.nb = true := D.all_imp (fun f e => by cases f <;> first | rfl | exact nomatch e) d h
theorem lk_for {wi : TI} {ti : TIv} {g : TG} {gv : TGv} {vs : List Nat} {T : TS} {t : TSv} (li : LI wi ti) (lg : LG g gv vs) (lt : LS T t) : LS (tFor wi g T) (vFor ti gv t) := by
  intro B0 Z B H σ ρ Dv De R h S
  refine li B0 Z B H σ ρ _ _ R h fun J B1 H1 items gr Y nc h => ?_
  refine ⟨fun i m σ' H' => m = items.length - i ∧ i ≤ items.length ∧ ∃ B' ρ', Rep B0 Z B' H' σ' ρ' ∧ Same B1 B' ∧ forL gv t (items.drop i) Dv ρ', ⟨items.length, by simp, Nat.zero_le _, B1, ρ, R.grow gr, Same.refl _, by simpa using h⟩, ?_⟩
  rintro i m σ' H' ⟨rfl, hi, B', ρ', R', sb, h'⟩
  have y := Y B' H' sb R'.sub
  by_cases hlt : i < items.length
  · refine .inr ?_
    have e : items[i]? = some items[i] := List.getElem?_eq_getElem hlt
    obtain ⟨h1, h2⟩ := y.1 i _ e
    have hd : items.drop i = items[i] :: items.drop (i + 1) := List.drop_eq_getElem_cons hlt
    rw [hd] at h'
    refine ⟨h1, fun σ2 H2 => ∃ B2 ρ2, Rep B0 Z B2 H2 σ2 ρ2 ∧ Same B1 B2 ∧ forL gv t (items.drop (i + 1)) Dv ρ2, fun σ2 H2 ⟨B2, ρ2, R2, s2, q⟩ => ⟨items.length - (i + 1), by omega, rfl, hlt, B2, ρ2, R2, s2, q⟩, fun x H'' hy => ?_⟩
    obtain ⟨B'', F, g2, dx, nf, fr⟩ := h2 x H'' hy
    have nd := alls_at nc e
    have ef := Den.nofp _ _ _ nd dx
    subst ef
    have R'' := R'.grow g2
    refine lg B0 Z B'' H'' σ' ρ' _ x _ _ R'' dx (co_nb nd) h' fun σ3 ρ3 R3 _ _ h3 => ?_
    -- the base at hand: what the loop walks stays fixed
    refine lt B'' Z B'' H'' σ3 ρ3 _ _ R3.rebase h3 ⟨fun B2 H2 σ2 ρ2 R2 q => ?_, fun d v H2 o ow q => ?_, fun B2 H2 σ2 ρ2 R2 q => ?_, fun B2 H2 σ2 ρ2 R2 q => ?_⟩
    · exact ⟨B2, ρ2, R2.unbase R'', (sb.trans g2.sb).trans R2.gr.sb, q⟩
    · exact S.rt d v H2 (o.unbase R''.gr) ow q
    · exact S.nx _ _ _ _ (R2.unbase R'') q
    · exact ⟨B2, ρ2, R2.unbase R'', (sb.trans g2.sb).trans R2.gr.sb, q⟩
  · have e : i = items.length := by omega
    subst e
    refine .inl ⟨y.2, ?_⟩
    rw [List.drop_length] at h'
    exact S.nx _ _ _ _ R' h'
end VL

/-! ## VLT -/
/-! VL: for as a rule, comprehensions, changes of lists, a def's body, objects made. -/
namespace VL
open PySem PySem.Spec L2
open PyProof.Rows hiding St
variable [KK : KLs] [XX : XW]
section
variable {X : Cx} {tg iter : Expr} {body : List Stmt} {wi : TI} {ti : TIv} {g : TG} {gv : TGv} {vs : List Nat} {T : TS} {t : TSv} {pos : Pos}
theorem s_for (hc : X.calm = true) (hp : PassesOwn (model X.prog X.w) X.A X.env X.xe) (hi : VI X tg iter wi ti) (hg : VG X tg g gv vs) (hb : VSs X body T t) (hs : ∀ x, foldedSetIterable iter X.env x = pure x := by intro _; rfl) : VS X (.For tg iter body [] pos) (tFor wi g T) (vFor ti gv t) := ⟨ps_for hp hc hi.pi hg.pg hb.ps hs, lk_for hi.lk hg.lk hb.lk⟩
end

/-! ### comprehensions -/
def wipeD (ρ : Env) : List Nat → Env
  | [] => ρ
  | v :: vs => (wipeD ρ vs).set v none
theorem Rep.wipe {B0 Z B H : Hp} {σ : L2.St} {ρ : Env} (R : Rep B0 Z B H σ ρ) : ∀ vs : List Nat, Rep B0 Z B H (wipe σ vs) (wipeD ρ vs)
  | [] => R
  | v :: vs => (R.wipe vs).drop v
theorem wipe_ext {σ τ : L2.St} (hl : τ.length = σ.length) : ∀ (vs : List Nat), (∀ i, i ∉ vs → τ[i]? = σ[i]?) → wipe τ vs = wipe σ vs := by
  intro vs h
  apply List.ext_getElem?
  intro i
  by_cases m : i ∈ vs
  · have key : ∀ (α : L2.St) (vs : List Nat), i ∈ vs → (wipe α vs)[i]? = if i < α.length then some none else none := by
      intro α vs
      induction vs with
      | nil => intro h; cases h
      | cons v vs ih =>
        intro h
        unfold L2.wipe
        by_cases e : v = i
        · subst e
          by_cases hv : v < α.length
          · rw [List.getElem?_set_self (by rw [wipe_length]; exact hv), if_pos hv]
          · rw [if_neg hv]
            exact List.getElem?_eq_none (by rw [List.length_set, wipe_length]; omega)
        · rw [List.getElem?_set_ne e]
          exact ih (by rcases List.mem_cons.mp h with h | h; exact absurd h.symm e; exact h)
    rw [key τ vs m, key σ vs m, hl]
  · rw [wipe_out m, wipe_out m]
    exact h i m
def lcL (g : TGv) (tt : TTv) (te : TEv) (ρ : Env) : List D → List D → (D → Prop) → Prop
  | [], acc, Q => Q (.lst .o acc)
  | x :: xs, acc, Q => g x ρ fun ρ2 => tt ρ2 fun k => if k = true then te ρ2 fun d => d.nb = true ∧ lcL g tt te ρ xs (acc ++ [d]) Q else lcL g tt te ρ xs acc Q
def vLc (ti : TIv) (g : TGv) (tt : TTv) (te : TEv) (vs : List Nat) : TEv := fun ρ Q => ti ρ fun items => items.length ≤ 1000000 ∧ lcL g tt te (wipeD ρ vs) items [] Q
def vYes : TTv := fun _ Q => Q true
theorem lk_yes : LT tYes vYes := by
  intro B0 Z B H σ ρ Qd Q R h k
  exact k _ _ _ (Grow.refl R.sub) h
theorem lk_lc {wi : TI} {ti : TIv} {g : TG} {gv : TGv} {vg vs : List Nat} {Tt : TT} {tt : TTv} {Te : TE} {te : TEv} (li : LI wi ti) (lg : LG g gv vg) (hv : ∀ i ∈ vg, i ∈ vs) (lt : LT Tt tt) (le : LE Te te) : LE (tLc wi g Tt Te vs) (vLc ti gv tt te vs) := by
  intro B0 Z B H σ ρ Qd Q R h k
  refine li B0 Z B H σ ρ _ _ R h fun J B1 H1 items gr Y nc h => ?_
  obtain ⟨hlen, h⟩ := h
  have R1 := R.grow gr
  intro Da hD
  have bD : B1 Da = none := gr.sub.free hD
  refine ⟨fun i m H' => m = items.length - i ∧ i ≤ items.length ∧ ∃ B' acc us F, Grow B1 H1 B' H' ∧ B' Da = none ∧ H' Da = some (.lst us) ∧ Dens Z B' H' acc us F ∧ F.Nodup ∧ Da ∉ F ∧ (∀ a ∈ F, B' a = none ∧ H1 a = none) ∧ D.alls nbF acc = true ∧ acc.length ≤ i ∧ lcL gv tt te (wipeD ρ vs) (items.drop i) acc Qd,
    ⟨items.length, by simp, Nat.zero_le _, B1, [], [], [], Grow.new gr.sub hD, bD, upd_same, ⟨rfl, rfl⟩, List.nodup_nil, (fun z => nomatch z), (fun a h => nomatch h), rfl, Nat.zero_le _, by simpa using h⟩, ?_⟩
  rintro i m H' ⟨rfl, hi, B', acc, us, F, g1, b1, hD1, da, nF, dF, fF, nba, hacc, h'⟩
  have y := Y B' H' g1.sb g1.sub
  by_cases hlt : i < items.length
  · refine .inr ?_
    have e : items[i]? = some items[i] := List.getElem?_eq_getElem hlt
    obtain ⟨h1, h2⟩ := y.1 i _ e
    have hd : items.drop i = items[i] :: items.drop (i + 1) := List.drop_eq_getElem_cons hlt
    rw [hd] at h'
    refine ⟨h1, fun H2 => ∃ B2 acc us F, Grow B1 H1 B2 H2 ∧ B2 Da = none ∧ H2 Da = some (.lst us) ∧ Dens Z B2 H2 acc us F ∧ F.Nodup ∧ Da ∉ F ∧ (∀ a ∈ F, B2 a = none ∧ H1 a = none) ∧ D.alls nbF acc = true ∧ acc.length ≤ i + 1 ∧ lcL gv tt te (wipeD ρ vs) (items.drop (i + 1)) acc Qd,
      fun H2 q => ⟨items.length - (i + 1), by omega, rfl, hlt, q⟩, fun x H'' hy => ?_⟩
    obtain ⟨B2, F2, g2, dx, nf, fr⟩ := h2 x H'' hy
    have nd := alls_at nc e
    have ef := Den.nofp _ _ _ nd dx
    subst ef
    have R2 := ((R1.grow g1).grow g2).wipe vs
    refine lg B0 Z B2 H'' (wipe σ vs) (wipeD ρ vs) _ x _ _ R2 dx (co_nb nd) h' fun σ3 ρ3 R3 e3 l3 h3 => ?_
    refine ⟨?_, ?_⟩
    · have z : wipe σ3 vs = wipe (wipe σ vs) vs := wipe_ext l3 vs fun i hi => e3 i fun m => hi (hv i m)
      rw [z]
      refine (wipe_ext (wipe_length σ vs) vs fun i hi => ?_)
      exact wipe_out hi
    refine lt B0 Z B2 H'' σ3 ρ3 _ _ R3 h3 fun c B3 H3 g3 h4 => ?_
    have gg3 := (g1.trans g2).trans g3
    have g23 := g2.trans g3
    cases c with
    | false =>
      rw [if_neg Bool.false_ne_true] at h4 ⊢
      refine ⟨B3, acc, us, F, gg3, g23.old _ _ hD1 (fun _ z => nomatch z) b1, g23.sh _ _ hD1, Dens.grow g23.sb g23.sh _ _ _ da, nF, dF, fun a h => ?_, nba, Nat.le_succ_of_le hacc, h4⟩
      obtain ⟨o, eo, nt⟩ := Dens.liveN _ _ _ da a h
      exact ⟨g23.old a o eo nt (fF a h).1, (fF a h).2⟩
    | true =>
      rw [if_pos rfl] at h4 ⊢
      refine le B0 Z B3 H3 σ3 ρ3 _ _ (R3.grow g3) h4 fun d v H4 o q => ?_
      obtain ⟨B4, G, g4, xd, nG, fG⟩ := o
      obtain ⟨nbd, h5⟩ := q
      have g24 := g23.trans g4
      have gg4 := gg3.trans g4
      have hD4 : H4 Da = some (.lst us) := g24.sh _ _ hD1
      have bD4 : B4 Da = none := g24.old _ _ hD1 (fun _ z => nomatch z) b1
      refine ⟨us, hD4, by rw [← da.len]; exact million (by omega), B4, acc ++ [d], us ++ [v], F ++ G, ?_, bD4, upd_same, ?_, ?_, ?_, fun a h => ?_, ?_, ?_, h5⟩
      · refine ⟨gg4.sb, fun a o e => ?_, fun a o e => ?_, gg4.old⟩
        · rw [upd_ne (ne_of_none e hD)]; exact gg4.sh _ _ e
        · rw [upd_ne (fun z => by rw [z, bD4] at e; cases e)]; exact gg4.sub _ _ e
      · have dG : Da ∉ G := fun m => by
          have z := (fG Da m).2
          rw [g23.sh _ _ hD1] at z; cases z
        have k1 : ∀ a ∈ F, upd H4 Da (.lst (us ++ [v])) a = H4 a := fun a h => upd_ne fun z => dF (z ▸ h)
        have k2 : ∀ a ∈ G, upd H4 Da (.lst (us ++ [v])) a = H4 a := fun a h => upd_ne fun z => dG (z ▸ h)
        exact Dens.app (Dens.keep _ _ _ nba k1 (Dens.grow g24.sb g24.sh _ _ _ da)) (Dens.one (Den.keep _ _ _ nbd k2 xd))
      · refine List.nodup_append.mpr ⟨nF, nG, fun a h b h' z => ?_⟩
        subst z
        obtain ⟨o, eo, nt⟩ := Dens.liveN _ _ _ da a h
        have z := (fG a h').2
        rw [g23.sh _ _ eo] at z
        cases z
      · intro m
        rcases List.mem_append.mp m with m | m
        · exact dF m
        · have z := (fG Da m).2
          rw [g23.sh _ _ hD1] at z; cases z
      · rcases List.mem_append.mp h with m | m
        · obtain ⟨o, eo, nt⟩ := Dens.liveN _ _ _ da a m
          exact ⟨g24.old a o eo nt (fF a m).1, (fF a m).2⟩
        · exact ⟨(fG a m).1, gg3.sh.free (fG a m).2⟩
      · rw [alls_app, nba]; simp [D.alls, nbd]
      · rw [List.length_append, List.length_singleton]; omega
  · have e : i = items.length := by omega
    subst e
    refine .inl ⟨y.2, ?_⟩
    rw [List.drop_length] at h'
    have h' : Qd (.lst .o acc) := h'
    refine k (.lst .o acc) _ _ ⟨B', Da :: F, gr.trans g1, ⟨Da, _, us, F, rfl, hD1, rfl, da, rfl⟩, List.nodup_cons.mpr ⟨dF, nF⟩, fun a h => ?_⟩ h'
    rcases List.mem_cons.mp h with z | z
    · subst z
      exact ⟨b1, gr.sh.free hD⟩
    · exact ⟨(fF a z).1, gr.sh.free (fF a z).2⟩
section
variable {X : Cx} {elt tg iter : Expr} {ifs : List Expr} {scope : Scope} {own : List (Str × Nat)} {pos : Pos} {wi : TI} {ti : TIv} {g : TG} {gv : TGv} {vg : List Nat} {Tt : TT} {tt : TTv} {Te : TE} {te : TEv}
/-- the tests of a comprehension -/
structure VTs (X : Cx) (ts : List Expr) (T : TT) (t : TTv) : Prop where
  pt : PTs X ts T
  lk : LT T t
theorem ts_nil : VTs X [] tYes vYes := ⟨pts_nil, lk_yes⟩
theorem ts_one {e : Expr} (h : VT X e Tt tt) : VTs X [e] Tt tt := ⟨pts_one h.pt, h.lk⟩
theorem e_lc (hc : X.calm = true) (hN : X.N.Nodup) (hi : VI X tg iter wi ti) (ok : BlkOk X.N X.env.scope scope own)
    (hg : ∀ (s : Shared) (H : Hp) (C : Addr) (cl : List (Str × Addr)) (fp : List Addr), VG (X.blk s H scope (compEnvC scope cl C X.env) fp) tg g gv vg) (hv : ∀ i ∈ vg, i ∈ own.map (·.2))
    (ht : ∀ (s : Shared) (H : Hp) (C : Addr) (cl : List (Str × Addr)) (fp : List Addr), VTs (X.blk s H scope (compEnvC scope cl C X.env) fp) ifs Tt tt)
    (he : ∀ (s : Shared) (H : Hp) (C : Addr) (cl : List (Str × Addr)) (fp : List Addr), VE (X.blk s H scope (compEnvC scope cl C X.env) fp) elt Te te) (hs : ∀ x, foldedSetIterable iter X.env x = pure x := by intro _; rfl) :
    VE X (.ListComp elt [⟨tg, iter, ifs, 0⟩] scope pos) (tLc wi g Tt Te (own.map (·.2))) (vLc ti gv tt te (own.map (·.2))) :=
  ⟨pe_lc hc hN hi.pi ok (fun s H C cl fp => (hg s H C cl fp).pg) (fun s H C cl fp => (ht s H C cl fp).pt) (fun s H C cl fp => (he s H C cl fp).pe) hs, lk_lc hi.lk (hg X.s_0 X.H_0 0 [] []).lk hv (ht X.s_0 X.H_0 0 [] []).lk (he X.s_0 X.H_0 0 [] []).lk⟩
end
end VL

/-! ## VLU -/
/-! VL: a def's body; changes of lists; objects made. -/
namespace VL
open PySem PySem.Spec L2
open PyProof.Rows hiding St
variable [KK : KLs] [XX : XW]

/-! ### a def by its body -/
def startD (m : Nat) (ds : List D) : Env := ds.map some ++ List.replicate (m - ds.length) none
theorem ar_nb {ds : List D} (h : D.alls arF ds = true) : D.alls nbF ds = true := D.alls_imp (fun f e => by cases f <;> first | rfl | exact nomatch e) ds h
theorem slots_none {Z B H : Hp} : ∀ n : Nat, Slots Z B H (List.replicate n none) (List.replicate n none) []
  | 0 => ⟨rfl, rfl⟩
  | n + 1 => ⟨none, _, rfl, slots_none n⟩
theorem slots_start {Z B H : Hp} {m : Nat} : ∀ {ds : List D} {vs : List V}, Dens Z B H ds vs [] → D.alls nbF ds = true → Slots Z B H (ds.map some ++ List.replicate m none) (vs.map some ++ List.replicate m none) []
  | [], _, ⟨e, _⟩, _ => by subst e; exact slots_none m
  | d :: ds, _, ⟨v, ws, G1, G2, e, x, q, f⟩, n => by
    subst e
    have f1 : G1 = [] := (List.append_eq_nil_iff.mp f.symm).1
    have f2 : G2 = [] := (List.append_eq_nil_iff.mp f.symm).2
    subst f1 f2
    have n' : d.nb = true ∧ D.alls nbF ds = true := by simpa [D.alls] using n
    exact ⟨v, _, [], [], rfl, n'.1, x, slots_start q n'.2, rfl⟩
omit XX in
theorem rep_start {B H : Hp} {N : List Str} {ds : List D} {vs : List V} (s : Same B H) (q : Dens H B H ds vs []) (n : D.alls arF ds = true) : Rep (XX := xw0) B H B H (L2.start N vs) (startD N.length ds) := by
  refine ⟨xl0, Grow.refl s, [], ?_, List.nodup_nil, fun a h => nomatch h⟩
  unfold L2.start startD
  rw [q.len]
  exact slots_start q (ar_nb n)
section
variable {P : Program} {w : World} {mg : Str → Option Value} {base : Heap} {x qual : Str} {params : Arguments} {body : List Stmt} {scope : Scope} {dvs : List V} {kws : List (Str × V)} {f : Addr} {fd : FuncData} {N ps : List Str} {k n : Nat} {Pv : PV} {t : TSv}
omit XX in
/-- a def that raises nothing -/
theorem fn_v (F : FunD KK.K x qual params body scope dvs kws f fd) (S : FnScope N ps scope) (hn : ps.length = n)
    (hb : ∀ (cdv : Value) (A : Around) (outer : List PySem.Env) (s : Shared) (H : Hp) (E : XK), Room k (A.deeper (envOfC qual scope s.heap.objs.size f cdv)) → ∃ T, VSs (XX := xw0) (cxOf (L2N.CX P w) P w KK.K mg base N qual scope f cdv A outer s H E).nox body T t)
    (hm : ∀ ds Q Ed, ds.length = n → Pv ds Q Ed → t { nx := fun _ => Q .non, rt := Q } (startD N.length ds)) : FnOk P w KK.K mg base (L2N.CX P w) (k + 1) f fd ps (spV n Pv) := by
  refine F.ok S (fun vs H Q E h => ?_) fun cdv A outer s H vs Q E hr h => ?_
  · obtain ⟨B, ds, Qd, Ed, e, _, q, _⟩ := h
    rw [← q.len, e, hn]
  · obtain ⟨B, ds, Qd, Ed, e, sB, q, na, hP, hq, hx⟩ := h
    obtain ⟨T, hT⟩ := hb cdv A outer s H E hr
    refine ⟨T, hT.ps.nox, ?_⟩
    refine hT.lk B H B H (L2.start N vs) (startD N.length ds) _ _ (rep_start sB q na) (hm ds Qd Ed e hP) ⟨fun B' H' σ ρ R h => ?_, fun d v H' o ow h => hq d v H' o ow h, fun _ _ _ _ _ h => h.elim, fun _ _ _ _ _ h => h.elim⟩
    exact hq .non .non H' ⟨B', [], R.gr, den_non, List.nodup_nil, fun a h => nomatch h⟩ rfl h
end

/-! ### changes of a name's own list -/
theorem length_of_get {α : Type} {l : List α} {i : Nat} {x : α} (h : l[i]? = some x) : i < l.length := (List.getElem?_eq_some_iff.mp h).1
section
variable {B0 Z B H : Hp} {σ : L2.St} {ρ : Env}
/-- the own list of a name gets another content, with what was made besides -/
theorem Rep.write {i : Nat} {h : Hd} {ds : List D} (R : Rep B0 Z B H σ ρ) (e : ρ[i]? = some (some (.nd h ds))) (hf : h.fl = .o ∨ ∃ y, h.fl = .c y) :
    ∃ a o0 vs G, σ[i]? = some (some (.ref a)) ∧ H a = some o0 ∧ Cont h o0 vs ∧ Dens Z B H ds vs G ∧ D.alls nbF ds = true ∧ G.Nodup ∧ a ∉ G ∧ (∀ b ∈ G, B b = none ∧ Z b = none) ∧
      ∀ (h' : Hd) (es : List D) (o : HO) (B' H' : Hp) (us : List V) (G' : List Addr), h'.fl = h.fl → Grow B H B' H' → Cont h' o us → Dens Z B' H' es us G' → G'.Nodup → D.alls nbF es = true → (∀ b ∈ G', b ∈ G ∨ (B' b = none ∧ H b = none)) → Rep B0 Z B' (upd H' a o) σ (ρ.set i (some (.nd h' es))) := by
  obtain ⟨F, q, n, z⟩ := R.ex
  obtain ⟨v, G0, Rr, h1, h2, h3, h4, h5, h6, h7, h8⟩ := q.part n e
  obtain ⟨a, o0, vs, G, ev, x, c, y, f'⟩ := h3
  subst ev
  have nb : nbF h.fl = true ∧ D.alls nbF ds = true := by simpa [D.all] using h2
  have hx : H a = some o0 := by
    rcases hf with hf | ⟨z, hf⟩
    · rw [hf] at x; exact x
    · rw [hf] at x; exact x.1
  have hG : G0 = a :: G := by
    rcases hf with hf | ⟨z, hf⟩ <;> (rw [hf] at f'; exact f')
  subst hG
  have ng := List.nodup_cons.mp h4
  refine ⟨a, o0, vs, G, h1, hx, c, y, nb.2, ng.2, ng.1, fun b hb => z b (h6 b (.inl (List.mem_cons_of_mem _ hb))), fun h' es o B' H' us G' hf' g c' y' n' nbe fr => ?_⟩
  have za := z a (h6 a (.inl List.mem_cons_self))
  have ba : B' a = none := g.old a _ hx (Cont.nt c hf) za.1
  have aG : a ∉ G' := fun m => by
    rcases fr a m with m | m
    · exact ng.1 m
    · rw [m.2] at hx; cases hx
  have gr2 : Grow B0 Z B' (upd H' a o) := by
    have g2 := R.gr.trans g
    refine ⟨g2.sb, fun b ob e => ?_, fun b ob e => ?_, g2.old⟩
    · rw [upd_ne (fun q => by rw [q, za.2] at e; cases e)]; exact g2.sh _ _ e
    · rw [upd_ne (fun q => by rw [q, ba] at e; cases e)]; exact g2.sub _ _ e
  have live : ∀ b ∈ Rr, ∃ ob, H b = some ob ∧ NT ob := h8.liveN
  have rest : Slots Z B' (upd H' a o) (ρ.set i none) σ Rr := (h8.grow g.sb g.sh).keep fun b hb => upd_ne fun q => h5 a List.mem_cons_self (q ▸ hb)
  have den : Den Z B' (upd H' a o) (.nd h' es) (.ref a) (a :: G') := by
    refine ⟨a, o, us, G', rfl, ?_, c', Dens.keep _ _ _ nbe (fun b hb => upd_ne fun q => aG (q ▸ hb)) y', ?_⟩
    · rw [hf']
      rcases hf with hf | ⟨z, hf⟩
      · rw [hf]; exact upd_same
      · rw [hf] at x ⊢; exact ⟨upd_same, x.2⟩
    · rw [hf']; rcases hf with hf | ⟨z, hf⟩ <;> (rw [hf]; rfl)
  have nbn : D.nb (.nd h' es) = true := by
    show (nbF h'.fl && D.alls nbF es) = true
    rw [hf', nb.1, nbe]; rfl
  obtain ⟨F', k1, k2, k3⟩ := rest.fill (length_of_get e) h1 h7 nbn den (List.nodup_cons.mpr ⟨aG, n'⟩) (fun b hb m => by
    rcases List.mem_cons.mp hb with q | hb
    · subst q; exact h5 b List.mem_cons_self m
    · rcases fr b hb with q | q
      · exact h5 b (List.mem_cons_of_mem _ q) m
      · obtain ⟨ob, eo, nt⟩ := live b m
        rw [q.2] at eo; cases eo)
  refine ⟨R.xl, gr2, F', k1, k2, fun b hb => ?_⟩
  rcases k3 b hb with m | m
  · obtain ⟨ob, eo, nt⟩ := live b m
    exact ⟨g.old b ob eo nt (z b (h6 b (.inr m))).1, (z b (h6 b (.inr m))).2⟩
  · rcases List.mem_cons.mp m with q | m
    · subst q; exact ⟨ba, za.2⟩
    · rcases fr b m with q | q
      · obtain ⟨ob, eo, nt⟩ := Dens.liveN _ _ _ y b q
        have zz := z b (h6 b (.inl (List.mem_cons_of_mem _ q)))
        exact ⟨g.old b ob eo nt zz.1, zz.2⟩
      · exact ⟨q.1, R.z b q.2⟩
end
/-- x.append(e), x a name -/
def vApp (i : Nat) (te : TEv) : TSv := fun D ρ => match ρ[i]? with
  | some (some (.nd (.lst .o) xs)) => te ρ fun d => d.nb = true ∧ xs.length < 1000000 ∧ D.nx (ρ.set i (some (.lst .o (xs ++ [d]))))
  | _ => False
theorem lk_app {i : Nat} {Te : TE} {te : TEv} (l : LE Te te) : LS (tDrop (tBM KK.K "list" rAppend (tVar i) (tCons Te tNil))) (vApp i te) := by
  intro B0 Z B H σ ρ Dv De R h S
  unfold vApp at h
  split at h
  · rename_i xs e
    obtain ⟨a, o0, vs, G, h1, hx, c, y, nb, ng, aG, fG, W⟩ := R.write (h := .lst .o) e (.inl rfl)
    have c : o0 = .lst vs := c
    subst c
    refine ⟨_, h1, .inl ⟨rfl, _, .inl (.inl hx)⟩, ?_⟩
    refine l B0 Z B H σ ρ _ _ R h fun d v H1 ⟨B1, F, g, x, nF, fF⟩ ⟨nbd, hl, q⟩ => ?_
    refine ⟨a, vs, v, rfl, rfl, g.sh _ _ hx, by rw [← y.len]; exact million (Nat.le_of_lt hl), ?_⟩
    refine S.nx _ _ _ _ (W (.lst .o) (xs ++ [d]) (.lst (vs ++ [v])) B1 H1 (vs ++ [v]) (G ++ F) rfl g rfl (Dens.app (Dens.grow g.sb g.sh _ _ _ y) (Dens.one x)) (List.nodup_append.mpr ⟨ng, nF, fun b hb b' hb' z => ?_⟩) (by rw [alls_app, nb]; simp [D.alls, nbd]) (fun b hb => ?_)) q
    · subst z
      obtain ⟨o, eo, nt⟩ := Dens.liveN _ _ _ y b hb
      rw [(fF b hb').2] at eo
      cases eo
    · rcases List.mem_append.mp hb with m | m
      · exact .inl m
      · exact .inr (fF b m)
  · exact h.elim
/-- x[k] = e, x a name -/
def vSetIx (i : Nat) (tk te : TEv) : TSv := fun W ρ => te ρ fun d => match ρ[i]? with
  | some (some (.nd (.lst .o) xs)) => tk ρ fun y => match y with
    | .int k => d.nb = true ∧ D.alls coF xs = true ∧ ∃ j, ixN xs.length k = some j ∧ W.nx (ρ.set i (some (.lst .o (xs.set j d))))
    | _ => False
  | _ => False
theorem Dens.set {Z B H : Hp} {d : D} {v : V} {G : List Addr} : ∀ {ds : List D} {vs : List V} (j : Nat), Dens Z B H ds vs [] → Den Z B H d v G → j < ds.length → Dens Z B H (ds.set j d) (vs.set j v) G
  | [], _, j, _, _, h => by simp at h
  | d0 :: ds, _, 0, ⟨w, ws, G1, G2, e, x, q, f⟩, y, h => by
    subst e
    have f2 : G2 = [] := (List.append_eq_nil_iff.mp f.symm).2
    subst f2
    exact ⟨v, ws, G, [], rfl, y, q, (List.append_nil _).symm⟩
  | d0 :: ds, _, j + 1, ⟨w, ws, G1, G2, e, x, q, f⟩, y, h => by
    subst e
    have f1 : G1 = [] := (List.append_eq_nil_iff.mp f.symm).1
    have f2 : G2 = [] := (List.append_eq_nil_iff.mp f.symm).2
    subst f1 f2
    exact ⟨w, ws.set j v, [], G, rfl, x, Dens.set j q y (by simpa using h), rfl⟩
theorem alls_set {p : Fl → Bool} {d : D} : ∀ {ds : List D} (j : Nat), D.alls p ds = true → d.all p = true → D.alls p (ds.set j d) = true
  | [], _, h, _ => h
  | d0 :: ds, 0, h, h2 => by
    have n' : d0.all p = true ∧ D.alls p ds = true := by simpa [D.alls] using h
    simp [D.alls, h2, n'.2]
  | d0 :: ds, j + 1, h, h2 => by
    have n' : d0.all p = true ∧ D.alls p ds = true := by simpa [D.alls] using h
    simp [D.alls, n'.1, alls_set j n'.2 h2]
theorem ixN_lt {n : Nat} {k : Int} {j : Nat} (h : ixN n k = some j) : j < n := by
  unfold ixN at h
  split at h
  · split at h
    · cases h; omega
    · cases h
  · split at h
    · cases h; omega
    · cases h
theorem lk_setIx {i : Nat} {Te Tk : TE} {te tk : TEv} (l : LE Te te) (lk : LE Tk tk) : LS (tAsg Te (gSub (tVar i) Tk rSetL)) (vSetIx i tk te) := by
  intro B0 Z B H σ ρ Dv De R h S
  refine l B0 Z B H σ ρ _ _ R h fun d v H1 ⟨B1, F, g, x, nF, fF⟩ h => ?_
  split at h
  · rename_i xs e
    obtain ⟨a, o0, vs, G, h1, hx, c, y, nb, ng, aG, fG, W⟩ := R.write (h := .lst .o) e (.inl rfl)
    have c : o0 = .lst vs := c
    subst c
    refine ⟨_, h1, ?_⟩
    refine lk B0 Z B1 H1 σ ρ _ _ (R.grow g) h fun ky kv H2 ⟨B2, F2, g2, x2, _, _⟩ h => ?_
    split at h
    · obtain ⟨nbd, co, j, hj, q⟩ := h
      have hjl := ixN_lt hj
      have g12 := g.trans g2
      have eG := Dens.nofp _ _ _ co y
      subst eG
      refine ⟨a, vs, _, j, rfl, x2.1, g12.sh _ _ hx, by rw [← y.len]; exact hj, ?_⟩
      refine S.nx _ _ _ _ (W (.lst .o) (xs.set j d) (.lst (vs.set j v)) B2 H2 (vs.set j v) F rfl g12 rfl (Dens.set j (Dens.grow g12.sb g12.sh _ _ _ y) (x.grow g2.sb g2.sh) hjl) nF (alls_set j nb nbd) (fun b hb => .inr ?_)) q
      obtain ⟨o, eo, nt⟩ := x.liveN _ _ _ b hb
      exact ⟨g2.old b o eo nt (fF b hb).1, (fF b hb).2⟩
    · exact h.elim
  · exact h.elim
section
variable {X : Cx} {e k : Expr} {pos p1 p2 p3 p4 p5 : Pos} {Te Tk : TE} {te tk : TEv} {x : Str}
theorem s_app (i : Nat) (he : VE X e Te te) (hN : X.N[i]? = some x := by rfl) (hv : Vis X.env.scope x := by first | exact Or.inl rfl | exact Or.inr (Or.inl rfl) | exact Or.inr (Or.inr rfl)) (hd : (x == ("__debug__" : Str)) = false := by decide) (hcd : (x == ("__classdict__" : Str)) = false := by decide)
    (hbase : attributeBase (.Name x p1) "append" X.env (eval (.Name x p1) X.env) = eval (.Name x p1) X.env := by rfl)
    (hfew : ((backTo p3 (starEach [e] X.env)).all (fun x => !x.1) && (backToKw p3 (keywordEach [] X.env)).all (fun x => x.1.isSome)
      && decide (([e] : List Expr).length + ([] : List Keyword).length + (if ([] : List Keyword).isEmpty then 0 else 1) < 30)) = true := by rfl)
    (hline : (p2.endLine == p3.line) = true := by rfl) (hs : starEach [e] X.env = (false, eval e X.env) :: starEach [] X.env := by rfl) (hplain : (backTo p3 (starEach [] X.env)).any (·.1) = false := by rfl)
    (hsw : swapsWith (.Call (.Attribute (.Name x p1) "append" p2) [e] [] p3) none p4.line X.env = pure false := by rfl) (hK : X.K = KK.K := by rfl) :
    VS X (.Expr (.Call (.Attribute (.Name x p1) "append" p2) [e] [] p3) p4) (tDrop (tBM KK.K "list" rAppend (tVar i) (tCons Te tNil))) (vApp i te) := by
  rw [← hK]
  exact ⟨ps_expr (pe_bm PySem.F.plainAttrs_list PySem.F.slot_list_append PySem.F.type_list_append mt_append (pe_var hN hv hd hcd) (pa_cons he.pe pa_nil hs) hbase hfew hline hs hplain) hsw, by rw [hK]; exact lk_app he.lk⟩
end
end VL

/-! ## VLV -/
/-! VL: objects made: __init__, C(..). -/
namespace VL
open PySem PySem.Spec L2
open PyProof.Rows hiding St
variable [KK : KLs] [XX : XW]

/-! ### self.f = e in an __init__ -/
def vSetF (i : Nat) (ok : Addr → Prop) (f : Str) (te : TEv) : TSv := fun W ρ => te ρ fun d => match ρ[i]? with
  | some (some (.nd (.slf (.c y) C ns) xs)) => ok C ∧ (ns.all fun n => !decide (n = f)) = true ∧ ns.length ≤ 100 ∧ d.nb = true ∧ W.nx (ρ.set i (some (.slf (.c y) C (ns ++ [f]) (xs ++ [d]))))
  | _ => False
theorem putF_new {f : Str} {y : V} : ∀ {ns : List Str} {vs : List V}, ns.length = vs.length → (ns.all fun n => !decide (n = f)) = true → putF f y (ns.zip vs) = (ns ++ [f]).zip (vs ++ [y])
  | [], [], _, _ => rfl
  | [], _ :: _, h, _ => by simp at h
  | _ :: _, [], h, _ => by simp at h
  | n :: ns, v :: vs, h, a => by
    simp only [List.all_cons, Bool.and_eq_true, Bool.not_eq_true', decide_eq_false_iff_not] at a
    show (if n = f then (n, y) :: ns.zip vs else (n, v) :: putF f y (ns.zip vs)) = _
    rw [if_neg a.1, putF_new (by simpa using h) a.2]
    rfl
theorem lk_setF {i : Nat} {ok : Addr → Prop} {f : Str} {Te : TE} {te : TEv} (hk : ∀ C, ok C → FldOk KK.K C f) (l : LE Te te) : LS (sFld KK.K (tVar i) Te f) (vSetF i ok f te) := by
  intro B0 Z B H σ ρ Dv De R h S
  refine l B0 Z B H σ ρ _ _ R h fun d v H1 ⟨B1, F, g, x, nF, fF⟩ h => ?_
  split at h
  · rename_i y C ns xs e
    obtain ⟨hC, ha, hl, nbd, q⟩ := h
    obtain ⟨a, o0, vs, G, h1, hx, c, yd, nb, ng, aG, fG, W⟩ := R.write (h := .slf (.c y) C ns) e (.inr ⟨y, rfl⟩)
    obtain ⟨hlen, dx, c⟩ := c
    subst c
    refine ⟨_, h1, a, C, dx, _, rfl, g.sh _ _ hx, (hk C hC).cl, (hk C hC).no, by rw [List.length_zip, hlen, Nat.min_self, ← hlen]; omega, ?_⟩
    have ep := putF_new (f := f) (y := v) hlen ha
    rw [ep]
    refine S.nx _ _ _ _ (W (.slf (.c y) C (ns ++ [f])) (xs ++ [d]) (.ins C dx ((ns ++ [f]).zip (vs ++ [v]))) B1 H1 (vs ++ [v]) (G ++ F) rfl g ⟨by simp [hlen], dx, rfl⟩ (Dens.app (Dens.grow g.sb g.sh _ _ _ yd) (Dens.one x)) (List.nodup_append.mpr ⟨ng, nF, fun b hb b' hb' z => ?_⟩) (by rw [alls_app, nb]; simp [D.alls, nbd]) (fun b hb => ?_)) q
    · subst z
      obtain ⟨o, eo, nt⟩ := Dens.liveN _ _ _ yd b hb
      rw [(fF b hb').2] at eo
      cases eo
    · rcases List.mem_append.mp hb with m | m
      · exact .inl m
      · exact .inr (fF b m)
  · exact h.elim
section
variable {X : Cx} {e : Expr} {pos p1 p2 : Pos} {Te : TE} {te : TEv} {x f : Str} {ok : Addr → Prop}
theorem s_setF (i : Nat) (hk : ∀ C, ok C → FldOk KK.K C f) (he : VE X e Te te) (hN : X.N[i]? = some x := by rfl) (hv : Vis X.env.scope x := by first | exact Or.inl rfl | exact Or.inr (Or.inl rfl) | exact Or.inr (Or.inr rfl)) (hd : (x == ("__debug__" : Str)) = false := by decide) (hcd : (x == ("__classdict__" : Str)) = false := by decide)
    (hs : swapsWith e (some (.Attribute (.Name x p1) f p2)) pos.line X.env = pure false := by rfl) (hK : X.K = KK.K := by rfl) : VS X (.Assign [.Attribute (.Name x p1) f p2] e pos) (sFld KK.K (tVar i) Te f) (vSetF i ok f te) := by
  rw [← hK]
  exact ⟨ps_fld (pe_var hN hv hd hcd) he.pe hs, by rw [hK]; exact lk_setF hk he.lk⟩
end

/-! ### an __init__'s promise -/
abbrev PI' := Addr → List D → (List Str → List D → Prop) → (XD → Prop) → Prop
def spI (n : Nat) (P : PI') : Sp := fun vs H Q E => ∃ (Z B : Hp) (x C dx : Addr) (ds : List D) (ws : List V) (Qd : List Str → List D → Prop) (Ed : XD → Prop), vs = .ref x :: ws ∧ H x = some (.ins C dx []) ∧ Same Z H ∧ Same B Z ∧ Z x = none ∧ ds.length = n ∧
  Dens Z B H ds ws [] ∧ D.alls arF ds = true ∧ P C ds Qd Ed ∧
  (∀ ns xs us dx' B' H', Grow B Z B' H' → B' x = none → H' x = some (.ins C dx' (ns.zip us)) → ns.length = us.length → Dens Z B' H' xs us [] → D.alls puF xs = true → Qd ns xs → Q .non H') ∧
  (∀ e cls dx H', OutX Z B Z e cls dx H' → D.alls puF e.2.2 = true → Ed e → E cls dx H')
def initEnd (C : Addr) (Qd : List Str → List D → Prop) (y : Addr) : VL.Env → Prop := fun ρ => match (ρ[0]? : Option (Option D)) with
  | some (some (.nd (.slf (.c y') C' ns) xs)) => y' = y ∧ C' = C ∧ D.alls puF xs = true ∧ Qd ns xs
  | _ => False
section
variable {P : Program} {w : World} {mg : Str → Option Value} {base : Heap} {x qual : Str} {params : Arguments} {body : List Stmt} {scope : Scope} {dvs : List V} {kws : List (Str × V)} {f : Addr} {fd : FuncData} {N ps : List Str} {k n : Nat} {Pv : PI'} {t : TSv}
theorem pu_fp {Z B H : Hp} {ds : List D} {vs : List V} {F : List Addr} (h : Dens Z B H ds vs F) (p : D.alls puF ds = true) : F = [] :=
  Dens.nofp ds vs F (D.alls_imp (fun f e => by cases f <;> first | rfl | exact nomatch e) ds p) h
omit XX in
/-- an __init__ that raises nothing -/
theorem fn_i (F : FunD KK.K x qual params body scope dvs kws f fd) (S : FnScope N ps scope) (hn : ps.length = n + 1)
    (hb : ∀ (cdv : Value) (A : Around) (outer : List PySem.Env) (s : Shared) (H : Hp) (E : XK), Room k (A.deeper (envOfC qual scope s.heap.objs.size f cdv)) → ∃ T, VSs (XX := xw0) (cxOf (L2N.CX P w) P w KK.K mg base N qual scope f cdv A outer s H E).nox body T t)
    (hm : ∀ y C ds Qd Ed, ds.length = n → Pv C ds Qd Ed → t { nx := initEnd C Qd y, rt := fun _ => False } (startD N.length (.slf (.c y) C [] [] :: ds))) : FnOk P w KK.K mg base (L2N.CX P w) (k + 1) f fd ps (spI n Pv) := by
  refine F.ok S (fun vs H Q E h => ?_) fun cdv A outer s H vs Q E hr h => ?_
  · obtain ⟨Z, B, y, C, dx, ds, ws, Qd, Ed, e, _, _, _, _, en, q, _⟩ := h
    rw [e, List.length_cons, ← q.len, en, hn]
  · obtain ⟨Z, B, y, C, dx, ds, ws, Qd, Ed, e, hx, sZ, sB, zy, en, q, na, hP, hq, _⟩ := h
    subst e
    obtain ⟨T, hT⟩ := hb cdv A outer s H E hr
    refine ⟨T, hT.ps.nox, ?_⟩
    have by' : B y = none := sB.free zy
    have R : Rep (XX := xw0) B Z B H (L2.start N (.ref y :: ws)) (startD N.length (.slf (.c y) C [] [] :: ds)) := by
      refine ⟨xl0, ⟨Same.refl _, sZ, sB.trans sZ, fun _ _ _ _ n => n⟩, [y], ?_, List.nodup_cons.mpr ⟨List.not_mem_nil, List.nodup_nil⟩, fun a h => ?_⟩
      · have hs := slots_start (m := N.length - (.slf (.c y) C [] [] :: ds).length) q (ar_nb na)
        have hl : N.length - (V.ref y :: ws).length = N.length - (D.slf (.c y) C [] [] :: ds).length := by rw [List.length_cons, List.length_cons, q.len]
        unfold L2.start startD
        rw [hl]
        refine ⟨.ref y, _, [y], [], rfl, rfl, ?_, hs, rfl⟩
        exact ⟨y, _, [], [], rfl, ⟨hx, rfl⟩, ⟨rfl, dx, rfl⟩, ⟨rfl, rfl⟩, rfl⟩
      · have e := List.mem_singleton.mp h
        subst e
        exact ⟨by', zy⟩
    refine hT.lk B Z B H _ _ _ _ R (hm y C ds Qd Ed en hP) ⟨fun B' H' σ ρ R' h => ?_, fun d v H' o ow h => h.elim, fun _ _ _ _ _ h => h.elim, fun _ _ _ _ _ h => h.elim⟩
    have hI : initEnd C Qd y ρ := h
    unfold initEnd at hI
    split at hI
    · rename_i y' C' ns xs e
      obtain ⟨rfl, rfl, pu, hI⟩ := hI
      obtain ⟨F', qs, nd, z⟩ := R'.ex
      obtain ⟨v, G, Rr, h1, h2, h3, h4, h5, h6, h7, h8⟩ := qs.part nd e
      obtain ⟨a, o0, us, G2, ev, x, c, y, f'⟩ := h3
      obtain ⟨hl, dx', c⟩ := c
      subst c
      have xx : H' a = some (.ins C' dx' (ns.zip us)) ∧ a = y' := x
      obtain ⟨x1, rfl⟩ := xx
      have f' : G = a :: G2 := f'
      subst f'
      have eG := pu_fp y pu
      subst eG
      exact hq ns xs us dx' B' H' R'.gr (z a (h6 a (.inl List.mem_cons_self))).1 x1 hl y pu hI
    · exact hI.elim
end

/-! ### C(..) -/
section
variable {B0 Z B H B1 H1 : Hp} {σ : L2.St} {ρ : Env}
/-- the new object, as data, behind its __init__ -/
theorem made_out {n : Nat} {P : PI'} {C : Addr} {x dx : Addr} {ds : List D} {vs : List V} {F : List Addr} {Qd : D → Prop} {Q : VK} (R : Rep B0 Z B H σ ρ) (g : Grow B H B1 H1) (q : Dens Z B1 H1 ds vs F)
    (hx : H1 x = none) (hdx : H1 dx = none) (ne : dx ≠ x) (hl : ds.length = n) (hP : P C (D.maps fArg ds) (fun ns xs => Qd (.obj C ns xs)) (fun _ => False)) (k : ∀ d v H', Out Z B H d v H' → Qd d → Q v H') :
    spI n P (.ref x :: vs) (upd (upd H1 dx (.own x)) x (.ins C dx [])) (fun v H2 => v = .non ∧ Q (.ref x) H2) E0 := by
  have s1 := argBase_sub g.sub
  have up : Same H1 (upd (upd H1 dx (.own x)) x (.ins C dx [])) := fun b o e => by
    rw [upd_ne (ne_of_none e hx), upd_ne (ne_of_none e hdx)]; exact e
  refine ⟨H1, argBase B1 H1, x, C, dx, D.maps fArg ds, vs, fun ns xs => Qd (.obj C ns xs), fun _ => False, rfl, upd_same, up, s1, hx, by rw [D.maps_eq, List.length_map, hl], Dens.grow (Same.refl _) up _ _ _ (Dens.hand g.sub ds vs F q), ar_arg _, hP, ?_, fun _ _ _ _ _ _ z => z.elim⟩
  intro ns xs us dx' B' H' gr bx hx' hlen dn pu h
  refine ⟨rfl, ?_⟩
  have gb := Grow.back g.sub gr
  have R1 := R.grow g
  -- the object is fixed from here on
  have ux : unB B1 H1 B' x = none := by
    cases hu : unB B1 H1 B' x with
    | none => rfl
    | some o => have := unB_sub hu; rw [bx] at this; cases this
  refine k (.obj C ns xs) (.ref x) H' ⟨upd (unB B1 H1 B') x (.ins C dx' (ns.zip us)), [], ⟨fun b o e => ?_, g.sh.trans gb.sh, fun b o e => ?_, fun b o e nt nb => ?_⟩, ?_, List.nodup_nil, fun a h => nomatch h⟩ h
  · have e2 := (g.trans gb).sb _ _ e
    rw [upd_ne (fun z => by rw [z, ux] at e2; cases e2)]; exact e2
  · by_cases z : b = x
    · subst z; rw [upd_same] at e; rw [hx']; exact e
    · rw [upd_ne z] at e; exact gb.sub _ _ e
  · have z : b ≠ x := fun z => by rw [z] at e; rw [g.sh _ _ e] at hx; cases hx
    rw [upd_ne z]
    exact (g.trans gb).old b o e nt nb
  · refine ⟨x, _, us, [], rfl, upd_same, ⟨hlen, dx', rfl⟩, ?_, rfl⟩
    have ow : D.alls owF xs = true := D.alls_imp (fun f e => by cases f <;> first | rfl | exact nomatch e) xs pu
    have d2 := Dens.back g.sub gr R1.z xs us [] ow dn
    refine Dens.grow (fun b o e => ?_) (Same.refl _) _ _ _ d2
    rw [upd_ne (fun z => by rw [z, ux] at e; cases e)]; exact e
end
/-- C(e, .., k = v, ..): the arguments in the parameters' order, by gv; m1, m2: how many are written without and with a name -/
def vMake (n m1 m2 : Nat) (P : PI') (C : Addr) (gv : List D → List D → List D) (t tk : TAv) : TEv := fun ρ Q => t ρ fun ds => tk ρ fun es => ds.length = m1 ∧ es.length = m2 ∧ (gv ds es).length = n ∧ P C (D.maps fArg (gv ds es)) (fun ns xs => Q (.obj C ns xs)) (fun _ => False)
/-- how the arguments are put in order, over data and over values -/
def Puts (m1 m2 : Nat) (gv : List D → List D → List D) (gV : List V → List V → List V) : Prop := ∀ (Z B H : Hp) (ds : List D) (vs : List V) (F : List Addr) (es : List D) (us : List V) (G : List Addr), Dens Z B H ds vs F → Dens Z B H es us G → ds.length = m1 → es.length = m2 →
  ∃ ws F', Dens Z B H (gv ds es) ws F' ∧ ∀ x, gV (.ref x :: vs) us = .ref x :: ws
theorem lk_make {n m1 m2 : Nat} {P : PI'} {C : Addr} {gv : List D → List D → List D} {gV : List V → List V → List V} {T Tk : TA} {t tk : TAv} (hg : Puts m1 m2 gv gV) (l : LA T t) (lk : LA Tk tk) : LE (tMakeK C m1 m2 (spI n P) gV E0 T Tk) (vMake n m1 m2 P C gv t tk) := by
  intro B0 Z B H σ ρ Qd Q R h k
  refine l B0 Z B H σ ρ _ _ R h fun ds vs H1 ⟨B1, F, g, q, nd, f⟩ h => ?_
  refine lk B0 Z B1 H1 σ ρ _ _ (R.grow g) h fun es us H2 ⟨B2, G, g2, q2, nd2, f2⟩ ⟨e1, e2, h⟩ => ?_
  refine ⟨by rw [← q.len]; exact e1, by rw [← q2.len]; exact e2, fun x dx hx hdx ne => ?_⟩
  obtain ⟨ws, F', dw, hw⟩ := hg Z B2 H2 ds vs F es us G (Dens.grow g2.sb g2.sh _ _ _ q) q2 e1 e2
  rw [hw x]
  exact made_out R (g.trans g2) dw hx hdx ne h.1 h.2 k
theorem lk_make0 {n : Nat} {P : PI'} {C : Addr} {dds : List D} {dvs : List V} {T : TA} {t : TAv} (hd : Flat dds dvs) (l : LA T t) : LE (tMake C (spI n P) dvs E0 T) (fun ρ Q => t ρ fun ds => (ds ++ dds).length = n ∧ P C (D.maps fArg (ds ++ dds)) (fun ns xs => Q (.obj C ns xs)) (fun _ => False)) := by
  intro B0 Z B H σ ρ Qd Q R h k
  refine l B0 Z B H σ ρ _ _ R h fun ds vs H1 ⟨B1, F, g, q, nd, f⟩ h => ?_
  intro x dx hx hdx ne
  exact made_out R g (Dens.app q (hd.dens _ _).1) hx hdx ne h.1 h.2 k
def vMake0 (n : Nat) (P : PI') (C : Addr) (dds : List D) (t : TAv) : TEv := fun ρ Q => t ρ fun ds => (ds ++ dds).length = n ∧ P C (D.maps fArg (ds ++ dds)) (fun ns xs => Q (.obj C ns xs)) (fun _ => False)
section
variable {X : Cx} {x : Str} {p pos kpos : Pos} {e : Expr} {es : List Expr} {kws : List Keyword} {T Tk : TA} {t tk : TAv} {k j n m1 : Nat} {ks : List Str} {P : PI'} {C f : Addr} {fd : FuncData} {ps : List Str} {g : List Value → List Value → List Value} {gV : List V → List V → List V} {gv : List D → List D → List D} {Te : TE} {te : TEv} {nm : Option Str}
structure VK (X : Cx) (kws : List Keyword) (T : TA) (t : TAv) : Prop where
  pk : PK X kws T
  lk : LA T t
theorem k_nil : VK X [] tNil vNil := ⟨pk_nil, lk_nil⟩
theorem k_cons (ha : VE X e Te te) (hr : VK X kws T t) : VK X (⟨nm, e, kpos⟩ :: kws) (tCons Te T) (vCons te t) := ⟨pk_cons ha.pe hr.pk, lk_cons ha.lk hr.lk⟩
theorem e_makeK (M : Mk KK.K C f) (F : FnOk X.prog X.w KK.K X.mg X.base (L2N.CX X.prog X.w) k f fd ps (spI n P)) (hb : KBn KK.K fd ps (m1 + 1) ks g gV) (hgv : Puts m1 ks.length gv gV) (hm : X.mg x = some (.ref C)) (hr : Room j X.A) (hk : k + 1 ≤ j) (ha : VA X (e :: es) T t) (hkw : VK X kws Tk tk) (hg : Gl X x := by rfl)
    (hall : (backToKw pos (keywordEach kws X.env)).all (·.1.isSome) = true := by rfl) (hks : (backToKw pos (keywordEach kws X.env)).filterMap (·.1) = ks := by rfl) (hdb : (x == ("__debug__" : Str)) = false := by decide)
    (he : starEach (e :: es) X.env = (false, eval e X.env) :: starEach es X.env := by rfl) (hpl : ((backTo pos (starEach (e :: es) X.env)).any (·.1) || (backToKw pos (keywordEach kws X.env)).any (·.1.isNone)) = false := by rfl) (hK : X.K = KK.K := by rfl) :
    VE X (.Call (.Name x p) (e :: es) kws pos) (tMakeK C m1 ks.length (spI n P) gV E0 T Tk) (vMake n m1 ks.length P C gv t tk) := by
  rw [← hK] at M F hb
  exact ⟨pe_makeK M F (hr.mono hk) hg hm hb passN ha.pa hkw.pk hall hks hdb he hpl, lk_make hgv ha.lk hkw.lk⟩
theorem e_make {dds : List D} {dvs : List V} {ds : List Value} (M : Mk KK.K C f) (F : FnOk X.prog X.w KK.K X.mg X.base (L2N.CX X.prog X.w) k f fd ps (spI n P)) (hb : Binds KK.K fd ps ds) (hd : Vals dvs ds) (hf : Flat dds dvs) (hm : X.mg x = some (.ref C)) (hr : Room j X.A) (hk : k + 1 ≤ j) (ha : VA X (e :: es) T t) (hg : Gl X x := by rfl)
    (hdb : (x == ("__debug__" : Str)) = false := by decide) (he : starEach (e :: es) X.env = (false, eval e X.env) :: starEach es X.env := by rfl) (hpl : (backTo pos (starEach es X.env)).any (·.1) = false := by rfl) (hK : X.K = KK.K := by rfl) :
    VE X (.Call (.Name x p) (e :: es) [] pos) (tMake C (spI n P) dvs E0 T) (vMake0 n P C dds t) := by
  rw [← hK] at M F hb
  exact ⟨pe_make M F (hr.mono hk) hg hm hb hd passN ha.pa hdb he hpl, lk_make0 hf ha.lk⟩
end
/-! ### list(range(..)) -/
def vLstRg2 (ta tb : TEv) : TEv := fun ρ Q => ta ρ fun x => tb ρ fun y => match x, y with
  | .int i, .int j => bigI i ∧ bigI j ∧ (j - i).toNat ≤ 1000000 ∧ Q (.lst .o (upTo i (j - i).toNat))
  | _, _ => False
theorem upTo_dens {Z B H : Hp} (i : Int) : ∀ n : Nat, Dens Z B H (upTo i n) ((List.range n).map fun k : Nat => V.int (i + (k : Int))) [] := by
  intro n
  unfold upTo
  generalize List.range n = l
  induction l with
  | nil => exact ⟨rfl, rfl⟩
  | cons a l ih => exact ⟨_, _, [], [], rfl, den_int, ih, rfl⟩
theorem lk_lstRg2 {Ta Tb : TE} {ta tb : TEv} (la : LE Ta ta) (lb : LE Tb tb) : LE (tLstRg (tRg2 Ta Tb)) (vLstRg2 ta tb) := by
  intro B0 Z B H σ ρ Qd Q R h k
  refine la B0 Z B H σ ρ _ _ R h fun x vx H1 ⟨B1, F, g, dx, n, f⟩ h => ?_
  refine lb B0 Z B1 H1 σ ρ _ _ (R.grow g) h fun y vy H2 ⟨B2, F2, g2, dy, n2, f2⟩ h => ?_
  split at h
  · obtain ⟨b1, b2, b3, q⟩ := h
    refine ⟨_, _, dx.1, dy.1, ⟨b1.1, b1.2, b2.1, b2.2, by omega⟩, fun p hp => ?_⟩
    exact k _ _ _ (out_lst (ds := upTo _ _) ⟨B2, [], g.trans g2, upTo_dens _ _, List.nodup_nil, fun a h => nomatch h⟩ hp) q
  · exact h.elim
section
variable {X : Cx} {a b : Expr} {p p2 pos pos2 : Pos} {Ta Tb : TE} {ta tb : TEv}
theorem e_lstRg2 (hc : X.calm = true) (hl : X.mg "list" = none) (hm : X.mg "range" = none) (ha : VE X a Ta ta) (hb : VE X b Tb tb) (hg : Gl X "list" := by rfl) (hg2 : Gl X "range" := by rfl)
    (na : starEach [a, b] X.env = (false, eval a X.env) :: starEach [b] X.env := by rfl) (nb : starEach [b] X.env = (false, eval b X.env) :: starEach [] X.env := by rfl) (hp : (backTo pos2 (starEach [b] X.env)).any (·.1) = false := by rfl)
    (nc : starEach [.Call (.Name "range" p2) [a, b] [] pos2] X.env = (false, eval (.Call (.Name "range" p2) [a, b] [] pos2) X.env) :: starEach [] X.env := by rfl) :
    VE X (.Call (.Name "list" p) [.Call (.Name "range" p2) [a, b] [] pos2] [] pos) (tLstRg (tRg2 Ta Tb)) (vLstRg2 ta tb) := ⟨pe_listRg hc hg hl (prg_2 hg2 hm ha.pe hb.pe na nb hp) nc, lk_lstRg2 ha.lk hb.lk⟩
end
/-! ### y = [..] on one line; a tuple's names; x op= e -/
section
variable {X : Cx} {elt tg iter e : Expr} {ifs : List Expr} {scope : Scope} {own : List (Str × Nat)} {pos py spos : Pos} {wi : TI} {ti : TIv} {g : TG} {gv : TGv} {vg : List Nat} {Tt : TT} {tt : TTv} {Te : TE} {te : TEv} {y x : Str}
theorem s_lcL (i : Nat) (hc : X.calm = true) (hN : X.N.Nodup) (hi : VI X tg iter wi ti) (ok : BlkOk X.N X.env.scope scope own)
    (hg : ∀ (s : Shared) (H : Hp) (C : Addr) (cl : List (Str × Addr)) (fp : List Addr), VG (X.blk s H scope (compEnvC scope cl C X.env) fp) tg g gv vg) (hv : ∀ i ∈ vg, i ∈ own.map (·.2))
    (ht : ∀ (s : Shared) (H : Hp) (C : Addr) (cl : List (Str × Addr)) (fp : List Addr), VTs (X.blk s H scope (compEnvC scope cl C X.env) fp) ifs Tt tt)
    (he : ∀ (s : Shared) (H : Hp) (C : Addr) (cl : List (Str × Addr)) (fp : List Addr), VE (X.blk s H scope (compEnvC scope cl C X.env) fp) elt Te te)
    (hy : X.N[i]? = some y := by rfl) (hyl : X.env.scope.names.lookup y = some .local := by rfl)
    (hsw : swapsWith (.ListComp elt [⟨tg, iter, ifs, 0⟩] scope pos) (some (.Name y py)) spos.line X.env = pure true := by exact sw_true rfl rfl rfl (by decide +kernel)) (hs : ∀ x, foldedSetIterable iter X.env x = pure x := by intro _; rfl) :
    VS X (.Assign [.Name y py] (.ListComp elt [⟨tg, iter, ifs, 0⟩] scope pos) spos) (tAsg (tLc wi g Tt Te (own.map (·.2))) (gName i)) (vAsgL i (vLc ti gv tt te (own.map (·.2)))) :=
  ⟨ps_setLc hc hN hy hyl hsw hi.pi ok (fun s H C cl fp => (hg s H C cl fp).pg) (fun s H C cl fp => (ht s H C cl fp).pt) (fun s H C cl fp => (he s H C cl fp).pe) hs, lk_asgL (lk_lc hi.lk (hg X.s_0 X.H_0 0 [] []).lk hv (ht X.s_0 X.H_0 0 [] []).lk (he X.s_0 X.H_0 0 [] []).lk)⟩
theorem s_lc (i : Nat) (hc : X.calm = true) (hN : X.N.Nodup) (hi : VI X tg iter wi ti) (ok : BlkOk X.N X.env.scope scope own)
    (hg : ∀ (s : Shared) (H : Hp) (C : Addr) (cl : List (Str × Addr)) (fp : List Addr), VG (X.blk s H scope (compEnvC scope cl C X.env) fp) tg g gv vg) (hv : ∀ i ∈ vg, i ∈ own.map (·.2))
    (ht : ∀ (s : Shared) (H : Hp) (C : Addr) (cl : List (Str × Addr)) (fp : List Addr), VTs (X.blk s H scope (compEnvC scope cl C X.env) fp) ifs Tt tt)
    (he : ∀ (s : Shared) (H : Hp) (C : Addr) (cl : List (Str × Addr)) (fp : List Addr), VE (X.blk s H scope (compEnvC scope cl C X.env) fp) elt Te te)
    (hy : X.N[i]? = some y := by rfl) (hyl : X.env.scope.names.lookup y = some .local := by rfl)
    (hsw : swapsWith (.ListComp elt [⟨tg, iter, ifs, 0⟩] scope pos) (some (.Name y py)) spos.line X.env = pure true := by exact sw_true rfl rfl rfl (by decide +kernel)) (hs : ∀ x, foldedSetIterable iter X.env x = pure x := by intro _; rfl) :
    VS X (.Assign [.Name y py] (.ListComp elt [⟨tg, iter, ifs, 0⟩] scope pos) spos) (tAsg (tLc wi g Tt Te (own.map (·.2))) (gName i)) (vAsg i (vLc ti gv tt te (own.map (·.2)))) :=
  ⟨ps_setLc hc hN hy hyl hsw hi.pi ok (fun s H C cl fp => (hg s H C cl fp).pg) (fun s H C cl fp => (ht s H C cl fp).pt) (fun s H C cl fp => (he s H C cl fp).pe) hs, lk_asg (lk_lc hi.lk (hg X.s_0 X.H_0 0 [] []).lk hv (ht X.s_0 X.H_0 0 [] []).lk (he X.s_0 X.H_0 0 [] []).lk)⟩
def vAsgG (gv : TGv) (te : TEv) : TSv := fun W ρ => te ρ fun d => d.nb = true ∧ gv d.loc ρ W.nx
theorem lk_asgG {vs : List Nat} (l : LE Te te) (lg : LG g gv vs) : LS (tAsg Te g) (vAsgG gv te) := by
  intro B0 Z B H σ ρ Dv De R h S
  refine l B0 Z B H σ ρ _ _ R h fun d v H1 o q => ?_
  obtain ⟨B1, gr, x⟩ := o.frozen R.z q.1
  exact lg B0 Z B1 H1 σ ρ _ v _ _ (R.grow gr) x (nb_loc q.1) q.2 fun σ' ρ' R' _ _ h => S.nx _ _ _ _ R' h
theorem s_asgG (he : VE X e Te te) (hg : VG X tg g gv vg) (hs : swapsWithSole [tg] e pos.line X.env = pure false := by rfl) (hw : swappedStores [tg] e X.env = pure none := by rfl) (h1 : (assignEach [tg] X.env).map (·.2) = [assign tg X.env] := by rfl) : VS X (.Assign [tg] e pos) (tAsg Te g) (vAsgG gv te) := ⟨ps_asg he.pe hg.pg hs hw h1, lk_asgG he.lk hg.lk⟩
def vAugI (i : Nat) (f : Int → Int → Int) (te : TEv) : TSv := fun W ρ => match ρ[i]? with
  | some (some (.int a)) => te ρ fun d => match d with
    | .int b => W.nx (ρ.set i (some (.int (f a b))))
    | _ => False
  | _ => False
theorem lk_augI {i : Nat} {f : Int → Int → Int} (l : LE Te te) : LS (tAug i Te (ipI f)) (vAugI i f te) := by
  intro B0 Z B H σ ρ Dv De R h S
  unfold vAugI at h
  split at h
  · rename_i a e
    obtain ⟨v, G, h1, h2, h3, h4, h5⟩ := R.get' e
    refine ⟨v, h1, l B0 Z B H σ ρ _ _ R h fun d w H1 o h => ?_⟩
    obtain ⟨B1, F, g, x, nF, fF⟩ := o
    split at h
    · rename_i b
      refine ⟨a, b, h3.1, x.1, ?_⟩
      obtain ⟨B2, g2, R2⟩ := (R.grow g).set (i := i) (d := .int (f a b)) (Out.of g.sub den_int) rfl
      exact S.nx _ _ _ _ R2 h
    · exact h.elim
  · exact h.elim
theorem s_addI (i : Nat) (he : VE X e Te te) (hN : X.N.Nodup) (hi : X.N[i]? = some x := by rfl) (hx : Loc X.env.scope x := by first | exact Or.inl rfl | exact Or.inr rfl) (hf : X.fn x = true ∨ X.env.scope.names.lookup x = some .local := by first | exact .inl rfl | exact .inr rfl) :
    VS X (.AugAssign (.Name x py) .Add e pos) (tAug i Te (ipI fun i j => i + j)) (vAugI i (fun a b => a + b) te) := ⟨ps_aug hN hi hx he.pe ip_add hf, lk_augI he.lk⟩
theorem s_subI (i : Nat) (he : VE X e Te te) (hN : X.N.Nodup) (hi : X.N[i]? = some x := by rfl) (hx : Loc X.env.scope x := by first | exact Or.inl rfl | exact Or.inr rfl) (hf : X.fn x = true ∨ X.env.scope.names.lookup x = some .local := by first | exact .inl rfl | exact .inr rfl) :
    VS X (.AugAssign (.Name x py) .Sub e pos) (tAug i Te (ipI fun i j => i - j)) (vAugI i (fun a b => a - b) te) := ⟨ps_aug hN hi hx he.pe ip_sub hf, lk_augI he.lk⟩
end
/-- a name's own list is not changed any more -/
def vFrz (i : Nat) (t : TSv) : TSv := fun W ρ => match ρ[i]? with
  | some (some d) => t W (ρ.set i (some d.loc))
  | _ => False
theorem Rep.freeze {B0 Z B H : Hp} {σ : L2.St} {ρ : VL.Env} {i : Nat} {d : D} (R : Rep B0 Z B H σ ρ) (e : ρ[i]? = some (some d)) : ∃ B', Rep B0 Z B' H σ (ρ.set i (some d.loc)) := by
  obtain ⟨F, q, n, z⟩ := R.ex
  obtain ⟨v, G, Rr, h1, h2, h3, h4, h5, h6, h7, h8⟩ := q.part n e
  let B' : Hp := fun b => if b ∈ G then H b else B b
  have sb : Same B B' := fun a o e => by
    have : a ∉ G := fun m => by
      have y := (z a (h6 a (.inl m))).1
      rw [e] at y; cases y
    show (if a ∈ G then H a else B a) = some o
    rw [if_neg this]; exact e
  have sub : Same B' H := fun a o e => by
    have e : (if a ∈ G then H a else B a) = some o := e
    split at e
    · exact e
    · exact R.sub _ _ e
  have x : Den Z B' H d.loc v [] := Den.flag (P := fun a => a ∈ G) (flag_loc (F := G) sb (fun a o m e => by
    show (if a ∈ G then H a else B a) = some o
    rw [if_pos m]; exact e) (fun a m => (z a (h6 a (.inl m))).2)) d v G h2 (fun a h => h) h3
  obtain ⟨F', k1, k2, k3⟩ := (h8.grow sb (Same.refl _)).fill (length_of_get e) h1 h7 (nb_loc h2) x List.nodup_nil (fun a h => nomatch h)
  refine ⟨B', R.xl, ⟨R.gr.sb.trans sb, R.gr.sh, sub, fun a o e nt n => ?_⟩, F', k1, k2, fun a m => ?_⟩
  · have : a ∉ G := fun m => by
      have y := (z a (h6 a (.inl m))).2
      rw [e] at y; cases y
    show (if a ∈ G then H a else B a) = none
    rw [if_neg this]; exact R.gr.old a o e nt n
  · rcases k3 a m with m | m
    · have hz := z a (h6 a (.inr m))
      refine ⟨?_, hz.2⟩
      show (if a ∈ G then H a else B a) = none
      rw [if_neg (fun m' => h5 a m' m)]; exact hz.1
    · cases m
theorem lk_frz {i : Nat} {T : TS} {t : TSv} (l : LS T t) : LS T (vFrz i t) := by
  intro B0 Z B H σ ρ Dv De R h S
  unfold vFrz at h
  split at h
  · rename_i d e
    obtain ⟨B', R'⟩ := R.freeze e
    exact l B0 Z B' H σ _ Dv De R' h S
  · exact h.elim
theorem s_frz {X : Cx} {st : Stmt} {T : TS} {t : TSv} (i : Nat) (h : VS X st T t) : VS X st T (vFrz i t) := ⟨h.ps, lk_frz h.lk⟩
/-! ### the law's end -/
/-- what is asked of a law's def: True for every script -/
def LawP : PV := fun ds Q _ => ∃ ns : List Int, ds = [.lst .s (ns.map D.int)] ∧ ns.length ≤ 63 ∧ Q (.bl true)
theorem ints_dens {Z B H : Hp} : ∀ ns : List Int, Dens Z B H (ns.map D.int) (ns.map V.int) []
  | [] => ⟨rfl, rfl⟩
  | n :: ns => ⟨_, _, [], [], rfl, den_int, ints_dens ns, rfl⟩
theorem ints_ar : ∀ ns : List Int, D.alls arF (ns.map D.int) = true
  | [] => rfl
  | n :: ns => by simp [D.alls, D.all, ints_ar ns]
omit KK XX in
theorem law_start {K : PySem.W.Frag} {H : Hp} {a : Addr} {ns : List Int} (hl : ns.length ≤ 63) (hO : Only H) (hS : SqL K H a (ns.map V.int)) : @spV ⟨K⟩ 1 (@LawP) [.ref a] H (fun v _ => v = .bl true) fun _ _ _ => False := by
  letI : KLs := ⟨K⟩
  refine ⟨H, [.lst .s (ns.map D.int)], fun d => d = .bl true, fun _ => False, rfl, Same.refl _, ⟨_, _, [], [], rfl, ⟨a, .lst (ns.map V.int), ns.map V.int, [], rfl, ?_, rfl, ints_dens ns, rfl⟩, ⟨rfl, rfl⟩, rfl⟩, by simp [D.alls, D.all, ints_ar, Hd.fl, Fl.ls, arF], ⟨ns, rfl, hl, rfl⟩, ?_, fun _ _ _ _ _ _ z => z.elim⟩
  · rcases hS with (h | ⟨o, h⟩) | h
    · rcases hO a with z | ⟨o, xs, z⟩
      · rw [h] at z; cases z
      · rw [h] at z; cases z
    · exact .inl ⟨o, h⟩
    · exact .inr ⟨_, rfl, h⟩
  · intro d v H' o ow e
    subst e
    obtain ⟨_, _, _, x, _⟩ := o
    exact x.1
omit KK XX in
theorem law_walk {l : PySem.W.OpenLaw} {k : Nat} {q : Program} {loose : List Str} {XP : (Str → Option Value) → Heap → Prop} {YP : World → Heap → Prop} {d : DefRec} {K : Params → PySem.W.Frag}
    (hn : l.most = some 63) (hdf : d.params.defaults = []) (hr : Room k callerA) (hY : ∀ (w : World) (h : Heap), YP w h → (K w.params).In h)
    (F : ∀ (w : World) (mg : Str → Option Value) (fa : Addr) (h : Heap), (K w.params).In h → h.Ns mainGlobals mg → mg d.name = some (.ref fa) →
      ∃ fd : FuncData, (∀ (s : Shared) (u : Value), BindsTo s fd ⟨[u], []⟩ [("script", u)]) ∧
        ∀ base : Heap, (K w.params).In base → base.Ns mainGlobals mg → FnOk l.prog w (K w.params) mg base (L2N.CX l.prog w) k fa fd ["script"] (@spV ⟨K w.params⟩ 1 (@LawP))) :
    PySem.W.WalkO q loose XP YP l.row.toRowW d [] (fun f vs => PySem.call f vs) :=
  L2.walk_of (n := 63) (CX := fun w => L2N.CX l.prog w) (sp := fun w => @spV ⟨K w.params⟩ 1 (@LawP)) hn (by decide) hdf hr hY F (fun w H a ns hl hO hS => law_start hl hO hS) fun w H s e s' hx => by
    obtain ⟨_, _, _, _, _, _, _, _, _, _, _, _, z⟩ := hx
    exact z.elim
end VL

/-! ## VLW -/
/-! VL: slices, stores at a place, a bare return, is and in. -/
namespace VL
open PySem PySem.Spec L2
open PyProof.Rows hiding St
variable [KK : KLs] [XX : XW]
/-! ### slices -/
def cutD (xs : List D) (lo hi : Option Int) : List D := (xs.drop (HT.sIx xs.length 0 lo)).take (HT.sIx xs.length xs.length hi - HT.sIx xs.length 0 lo)
section
variable {Z B H : Hp}
theorem Dens.drop : ∀ (n : Nat) {ds : List D} {vs : List V}, Dens Z B H ds vs [] → Dens Z B H (ds.drop n) (vs.drop n) []
  | 0, _, _, h => h
  | n + 1, [], _, h => by rw [h.1]; exact ⟨rfl, rfl⟩
  | n + 1, d :: ds, _, ⟨v, ws, G1, G2, e, x, q, f⟩ => by
    subst e
    have f2 : G2 = [] := (List.append_eq_nil_iff.mp f.symm).2
    subst f2
    exact Dens.drop n q
theorem Dens.take : ∀ (n : Nat) {ds : List D} {vs : List V}, Dens Z B H ds vs [] → Dens Z B H (ds.take n) (vs.take n) []
  | 0, _, _, _ => ⟨rfl, rfl⟩
  | n + 1, [], _, h => by rw [h.1]; exact ⟨rfl, rfl⟩
  | n + 1, d :: ds, _, ⟨v, ws, G1, G2, e, x, q, f⟩ => by
    subst e
    have f1 : G1 = [] := (List.append_eq_nil_iff.mp f.symm).1
    have f2 : G2 = [] := (List.append_eq_nil_iff.mp f.symm).2
    subst f1 f2
    exact ⟨v, ws.take n, [], [], rfl, x, Dens.take n q, rfl⟩
theorem Dens.cut {ds : List D} {vs : List V} (h : Dens Z B H ds vs []) (lo hi : Option Int) : Dens Z B H (cutD ds lo hi) (cutV vs lo hi) [] := by
  unfold cutD cutV
  rw [h.len]
  exact Dens.take _ (Dens.drop _ h)
end
omit KK XX in
theorem alls_cut {p : Fl → Bool} {ds : List D} (h : D.alls p ds = true) (lo hi : Option Int) : D.alls p (cutD ds lo hi) = true := by
  rw [D.alls_eq, List.all_eq_true] at h ⊢
  intro x hx
  exact h x (List.mem_of_mem_drop (List.mem_of_mem_take hx))
omit KK XX in
theorem cut_all (ds : List D) {lo hi : Option Int} (h : HT.sIx ds.length 0 lo = 0 ∧ HT.sIx ds.length ds.length hi = ds.length) : cutD ds lo hi = ds := by
  unfold cutD
  rw [h.1, h.2]
  simp
abbrev TOv := Env → (Option Int → Prop) → Prop
def vNo : TOv := fun _ Q => Q none
def vPt (te : TEv) : TOv := fun ρ Q => te ρ fun d => match d with
  | .int i => Q (some i)
  | _ => False
def LO (T : TO) (t : TOv) : Prop := ∀ (B0 Z B H : Hp) (σ : L2.St) (ρ : Env) (Qd : Option Int → Prop) (Q : Option Int → Hp → Prop), Rep B0 Z B H σ ρ → t ρ Qd → (∀ o B' H', Grow B H B' H' → Qd o → Q o H') → T σ H Q
structure VO (X : Cx) (e : Option Expr) (T : TO) (t : TOv) : Prop where
  po : PO X e T
  lk : LO T t
theorem o_no {X : Cx} : VO X none tNoPart vNo := ⟨po_none, fun _ _ _ _ _ _ _ _ R h k => k _ _ _ (Grow.refl R.sub) h⟩
theorem o_pt {X : Cx} {e : Expr} {Te : TE} {te : TEv} (he : VE X e Te te) : VO X (some e) (tPart Te) (vPt te) := ⟨po_some he.pe, by
  intro B0 Z B H σ ρ Qd Q R h k
  refine he.lk B0 Z B H σ ρ _ _ R h fun d v H1 ⟨B1, F, g, x, n, f⟩ h => ?_
  split at h
  · exact ⟨_, x.1, k _ _ _ g h⟩
  · exact h.elim⟩
def vSl (te : TEv) (tl th : TOv) : TEv := fun ρ Q => te ρ fun d => tl ρ fun l => th ρ fun u => match d with
  | .nd .tup xs => D.alls coF xs = true ∧ Q (.tup (cutD xs l u))
  | .nd (.lst _) xs => D.alls coF xs = true ∧ Q (.lst .o (cutD xs l u))
  | _ => False
def rSlD (K : PySem.W.Frag) : V → Option Int → Option Int → Hp → L2.VK → Prop := fun x lo hi H Q => rSlL K x lo hi H Q ∨ rSlA K x lo hi H Q
theorem lk_sl {Te : TE} {te : TEv} {Tl Th : TO} {tl th : TOv} (le : LE Te te) (ll : LO Tl tl) (lh : LO Th th) : LE (tSl (rSlD KK.K) Te Tl Th) (vSl te tl th) := by
  intro B0 Z B H σ ρ Qd Q R h k
  refine le B0 Z B H σ ρ _ _ R h fun d v H1 ⟨B1, F, g1, x, n, f⟩ h => ?_
  refine ll B0 Z B1 H1 σ ρ _ _ (R.grow g1) h fun l B2 H2 g2 h => ?_
  refine lh B0 Z B2 H2 σ ρ _ _ ((R.grow g1).grow g2) h fun u B3 H3 g3 h => ?_
  have gr := g1.trans (g2.trans g3)
  have x3 := x.grow (g2.trans g3).sb (g2.trans g3).sh
  have sub := ((R.grow g1).grow g2 |>.grow g3).sub
  split at h
  · rename_i xs _ _ _
    obtain ⟨a, us, e1, t1, b1, y1⟩ := den_tup sub x3
    subst e1
    have ef := Dens.nofp _ _ _ h.1 y1
    subst ef
    refine .inr ⟨a, us, rfl, SqT.of t1, fun w => ?_, fun w p hp => ?_⟩
    · refine k (.tup (cutD xs l u)) _ _ ((Out.of sub ?_).after gr) h.2
      rw [cut_all xs (by rw [y1.len]; exact w)]
      exact ⟨a, _, us, [], rfl, b1, rfl, y1, rfl⟩
    · exact k _ _ _ ((out_tup (Outs.of sub (alls_cut h.1 l u) (y1.cut l u)) hp).after gr) h.2
  · rename_i f xs _ _ _
    obtain ⟨a, us, G, e1, t1, y1, _⟩ := den_lst sub x3
    subst e1
    have ef := Dens.nofp _ _ _ h.1 y1
    subst ef
    exact .inl ⟨a, us, rfl, t1, fun p hp => k _ _ _ ((out_lst (Outs.of sub (alls_cut h.1 l u) (y1.cut l u)) hp).after gr) h.2⟩
  · exact h.elim
section
variable {X : Cx} {e k a b : Expr} {lo hi : Option Expr} {pos p1 p2 p3 p4 : Pos} {Te Tk Ta Tb : TE} {te tk ta tb : TEv} {Tl Th : TO} {tl th : TOv} {x : Str} {n : Nat}
theorem e_sl (he : VE X e Te te) (hl : VO X lo Tl tl) (hh : VO X hi Th th) (hK : X.K = KK.K := by rfl) : VE X (.Subscript e (.Slice lo hi none p2) pos) (tSl (rSlD KK.K) Te Tl Th) (vSl te tl th) := by
  unfold rSlD
  rw [← hK]
  exact ⟨pe_slice (sl_list.or sl_tupA) he.pe hl.po hh.po, by rw [hK]; exact lk_sl he.lk hl.lk hh.lk⟩
/-! ### x[k] = e, return -/
theorem s_setIx (i : Nat) (he : VE X e Te te) (hk : VE X k Tk tk) (hN : X.N[i]? = some x := by rfl) (hv : Vis X.env.scope x := by first | exact Or.inl rfl | exact Or.inr (Or.inl rfl) | exact Or.inr (Or.inr rfl)) (hd : (x == ("__debug__" : Str)) = false := by decide) (hcd : (x == ("__classdict__" : Str)) = false := by decide)
    (hs : swapsWithSole [.Subscript (.Name x p1) k p2] e pos.line X.env = pure false := by rfl) (hw : swappedStores [.Subscript (.Name x p1) k p2] e X.env = pure none := by rfl)
    (ha : ∀ v, assign (.Subscript (.Name x p1) k p2) X.env v = (do
      let ov ← holding [v] (eval (.Name x p1) X.env)
      let iv ← holding [v, ov] (eval k X.env)
      standAt p2
      holding [v, ov, iv] (setItem ov iv v)
      release [v, ov, iv] []) := by intro _; rfl) :
    VS X (.Assign [.Subscript (.Name x p1) k p2] e pos) (tAsg Te (gSub (tVar i) Tk rSetL)) (vSetIx i tk te) :=
  ⟨ps_asg he.pe (pg_sub (pe_var hN hv hd hcd) hk.pe set_list ha) hs hw rfl, lk_setIx he.lk hk.lk⟩
def vRetN : TSv := fun W ρ => W.rt .non
theorem s_retN : VS X (.Return none pos) tRetN vRetN := ⟨ps_retN, by
  intro B0 Z B H σ ρ Dv De R h S
  exact S.rt .non .non H ⟨B, [], R.gr, den_non, List.nodup_nil, fun a h => nomatch h⟩ rfl h⟩
/-! ### is of bools -/
def dIsB (neg : Bool) : RDv := fun x y Q => match x, y with
  | .bl i, .bl j => Q (.bl (if neg then !decide (i = j) else decide (i = j)))
  | _, _ => False
theorem lr_isB : LR2 rIsB (dIsB false) := by
  intro B0 Z B H σ ρ x y vx vy F G Qd Q R dx dy h k
  unfold dIsB at h
  split at h
  · exact ⟨_, _, dx.1, dy.1, k _ _ _ (Out.of R.sub den_bl) h⟩
  · exact h.elim
theorem lr_notB : LR2 rNotB (dIsB true) := by
  intro B0 Z B H σ ρ x y vx vy F G Qd Q R dx dy h k
  unfold dIsB at h
  split at h
  · exact ⟨_, _, dx.1, dy.1, k _ _ _ (Out.of R.sub den_bl) h⟩
  · exact h.elim
theorem e_isB (ha : VE X a Ta ta) (hb : VE X b Tb tb) : VE X (.Compare a [.Is] [b] pos) (tOp rIsB Ta Tb) (vOp (dIsB false) ta tb) := ⟨pe_cmpR op_isBl ha.pe hb.pe (nomark _), lk_op lr_isB ha.lk hb.lk⟩
theorem e_notB (ha : VE X a Ta ta) (hb : VE X b Tb tb) : VE X (.Compare a [.IsNot] [b] pos) (tOp rNotB Ta Tb) (vOp (dIsB true) ta tb) := ⟨pe_cmpR op_notBl ha.pe hb.pe (nomark _), lk_op lr_notB ha.lk hb.lk⟩
/-! ### in, not in: plain data -/
def inB (x : D) (ys : List D) : Bool := (D.pys ys).any fun z => PyData.eqv z x.py
def dInN (neg : Bool) : RDv := fun x y Q => match x, y with
  | .int i, .nd .tup ys => match ints? ys with
    | some js => Q (.bl (if neg then !decide (i ∈ js) else decide (i ∈ js)))
    | none => False
  | .int i, .nd (.lst _) ys => match ints? ys with
    | some js => Q (.bl (if neg then !decide (i ∈ js) else decide (i ∈ js)))
    | none => False
  | x, .nd (.lst _) ys => x.okEq ∧ (D.lst .i ys).okEq ∧ Q (.bl (if neg then !inB x ys else inB x ys))
  | _, _ => False
abbrev dIn : RDv := dInN false
abbrev dNin : RDv := dInN true
def rInA : R2 := fun x y H Q => rIn KK.K false x y H Q ∨ rInD KK.K x y H Q
def rNinA : R2 := fun x y H Q => rIn KK.K true x y H Q ∨ rNotInD KK.K x y H Q
omit KK XX in
theorem flat_ints : ∀ js : List Int, (js.map V.int).all flatV = true
  | [] => rfl
  | j :: js => by rw [List.map_cons, List.all_cons, flat_ints js]; rfl
omit KK XX in
theorem inV_ints (i : Int) : ∀ js : List Int, inV (.int i) (js.map V.int) = decide (i ∈ js)
  | [] => rfl
  | j :: js => by
    have e := inV_ints i js
    unfold inV at e ⊢
    rw [List.map_cons, List.any_cons, e]
    by_cases h : i = j
    · subst h; simp [eqV]
    · have : (eqV (.int j) (.int i)) = false := by simp [eqV]; exact fun z => h z.symm
      rw [this]; simp [h]
theorem lr_in : LR2 rInA dIn := by
  intro B0 Z B H σ ρ x y vx vy F G Qd Q R dx dy h k
  unfold dIn dInN at h
  split at h
  · split at h
    · rename_i i ys _ js e
      obtain ⟨a, us, e1, t1, b1, y1⟩ := den_tup R.sub dy
      rw [ints_of e] at y1
      rw [dens_ints y1] at t1
      refine .inl ⟨a, _, e1, .inr (SqT.of t1), by rw [dx.1]; rfl, flat_ints js, k _ _ _ (Out.of R.sub ?_) h⟩
      rw [dx.1, inV_ints]; exact den_bl
    · exact h.elim
  · split at h
    · rename_i i f ys _ js e
      obtain ⟨a, us, G1, e1, t1, y1, _⟩ := den_lst R.sub dy
      rw [ints_of e] at y1
      rw [dens_ints y1] at t1
      refine .inl ⟨a, _, e1, .inl t1, by rw [dx.1]; rfl, flat_ints js, k _ _ _ (Out.of R.sub ?_) h⟩
      rw [dx.1, inV_ints]; exact den_bl
    · exact h.elim
  · rename_i f ys _
    obtain ⟨h1, h2, q⟩ := h
    have py : Dp KK.K H vy (.list (D.pys ys)) := Den.dp R.sub (.nd (.lst f) ys) vy _ (show D.plains ys = true from h2.1) dy
    exact .inr ⟨x.py, D.pys ys, dx.dp R.sub _ _ _ h1.1, py, h1.2, h2.2, k _ _ _ (Out.of R.sub den_bl) q⟩
  · exact h.elim
theorem lr_nin : LR2 rNinA dNin := by
  intro B0 Z B H σ ρ x y vx vy F G Qd Q R dx dy h k
  unfold dNin dInN at h
  split at h
  · split at h
    · rename_i i ys _ js e
      obtain ⟨a, us, e1, t1, b1, y1⟩ := den_tup R.sub dy
      rw [ints_of e] at y1
      rw [dens_ints y1] at t1
      refine .inl ⟨a, _, e1, .inr (SqT.of t1), by rw [dx.1]; rfl, flat_ints js, k _ _ _ (Out.of R.sub ?_) h⟩
      rw [dx.1, inV_ints]; exact den_bl
    · exact h.elim
  · split at h
    · rename_i i f ys _ js e
      obtain ⟨a, us, G1, e1, t1, y1, _⟩ := den_lst R.sub dy
      rw [ints_of e] at y1
      rw [dens_ints y1] at t1
      refine .inl ⟨a, _, e1, .inl t1, by rw [dx.1]; rfl, flat_ints js, k _ _ _ (Out.of R.sub ?_) h⟩
      rw [dx.1, inV_ints]; exact den_bl
    · exact h.elim
  · rename_i f ys _
    obtain ⟨h1, h2, q⟩ := h
    have py : Dp KK.K H vy (.list (D.pys ys)) := Den.dp R.sub (.nd (.lst f) ys) vy _ (show D.plains ys = true from h2.1) dy
    exact .inr ⟨x.py, D.pys ys, dx.dp R.sub _ _ _ h1.1, py, h1.2, h2.2, k _ _ _ (Out.of R.sub den_bl) q⟩
  · exact h.elim
theorem e_in (hr : Room n X.A) (ha : VE X a Ta ta) (hb : VE X b Tb tb) (hm : behindInMarks .In b = false := by rfl) (hK : X.K = KK.K := by rfl) : VE X (.Compare a [.In] [b] pos) (tOp rInA Ta Tb) (vOp dIn ta tb) := by
  unfold rInA
  rw [← hK]
  exact ⟨pe_cmpR (op_in_seq.or (op_inD (by have := hr.un; omega))) ha.pe hb.pe hm, by rw [hK]; exact lk_op lr_in ha.lk hb.lk⟩
theorem e_nin (hr : Room n X.A) (ha : VE X a Ta ta) (hb : VE X b Tb tb) (hm : behindInMarks .NotIn b = false := by rfl) (hK : X.K = KK.K := by rfl) : VE X (.Compare a [.NotIn] [b] pos) (tOp rNinA Ta Tb) (vOp dNin ta tb) := by
  unfold rNinA
  rw [← hK]
  exact ⟨pe_cmpR (op_notIn_seq.or (op_notInD (by have := hr.un; omega))) ha.pe hb.pe hm, by rw [hK]; exact lk_op lr_nin ha.lk hb.lk⟩
theorem t_in (hr : Room n X.A) (ha : VE X a Ta ta) (hb : VE X b Tb tb) (hm : behindInMarks .In b = false := by rfl) (hK : X.K = KK.K := by rfl) : VT X (.Compare a [.In] [b] pos) (tTest (tOp rInA Ta Tb)) (vTest (vOp dIn ta tb)) := by
  unfold rInA
  rw [← hK]
  exact ⟨pt_cmpR (op_in_seq.or (op_inD (by have := hr.un; omega))) ha.pe hb.pe hm, by rw [hK]; exact lk_test (lk_op lr_in ha.lk hb.lk)⟩
theorem t_nin (hr : Room n X.A) (ha : VE X a Ta ta) (hb : VE X b Tb tb) (hm : behindInMarks .NotIn b = false := by rfl) (hK : X.K = KK.K := by rfl) : VT X (.Compare a [.NotIn] [b] pos) (tTest (tOp rNinA Ta Tb)) (vTest (vOp dNin ta tb)) := by
  unfold rNinA
  rw [← hK]
  exact ⟨pt_cmpR (op_notIn_seq.or (op_notInD (by have := hr.un; omega))) ha.pe hb.pe hm, by rw [hK]; exact lk_test (lk_op lr_nin ha.lk hb.lk)⟩
theorem t_isB (ha : VE X a Ta ta) (hb : VE X b Tb tb) : VT X (.Compare a [.Is] [b] pos) (tTest (tOp rIsB Ta Tb)) (vTest (vOp (dIsB false) ta tb)) := ⟨pt_cmpR op_isBl ha.pe hb.pe (nomark _), lk_test (lk_op lr_isB ha.lk hb.lk)⟩
theorem t_notB (ha : VE X a Ta ta) (hb : VE X b Tb tb) : VT X (.Compare a [.IsNot] [b] pos) (tTest (tOp rNotB Ta Tb)) (vTest (vOp (dIsB true) ta tb)) := ⟨pt_cmpR op_notBl ha.pe hb.pe (nomark _), lk_test (lk_op lr_notB ha.lk hb.lk)⟩
end
end VL

/-! ## VLX -/
/-! VL: dicts whose keys are ints and texts. -/
namespace VL
open PySem PySem.Spec L2
open PyProof.Rows hiding St
variable [KK : KLs] [XX : XW]
/-! ### tables -/
def kD : Key → D
  | .inl i => .int i
  | .inr x => .str x
/-- what stands at a key -/
def kfind {κ α : Type} [DecidableEq κ] : List κ → List α → κ → Option α
  | k0 :: ks, x :: xs, k => if k0 = k then some x else kfind ks xs k
  | _, _, _ => none
def D.key : D → Option Key
  | .int i => some (.inl i)
  | .str x => some (.inr x)
  | _ => none
omit KK XX in
theorem valV_zip {κ : Type} [DecidableEq κ] {k : κ} : ∀ (ks : List κ) (vs : List V), valV (ks.zip vs) k = kfind ks vs k
  | [], vs => by simp [valV, kfind]
  | k0 :: ks, [] => by simp [valV, kfind]
  | k0 :: ks, v :: vs => by
    rw [List.zip_cons_cons, kfind]
    by_cases e : k0 = k
    · rw [valV_pos (p := (k0, v)) e, if_pos e]
    · rw [valV_neg (p := (k0, v)) e, valV_zip ks vs, if_neg e]
section
variable {Z B H : Hp}
theorem lookup_key {κ : Type} [DecidableEq κ] {k : κ} : ∀ {ks : List κ} {xs : List D} {vs : List V} {F : List Addr} {d : D}, Dens Z B H xs vs F → kfind ks xs k = some d → ∃ v G, kfind ks vs k = some v ∧ Den Z B H d v G
  | [], xs, vs, F, d, _, h => by simp [kfind] at h
  | n :: ns, [], vs, F, d, _, h => by simp [kfind] at h
  | n :: ns, x :: xs, _, _, d, ⟨v, ws, G1, G2, e, y, q, f'⟩, h => by
    subst e
    rw [kfind] at h ⊢
    by_cases e : n = k
    · rw [if_pos e] at h ⊢; cases h; exact ⟨v, G1, rfl, y⟩
    · rw [if_neg e] at h ⊢; exact lookup_key q h
theorem lookup_key_none {κ : Type} [DecidableEq κ] {k : κ} : ∀ {ks : List κ} {xs : List D} {vs : List V} {F : List Addr}, Dens Z B H xs vs F → kfind ks xs k = none → kfind ks vs k = none
  | [], xs, vs, F, _, h => by simp [kfind]
  | n :: ns, [], vs, F, q, h => by rw [q.1]; simp [kfind]
  | n :: ns, x :: xs, _, _, ⟨v, ws, G1, G2, e, y, q, f'⟩, h => by
    subst e
    rw [kfind] at h ⊢
    by_cases e : n = k
    · rw [if_pos e] at h; cases h
    · rw [if_neg e] at h ⊢; exact lookup_key_none q h
theorem D.key_den {y : D} {v : V} {F : List Addr} {k : Key} (h : Den Z B H y v F) (e : y.key = some k) : v = kV k := by
  cases y with
  | int i => cases e; exact h.1
  | str x => cases e; exact h.1
  | _ => exact nomatch e
/-- a dict that can be read -/
theorem den_dct {f : Fl} {ks : List Key} {xs : List D} {v : V} {F : List Addr} (s : Same B H) (n : f.ls ≠ .x) (h : Den Z B H (.nd (.dct f ks) xs) v F) : ∃ a vs G, v = .ref a ∧ Rd H a (.dK (ks.zip vs)) ∧ ks.length = vs.length ∧ Dens Z B H xs vs G := by
  obtain ⟨a, o, vs, G, e, x, c, q, f'⟩ := h
  obtain ⟨l, c⟩ := c
  subst c
  refine ⟨a, vs, G, e, ?_, l, q⟩
  have x : At Z B H f.ls a (.dK (ks.zip vs)) := x
  rcases x.rd s n with h | ⟨us, e, _⟩
  · exact h
  · cases e
end
def rdF (f : Fl) : Bool := match f.ls with | .x => false | _ => true
theorem rdF_ok {f : Fl} (h : rdF f = true) : f.ls ≠ .x := ls_ne f
/-- d[k] -/
def vDGet (td ty : TEv) : TEv := fun ρ Q => td ρ fun d => ty ρ fun y => match d, y.key with
  | .nd (.dct f ks) xs, some k => rdF f = true ∧ match kfind ks xs k with
    | some d => Q d.bor
    | none => False
  | _, _ => False
theorem lk_dget {Td Ty : TE} {td ty : TEv} (ld : LE Td td) (ly : LE Ty ty) : LE (tDGet Td Ty) (vDGet td ty) := by
  intro B0 Z B H σ ρ Qd Q R h k
  refine ld B0 Z B H σ ρ _ _ R h fun x vx H1 ⟨B1, F, g, dx, n, fr⟩ h => ?_
  refine ly B0 Z B1 H1 σ ρ _ _ (R.grow g) h fun y vy H2 ⟨B2, F2, g2, dy, n2, fr2⟩ h => ?_
  split at h
  · rename_i f ks xs k' e1 _ _
    obtain ⟨hf, h⟩ := h
    split at h
    · rename_i d e2
      obtain ⟨a, vs, G, ev, rd, l, q⟩ := den_dct g2.sub (rdF_ok hf) (dx.grow g2.sb g2.sh)
      obtain ⟨v, G', e3, y3⟩ := lookup_key q e2
      refine ⟨a, v, ev, .inl ⟨_, k', rd, D.key_den dy e1, ?_⟩, k _ _ _ ((Out.of g2.sub y3.see).after (g.trans g2)) h⟩
      rw [valV_zip, e3]
    · exact h.elim
  · exact h.elim
/-- k in d, k not in d -/
def vDIn (neg : Bool) (ty td : TEv) : TEv := fun ρ Q => ty ρ fun y => td ρ fun d => match d, y.key with
  | .nd (.dct f ks) xs, some k => rdF f = true ∧ Q (.bl (if neg then !(kfind ks xs k).isSome else (kfind ks xs k).isSome))
  | _, _ => False
theorem din_get {Z B H : Hp} {f : Fl} {ks : List Key} {xs : List D} {vx vy : V} {F G : List Addr} {y : D} {k : Key} (s : Same B H) (hf : rdF f = true) (dx : Den Z B H (.nd (.dct f ks) xs) vx F) (dy : Den Z B H y vy G) (e : y.key = some k) : ∃ a o, vx = .ref a ∧ DGet H a vy o ∧ o.isSome = (kfind ks xs k).isSome := by
  obtain ⟨a, vs, G, ev, rd, l, q⟩ := den_dct s (rdF_ok hf) dx
  refine ⟨a, _, ev, .inl ⟨_, k, rd, D.key_den dy e, rfl⟩, ?_⟩
  rw [valV_zip]
  cases h : kfind ks xs k with
  | none => rw [lookup_key_none q h]; rfl
  | some d => obtain ⟨v, G', e3, _⟩ := lookup_key q h; rw [e3]; rfl
theorem lk_din {Td Ty : TE} {td ty : TEv} (ly : LE Ty ty) (ld : LE Td td) : LE (tDIn Ty Td) (vDIn false ty td) := by
  intro B0 Z B H σ ρ Qd Q R h k
  refine ly B0 Z B H σ ρ _ _ R h fun y vy H1 ⟨B1, F, g, dy, n, fr⟩ h => ?_
  refine ld B0 Z B1 H1 σ ρ _ _ (R.grow g) h fun x vx H2 ⟨B2, F2, g2, dx, n2, fr2⟩ h => ?_
  split at h
  · rename_i f ks xs k' e1 _
    obtain ⟨a, o, ev, gt, eo⟩ := din_get g2.sub h.1 dx (dy.grow g2.sb g2.sh) e1
    refine ⟨a, o, ev, gt, k _ _ _ ((Out.of g2.sub ?_).after (g.trans g2)) h.2⟩
    rw [eo]; exact den_bl
  · exact h.elim
theorem lk_dnin {Td Ty : TE} {td ty : TEv} (ly : LE Ty ty) (ld : LE Td td) : LE (tDNotIn Ty Td) (vDIn true ty td) := by
  intro B0 Z B H σ ρ Qd Q R h k
  refine ly B0 Z B H σ ρ _ _ R h fun y vy H1 ⟨B1, F, g, dy, n, fr⟩ h => ?_
  refine ld B0 Z B1 H1 σ ρ _ _ (R.grow g) h fun x vx H2 ⟨B2, F2, g2, dx, n2, fr2⟩ h => ?_
  split at h
  · rename_i f ks xs k' e1 _
    obtain ⟨a, o, ev, gt, eo⟩ := din_get g2.sub h.1 dx (dy.grow g2.sb g2.sh) e1
    refine ⟨a, o, ev, gt, k _ _ _ ((Out.of g2.sub ?_).after (g.trans g2)) h.2⟩
    rw [eo]; exact den_bl
  · exact h.elim
/-! ### displays -/
def LP (trs : List (TE × TE)) (ks : List Key) (t : TAv) : Prop := ∀ (B0 Z B H : Hp) (σ : L2.St) (ρ : Env) (Qd : List D → Prop) (Q : List (V × V) → Hp → Prop), Rep B0 Z B H σ ρ → t ρ Qd →
  (∀ ds vs H', Outs Z B H ds vs H' → Qd ds → vs.length = ks.length → Q ((ks.zip vs).map fun kv => (kV kv.1, kv.2)) H') → tPairs trs σ H Q
structure VP (X : Cx) (pos : Pos) (keys : List (Option Expr)) (values : List Expr) (trs : List (TE × TE)) (ks : List Key) (t : TAv) : Prop where
  pp : PPs X pos keys values trs
  lk : LP trs ks t
theorem p_nil {X : Cx} {pos : Pos} : VP X pos [] [] [] [] vNil := ⟨pps_nil, fun _ _ _ _ _ _ _ _ R h k => k [] [] _ (Outs.nil R.sub) h rfl⟩
theorem p_str {X : Cx} {pos p0 : Pos} {x : Str} {j : Nat} {v : Expr} {kes : List (Option Expr)} {vs : List Expr} {Tv : TE} {tv : TEv} {trs : List (TE × TE)} {ks : List Key} {t : TAv} (hv : VE X v Tv tv) (hr : VP X pos kes vs trs ks t) :
    VP X pos (some (.Constant (.str x) j p0) :: kes) (v :: vs) ((tC (.str x), Tv) :: trs) (.inr x :: ks) (vCons tv t) := ⟨pps_cons pe_str hv.pe hr.pp, by
  intro B0 Z B H σ ρ Qd Q R h k
  refine hv.lk B0 Z B H σ ρ _ _ R h fun d v H1 ⟨B1, F, g, dx, n, f⟩ h => ?_
  exact hr.lk B0 Z B1 H1 σ ρ _ _ (R.grow g) h fun ds vs H2 o q l => k (d :: ds) (v :: vs) H2 (Outs.cons g dx n f o) q (by simp [l])⟩
omit KK XX in
theorem merge_zip : ∀ (kvs acc : List (Key × V)), (kvs.map (·.1)).Nodup → (∀ p ∈ kvs, ∀ q ∈ acc, q.1 ≠ p.1) → mergeK acc kvs = acc ++ kvs
  | [], acc, _, _ => by simp [mergeK]
  | p :: r, acc, nd, h => by
    have e : putK acc p.1 p.2 = acc ++ [p] := by
      unfold putK
      rw [if_neg]
      intro z
      rw [List.any_eq_true] at z
      obtain ⟨q, hq, e⟩ := z
      exact h p List.mem_cons_self q hq (of_decide_eq_true e)
    rw [List.map_cons, List.nodup_cons] at nd
    have := merge_zip r (acc ++ [p]) nd.2 fun a ha q hq => by
      rcases List.mem_append.mp hq with hq | hq
      · exact h a (List.mem_cons_of_mem _ ha) q hq
      · have : q = p := by simpa using hq
        subst this
        exact fun z => nd.1 (by rw [z]; exact List.mem_map.mpr ⟨a, ha, rfl⟩)
    show mergeK (putK acc p.1 p.2) r = acc ++ p :: r
    rw [e, this, List.append_assoc]; rfl
omit KK XX in
theorem zip_fst : ∀ (ks : List Key) (vs : List V), vs.length = ks.length → (ks.zip vs).map (·.1) = ks
  | [], _, _ => by simp
  | k :: ks, [], h => by simp at h
  | k :: ks, v :: vs, h => by rw [List.zip_cons_cons, List.map_cons, zip_fst ks vs (by simpa using h)]
def vDisp (ks : List Key) (t : TAv) : TEv := fun ρ Q => t ρ fun ds => D.alls nbF ds = true ∧ Q (.dct .o ks ds)
theorem lk_disp {trs : List (TE × TE)} {ks : List Key} {t : TAv} (l : LP trs ks t) (nd : ks.Nodup) (h15 : ks.length ≤ 15) : LE (tDisp trs) (vDisp ks t) := by
  intro B0 Z B H σ ρ Qd Q R h k p hp
  have g0 := Grow.new (o := .dK []) R.sub hp
  refine l B0 Z B _ σ ρ _ _ (R.grow g0) h fun ds vs H2 ⟨B1, F, g, q, n, f⟩ ⟨nb, h⟩ lv => ?_
  have h2p : H2 p = some (.dK []) := g.sh _ _ upd_same
  refine ⟨h2p, ks.zip vs, rfl, by rw [List.length_zip]; omega, ?_⟩
  rw [merge_zip _ _ (by rw [zip_fst ks vs lv]; exact nd) (fun _ _ q hq => absurd hq List.not_mem_nil), List.nil_append]
  have ne : ∀ a ∈ F, a ≠ p := fun a h e => by
    have := (f a h).2
    rw [e, upd_same] at this
    cases this
  have b1p : B1 p = none := g.old p _ upd_same (fun _ z => nomatch z) (R.sub.free hp)
  refine k (.dct .o ks ds) _ _ ⟨B1, p :: F, ⟨g.sb, fun b o e => ?_, fun b o e => ?_, fun a o e1 nt e2 => ?_⟩, ⟨p, _, vs, F, rfl, upd_same, ⟨lv.symm, rfl⟩, ?_, rfl⟩, List.nodup_cons.mpr ⟨fun h => ne p h rfl, n⟩, fun a h => ?_⟩ h
  · rw [upd_ne (ne_of_none e hp)]
    exact (g0.trans g).sh _ _ e
  · have bp : b ≠ p := fun z => by rw [z, b1p] at e; cases e
    rw [upd_ne bp]; exact g.sub _ _ e
  · exact (g0.trans g).old a o e1 nt e2
  · exact Dens.keep _ _ _ nb (fun a ha => upd_ne (ne a ha)) q
  · rcases List.mem_cons.mp h with e | h
    · subst e
      exact ⟨b1p, hp⟩
    · have e := (f a h).2
      rw [upd_ne (ne a h)] at e
      exact ⟨(f a h).1, e⟩
section
variable {X : Cx} {d i e : Expr} {pos p1 p2 : Pos} {Td Ti Te : TE} {td ti te : TEv} {n : Nat} {keys : List (Option Expr)} {values : List Expr} {trs : List (TE × TE)} {ks : List Key} {t : TAv} {x : Str}
theorem e_disp (h : VP X pos keys values trs ks t) (nd : ks.Nodup := by decide +kernel) (hl15 : ks.length ≤ 15 := by decide) (hall : keys.all (·.isSome) = true := by rfl) (hl : keys.length = values.length := by rfl) (h0 : keys ≠ [] := by exact fun z => nomatch z) (h15 : keys.length ≤ 15 := by decide) : VE X (.Dict keys values pos) (tDisp trs) (vDisp ks t) := ⟨pe_disp h.pp hall hl h0 h15, lk_disp h.lk nd hl15⟩
theorem e_dget (hr : Room n X.A) (hd : VE X d Td td) (hi : VE X i Ti ti) (hs : NoSl i := by exact fun _ _ => rfl) : VE X (.Subscript d i pos) (tDGet Td Ti) (vDGet td ti) := ⟨pe_dget (by have := hr.un; omega) hd.pe hi.pe hs, lk_dget hd.lk hi.lk⟩
theorem e_din (hr : Room n X.A) (hi : VE X i Ti ti) (hd : VE X d Td td) (h1 : behindInMarks .In d = false := by rfl) : VE X (.Compare i [.In] [d] pos) (tDIn Ti Td) (vDIn false ti td) := ⟨pe_cmp (pc_din (by have := hr.un; omega) hi.pe hd.pe) h1, lk_din hi.lk hd.lk⟩
theorem e_dnin (hr : Room n X.A) (hi : VE X i Ti ti) (hd : VE X d Td td) (h1 : behindInMarks .NotIn d = false := by rfl) : VE X (.Compare i [.NotIn] [d] pos) (tDNotIn Ti Td) (vDIn true ti td) := ⟨pe_cmp (pc_dnotin (by have := hr.un; omega) hi.pe hd.pe) h1, lk_dnin hi.lk hd.lk⟩
end
/-! ### d[k] = e, d a name -/
def kput {κ α : Type} [DecidableEq κ] : List κ → List α → κ → α → List α
  | k0 :: ks, x :: xs, k, d => if k0 = k then d :: xs else x :: kput ks xs k d
  | _, _, _, d => [d]
def kadd {κ : Type} [DecidableEq κ] : List κ → κ → List κ
  | k0 :: ks, k => if k0 = k then k0 :: ks else k0 :: kadd ks k
  | [], k => [k]
omit KK XX in
theorem map_other {κ : Type} [DecidableEq κ] {k : κ} {v : V} : ∀ (ks : List κ) (vs : List V), k ∉ ks → ((ks.zip vs).map fun kv => if kv.1 = k then (kv.1, v) else kv) = ks.zip vs
  | [], vs, _ => by simp
  | k0 :: ks, [], _ => by simp
  | k0 :: ks, x :: vs, h => by
    rw [List.zip_cons_cons, List.map_cons, map_other ks vs fun z => h (List.mem_cons_of_mem _ z), if_neg (fun z => h (by rw [← z]; exact List.mem_cons_self))]
omit KK XX in
theorem any_other {κ : Type} [DecidableEq κ] {k : κ} : ∀ (ks : List κ) (vs : List V), k ∉ ks → ((ks.zip vs).any fun kv => decide (kv.1 = k)) = false
  | [], vs, _ => by simp
  | k0 :: ks, [], _ => by simp
  | k0 :: ks, x :: vs, h => by
    rw [List.zip_cons_cons, List.any_cons, any_other ks vs fun z => h (List.mem_cons_of_mem _ z), decide_eq_false (fun z => h (by rw [← z]; exact List.mem_cons_self))]; rfl
omit KK XX in
theorem put_zip {κ : Type} [DecidableEq κ] {k : κ} {v : V} : ∀ (ks : List κ) (vs : List V), ks.length = vs.length → ks.Nodup → putK (ks.zip vs) k v = (kadd ks k).zip (kput ks vs k v)
  | [], vs, l, _ => by
    cases vs with
    | nil => rfl
    | cons _ _ => simp at l
  | k0 :: ks, [], l, _ => by simp at l
  | k0 :: ks, x :: vs, l, nd => by
    rw [List.nodup_cons] at nd
    have ih := put_zip (k := k) (v := v) ks vs (by simpa using l) nd.2
    rw [kadd, kput]
    unfold putK at ih ⊢
    rw [List.zip_cons_cons, List.any_cons, List.map_cons]
    by_cases e : k0 = k
    · subst e
      rw [if_pos rfl, if_pos rfl, decide_eq_true (show (k0, x).1 = k0 from rfl), Bool.true_or, if_pos rfl, if_pos rfl, map_other _ _ nd.1]
      rfl
    · rw [if_neg e, if_neg e, decide_eq_false (show ¬ (k0, x).1 = k from e), Bool.false_or, if_neg (show ¬ (k0, x).1 = k from e)]
      rw [List.zip_cons_cons, ← ih]
      split <;> rfl
theorem Dens.kput {κ : Type} [DecidableEq κ] {Z B H : Hp} {d : D} {v : V} {F : List Addr} {k : κ} (x : Den Z B H d v F) : ∀ {ks : List κ} {ds : List D} {vs : List V} {G : List Addr}, ks.length = vs.length → Dens Z B H ds vs G → G.Nodup → F.Nodup → (∀ b ∈ F, b ∉ G) →
    ∃ G', Dens Z B H (kput ks ds k d) (kput ks vs k v) G' ∧ G'.Nodup ∧ ∀ b ∈ G', b ∈ G ∨ b ∈ F
  | [], ds, vs, G, l, q, nG, nF, dj => by
    have : vs = [] := List.length_eq_zero_iff.mp l.symm
    subst this
    have : ds = [] := List.length_eq_zero_iff.mp q.len
    subst this
    exact ⟨F, Dens.one x, nF, fun b hb => .inr hb⟩
  | k0 :: ks, [], vs, G, l, q, _, _, _ => by
    have := q.1
    subst this
    simp at l
  | k0 :: ks, d0 :: ds, _, G, l, ⟨w, ws, G1, G2, e, y, q, f⟩, nG, nF, dj => by
    subst e f
    have nd := List.nodup_append.mp nG
    rw [VL.kput, VL.kput]
    by_cases e : k0 = k
    · rw [if_pos e, if_pos e]
      refine ⟨F ++ G2, ⟨v, ws, F, G2, rfl, x, q, rfl⟩, List.nodup_append.mpr ⟨nF, nd.2.1, fun a ha b hb z => ?_⟩, fun b hb => ?_⟩
      · subst z; exact dj a ha (List.mem_append.mpr (.inr hb))
      · rcases List.mem_append.mp hb with h | h
        · exact .inr h
        · exact .inl (List.mem_append.mpr (.inr h))
    · rw [if_neg e, if_neg e]
      obtain ⟨G', q', n', s'⟩ := Dens.kput x (ks := ks) (by simpa using l) q nd.2.1 nF fun b hb z => dj b hb (List.mem_append.mpr (.inr z))
      refine ⟨G1 ++ G', ⟨w, _, G1, G', rfl, y, q', rfl⟩, List.nodup_append.mpr ⟨nd.1, n', fun a ha b hb z => ?_⟩, fun b hb => ?_⟩
      · subst z
        rcases s' a hb with h | h
        · exact nd.2.2 a ha a h rfl
        · exact dj a h (List.mem_append.mpr (.inl ha))
      · rcases List.mem_append.mp hb with h | h
        · exact .inl (List.mem_append.mpr (.inl h))
        · rcases s' b h with h | h
          · exact .inl (List.mem_append.mpr (.inr h))
          · exact .inr h
omit KK XX in
theorem alls_kput {κ : Type} [DecidableEq κ] {p : Fl → Bool} {d : D} {k : κ} : ∀ {ks : List κ} {ds : List D}, D.alls p ds = true → d.all p = true → D.alls p (kput ks ds k d) = true
  | [], ds, h, h2 => by unfold kput; simp [D.alls, h2]
  | k0 :: ks, [], h, h2 => by unfold kput; simp [D.alls, h2]
  | k0 :: ks, d0 :: ds, h, h2 => by
    have n' : d0.all p = true ∧ D.alls p ds = true := by simpa [D.alls] using h
    rw [kput]
    split
    · simp [D.alls, h2, n'.2]
    · simp [D.alls, n'.1, alls_kput (ks := ks) (k := k) n'.2 h2]
omit KK XX in
theorem kput_len {κ α : Type} [DecidableEq κ] {k : κ} {v : α} : ∀ (ks : List κ) (vs : List α), ks.length = vs.length → (kadd ks k).length = (kput ks vs k v).length
  | [], vs, l => by
    have : vs = [] := List.length_eq_zero_iff.mp l.symm
    subst this; rfl
  | k0 :: ks, [], l => by simp at l
  | k0 :: ks, x :: vs, l => by
    rw [kadd, kput]
    split
    · simpa using l
    · rw [List.length_cons, List.length_cons, kput_len ks vs (by simpa using l)]
def vDPut (i : Nat) (ti te : TEv) : TSv := fun W ρ => te ρ fun d => match ρ[i]? with
  | some (some (.nd (.dct .o ks) xs)) => ti ρ fun y => match y.key with
    | some k => d.nb = true ∧ ks.Nodup ∧ ks.length < 1000000 ∧ W.nx (ρ.set i (some (.dct .o (kadd ks k) (kput ks xs k d))))
    | _ => False
  | _ => False
theorem lk_dput {i : Nat} {Te Ti : TE} {te ti : TEv} (l : LE Te te) (li : LE Ti ti) : LS (sDPut (tVar i) Ti Te) (vDPut i ti te) := by
  intro B0 Z B H σ ρ Dv De R h S
  refine l B0 Z B H σ ρ _ _ R h fun d v H1 ⟨B1, F, g, x, nF, fF⟩ h => ?_
  split at h
  · rename_i ks xs e
    obtain ⟨a, o0, vs, G, h1, hx, c, y, nb, ng, aG, fG, W⟩ := R.write (h := .dct .o ks) e (.inl rfl)
    obtain ⟨lk, c⟩ := c
    subst c
    refine ⟨_, h1, ?_⟩
    refine li B0 Z B1 H1 σ ρ _ _ (R.grow g) h fun ky kv H2 ⟨B2, F2, g2, x2, _, _⟩ h => ?_
    split at h
    · rename_i k ek
      obtain ⟨nbd, nk, hl, q⟩ := h
      have g12 := g.trans g2
      have live : ∀ b ∈ G, ∃ o, H b = some o ∧ NT o := Dens.liveN _ _ _ y
      obtain ⟨G', q', n', s'⟩ := Dens.kput (k := k) (x.grow g2.sb g2.sh) (ks := ks) lk (Dens.grow g12.sb g12.sh _ _ _ y) ng nF fun b hb z => by
        obtain ⟨o, eo, nt⟩ := live b z
        rw [(fF b hb).2] at eo; cases eo
      refine ⟨a, _, rfl, .inl ⟨_, k, g12.sh _ _ hx, D.key_den x2 ek, by rw [List.length_zip]; exact million (by omega), rfl⟩, ?_⟩
      rw [put_zip ks vs lk nk]
      refine S.nx _ _ _ _ (W (.dct .o (kadd ks k)) (kput ks xs k d) _ B2 H2 (kput ks vs k v) G' rfl g12 ⟨kput_len ks vs lk, rfl⟩ q' n' (alls_kput nb nbd) (fun b hb => ?_)) q
      rcases s' b hb with h | h
      · exact .inl h
      · obtain ⟨o, eo, nt⟩ := x.liveN _ _ _ b h
        exact .inr ⟨g2.old b o eo nt (fF b h).1, (fF b h).2⟩
    · exact h.elim
  · exact h.elim
section
variable {X : Cx} {k e : Expr} {pos p1 p2 : Pos} {Tk Te : TE} {tk te : TEv} {n : Nat} {x : Str}
theorem s_dput (hr : Room n X.A) (i : Nat) (he : VE X e Te te) (hk : VE X k Tk tk) (hN : X.N[i]? = some x := by rfl) (hv : Vis X.env.scope x := by first | exact Or.inl rfl | exact Or.inr (Or.inl rfl) | exact Or.inr (Or.inr rfl)) (hd : (x == ("__debug__" : Str)) = false := by decide) (hcd : (x == ("__classdict__" : Str)) = false := by decide)
    (hs : swapsWith e (some (.Subscript (.Name x p1) k p2)) pos.line X.env = pure false := by rfl) : VS X (.Assign [.Subscript (.Name x p1) k p2] e pos) (sDPut (tVar i) Tk Te) (vDPut i tk te) :=
  ⟨ps_dput (by have := hr.un; omega) (pe_var hN hv hd hcd) hk.pe he.pe hs, lk_dput he.lk hk.lk⟩
end
end VL

/-! ## VLZ -/
/-! VL: zip of tuples. -/
namespace VL
open PySem PySem.Spec L2
open PyProof.Rows hiding St
variable [KK : KLs] [XX : XW]
def pairsD (xs ys : List D) : List D := List.zipWith (fun x y => D.tup [x, y]) xs ys
theorem pairsD_get {xs ys : List D} {i : Nat} {d : D} (h : (pairsD xs ys)[i]? = some d) : ∃ x y, xs[i]? = some x ∧ ys[i]? = some y ∧ d = .tup [x, y] := by
  unfold pairsD at h
  rw [List.getElem?_zipWith] at h
  split at h
  · rename_i x y hx hy
    exact ⟨x, y, hx, hy, (Option.some.inj h).symm⟩
  · cases h
theorem pairsD_co {xs ys : List D} (h1 : D.alls coF xs = true) (h2 : D.alls coF ys = true) : D.alls coF (pairsD xs ys) = true := by
  rw [D.alls_eq, List.all_eq_true]
  intro d hd
  obtain ⟨i, hi⟩ := List.getElem?_of_mem hd
  obtain ⟨x, y, hx, hy, rfl⟩ := pairsD_get hi
  have a := alls_at h1 hx
  have b := alls_at h2 hy
  simp [D.all, D.alls, Hd.fl, coF] at a b ⊢
  exact ⟨a, b⟩
theorem yields_zipT {Z B H : Hp} {a b : Addr} {xs ys : List D} {vs ws : List V} {F G : List Addr} (ha : B a = some (.tup vs)) (hb : B b = some (.tup ws)) (q1 : Dens Z B H xs vs F) (q2 : Dens Z B H ys ws G) (n1 : D.alls coF xs = true) (n2 : D.alls coF ys = true) : Yields Z B (RZ.ItzT KK.K a b) (pairsD xs ys) := by
  intro B' H' sb s
  have h1 : SqT KK.K H' a vs := SqT.of (s _ _ (sb _ _ ha))
  have h2 : SqT KK.K H' b ws := SqT.of (s _ _ (sb _ _ hb))
  have l1 := q1.len
  have l2 := q2.len
  have hl : (pairsD xs ys).length = min xs.length ys.length := by simp [pairsD]
  refine ⟨fun i d e => ?_, ⟨vs, ws, h1, h2, by rw [hl]; omega⟩⟩
  obtain ⟨x, y, hx, hy, rfl⟩ := pairsD_get e
  obtain ⟨v, G1, e1, d1, _⟩ := q1.at hx
  obtain ⟨w, G2, e2, d2, _⟩ := q2.at hy
  refine ⟨⟨vs, ws, v, w, h1, h2, e1, e2⟩, fun z H'' yy => ?_⟩
  obtain ⟨T, x', y', rfl, hT, rfl, k1, k2⟩ := yy
  have e3 := k1 vs h1
  rw [e1] at e3
  cases e3
  have e4 := k2 ws h2
  rw [e2] at e4
  cases e4
  have nx := alls_at n1 hx
  have ny := alls_at n2 hy
  have dx := Den.fixed (H' := H') sb x v G1 nx d1
  have dy := Den.fixed (H' := H') sb y w G2 ny d2
  have co : D.alls coF [x, y] = true := by simp [D.alls]; exact ⟨nx, ny⟩
  exact out_tup (Outs.of s co ⟨v, [w], G1, G2, rfl, dx, Dens.one dy, rfl⟩) hT
def vZip (ta tb : TEv) : TIv := fun ρ R => ta ρ fun d => tb ρ fun e => match d, e with
  | .nd .tup xs, .nd .tup ys => D.alls coF xs = true ∧ D.alls coF ys = true ∧ R (pairsD xs ys)
  | _, _ => False
theorem lk_zip {Ta Tb : TE} {ta tb : TEv} (la : LE Ta ta) (lb : LE Tb tb) : LI (RZ.iZipA KK.K (tCons Ta (tCons Tb tNil))) (vZip ta tb) := by
  intro B0 Z B H σ ρ R RR Rp h k
  refine la B0 Z B H σ ρ _ _ Rp h fun d v H1 ⟨B1, F, g, x, n, f⟩ q => ?_
  refine lb B0 Z B1 H1 σ ρ _ _ (Rp.grow g) q fun e w H2 ⟨B2, G, g2, y, n2, f2⟩ q => ?_
  split at q
  · rename_i xs ys
    obtain ⟨c1, c2, q⟩ := q
    obtain ⟨a, vs, e1, t1, b1, y1⟩ := den_tup g.sub x
    obtain ⟨b, ws, e2, t2, b2, y2⟩ := den_tup g2.sub y
    refine ⟨a, b, vs, ws, by rw [e1, e2], .inr ⟨SqT.of (g2.sh _ _ t1), SqT.of t2, ?_⟩⟩
    exact k _ B2 H2 _ (g.trans g2) (yields_zipT (g2.sb _ _ b1) b2 (Dens.grow g2.sb g2.sh _ _ _ y1) y2 c1 c2) (pairsD_co c1 c2) q
  · exact q.elim
theorem i_zip {X : Cx} {a b : Expr} {Ta Tb : TE} {ta tb : TEv} {p pos tpos : Pos} {elts : List Expr} {kk : Nat} (hm : X.mg "zip" = none) (ha : VE X a Ta ta) (hb : VE X b Tb tb) (hg : Gl X "zip" := by rfl)
    (hs : starEach [a, b] X.env = (false, eval a X.env) :: starEach [b] X.env := by rfl) (hs2 : starEach [b] X.env = [(false, eval b X.env)] := by rfl) (hpl : (backTo pos (starEach [b] X.env)).any (·.1) = false := by rfl) (hK : X.K = KK.K := by rfl) :
    VI X (.Tuple elts kk tpos) (.Call (.Name "zip" p) [a, b] [] pos) (RZ.iZipA KK.K (tCons Ta (tCons Tb tNil))) (vZip ta tb) := by
  rw [← hK]
  exact ⟨RZ.pi_zipA hg hm (pa_cons ha.pe (pa_cons hb.pe pa_nil hs2) hs) hs hpl, by rw [hK]; exact lk_zip ha.lk hb.lk⟩
end VL

/-! ## VLY -/
/-! VL: an own dict locked while it is walked; {}; sorted. -/
namespace VL
open PySem PySem.Spec L2
open PyProof.Rows hiding St
variable [KK : KLs] [XX : XW]
/-! ### the lock -/
/-- what may be handed on behind a lock -/
def unF : Fl → Bool | .i => true | .o => true | .l => true | .a => true | _ => false
def cutB (B : Hp) (a : Addr) : Hp := fun b => if b = a then none else B b
omit KK XX in
theorem cutB_ne {B : Hp} {a b : Addr} (h : b ≠ a) : cutB B a b = B b := if_neg h
omit KK XX in
theorem cutB_same {B : Hp} {a : Addr} : cutB B a a = none := if_pos rfl
omit KK XX in
theorem Cont.nofrz {h : Hd} {o : HO} {vs : List V} (c : Cont h o vs) : ∀ ob u, o ≠ .frz ob u := by
  intro ob u e
  subst e
  cases h with
  | tup => cases c
  | lst f => cases c
  | dct f ks => cases c.2
  | dtt f ks => cases c.2
  | obj C ns => obtain ⟨_, dx, e⟩ := c; cases e
  | slf f C ns => obtain ⟨_, dx, e⟩ := c; cases e
  | lsk f => cases c
section
variable {Z B H : Hp} {a : Addr} {ob : Obj} {u o : HO}
theorem At.unlock (hB : B a = some (.frz ob u)) (hH : H a = some (.frz ob u)) {f : Fl} {b : Addr} {o' : HO} (nf : ∀ ob u, o' ≠ .frz ob u) (n : unF f = true) (x : At Z B H f b o') : At Z (cutB B a) (upd H a o) f b o' := by
  have nB : ∀ {X : Hp}, X a = some (.frz ob u) → X b = some o' → b ≠ a := fun h1 h2 e => by
    subst e; rw [h1] at h2; exact nf _ _ (Option.some.inj h2).symm
  cases f with
  | i => exact (cutB_ne (nB hB x)).trans x
  | a => exact (cutB_ne (nB hB x)).trans x
  | l => exact ⟨(cutB_ne (nB hB x.1)).trans x.1, x.2⟩
  | o => exact (upd_ne (nB hH x)).trans x
  | s => exact nomatch n
  | b => exact nomatch n
  | c y => exact nomatch n
  | d => exact nomatch n
  | x => exact nomatch n
mutual
theorem Den.unlock (hB : B a = some (.frz ob u)) (hH : H a = some (.frz ob u)) : ∀ (d : D) (v : V) (F : List Addr), d.all unF = true → Den Z B H d v F → Den Z (cutB B a) (upd H a o) d v F
  | .non, _, _, _, h => h
  | .bl _, _, _, _, h => h
  | .int _, _, _, _, h => h
  | .str _, _, _, _, h => h
  | .cst _, _, _, _, h => h
  | .nd h ds, _, _, n, ⟨b, o', vs, G, e, x, c, q, f⟩ => by
    have n' : unF h.fl = true ∧ D.alls unF ds = true := by simpa [D.all] using n
    exact ⟨b, o', vs, G, e, At.unlock hB hH c.nofrz n'.1 x, c, Dens.unlock hB hH ds vs G n'.2 q, f⟩
theorem Dens.unlock (hB : B a = some (.frz ob u)) (hH : H a = some (.frz ob u)) : ∀ (ds : List D) (vs : List V) (F : List Addr), D.alls unF ds = true → Dens Z B H ds vs F → Dens Z (cutB B a) (upd H a o) ds vs F
  | [], _, _, _, h => h
  | d :: ds, _, _, n, ⟨v, ws, G1, G2, e, x, q, f⟩ => by
    have n' : d.all unF = true ∧ D.alls unF ds = true := by simpa [D.alls] using n
    exact ⟨v, ws, G1, G2, e, Den.unlock hB hH d v G1 n'.1 x, Dens.unlock hB hH ds ws G2 n'.2 q, f⟩
end
end
theorem Rep.lock {B0 Z B H : Hp} {σ : L2.St} {ρ : VL.Env} {i : Nat} {ks : List Key} {xs : List D} (R : Rep B0 Z B H σ ρ) (e : ρ[i]? = some (some (.dct .o ks xs))) (co : D.alls coF xs = true) :
    ∃ a vs, ks.length = vs.length ∧ H a = some (.dK (ks.zip vs)) ∧ B a = none ∧ ∀ od, Rep B0 Z (upd B a (.frz od (.dK (ks.zip vs)))) (upd H a (.frz od (.dK (ks.zip vs)))) σ (ρ.set i (some (.dct .s ks xs))) := by
  obtain ⟨F, q, n, z⟩ := R.ex
  obtain ⟨v, G, Rr, h1, h2, h3, h4, h5, h6, h7, h8⟩ := q.part n e
  obtain ⟨a, o, vs, G', ev, x, c, y, f⟩ := h3
  have x : H a = some o := x
  obtain ⟨l, c⟩ := c
  subst c
  have eG := Dens.nofp xs vs G' co y
  subst eG
  have f : G = [a] := f
  subst f
  have za := z a (h6 a (.inl List.mem_cons_self))
  refine ⟨a, vs, l, x, za.1, fun od => ?_⟩
  have sb : Same B (upd B a (.frz od (.dK (ks.zip vs)))) := fun b o' eb => by
    have : b ≠ a := fun hb => by subst hb; rw [za.1] at eb; cases eb
    rw [upd_ne this]; exact eb
  have kH : ∀ b, b ≠ a → upd H a (.frz od (.dK (ks.zip vs))) b = H b := fun b hb => upd_ne hb
  have sub : Same (upd B a (.frz od (.dK (ks.zip vs)))) (upd H a (.frz od (.dK (ks.zip vs)))) := fun b o' eb => by
    by_cases hb : b = a
    · subst hb; rw [upd_same] at eb ⊢; exact eb
    · rw [upd_ne hb] at eb ⊢; exact R.sub _ _ eb
  have y2 : Dens Z (upd B a (.frz od (.dK (ks.zip vs)))) (upd H a (.frz od (.dK (ks.zip vs)))) xs vs [] := Dens.fixed sb xs vs [] co y
  have x2 : Den Z (upd B a (.frz od (.dK (ks.zip vs)))) (upd H a (.frz od (.dK (ks.zip vs)))) (.dct .s ks xs) v [] := ⟨a, _, vs, [], ev, .inl ⟨od, upd_same⟩, ⟨l, rfl⟩, y2, rfl⟩
  have q2 := (h8.grow sb (Same.refl _)).keep (H' := upd H a (.frz od (.dK (ks.zip vs)))) fun b hb => kH b fun e2 => h5 a List.mem_cons_self (e2 ▸ hb)
  have nb : D.nb (.dct .s ks xs) = true := by
    have := D.alls_imp (p := coF) (q := nbF) (fun f e => by cases f <;> first | rfl | exact nomatch e) xs co
    show (nbF .s && D.alls nbF xs) = true
    rw [this]; rfl
  obtain ⟨F', k1, k2, k3⟩ := q2.fill (length_of_get e) h1 h7 nb x2 List.nodup_nil (fun a h => nomatch h)
  refine ⟨R.xl, ⟨R.gr.sb.trans sb, fun b o' eb => ?_, sub, fun b o' eb nt nbb => ?_⟩, F', k1, k2, fun b hb => ?_⟩
  · have hb : b ≠ a := fun hb => by subst hb; rw [za.2] at eb; cases eb
    rw [kH b hb]; exact R.gr.sh _ _ eb
  · have hb : b ≠ a := fun hb => by subst hb; rw [za.2] at eb; cases eb
    rw [upd_ne hb]; exact R.gr.old _ _ eb nt nbb
  · rcases k3 b hb with m | m
    · have hz := z b (h6 b (.inr m))
      have hba : b ≠ a := fun e2 => h5 a List.mem_cons_self (e2 ▸ m)
      exact ⟨by rw [upd_ne hba]; exact hz.1, hz.2⟩
    · cases m
theorem Out.unlock {Z B H H2 : Hp} {a : Addr} {od : Obj} {u : HO} {d : D} {v : V} (hu : H a = some u) (hb : B a = none) (n : d.all unF = true) (o : Out Z (upd B a (.frz od u)) (upd H a (.frz od u)) d v H2) : Out Z B H d v (upd H2 a u) := by
  obtain ⟨B2, F, g, x, nf, fr⟩ := o
  have b2 : B2 a = some (.frz od u) := g.sb _ _ upd_same
  have h2 : H2 a = some (.frz od u) := g.sh _ _ upd_same
  refine ⟨cutB B2 a, F, ⟨fun b o' e => ?_, fun b o' e => ?_, fun b o' e => ?_, fun b o' e nt nb => ?_⟩, Den.unlock b2 h2 d v F n x, nf, fun b m => ?_⟩
  · have hba : b ≠ a := fun z => by subst z; rw [hb] at e; cases e
    rw [cutB_ne hba]
    exact g.sb _ _ (by rw [upd_ne hba]; exact e)
  · by_cases hba : b = a
    · subst hba; rw [upd_same, ← hu]; exact e
    · rw [upd_ne hba]
      exact g.sh _ _ (by rw [upd_ne hba]; exact e)
  · have hba : b ≠ a := fun z => by subst z; rw [cutB_same] at e; cases e
    rw [cutB_ne hba] at e
    rw [upd_ne hba]; exact g.sub _ _ e
  · by_cases hba : b = a
    · subst hba; exact cutB_same
    · rw [cutB_ne hba]
      exact g.old b o' (by rw [upd_ne hba]; exact e) nt (by rw [upd_ne hba]; exact nb)
  · have z := fr b m
    have hba : b ≠ a := fun e => by subst e; rw [upd_same] at z; cases z.2
    rw [cutB_ne hba]
    refine ⟨z.1, ?_⟩
    have := z.2
    rw [upd_ne hba] at this
    exact this
def vLock (i : Nat) (te : TEv) : TEv := fun ρ Q => match ρ[i]? with
  | some (some (.nd (.dct .o ks) xs)) => D.alls coF xs = true ∧ te (ρ.set i (some (.dct .s ks xs))) fun d => d.all unF = true ∧ Q d
  | _ => False
theorem lk_lock {i : Nat} {T : TE} {t : TEv} (l : LE T t) : LE (tLockE T) (vLock i t) := by
  intro B0 Z B H σ ρ Qd Q R h k
  unfold vLock at h
  split at h
  · rename_i ks xs e
    obtain ⟨co, h⟩ := h
    obtain ⟨a, vs, hl, ha, hb, L⟩ := R.lock e co
    refine ⟨a, _, ha, True.intro, fun od => ?_⟩
    refine l B0 Z _ _ σ _ _ _ (L od) h fun d v H2 o q => ⟨?_, ?_⟩
    · obtain ⟨B2, F, g, _⟩ := o
      exact g.sh _ _ upd_same
    · exact k d v _ (Out.unlock ha hb q.1 o) q.2
  · exact h.elim
theorem e_lock {X : Cx} {e : Expr} {T : TE} {t : TEv} (i : Nat) (h : VE X e T t) : VE X e (tLockE T) (vLock i t) := ⟨pe_lock h.pe, lk_lock h.lk⟩
/-! ### the walk -/
def vItD (te : TEv) : TIv := fun ρ R => te ρ fun d => match d with
  | .nd (.dct .s ks) _ => R (ks.map kD)
  | _ => False
theorem kD_co (ks : List Key) : D.alls coF (ks.map kD) = true := by
  rw [D.alls_eq, List.all_eq_true]
  intro d hd
  obtain ⟨k, _, rfl⟩ := List.mem_map.mp hd
  cases k <;> rfl
theorem den_kD {Z B H : Hp} (k : Key) : Den Z B H (kD k) (kV k) [] := by
  cases k with
  | inl i => exact ⟨rfl, rfl⟩
  | inr x => exact ⟨rfl, rfl⟩
theorem yields_keys {Z B : Hp} {a : Addr} {ob : Obj} {ks : List Key} {vs : List V} (hl : ks.length = vs.length) (hb : B a = some (.frz ob (.dK (ks.zip vs)))) : Yields Z B (Itk a ob (ks.zip vs)) (ks.map kD) := by
  intro B' H' sb s
  have hs : H' a = some (.frz ob (.dK (ks.zip vs))) := s _ _ (sb _ _ hb)
  have lz : (ks.zip vs).length = ks.length := by rw [List.length_zip]; omega
  refine ⟨fun i d e => ?_, ⟨hs, by rw [lz, List.length_map]; exact Nat.le_refl _⟩⟩
  have hi : i < ks.length := by have := (List.getElem?_eq_some_iff.mp e).1; rwa [List.length_map] at this
  refine ⟨⟨hs, by rw [lz]; exact hi⟩, fun x H'' y => ?_⟩
  obtain ⟨rfl, k, v, e2, rfl⟩ := y
  rw [List.getElem?_map, List.getElem?_eq_getElem hi] at e
  have ed : kD ks[i] = d := Option.some.inj e
  have ek : k = ks[i] := by
    have h2 : i < vs.length := by omega
    rw [List.getElem?_eq_getElem (by rw [lz]; exact hi)] at e2
    have := Option.some.inj e2
    rw [List.getElem_zip] at this
    exact (congrArg Prod.fst this).symm
  subst ed ek
  exact Out.of s (den_kD _)
theorem lk_itD {Te : TE} {te : TEv} (l : LE Te te) : LI (iKeys Te) (vItD te) := by
  intro B0 Z B H σ ρ R RR Rp h k
  refine l B0 Z B H σ ρ _ _ Rp h fun d v H1 o q => ?_
  split at q
  · rename_i ks xs
    obtain ⟨B1, F, g, x, nf, fr⟩ := o
    obtain ⟨a, o', vs, G, e, x, c, y, f⟩ := x
    obtain ⟨hl, c⟩ := c
    subst c
    rcases (show (∃ ob, B1 a = some (.frz ob (.dK (ks.zip vs)))) ∨ ∃ xs, HO.dK (ks.zip vs) = .lst xs ∧ KLst a xs from x) with ⟨ob, hb⟩ | ⟨us, e2, _⟩
    · exact ⟨a, ob, e, .inl ⟨_, g.sub _ _ hb, k _ B1 H1 _ g (yields_keys hl hb) (kD_co ks) q⟩⟩
    · cases e2
  · exact q.elim
theorem i_keys {X : Cx} {tg e : Expr} {Te : TE} {te : TEv} (he : VE X e Te te) : VI X tg e (iKeys Te) (vItD te) := ⟨pi_keys he.pe, lk_itD he.lk⟩
/-! ### {} -/
def vDct0 : TEv := fun _ Q => Q (.dct .o [] [])
theorem lk_dct0 : LE tDNewK vDct0 := by
  intro B0 Z B H σ ρ Qd Q R h k p hp
  refine k _ _ _ ?_ h
  have g := Grow.new (o := HO.dK []) R.sub hp
  refine ⟨B, [p], g, ⟨p, _, [], [], rfl, upd_same, ⟨rfl, rfl⟩, ⟨rfl, rfl⟩, rfl⟩, by simp, fun a h => ?_⟩
  have e : a = p := by simpa using h
  subst e
  exact ⟨R.sub.free hp, hp⟩
theorem e_dct0 {X : Cx} {pos : Pos} : VE X (.Dict [] [] pos) tDNewK vDct0 := ⟨pe_dnewK, lk_dct0⟩
/-! ### sorted: ints; pairs of ints -/
def pairs? : List D → Option (List (Int × Int))
  | [] => some []
  | .nd .tup [.int i, .int j] :: ds => (pairs? ds).map ((i, j) :: ·)
  | _ => none
abbrev pD (p : Int × Int) : D := .tup [.int p.1, .int p.2]
theorem pairs_of : ∀ {ds : List D} {ns : List (Int × Int)}, pairs? ds = some ns → ds = ns.map pD := by
  intro ds
  induction ds with
  | nil => intro ns h; cases h; rfl
  | cons d ds ih =>
    intro ns h
    unfold pairs? at h
    split at h
    · rename_i e; cases e
    · rename_i i j ds' e
      injection e with e1 e2
      subst e1 e2
      cases q : pairs? ds with
      | none => rw [q] at h; cases h
      | some ms =>
        rw [q] at h
        cases h
        rw [ih q]; rfl
    · cases h
theorem pairs_map : ∀ ns : List (Int × Int), pairs? (ns.map pD) = some ns
  | [] => rfl
  | n :: ns => by rw [List.map_cons, pairs?, pairs_map ns]; rfl
/-- sorted by the first, then by the second -/
def leP (x y : Int × Int) : Prop := x.1 < y.1 ∨ (x.1 = y.1 ∧ x.2 ≤ y.2)
def dSorted : RNv := fun ds Q => match ds with
  | [.nd (.lst _) xs] => match ints? xs with
    | some ns => ∀ ms : List Int, ms.Perm ns → ms.Pairwise (· ≤ ·) → Q (.lst .o (ms.map .int))
    | none => False
  | _ => False
def dSortedP : RNv := fun ds Q => match ds with
  | [.nd (.lst _) xs] => match pairs? xs with
    | some ns => ∀ ms : List (Int × Int), ms.Perm ns → ms.Pairwise leP → Q (.lst .o (ms.map pD))
    | none => False
  | _ => False
section
variable {Z B H : Hp}
theorem int_dens : ∀ (ns : List Int), Dens Z B H (ns.map D.int) (ns.map V.int) []
  | [] => ⟨rfl, rfl⟩
  | n :: ns => ⟨_, _, [], [], rfl, ⟨rfl, rfl⟩, int_dens ns, rfl⟩
end
theorem lr_sorted : LRn (rSortedI KK.K) dSorted := by
  intro B0 Z B H σ ρ ds vs F Qd Q R q h k
  unfold dSorted at h
  split at h
  · split at h
    · rename_i f xs ns e
      obtain ⟨v, e1, x⟩ := dens_one q
      obtain ⟨a, ws, G, e2, t, y, _⟩ := den_lst R.sub x
      subst e2
      rw [ints_of e] at y
      rw [dens_ints y] at t
      refine ⟨a, ns, e1, t, fun ns' p pm pw hp => k _ _ _ (out_lst ?_ hp) (h ns' pm pw)⟩
      exact ⟨B, [], Grow.refl R.sub, int_dens ns', List.nodup_nil, fun a h => nomatch h⟩
    · exact h.elim
  · exact h.elim
theorem dens_pairs {Z B H : Hp} (s : Same B H) : ∀ {ns : List (Int × Int)} {vs : List V} {F : List Addr}, Dens Z B H (ns.map pD) vs F → ∃ k : V → Int × Int, ∀ x, x ∈ vs → ∃ t, x = V.ref t ∧ H t = some (.tup [.int (k x).1, .int (k x).2]) := by
  intro ns vs F q
  let k : V → Int × Int := fun x => match x with
    | .ref t => match H t with
      | some (.tup [.int i, .int j]) => (i, j)
      | _ => (0, 0)
    | _ => (0, 0)
  refine ⟨k, ?_⟩
  induction ns generalizing vs F with
  | nil => intro x hx; rw [q.1] at hx; cases hx
  | cons n ns ih =>
    obtain ⟨v, ws, G1, G2, e, x, q, f⟩ := q
    subst e
    intro y hy
    rcases List.mem_cons.mp hy with rfl | hy
    · obtain ⟨a, us, e2, t, tb, yy⟩ := den_tup s x
      subst e2
      have eu := dens_int2 yy
      subst eu
      exact ⟨a, rfl, by show H a = some (.tup [.int (k (.ref a)).1, .int (k (.ref a)).2]); have : k (.ref a) = (n.1, n.2) := by
                          show (match H a with | some (.tup [.int i, .int j]) => (i, j) | _ => (0, 0)) = _
                          rw [t]
                        rw [this]; exact t⟩
    · exact ih q y hy
/-- a list of items in any order: each item's own datum -/
theorem dens_perm_map {Z B H : Hp} {α : Type} {emb : α → D} (co : ∀ a, (emb a).all coF = true) {f : V → α} : ∀ {ws : List V} , (∀ w, w ∈ ws → Den Z B H (emb (f w)) w []) → Dens Z B H ((ws.map f).map emb) ws []
  | [], _ => ⟨rfl, rfl⟩
  | w :: ws, h => ⟨w, ws, [], [], rfl, h w List.mem_cons_self, dens_perm_map co fun v hv => h v (List.mem_cons_of_mem _ hv), rfl⟩
theorem lr_sortedP : LRn (rSortedPO KK.K) dSortedP := by
  intro B0 Z B H σ ρ ds vs F Qd Q R q h k
  unfold dSortedP at h
  split at h
  · split at h
    · rename_i f xs ns e
      obtain ⟨v, e1, x⟩ := dens_one q
      obtain ⟨a, ws, G, e2, t, y, _⟩ := den_lst R.sub x
      subst e2
      rw [pairs_of e] at y
      obtain ⟨kf, hk⟩ := dens_pairs R.sub y
      refine ⟨a, ws, kf, e1, t, hk, fun ys p hs hb hp => ?_⟩
      -- each item of ws with its datum
      have key : ∀ {ms : List (Int × Int)} {us : List V} {G : List Addr}, Dens Z B H (ms.map pD) us G → (∀ x, x ∈ us → ∃ t, x = V.ref t ∧ H t = some (.tup [.int (kf x).1, .int (kf x).2])) → us.map kf = ms ∧ ∀ w, w ∈ us → Den Z B H (pD (kf w)) w [] := by
        intro ms
        induction ms with
        | nil => intro us G d _; rw [d.1]; exact ⟨rfl, fun w h => nomatch h⟩
        | cons m ms ih =>
          intro us G d hk
          obtain ⟨v, us', G1, G2, e, x, d, f⟩ := d
          subst e
          obtain ⟨i1, i2⟩ := ih d fun x hx => hk x (List.mem_cons_of_mem _ hx)
          have nf := Den.nofp (pD m) v G1 rfl x
          subst nf
          have em : kf v = m := by
            obtain ⟨t, e, ht⟩ := hk v List.mem_cons_self
            obtain ⟨a, zs, e2, t2, tb, yy⟩ := den_tup R.sub x
            have ez := dens_int2 yy
            subst ez
            rw [e2] at e
            cases e
            rw [t2] at ht
            have h3 := Option.some.inj ht
            injection h3 with h3
            injection h3 with h4 h5
            injection h5 with h5 h6
            injection h4 with h4
            injection h5 with h5
            exact Prod.ext h4.symm h5.symm
          refine ⟨by rw [List.map_cons, i1, em], fun w hw => ?_⟩
          rcases List.mem_cons.mp hw with rfl | hw
          · rw [em]; exact x
          · exact i2 w hw
      obtain ⟨k1, k2⟩ := key y hk
      have pm : ys.Perm ws := hb.perm
      refine k _ _ _ (out_lst (ds := (ys.map kf).map pD) ?_ hp) (h (ys.map kf) ?_ ?_)
      · exact ⟨B, [], Grow.refl R.sub, dens_perm_map (fun _ => rfl) fun w hw => k2 w (pm.mem_iff.mp hw), List.nodup_nil, fun a h => nomatch h⟩
      · rw [← k1]; exact pm.map kf
      · rw [List.pairwise_map]
        refine List.Pairwise.imp ?_ hs
        intro x y hxy
        have := SrtO.lexB_no.mp hxy
        unfold leP
        omega
    · exact h.elim
  · exact h.elim
section
variable {X : Cx} {p pos : Pos} {e : Expr} {es : List Expr} {T : TA} {t : TAv}
theorem e_sorted (hm : X.mg "sorted" = none) (ha : VA X (e :: es) T t) (hg : Gl X "sorted" := by rfl)
    (he : starEach (e :: es) X.env = (false, eval e X.env) :: starEach es X.env := by rfl) (hpl : (backTo pos (starEach es X.env)).any (·.1) = false := by rfl) (hK : X.K = KK.K := by rfl) : VE X (.Call (.Name "sorted" p) (e :: es) [] pos) (tCB (rSortedI KK.K) T) (vB dSorted t) := by
  rw [← hK]
  exact e_callB cr_sortedI (by rw [hK]; exact lr_sorted) hg hm (by decide +kernel) ha (by decide) (by decide) he hpl
theorem e_sortedP (hm : X.mg "sorted" = none) (ha : VA X (e :: es) T t) (hg : Gl X "sorted" := by rfl)
    (he : starEach (e :: es) X.env = (false, eval e X.env) :: starEach es X.env := by rfl) (hpl : (backTo pos (starEach es X.env)).any (·.1) = false := by rfl) (hK : X.K = KK.K := by rfl) : VE X (.Call (.Name "sorted" p) (e :: es) [] pos) (tCB (rSortedPO KK.K) T) (vB dSortedP t) := by
  rw [← hK]
  exact e_callB cr_sortedPO (by rw [hK]; exact lr_sortedP) hg hm (by decide +kernel) ha (by decide) (by decide) he hpl
end
/-! ### x = [.. for .. in an own dict] -/
theorem lk_asgK {i : Nat} {T : TE} {t : TEv} (l : LE (tLockE T) t) : LS (tLock (tAsg T (gName i))) (vAsg i t) := by
  intro B0 Z B H σ ρ Dv De R h S
  have := l B0 Z B H σ ρ _ (fun v H' => De.nx (σ.set i (some v)) H') R h fun d v H1 o q => by
    obtain ⟨B1, g, R1⟩ := R.set (i := i) o q.1
    exact S.nx _ _ _ _ R1 q.2
  exact this
theorem lk_asgLK {i : Nat} {T : TE} {t : TEv} (l : LE (tLockE T) t) : LS (tLock (tAsg T (gName i))) (vAsgL i t) := by
  intro B0 Z B H σ ρ Dv De R h S
  have := lk_asgL (i := i) l B0 Z B H σ ρ Dv De R h S
  exact this
section
variable {X : Cx} {elt tg iter e : Expr} {ifs : List Expr} {scope : Scope} {own : List (Str × Nat)} {pos py spos : Pos} {wi : TI} {ti : TIv} {g : TG} {gv : TGv} {vg : List Nat} {Tt : TT} {tt : TTv} {Te : TE} {te : TEv} {y x : Str}
theorem s_lcDL (dd i : Nat) (hc : X.calm = true) (hN : X.N.Nodup) (hi : VI X tg iter wi ti) (ok : BlkOk X.N X.env.scope scope own)
    (hg : ∀ (s : Shared) (H : Hp) (C : Addr) (cl : List (Str × Addr)) (fp : List Addr), VG (X.blk s H scope (compEnvC scope cl C X.env) fp) tg g gv vg) (hv : ∀ i ∈ vg, i ∈ own.map (·.2))
    (ht : ∀ (s : Shared) (H : Hp) (C : Addr) (cl : List (Str × Addr)) (fp : List Addr), VTs (X.blk s H scope (compEnvC scope cl C X.env) fp) ifs Tt tt)
    (he : ∀ (s : Shared) (H : Hp) (C : Addr) (cl : List (Str × Addr)) (fp : List Addr), VE (X.blk s H scope (compEnvC scope cl C X.env) fp) elt Te te)
    (hy : X.N[i]? = some y := by rfl) (hyl : X.env.scope.names.lookup y = some .local := by rfl)
    (hsw : swapsWith (.ListComp elt [⟨tg, iter, ifs, 0⟩] scope pos) (some (.Name y py)) spos.line X.env = pure true := by exact sw_true rfl rfl rfl (by decide +kernel)) (hs : ∀ x, foldedSetIterable iter X.env x = pure x := by intro _; rfl) :
    VS X (.Assign [.Name y py] (.ListComp elt [⟨tg, iter, ifs, 0⟩] scope pos) spos) (tLock (tAsg (tLc wi g Tt Te (own.map (·.2))) (gName i))) (vAsgL i (vLock dd (vLc ti gv tt te (own.map (·.2))))) :=
  ⟨ps_lock (ps_setLc hc hN hy hyl hsw hi.pi ok (fun s H C cl fp => (hg s H C cl fp).pg) (fun s H C cl fp => (ht s H C cl fp).pt) (fun s H C cl fp => (he s H C cl fp).pe) hs), lk_asgLK (lk_lock (lk_lc hi.lk (hg X.s_0 X.H_0 0 [] []).lk hv (ht X.s_0 X.H_0 0 [] []).lk (he X.s_0 X.H_0 0 [] []).lk))⟩
theorem s_lcD (dd i : Nat) (hc : X.calm = true) (hN : X.N.Nodup) (hi : VI X tg iter wi ti) (ok : BlkOk X.N X.env.scope scope own)
    (hg : ∀ (s : Shared) (H : Hp) (C : Addr) (cl : List (Str × Addr)) (fp : List Addr), VG (X.blk s H scope (compEnvC scope cl C X.env) fp) tg g gv vg) (hv : ∀ i ∈ vg, i ∈ own.map (·.2))
    (ht : ∀ (s : Shared) (H : Hp) (C : Addr) (cl : List (Str × Addr)) (fp : List Addr), VTs (X.blk s H scope (compEnvC scope cl C X.env) fp) ifs Tt tt)
    (he : ∀ (s : Shared) (H : Hp) (C : Addr) (cl : List (Str × Addr)) (fp : List Addr), VE (X.blk s H scope (compEnvC scope cl C X.env) fp) elt Te te)
    (hy : X.N[i]? = some y := by rfl) (hyl : X.env.scope.names.lookup y = some .local := by rfl)
    (hsw : swapsWith (.ListComp elt [⟨tg, iter, ifs, 0⟩] scope pos) (some (.Name y py)) spos.line X.env = pure true := by exact sw_true rfl rfl rfl (by decide +kernel)) (hs : ∀ x, foldedSetIterable iter X.env x = pure x := by intro _; rfl) :
    VS X (.Assign [.Name y py] (.ListComp elt [⟨tg, iter, ifs, 0⟩] scope pos) spos) (tLock (tAsg (tLc wi g Tt Te (own.map (·.2))) (gName i))) (vAsg i (vLock dd (vLc ti gv tt te (own.map (·.2))))) :=
  ⟨ps_lock (ps_setLc hc hN hy hyl hsw hi.pi ok (fun s H C cl fp => (hg s H C cl fp).pg) (fun s H C cl fp => (ht s H C cl fp).pt) (fun s H C cl fp => (he s H C cl fp).pe) hs), lk_asgK (lk_lock (lk_lc hi.lk (hg X.s_0 X.H_0 0 [] []).lk hv (ht X.s_0 X.H_0 0 [] []).lk (he X.s_0 X.H_0 0 [] []).lk))⟩
end
section
variable {X : Cx} {d i : Expr} {pos : Pos} {Td Ti : TE} {td ti : TEv} {n : Nat}
theorem t_din (hr : Room n X.A) (hi : VE X i Ti ti) (hd : VE X d Td td) (h1 : behindInMarks .In d = false := by rfl) : VT X (.Compare i [.In] [d] pos) (tB (tDIn Ti Td)) (vTest (vDIn false ti td)) := ⟨pt_cmp (pc_din (by have := hr.un; omega) hi.pe hd.pe) h1, lk_val (lk_din hi.lk hd.lk)⟩
theorem t_dnin (hr : Room n X.A) (hi : VE X i Ti ti) (hd : VE X d Td td) (h1 : behindInMarks .NotIn d = false := by rfl) : VT X (.Compare i [.NotIn] [d] pos) (tB (tDNotIn Ti Td)) (vTest (vDIn true ti td)) := ⟨pt_cmp (pc_dnotin (by have := hr.un; omega) hi.pe hd.pe) h1, lk_val (lk_dnin hi.lk hd.lk)⟩
end
end VL

/-! ## VLQ -/
/-! VL: x[k].append(e), x an own list of own lists. -/
namespace VL
open PySem PySem.Spec L2
open PyProof.Rows hiding St
variable [KK : KLs] [XX : XW]
theorem Dens.poke {Z B H : Hp} : ∀ {xs : List D} {vs : List V} {G : List Addr} {j : Nat} {ys : List D}, Dens Z B H xs vs G → G.Nodup → D.alls nbF xs = true → xs[j]? = some (.lst .o ys) → D.alls coF ys = true →
    ∃ aj us, vs[j]? = some (.ref aj) ∧ aj ∈ G ∧ H aj = some (.lst us) ∧ Dens Z B H ys us [] ∧
      ∀ (B' H' : Hp) (ds' : List D) (us' : List V), Same B B' → (∀ b, b ≠ aj → b ∈ G → H' b = H b) → H' aj = some (.lst us') → Dens Z B' H' ds' us' [] → Dens Z B' H' (xs.set j (.lst .o ds')) vs G
  | [], _, _, j, _, _, _, _, e, _ => by simp at e
  | d0 :: ds, _, _, 0, ys, ⟨v, ws, G1, G2, ev, x, q, f⟩, n, nb, e, co => by
    subst ev f
    simp at e
    subst e
    obtain ⟨a, o, us, G', ea, xa, c, y, f'⟩ := x
    subst ea
    have c : o = .lst us := c
    subst c
    have xa : H a = some (.lst us) := xa
    have eG := Dens.nofp ys us G' co y
    subst eG
    have f' : G1 = [a] := f'
    subst f'
    have nb' : D.alls nbF ds = true := by
      have : nbF (Hd.lst Fl.o).fl && D.alls nbF ys && D.alls nbF ds = true := by simpa [D.alls, D.all] using nb
      simp at this; exact this.2
    refine ⟨a, us, rfl, by simp, xa, y, fun B' H' ds' us' sb k h' y' => ?_⟩
    have an : a ∉ G2 := fun m => by
      have := (List.nodup_append.mp n).2.2 a (by simp) a m
      exact this rfl
    have q2 : Dens Z B' H' ds ws G2 := Dens.keep _ _ _ nb' (fun b hb => k b (fun z => an (z ▸ hb)) (List.mem_append_right _ hb)) (Dens.grow sb (Same.refl _) _ _ _ q)
    exact ⟨.ref a, ws, [a], G2, rfl, ⟨a, _, us', [], rfl, h', rfl, y', rfl⟩, q2, rfl⟩
  | d0 :: ds, _, _, j + 1, ys, ⟨v, ws, G1, G2, ev, x, q, f⟩, n, nb, e, co => by
    subst ev f
    have nb2 : d0.all nbF = true ∧ D.alls nbF ds = true := by simpa [D.alls] using nb
    have n2 := List.nodup_append.mp n
    obtain ⟨aj, us, h1, h2, h3, h4, h5⟩ := Dens.poke (j := j) q n2.2.1 nb2.2 (by simpa using e) co
    refine ⟨aj, us, by simpa using h1, List.mem_append_right _ h2, h3, h4, fun B' H' ds' us' sb k h' y' => ?_⟩
    have an : aj ∉ G1 := fun m => n2.2.2 aj m aj h2 rfl
    refine ⟨v, ws, G1, G2, rfl, Den.keep _ _ _ nb2.1 (fun b hb => k b (fun z => an (z ▸ hb)) (List.mem_append_left _ hb)) (x.grow sb (Same.refl _)), ?_, rfl⟩
    exact h5 B' H' ds' us' sb (fun b hb m => k b hb (List.mem_append_right _ m)) h' y'
/-- x[k].append(e) -/
def vAppIx (i : Nat) (tk te : TEv) : TSv := fun W ρ => match ρ[i]? with
  | some (some (.nd (.lst .o) xs)) => tk ρ fun y => match y with
    | .int k => ∃ j ys, ixN xs.length k = some j ∧ xs[j]? = some (.lst .o ys) ∧ D.alls coF ys = true ∧ te ρ fun d => d.all coF = true ∧ ys.length < 1000000 ∧ W.nx (ρ.set i (some (.lst .o (xs.set j (.lst .o (ys ++ [d]))))))
    | _ => False
  | _ => False
theorem lk_appIx {i : Nat} {Tk Te : TE} {tk te : TEv} (lk : LE Tk tk) (l : LE Te te) : LS (tDrop (tBM KK.K "list" rAppend (tOp (rIx KK.K) (tVar i) Tk) (tCons Te tNil))) (vAppIx i tk te) := by
  intro B0 Z B H σ ρ Dv De R h S
  unfold vAppIx at h
  split at h
  · rename_i xs e
    obtain ⟨w, e1, _⟩ := R.get e
    obtain ⟨a0, o0, vs0, G0, h1, hx0, c0, y0, nb0, ng0, aG0, fG0, _⟩ := R.write (h := .lst .o) e (.inl rfl)
    have c0 : o0 = .lst vs0 := c0
    subst c0
    refine ⟨_, h1, ?_⟩
    refine lk B0 Z B H σ ρ _ _ R h fun ky kv H1 ⟨B1, F1, g1, x1, _, _⟩ h => ?_
    split at h
    · rename_i k _
      obtain ⟨j, ys, hj, hxj, co, h⟩ := h
      have R1 := R.grow g1
      have hjl := ixN_lt hj
      obtain ⟨F, q, n, z⟩ := R1.ex
      obtain ⟨v, G, Rr, p1, p2, p3, p4, p5, p6, p7, p8⟩ := q.part n e
      obtain ⟨a, o, vs, G', ev, xa, c, y, f⟩ := p3
      have c : o = .lst vs := c
      subst c
      have xa : H1 a = some (.lst vs) := xa
      have f : G = a :: G' := f
      subst f ev
      have ng := List.nodup_cons.mp p4
      have nb : D.alls nbF xs = true := by
        have : nbF (Hd.lst Fl.o).fl && D.alls nbF xs = true := by simpa [D.all] using p2
        simp at this; exact this.2
      obtain ⟨aj, us, k1, k2, k3, k4, k5⟩ := y.poke ng.2 nb hxj co
      have ea : a0 = a := by
        rw [h1] at p1
        have := Option.some.inj (Option.some.inj p1)
        exact V.ref.inj this
      subst ea
      refine .inl ⟨a0, vs, k, .ref aj, rfl, x1.1, .inl (.inl xa), ?_, .inl ⟨rfl, _, .inl (.inl k3)⟩, ?_⟩
      · unfold atI
        rw [← y.len, hj]; exact k1
      · refine l B0 Z B1 H1 σ ρ _ _ R1 h fun d dv H2 ⟨B2, F2, g2, x2, nF2, fF2⟩ ⟨cod, hl, hq⟩ => ?_
        have ef := Den.nofp d dv F2 cod x2
        subst ef
        refine ⟨aj, us, dv, rfl, rfl, g2.sh _ _ k3, by rw [← k4.len]; exact million (Nat.le_of_lt hl), ?_⟩
        have aja : aj ≠ a0 := fun z => ng.1 (z ▸ k2)
        have zj := z aj (p6 aj (.inl (List.mem_cons_of_mem _ k2)))
        have za := z a0 (p6 a0 (.inl List.mem_cons_self))
        have bj : B2 aj = none := g2.old aj _ k3 (fun _ z => nomatch z) zj.1
        have kH : ∀ b, b ≠ aj → upd H2 aj (.lst (us ++ [dv])) b = H2 b := fun b hb => upd_ne hb
        have den' : Dens Z B2 (upd H2 aj (.lst (us ++ [dv]))) (ys ++ [d]) (us ++ [dv]) [] :=
          Dens.app (F := []) (G := []) (Dens.fixed g2.sb _ _ _ co k4) (Dens.one (Den.fixed (Same.refl _) d dv [] cod x2))
        have new := k5 B2 (upd H2 aj (.lst (us ++ [dv]))) (ys ++ [d]) (us ++ [dv]) g2.sb (fun b hb m => by
          rw [kH b hb]
          obtain ⟨ob, eo, nt⟩ := Dens.liveN _ _ _ y b m
          rw [eo]; exact g2.sh _ _ eo) upd_same den'
        have nbn : D.nb (.lst .o (xs.set j (.lst .o (ys ++ [d])))) = true := by
          have c1 := D.alls_imp (p := coF) (q := nbF) (fun f e => by cases f <;> first | rfl | exact nomatch e) ys co
          have c2 := D.all_imp (p := coF) (q := nbF) (fun f e => by cases f <;> first | rfl | exact nomatch e) d cod
          have c3 : D.all nbF (.lst .o (ys ++ [d])) = true := by
            show (nbF .o && D.alls nbF (ys ++ [d])) = true
            rw [alls_app, c1]; simp [D.alls, c2]; rfl
          show (nbF .o && D.alls nbF (xs.set j (.lst .o (ys ++ [d])))) = true
          rw [alls_set j nb c3]; rfl
        have live : ∀ b ∈ Rr, ∃ ob, H1 b = some ob ∧ NT ob := p8.liveN
        have rest : Slots Z B2 (upd H2 aj (.lst (us ++ [dv]))) (ρ.set i none) σ Rr := (p8.grow g2.sb g2.sh).keep fun b hb => kH b fun q => p5 aj (List.mem_cons_of_mem _ k2) (q ▸ hb)
        have den : Den Z B2 (upd H2 aj (.lst (us ++ [dv]))) (.lst .o (xs.set j (.lst .o (ys ++ [d])))) (.ref a0) (a0 :: G') :=
          ⟨a0, _, vs, G', rfl, by show upd H2 aj (.lst (us ++ [dv])) a0 = _; rw [kH a0 (Ne.symm aja)]; exact g2.sh _ _ xa, rfl, new, rfl⟩
        obtain ⟨F', w1, w2, w3⟩ := rest.fill (length_of_get e) p1 p7 nbn den p4 (fun b hb m => p5 b hb m)
        have gr1 := R1.gr.trans g2
        refine S.nx _ _ _ _ (show Rep B0 Z B2 (upd H2 aj (.lst (us ++ [dv]))) σ _ from ⟨R.xl, ⟨gr1.sb, fun b ob eb => ?_, fun b ob eb => ?_, gr1.old⟩, F', w1, w2, fun b hb => ?_⟩) hq
        · rw [kH b fun q => by rw [q, zj.2] at eb; cases eb]; exact gr1.sh _ _ eb
        · rw [kH b fun q => by rw [q, bj] at eb; cases eb]; exact gr1.sub _ _ eb
        · rcases w3 b hb with m | m
          · obtain ⟨ob, eo, nt⟩ := live b m
            exact ⟨g2.old b ob eo nt (z b (p6 b (.inr m))).1, (z b (p6 b (.inr m))).2⟩
          · have zz := z b (p6 b (.inl m))
            obtain ⟨ob, eo, nt⟩ : ∃ ob, H1 b = some ob ∧ NT ob := by
              rcases List.mem_cons.mp m with q | q
              · exact ⟨_, by rw [q]; exact xa, Cont.nt (h := .lst .o) (vs := vs) rfl (.inl rfl)⟩
              · exact Dens.liveN _ _ _ y b q
            exact ⟨g2.old b ob eo nt zz.1, zz.2⟩
    · exact h.elim
  · exact h.elim
section
variable {X : Cx} {e k : Expr} {pos p0 p1 p2 p3 p4 p5 : Pos} {Te Tk : TE} {te tk : TEv} {x : Str}
theorem s_appIx (i : Nat) (hk : VE X k Tk tk) (he : VE X e Te te) (hN : X.N[i]? = some x := by rfl) (hv : Vis X.env.scope x := by first | exact Or.inl rfl | exact Or.inr (Or.inl rfl) | exact Or.inr (Or.inr rfl)) (hd : (x == ("__debug__" : Str)) = false := by decide) (hcd : (x == ("__classdict__" : Str)) = false := by decide)
    (hsub : PlainIx k := by exact fun _ _ => rfl)
    (hbase : attributeBase (.Subscript (.Name x p1) k p0) "append" X.env (eval (.Subscript (.Name x p1) k p0) X.env) = eval (.Subscript (.Name x p1) k p0) X.env := by rfl)
    (hfew : ((backTo p3 (starEach [e] X.env)).all (fun x => !x.1) && (backToKw p3 (keywordEach [] X.env)).all (fun x => x.1.isSome)
      && decide (([e] : List Expr).length + ([] : List Keyword).length + (if ([] : List Keyword).isEmpty then 0 else 1) < 30)) = true := by rfl)
    (hline : (p2.endLine == p3.line) = true := by rfl) (hs : starEach [e] X.env = (false, eval e X.env) :: starEach [] X.env := by rfl) (hplain : (backTo p3 (starEach [] X.env)).any (·.1) = false := by rfl)
    (hsw : swapsWith (.Call (.Attribute (.Subscript (.Name x p1) k p0) "append" p2) [e] [] p3) none p4.line X.env = pure false := by rfl) (hK : X.K = KK.K := by rfl) :
    VS X (.Expr (.Call (.Attribute (.Subscript (.Name x p1) k p0) "append" p2) [e] [] p3) p4) (tDrop (tBM KK.K "list" rAppend (tOp (rIx KK.K) (tVar i) Tk) (tCons Te tNil))) (vAppIx i tk te) := by
  rw [← hK]
  exact ⟨ps_expr (pe_bm PySem.F.plainAttrs_list PySem.F.slot_list_append PySem.F.type_list_append mt_append (pe_ix ix_seq (pe_var hN hv hd hcd) hk.pe hsub) (pa_cons he.pe pa_nil hs) hbase hfew hline hs hplain) hsw, by rw [hK]; exact lk_appIx hk.lk he.lk⟩
end
/-! ### < of tuples of ints -/
def dLtT : RDv := fun x y Q => match x, y with
  | .nd .tup xs, .nd .tup ys => match ints? xs, ints? ys with
    | some ns, some ms => Q (.bl (HT.lexLt ns ms))
    | _, _ => False
  | _, _ => False
theorem lr_ltT : LR2 (rLtT KK.K) dLtT := by
  intro B0 Z B H σ ρ x y vx vy F G Qd Q R dx dy h k
  unfold dLtT at h
  split at h
  · split at h
    · rename_i xs ys ns ms e1 e2
      obtain ⟨a, us, ea, t1, b1, y1⟩ := den_tup R.sub dx
      obtain ⟨b, ws, eb, t2, b2, y2⟩ := den_tup R.sub dy
      rw [ints_of e1] at y1
      rw [ints_of e2] at y2
      rw [dens_ints y1] at t1
      rw [dens_ints y2] at t2
      exact ⟨a, b, ns, ms, ea, eb, SqT.of t1, SqT.of t2, k _ _ _ (Out.of R.sub den_bl) h⟩
    · exact h.elim
  · exact h.elim
section
variable {X : Cx} {a b : Expr} {pos : Pos} {Ta Tb : TE} {ta tb : TEv} {n : Nat}
theorem e_ltT (hr : Room n X.A) (ha : VE X a Ta ta) (hb : VE X b Tb tb) (hK : X.K = KK.K := by rfl) : VE X (.Compare a [.Lt] [b] pos) (tOp (rLtT KK.K) Ta Tb) (vOp dLtT ta tb) := by
  rw [← hK]
  exact ⟨pe_cmpR (op_ltT (by have := hr.units; omega)) ha.pe hb.pe (nomark _), by rw [hK]; exact lk_op lr_ltT ha.lk hb.lk⟩
theorem t_ltT (hr : Room n X.A) (ha : VE X a Ta ta) (hb : VE X b Tb tb) (hK : X.K = KK.K := by rfl) : VT X (.Compare a [.Lt] [b] pos) (tTest (tOp (rLtT KK.K) Ta Tb)) (vTest (vOp dLtT ta tb)) := by
  rw [← hK]
  exact t_cmp (op_ltT (by have := hr.units; omega)) (by rw [hK]; exact lr_ltT) ha hb (nomark _)
end
theorem n_ltT3 {a b c d e f : Int} {Q : D → Prop} : dLtT (.nd .tup [.int a, .int b, .int c]) (.nd .tup [.int d, .int e, .int f]) Q = Q (.bl (HT.lexLt [a, b, c] [d, e, f])) := rfl
/-! ### x.clear() -/
def vClear (i : Nat) : TSv := fun W ρ => match ρ[i]? with
  | some (some (.nd (.lst .o) _)) => W.nx (ρ.set i (some (.lst .o [])))
  | _ => False
theorem lk_clear {i : Nat} : LS (tDrop (tBM0 KK.K "list" rClear (tVar i))) (vClear i) := by
  intro B0 Z B H σ ρ Dv De R h S
  unfold vClear at h
  split at h
  · rename_i xs e
    obtain ⟨a, o0, vs, G, h1, hx, c, y, nb, ng, aG, fG, W⟩ := R.write (h := .lst .o) e (.inl rfl)
    have c : o0 = .lst vs := c
    subst c
    refine ⟨_, h1, .inl ⟨rfl, _, .inl (.inl hx)⟩, a, vs, rfl, rfl, hx, ?_⟩
    exact S.nx _ _ _ _ (W (.lst .o) [] (.lst []) B H [] [] rfl (Grow.refl R.sub) rfl ⟨rfl, rfl⟩ List.nodup_nil rfl (fun b hb => nomatch hb)) h
  · exact h.elim
section
variable {X : Cx} {p1 p2 p3 p4 : Pos} {x : Str}
theorem s_clear (i : Nat) (hN : X.N[i]? = some x := by rfl) (hv : Vis X.env.scope x := by first | exact Or.inl rfl | exact Or.inr (Or.inl rfl) | exact Or.inr (Or.inr rfl)) (hd : (x == ("__debug__" : Str)) = false := by decide) (hcd : (x == ("__classdict__" : Str)) = false := by decide)
    (hbase : attributeBase (.Name x p1) "clear" X.env (eval (.Name x p1) X.env) = eval (.Name x p1) X.env := by rfl)
    (hline : (p2.endLine == p3.line) = true := by rfl)
    (hsw : swapsWith (.Call (.Attribute (.Name x p1) "clear" p2) [] [] p3) none p4.line X.env = pure false := by rfl) (hK : X.K = KK.K := by rfl) :
    VS X (.Expr (.Call (.Attribute (.Name x p1) "clear" p2) [] [] p3) p4) (tDrop (tBM0 KK.K "list" rClear (tVar i))) (vClear i) := by
  rw [← hK]
  exact ⟨ps_expr (pe_bm0 PySem.F.plainAttrs_list PySem.F.slot_list_clear PySem.F.type_list_clear mt_clear (pe_var hN hv hd hcd) hbase hline) hsw, by rw [hK]; exact lk_clear⟩
end
/-- no promise: below the deepest call -/
def noP : PV := fun _ _ _ => False
theorem fn_no {P : Program} {w : World} {mg : Str → Option Value} {base : Heap} {f : Addr} {fd : FuncData} {ps : List Str} {n k : Nat} : FnOk P w KK.K mg base (L2N.CX P w) k f fd ps (spV n noP) :=
  ⟨fun vs H Q E h => by obtain ⟨_, _, _, _, _, _, _, _, h, _⟩ := h; exact h.elim, fun A outer s H args us vs Q E _ _ _ _ h => by obtain ⟨_, _, _, _, _, _, _, _, h, _⟩ := h; exact h.elim⟩
/-! ### a frozen list of fixed things goes out of its frame as an own one -/
section
variable {Z B H : Hp} {a : Addr} {vs0 : List V}
mutual
theorem Den.thaw (hH : H a = some (.lst vs0)) (sb : Same B H) : ∀ (d : D) (v : V) (F : List Addr), d.all puF = true → Den Z B H d v F → Den Z (cutB B a) H d v F
  | .non, _, _, _, h => h
  | .bl _, _, _, _, h => h
  | .int _, _, _, _, h => h
  | .str _, _, _, _, h => h
  | .cst _, _, _, _, h => h
  | .nd h ds, _, _, n, ⟨b, o', vs, G, e, x, c, q, f⟩ => by
    have n' : puF h.fl = true ∧ D.alls puF ds = true := by simpa [D.all] using n
    refine ⟨b, o', vs, G, e, ?_, c, Dens.thaw hH sb ds vs G n'.2 q, f⟩
    have key : h.fl = .i → B b = some o' → b ≠ a := fun hi hb e2 => by
      subst e2
      have := sb _ _ hb
      rw [hH] at this
      have eo := Option.some.inj this
      subst eo
      cases h with
      | tup => cases c
      | lst f2 => cases f2 <;> exact nomatch (show _ = Fl.i from hi)
      | dct f2 ks => cases f2 <;> exact nomatch (show _ = Fl.i from hi)
      | dtt f2 ks => cases f2 <;> exact nomatch (show _ = Fl.i from hi)
      | obj C ns => obtain ⟨_, dx, e⟩ := c; cases e
      | slf f C ns => obtain ⟨_, dx, e⟩ := c; cases e
      | lsk f2 => cases f2 <;> exact nomatch (show _ = Fl.i from hi)
    revert x key n'
    cases h.fl <;> intro x n' key
    all_goals first | exact (cutB_ne (key rfl x)).trans x | exact nomatch n'.1
theorem Dens.thaw (hH : H a = some (.lst vs0)) (sb : Same B H) : ∀ (ds : List D) (vs : List V) (F : List Addr), D.alls puF ds = true → Dens Z B H ds vs F → Dens Z (cutB B a) H ds vs F
  | [], _, _, _, h => h
  | d :: ds, _, _, n, ⟨v, ws, G1, G2, e, x, q, f⟩ => by
    have n' : d.all puF = true ∧ D.alls puF ds = true := by simpa [D.alls] using n
    exact ⟨v, ws, G1, G2, e, Den.thaw hH sb d v G1 n'.1 x, Dens.thaw hH sb ds ws G2 n'.2 q, f⟩
end
end
theorem Out.thaw {Z B H' : Hp} {xs : List D} {v : V} (sB : Same B Z) (o : Out Z B Z (.lst .l xs) v H') (p : D.alls puF xs = true) : Out Z B Z (.lst .o xs) v H' := by
  obtain ⟨B', F, g, ⟨a, o, vs, G', ev, x, c, y, f⟩, n, fr⟩ := o
  have c : o = .lst vs := c
  subst c
  have x : B' a = some (.lst vs) ∧ Z a = none := x
  have co : D.alls coF xs = true := D.alls_imp (p := puF) (q := coF) (fun f e => by cases f <;> first | rfl | exact nomatch e) xs p
  have eG := Dens.nofp xs vs G' co y
  subst eG
  have hH : H' a = some (.lst vs) := g.sub _ _ x.1
  refine ⟨cutB B' a, [a], ⟨fun b o' eb => ?_, g.sh, fun b o' eb => ?_, fun b o' eb nt nb => ?_⟩, ⟨a, _, vs, [], ev, hH, rfl, Dens.thaw hH g.sub xs vs [] p y, rfl⟩, by simp, fun b m => ?_⟩
  · have hb : b ≠ a := fun hb => by
      subst hb
      have := sB _ _ eb
      rw [x.2] at this; cases this
    rw [cutB_ne hb]; exact g.sb _ _ eb
  · by_cases hb : b = a
    · subst hb; rw [cutB_same] at eb; cases eb
    · rw [cutB_ne hb] at eb; exact g.sub _ _ eb
  · by_cases hb : b = a
    · subst hb; exact cutB_same
    · rw [cutB_ne hb]; exact g.old _ _ eb nt nb
  · have : b = a := by simpa using m
    subst this
    exact ⟨cutB_same, x.2⟩
/-- a def that hands back a list that no name of it can change any more: the caller owns it -/
def thaw (Q : D → Prop) : D → Prop := fun d => match d with
  | .nd (.lst .l) xs => D.alls puF xs = true ∧ Q (.lst .o xs)
  | _ => False
section
variable {P : Program} {w : World} {mg : Str → Option Value} {base : Heap} {x qual : Str} {params : Arguments} {body : List Stmt} {scope : Scope} {dvs : List V} {kws : List (Str × V)} {f : Addr} {fd : FuncData} {N ps : List Str} {k n : Nat} {Pv : PV} {t : TSv}
omit XX in
theorem fn_vU (F : FunD KK.K x qual params body scope dvs kws f fd) (S : FnScope N ps scope) (hn : ps.length = n)
    (hb : ∀ (cdv : Value) (A : Around) (outer : List PySem.Env) (s : Shared) (H : Hp) (E : XK), Room k (A.deeper (envOfC qual scope s.heap.objs.size f cdv)) → ∃ T, VSs (XX := xw0) (cxOf (L2N.CX P w) P w KK.K mg base N qual scope f cdv A outer s H E).nox body T t)
    (hm : ∀ ds Q Ed, ds.length = n → Pv ds Q Ed → t { nx := fun _ => Q .non, rt := thaw Q } (startD N.length ds)) : FnOk P w KK.K mg base (L2N.CX P w) (k + 1) f fd ps (spV n Pv) := by
  refine F.ok S (fun vs H Q E h => ?_) fun cdv A outer s H vs Q E hr h => ?_
  · obtain ⟨B, ds, Qd, Ed, e, _, q, _⟩ := h
    rw [← q.len, e, hn]
  · obtain ⟨B, ds, Qd, Ed, e, sB, q, na, hP, hq, hx⟩ := h
    obtain ⟨T, hT⟩ := hb cdv A outer s H E hr
    refine ⟨T, hT.ps.nox, ?_⟩
    refine hT.lk B H B H (L2.start N vs) (startD N.length ds) _ _ (rep_start sB q na) (hm ds Qd Ed e hP) ⟨fun B' H' σ ρ R h => ?_, fun d v H' o ow h => ?_, fun _ _ _ _ _ h => h.elim, fun _ _ _ _ _ h => h.elim⟩
    · exact hq .non .non H' ⟨B', [], R.gr, den_non, List.nodup_nil, fun a h => nomatch h⟩ rfl h
    · have h : thaw Qd d := h
      unfold thaw at h
      split at h
      · rename_i d2 xs h0
        have h := h0
        refine hq (.lst .o xs) v H' (Out.thaw sB o h.1) ?_ h.2
        have := D.alls_imp (p := puF) (q := ow2F) (fun f e => by cases f <;> first | rfl | exact nomatch e) xs h.1
        show (ow2F .o && D.alls ow2F xs) = true
        rw [this]; rfl
      · exact h.elim
end
end VL

/-! ## VLM -/
/-! VL: lemmas for the plain part: loops and comprehensions over data. -/
namespace VL
open PySem PySem.Spec L2
open PyProof.Rows hiding St
variable [KK : KLs]
theorem maps_ints (g : Fl → Fl) : ∀ ns : List Int, D.maps g (ns.map D.int) = ns.map D.int
  | [] => rfl
  | n :: ns => by rw [List.map_cons, D.maps, maps_ints g ns]; rfl
theorem alls_ints (p : Fl → Bool) : ∀ ns : List Int, D.alls p (ns.map D.int) = true
  | [] => rfl
  | n :: ns => by rw [List.map_cons, D.alls, alls_ints p ns]; rfl
theorem if_dec {c A B : Prop} [Decidable c] (h1 : c → A) (h2 : ¬ c → B) : if decide c = true then A else B := by
  by_cases h : c
  · rw [if_pos (decide_eq_true h)]; exact h1 h
  · rw [if_neg (by rw [decide_eq_false h]; exact Bool.false_ne_true)]; exact h2 h
theorem if_bool {b : Bool} {A B : Prop} (h1 : b = true → A) (h2 : b = false → B) : if b = true then A else B := by
  cases b with
  | true => rw [if_pos rfl]; exact h1 rfl
  | false => rw [if_neg Bool.false_ne_true]; exact h2 rfl
section
variable {g : TGv} {tb : TSv} {W : Ev} {ρ : VL.Env}
/-- a for by an invariant over the turn -/
theorem forL_ix (I : Nat → VL.Env → Prop) : ∀ (items : List D) (n : Nat) (ρ : VL.Env), I n ρ →
    (∀ (i : Nat) x, items[i]? = some x → ∀ ρ, I (n + i) ρ → ∀ N : VL.Env → Prop, (∀ ρ', I (n + i + 1) ρ' → N ρ') → g x ρ fun ρ' => tb { nx := N, rt := W.rt, bk := W.nx, ct := N } ρ') →
    (∀ ρ, I (n + items.length) ρ → W.nx ρ) → forL g tb items W ρ
  | [], n, ρ, h, _, hd => hd ρ h
  | x :: xs, n, ρ, h, hs, hd => by
    refine hs 0 x rfl ρ h (forL g tb xs W) fun ρ' h' => ?_
    refine forL_ix I xs (n + 1) ρ' h' (fun i y hy ρ2 h2 N hN => ?_) (fun ρ2 h2 => hd ρ2 ?_)
    · refine hs (i + 1) y (by simpa using hy) ρ2 ?_ N fun ρ3 h3 => hN ρ3 ?_
      · have e : n + (i + 1) = n + 1 + i := by omega
        rw [e]; exact h2
      · have e : n + 1 + i + 1 = n + (i + 1) + 1 := by omega
        rw [e]; exact h3
    · have e : n + (x :: xs).length = n + 1 + xs.length := by rw [List.length_cons]; omega
      rw [e]; exact h2
theorem forL_list (I : Nat → VL.Env → Prop) {items : List D} (h0 : I 0 ρ)
    (hs : ∀ (i : Nat) x, items[i]? = some x → ∀ ρ, I i ρ → ∀ N : VL.Env → Prop, (∀ ρ', I (i + 1) ρ' → N ρ') → g x ρ fun ρ' => tb { nx := N, rt := W.rt, bk := W.nx, ct := N } ρ')
    (hd : ∀ ρ, I items.length ρ → W.nx ρ) : forL g tb items W ρ :=
  forL_ix I items 0 ρ h0 (fun i x hx ρ h N hN => hs i x hx ρ (by simpa using h) N fun ρ' h' => hN ρ' (by simpa using h')) (fun ρ h => hd ρ (by simpa using h))
theorem upTo_get {lo : Int} {n i : Nat} {x : D} (h : (upTo lo n)[i]? = some x) : i < n ∧ x = .int (lo + (i : Int)) := by
  have hl : (upTo lo n).length = n := by simp [upTo]
  have hi : i < n := by have := (List.getElem?_eq_some_iff.mp h).1; omega
  refine ⟨hi, ?_⟩
  have : (upTo lo n)[i]? = some (.int (lo + (i : Int))) := by simp [upTo, hi]
  rw [this] at h
  exact (Option.some.inj h).symm
theorem upTo_len (lo : Int) (n : Nat) : (upTo lo n).length = n := by simp [upTo]
theorem forL_range (I : Nat → VL.Env → Prop) {lo : Int} {n : Nat} (h0 : I 0 ρ)
    (hs : ∀ i : Nat, i < n → ∀ ρ, I i ρ → ∀ N : VL.Env → Prop, (∀ ρ', I (i + 1) ρ' → N ρ') → g (.int (lo + (i : Int))) ρ fun ρ' => tb { nx := N, rt := W.rt, bk := W.nx, ct := N } ρ')
    (hd : ∀ ρ, I n ρ → W.nx ρ) : forL g tb (upTo lo n) W ρ :=
  forL_list I h0 (fun i x hx ρ h N hN => by
    obtain ⟨hi, rfl⟩ := upTo_get hx
    exact hs i hi ρ h N hN) (fun ρ h => hd ρ (by rwa [upTo_len] at h))
/-- a for over any items whose turn keeps I -/
theorem forL_keep (I : VL.Env → Prop) {items : List D} (h0 : I ρ)
    (hs : ∀ x, x ∈ items → ∀ ρ, I ρ → ∀ N : VL.Env → Prop, (∀ ρ', I ρ' → N ρ') → g x ρ fun ρ' => tb { nx := N, rt := W.rt, bk := W.nx, ct := N } ρ')
    (hd : ∀ ρ, I ρ → W.nx ρ) : forL g tb items W ρ :=
  forL_list (fun _ => I) h0 (fun i x hx => hs x (List.mem_of_getElem? hx)) hd
end
section
variable {g : TGv} {tt : TTv} {te : TEv} {ρ : VL.Env}
/-- a comprehension: what it keeps of each item -/
theorem lc_fm (F : D → Option D) {Q : D → Prop} : ∀ (items acc : List D),
    (∀ x, x ∈ items → ∀ (N : D → Prop) (M : Prop), (∀ d, F x = some d → N d) → (F x = none → M) → g x ρ fun ρ2 => tt ρ2 fun k => if k = true then te ρ2 fun d => d.nb = true ∧ N d else M) →
    Q (.lst .o (acc ++ items.filterMap F)) → lcL g tt te ρ items acc Q
  | [], acc, _, h => by
    rw [List.filterMap_nil, List.append_nil] at h
    exact h
  | x :: xs, acc, hs, h => by
    refine hs x List.mem_cons_self (fun d => lcL g tt te ρ xs (acc ++ [d]) Q) (lcL g tt te ρ xs acc Q) (fun d e => ?_) (fun e => ?_)
    · refine lc_fm F xs _ (fun y hy => hs y (List.mem_cons_of_mem _ hy)) ?_
      rw [List.filterMap_cons, e] at h
      rw [List.append_assoc]
      exact h
    · refine lc_fm F xs _ (fun y hy => hs y (List.mem_cons_of_mem _ hy)) ?_
      rw [List.filterMap_cons, e] at h
      exact h
/-- without a test -/
theorem lc_map (f : D → D) {Q : D → Prop} {items : List D}
    (hs : ∀ x, x ∈ items → ∀ (N : D → Prop), N (f x) → g x ρ fun ρ2 => te ρ2 fun d => d.nb = true ∧ N d)
    (h : Q (.lst .o (items.map f))) : lcL g vYes te ρ items [] Q := by
  refine lc_fm (fun x => some (f x)) items [] (fun x hx N M h1 h2 => ?_) ?_
  · have e : (fun ρ2 => vYes ρ2 fun k => if k = true then te ρ2 fun d => d.nb = true ∧ N d else M) = fun ρ2 => te ρ2 fun d => d.nb = true ∧ N d := by
      funext ρ2
      simp [vYes]
    rw [e]
    exact hs x hx N (h1 _ rfl)
  · rw [List.nil_append, show (items.filterMap fun x => some (f x)) = items.map f from by simp]
    exact h
end
theorem atI_ok {α : Type} {xs : List α} {i : Int} (h0 : 0 ≤ i) (h1 : i < xs.length) : ∃ j : Nat, (j : Int) = i ∧ atI xs i = xs[j]? := by
  refine ⟨i.toNat, by omega, ?_⟩
  unfold atI ixN
  rw [if_pos h0, if_pos h1]
  rfl
theorem atI_ints {ns : List Int} {i : Int} (h0 : 0 ≤ i) (h1 : i < ns.length) : ∃ c, atI (ns.map D.int) i = some (.int c) := by
  obtain ⟨j, e, h⟩ := atI_ok (xs := ns.map D.int) h0 (by simpa using h1)
  have hj : j < ns.length := by omega
  exact ⟨ns[j], by rw [h, List.getElem?_map, List.getElem?_eq_getElem hj]; rfl⟩
/-! ### subscripts of written lists -/
theorem at_nat {α : Type} (xs : List α) (j : Nat) : atI xs (j : Int) = xs[j]? := by
  unfold atI ixN
  rw [if_pos (by omega)]
  by_cases h : j < xs.length
  · rw [if_pos (by omega)]; rfl
  · rw [if_neg (by omega), List.getElem?_eq_none (by omega)]; rfl
theorem at0 {α : Type} (a : α) (l : List α) : atI (a :: l) 0 = some a := at_nat _ 0
theorem at1 {α : Type} (a b : α) (l : List α) : atI (a :: b :: l) 1 = some b := at_nat _ 1
theorem at2 {α : Type} (a b c : α) (l : List α) : atI (a :: b :: c :: l) 2 = some c := at_nat _ 2
theorem at3 {α : Type} (a b c d : α) (l : List α) : atI (a :: b :: c :: d :: l) 3 = some d := at_nat _ 3
theorem at4 {α : Type} (a b c d e : α) (l : List α) : atI (a :: b :: c :: d :: e :: l) 4 = some e := at_nat _ 4
theorem at5 {α : Type} (a b c d e f : α) (l : List α) : atI (a :: b :: c :: d :: e :: f :: l) 5 = some f := at_nat _ 5
/-! ### == of ints in a list -/
theorem pys_ints : ∀ is : List Int, D.pys (is.map D.int) = is.map PyData.int
  | [] => rfl
  | i :: is => by rw [List.map_cons, D.pys, pys_ints is]; rfl
theorem plains_ints : ∀ is : List Int, D.plains (is.map D.int) = true
  | [] => rfl
  | i :: is => by rw [List.map_cons, D.plains, plains_ints is]; rfl
theorem lay_ints : ∀ is : List Int, PyData.canLayAll0 (is.map PyData.int) = true
  | [] => rfl
  | i :: is => by rw [List.map_cons, PyData.canLayAll0, lay_ints is]; rfl
theorem deep_ints : ∀ is : List Int, PyData.depthAll (is.map PyData.int) ≤ 1
  | [] => by rw [List.map_nil, PyData.depthAll]; omega
  | i :: is => by have := deep_ints is; rw [List.map_cons, PyData.depthAll, PyData.depth]; omega
theorem eqvAll_ints : ∀ is js : List Int, PyData.eqvAll (is.map PyData.int) (js.map PyData.int) = decide (is = js)
  | [], [] => rfl
  | [], j :: js => rfl
  | i :: is, [] => rfl
  | i :: is, j :: js => by
    rw [List.map_cons, List.map_cons, PyData.eqvAll, eqvAll_ints is js, PyData.eqv]
    by_cases h : i = j
    · subst h; simp
    · simp [h]
theorem okEq_lst_ints (f : Fl) (is : List Int) : D.okEq (.lst f (is.map D.int)) := ⟨by rw [D.plain, plains_ints], by
  rw [D.py, pys_ints]; · unfold SeqAt.shaped; rw [PyData.canLay0, lay_ints, PyData.depth, decide_eq_true (by have := deep_ints is; omega)]; rfl
  · intro h; cases h⟩
theorem okEq_tup_ints (is : List Int) : D.okEq (.tup (is.map D.int)) := ⟨by rw [D.plain, plains_ints], by
  rw [D.py, pys_ints]; unfold SeqAt.shaped; rw [PyData.canLay0, lay_ints, PyData.depth, decide_eq_true (by have := deep_ints is; omega)]; rfl⟩
theorem eqv_lst_ints (f g : Fl) (is js : List Int) : D.eqv (.lst f (is.map D.int)) (.lst g (js.map D.int)) = decide (is = js) := by
  unfold D.eqv; rw [D.py, D.py, pys_ints, pys_ints, PyData.eqv, eqvAll_ints] <;> (intro h; cases h)
theorem eqv_tup_ints (is js : List Int) : D.eqv (.tup (is.map D.int)) (.tup (js.map D.int)) = decide (is = js) := by
  unfold D.eqv; rw [D.py, D.py, pys_ints, pys_ints, PyData.eqv, eqvAll_ints]
theorem upTo_succ (lo : Int) (n : Nat) : upTo lo (n + 1) = upTo lo n ++ [.int (lo + n)] := by
  simp [upTo, List.range_succ]
theorem upTo_zero (lo : Int) : upTo lo 0 = [] := rfl
theorem maps_upTo (g : Fl → Fl) (lo : Int) (n : Nat) : D.maps g (upTo lo n) = upTo lo n := by
  have := maps_ints g ((List.range n).map fun i : Nat => lo + (i : Int))
  rw [List.map_map] at this
  exact this
theorem alls_upTo (p : Fl → Bool) (lo : Int) (n : Nat) : D.alls p (upTo lo n) = true := by
  have := alls_ints p ((List.range n).map fun i : Nat => lo + (i : Int))
  rw [List.map_map] at this
  exact this
theorem upTo_at {lo i : Int} {n : Nat} (h0 : 0 ≤ i) (h1 : i < n) : atI (upTo lo n) i = some (.int (lo + i)) := by
  obtain ⟨j, rfl⟩ := Int.eq_ofNat_of_zero_le h0
  rw [at_nat]
  have : j < n := by omega
  simp [upTo, this]
/-! ### classes of values -/
theorem ty_int_int : tySub "int" "int" = true := by decide
theorem ty_int_bool : tySub "int" "bool" = false := by decide
theorem ty_bool_int : tySub "bool" "int" = true := by decide
theorem ty_bool_bool : tySub "bool" "bool" = true := by decide
theorem ty_tuple_tuple : tySub "tuple" "tuple" = true := by decide
theorem ty_list_list : tySub "list" "list" = true := by decide
theorem ty_non_tuple : tySub "NoneType" "tuple" = false := by decide
theorem ty_non_int : tySub "NoneType" "int" = false := by decide
omit KK in
theorem str_inj {a b : String} (h : Str.ofString a = Str.ofString b) : a = b := by
  rw [Str.ofString_eq_toList, Str.ofString_eq_toList] at h
  have h2 : a.toList.map Char.toNat = b.toList.map Char.toNat := by
    have := congrArg (fun z : Str => z.cps.toList) h
    simpa using this
  exact String.toList_inj.mp ((List.map_inj_right fun x y e => Char.toNat_inj.mp e).mp h2)
omit KK in
theorem str_beq (a b : String) : (Str.ofString a == Str.ofString b) = decide (a = b) := by
  by_cases h : a = b
  · subst h; simp
  · rw [decide_eq_false h]
    exact beq_false_of_ne fun e => h (str_inj e)
omit KK in
theorem str_eqv (a b : String) : (Str.ofString a = Str.ofString b) = (a = b) := propext ⟨str_inj, fun e => by rw [e]⟩
/-! ### lists of ints -/
def rngI (lo : Int) (n : Nat) : List Int := (List.range n).map fun (i : Nat) => lo + (i : Int)
theorem upTo_ints (lo : Int) (n : Nat) : upTo lo n = (rngI lo n).map D.int := by unfold upTo rngI; rw [List.map_map]; rfl
omit KK in
theorem rngI_len (lo : Int) (n : Nat) : (rngI lo n).length = n := by simp [rngI]
omit KK in
theorem mem_rngI {lo x : Int} {n : Nat} : x ∈ rngI lo n ↔ lo ≤ x ∧ x < lo + n := by
  unfold rngI
  rw [List.mem_map]
  constructor
  · rintro ⟨a, ha, rfl⟩; have := List.mem_range.mp ha; omega
  · intro h; exact ⟨(x - lo).toNat, List.mem_range.mpr (by omega), by omega⟩
theorem cut_ints (xs : List Int) (lo hi : Option Int) : cutD (xs.map D.int) lo hi = ((xs.drop (HT.sIx xs.length 0 lo)).take (HT.sIx xs.length xs.length hi - HT.sIx xs.length 0 lo)).map D.int := by
  unfold cutD
  rw [List.length_map, List.map_take, List.map_drop]
omit KK in
theorem sIx_pos {n d : Nat} {v : Int} (h : 0 ≤ v) : HT.sIx n d (some v) = min v.toNat n := by
  show (if v < 0 then (v + (n : Int)).toNat else min v.toNat n) = min v.toNat n
  rw [if_neg (by omega)]
section
variable {g : TGv} {tt : TTv} {te : TEv} {ρ : VL.Env}
theorem lc_ints (p : Int → Bool) (f : Int → Int) {Q : D → Prop} {xs : List Int}
    (hs : ∀ i, i ∈ xs → ∀ (N : D → Prop) (M : Prop), (p i = true → N (.int (f i))) → (p i = false → M) → g (.int i) ρ fun ρ2 => tt ρ2 fun k => if k = true then te ρ2 fun d => d.nb = true ∧ N d else M)
    (h : Q (.lst .o (((xs.filter p).map f).map D.int))) : lcL g tt te ρ (xs.map D.int) [] Q := by
  refine lc_fm (fun x => match x with | .int i => if p i = true then some (.int (f i)) else none | _ => none) _ _ (fun x hx N M h1 h2 => ?_) ?_
  · obtain ⟨i, hi, rfl⟩ := List.mem_map.mp hx
    refine hs i hi N M (fun e => h1 _ ?_) (fun e => h2 ?_)
    · simp only [e, if_true]
    · simp only [e]; rfl
  · have e : ∀ ys : List Int, (ys.map D.int).filterMap (fun x => match x with | .int i => if p i = true then some (D.int (f i)) else none | _ => none) = ((ys.filter p).map f).map D.int := by
      intro ys
      induction ys with
      | nil => rfl
      | cons y ys ih =>
        rw [List.map_cons, List.filterMap_cons, List.filter_cons]
        cases hp : p y with
        | true => simp only [hp, if_true, List.map_cons]; rw [ih]
        | false => simp only [hp, Bool.false_eq_true, if_false]; rw [ih]
    rw [List.nil_append, e]
    exact h
theorem lc_int1 (f : Int → Int) {Q : D → Prop} {xs : List Int}
    (hs : ∀ i, i ∈ xs → ∀ (N : D → Prop), N (.int (f i)) → g (.int i) ρ fun ρ2 => te ρ2 fun d => d.nb = true ∧ N d)
    (h : Q (.lst .o ((xs.map f).map D.int))) : lcL g vYes te ρ (xs.map D.int) [] Q := by
  refine lc_ints (fun _ => true) f (fun i hi N M h1 _ => ?_) (by rw [List.filter_eq_self.mpr fun _ _ => rfl]; exact h)
  have e : (fun ρ2 => vYes ρ2 fun k => if k = true then te ρ2 fun d => d.nb = true ∧ N d else M) = fun ρ2 => te ρ2 fun d => d.nb = true ∧ N d := by
    funext ρ2; simp [vYes]
  rw [e]
  exact hs i hi N (h1 rfl)
end
theorem at_ints {xs : List Int} {i : Int} (h0 : 0 ≤ i) (h1 : i.toNat < xs.length) : atI (xs.map D.int) i = some (.int (xs[i.toNat]'h1)) := by
  obtain ⟨j, rfl⟩ := Int.eq_ofNat_of_zero_le h0
  rw [at_nat]
  have : j < xs.length := by simpa using h1
  simp [this]
omit KK in
theorem ixN_pos {n : Nat} {i : Int} (h0 : 0 ≤ i) (h1 : i < n) : ixN n i = some i.toNat := by
  unfold ixN
  rw [if_pos h0, if_pos h1]
section
variable {g : TGv} {tb : TSv} {W : Ev}
/-- a for over ints that folds a state -/
theorem forL_fold {S : Type} (f : S → Int → S) (I : S → VL.Env → Prop) : ∀ (xs : List Int) (s0 : S) {ρ : VL.Env}, I s0 ρ →
    (∀ s i, i ∈ xs → ∀ ρ, I s ρ → ∀ N : VL.Env → Prop, (∀ ρ', I (f s i) ρ' → N ρ') → g (.int i) ρ fun ρ' => tb { nx := N, rt := W.rt, bk := W.nx, ct := N } ρ') →
    (∀ ρ, I (xs.foldl f s0) ρ → W.nx ρ) → forL g tb (xs.map D.int) W ρ
  | [], s0, ρ, h0, _, hd => hd ρ h0
  | x :: xs, s0, ρ, h0, hs, hd => hs s0 x List.mem_cons_self ρ h0 (forL g tb (xs.map D.int) W) fun ρ' h' => forL_fold f I xs (f s0 x) h' (fun s i hi => hs s i (List.mem_cons_of_mem _ hi)) hd
end
/-! ### walks over things that stand for α -/
section
variable {α : Type} {g : TGv} {tb : TSv} {W : Ev} {tt : TTv} {te : TEv} {ρ : VL.Env}
theorem forL_emb {S : Type} (emb : α → D) (f : S → α → S) (I : Nat → S → VL.Env → Prop) : ∀ (xs : List α) (n : Nat) (s0 : S) {ρ : VL.Env}, I n s0 ρ →
    (∀ m s i, i ∈ xs → m < n + xs.length → ∀ ρ, I m s ρ → ∀ N : VL.Env → Prop, (∀ ρ', I (m + 1) (f s i) ρ' → N ρ') → g (emb i) ρ fun ρ' => tb { nx := N, rt := W.rt, bk := W.nx, ct := N } ρ') →
    (∀ ρ, I (n + xs.length) (xs.foldl f s0) ρ → W.nx ρ) → forL g tb (xs.map emb) W ρ
  | [], n, s0, ρ, h0, _, hd => hd ρ h0
  | x :: xs, n, s0, ρ, h0, hs, hd => hs n s0 x List.mem_cons_self (by rw [List.length_cons]; omega) ρ h0 (forL g tb (xs.map emb) W) fun ρ' h' => forL_emb emb f I xs (n + 1) (f s0 x) h' (fun m s i hi hm => hs m s i (List.mem_cons_of_mem _ hi) (by rw [List.length_cons]; omega)) fun ρ h => hd ρ (by rw [List.length_cons, show n + (xs.length + 1) = n + 1 + xs.length by omega]; exact h)
theorem lc_emb (emb : α → D) (p : α → Bool) (f : α → D) {Q : D → Prop} : ∀ {xs : List α} {acc : List D},
    (∀ i, i ∈ xs → ∀ (N : D → Prop) (M : Prop), (p i = true → N (f i)) → (p i = false → M) → g (emb i) ρ fun ρ2 => tt ρ2 fun k => if k = true then te ρ2 fun d => d.nb = true ∧ N d else M) →
    Q (.lst .o (acc ++ (xs.filter p).map f)) → lcL g tt te ρ (xs.map emb) acc Q
  | [], acc, _, h => by rw [List.filter_nil, List.map_nil, List.append_nil] at h; exact h
  | x :: xs, acc, hs, h => by
    refine hs x List.mem_cons_self (fun d => lcL g tt te ρ (xs.map emb) (acc ++ [d]) Q) (lcL g tt te ρ (xs.map emb) acc Q) (fun e => ?_) (fun e => ?_)
    · refine lc_emb emb p f (fun y hy => hs y (List.mem_cons_of_mem _ hy)) ?_
      rw [List.filter_cons, e] at h
      rw [List.append_assoc]
      exact h
    · refine lc_emb emb p f (fun y hy => hs y (List.mem_cons_of_mem _ hy)) ?_
      rw [List.filter_cons, e] at h
      exact h
theorem lc_emb1 (emb : α → D) (f : α → D) {Q : D → Prop} {xs : List α}
    (hs : ∀ i, i ∈ xs → ∀ (N : D → Prop), N (f i) → g (emb i) ρ fun ρ2 => te ρ2 fun d => d.nb = true ∧ N d)
    (h : Q (.lst .o (xs.map f))) : lcL g vYes te ρ (xs.map emb) [] Q := by
  refine lc_emb emb (fun _ => true) f (fun i hi N M h1 _ => ?_) (by rw [List.filter_eq_self.mpr fun _ _ => rfl]; exact h)
  have e : (fun ρ2 => vYes ρ2 fun k => if k = true then te ρ2 fun d => d.nb = true ∧ N d else M) = fun ρ2 => te ρ2 fun d => d.nb = true ∧ N d := by
    funext ρ2; simp [vYes]
  rw [e]
  exact hs i hi N (h1 rfl)
/-- a comprehension whose items are told only so far -/
theorem lc_some (A : D → Prop) {Q : D → Prop} : ∀ {items acc : List D},
    (∀ x, x ∈ items → ∀ (N : D → Prop), (∀ d, A d → d.nb = true → N d) → g x ρ fun ρ2 => te ρ2 fun d => d.nb = true ∧ N d) →
    (∀ ys : List D, ys.length = items.length → (∀ y, y ∈ ys → A y) → Q (.lst .o (acc ++ ys))) → lcL g vYes te ρ items acc Q
  | [], acc, _, h => by
    have := h [] rfl (fun y hy => nomatch hy)
    rw [List.append_nil] at this; exact this
  | x :: xs, acc, hs, h => by
    have e : ∀ (N : D → Prop) (M : Prop), (fun ρ2 => vYes ρ2 fun k => if k = true then te ρ2 fun d => d.nb = true ∧ N d else M) = fun ρ2 => te ρ2 fun d => d.nb = true ∧ N d := fun N M => by
      funext ρ2; simp [vYes]
    rw [lcL, e]
    refine hs x List.mem_cons_self _ fun d hd _ => ?_
    refine lc_some A (fun y hy => hs y (List.mem_cons_of_mem _ hy)) fun ys hl hy => ?_
    have := h (d :: ys) (by simp [hl]) (fun y hy2 => by rcases List.mem_cons.mp hy2 with rfl | h; exact hd; exact hy y h)
    rw [List.append_assoc]; exact this
end
theorem ints_ex (A : Int → Prop) : ∀ {ys : List D}, (∀ y, y ∈ ys → ∃ i, A i ∧ y = .int i) → ∃ is : List Int, ys = is.map .int ∧ ∀ i, i ∈ is → A i
  | [], _ => ⟨[], rfl, fun _ h => nomatch h⟩
  | y :: ys, h => by
    obtain ⟨i, hi, e⟩ := h y List.mem_cons_self
    obtain ⟨is, e2, h2⟩ := ints_ex A (ys := ys) fun z hz => h z (List.mem_cons_of_mem _ hz)
    exact ⟨i :: is, by rw [e, e2]; rfl, fun j hj => by rcases List.mem_cons.mp hj with rfl | hj; exact hi; exact h2 j hj⟩
omit KK in
theorem foldl_filter {α β : Type} (t : α → Bool) (f : α → β) : ∀ (xs : List α) (acc : List β), xs.foldl (fun acc s => if t s = true then acc ++ [f s] else acc) acc = acc ++ (xs.filter t).map f
  | [], acc => by simp
  | x :: xs, acc => by
    rw [List.foldl_cons, foldl_filter t f xs, List.filter_cons]
    split <;> simp
omit KK in
theorem foldl_flat {α β : Type} (f : α → List β) : ∀ (xs : List α) (acc : List β), xs.foldl (fun acc s => acc ++ f s) acc = acc ++ xs.flatMap f
  | [], acc => by simp
  | x :: xs, acc => by rw [List.foldl_cons, foldl_flat f xs]; simp
end VL

/-! ## VLA -/
/-! VL: x.pop(), x.remove(k), sorted(x, reverse=True) of a list or a tuple of ints. -/
namespace VL
open PySem PySem.Spec L2
open PyProof.Rows hiding St
variable [KK : KLs] [XX : XW]
/-! ### x.pop() -/
def vPop (i : Nat) : TSv := fun W ρ => match ρ[i]? with
  | some (some (.nd (.lst .o) xs)) => 0 < xs.length ∧ D.alls coF xs = true ∧ W.nx (ρ.set i (some (.lst .o (xs.take (xs.length - 1)))))
  | _ => False
theorem lk_pop {i : Nat} : LS (tDrop (tBM0 KK.K "list" rPop (tVar i))) (vPop i) := by
  intro B0 Z B H σ ρ Dv De R h S
  unfold vPop at h
  split at h
  · rename_i xs e
    obtain ⟨hn, co, h⟩ := h
    obtain ⟨a, o0, vs, G, h1, hx, c, y, nb, ng, aG, fG, W⟩ := R.write (h := .lst .o) e (.inl rfl)
    have c : o0 = .lst vs := c
    subst c
    have eG := Dens.nofp xs vs G co y
    subst eG
    have el : xs.length = vs.length := y.len
    have hv : vs.length - 1 < vs.length := by omega
    refine ⟨_, h1, .inl ⟨rfl, _, .inl (.inl hx)⟩, a, vs, vs[vs.length - 1], rfl, rfl, hx, List.getElem?_eq_getElem hv, ?_⟩
    rw [List.dropLast_eq_take]
    refine S.nx _ _ _ _ (W (.lst .o) (xs.take (xs.length - 1)) (.lst (vs.take (vs.length - 1))) B H (vs.take (vs.length - 1)) [] rfl (Grow.refl R.sub) rfl (by rw [el]; exact Dens.take _ y) List.nodup_nil ?_ (fun b hb => nomatch hb)) h
    rw [D.alls_eq, List.all_eq_true] at nb ⊢
    exact fun d hd => nb d (List.mem_of_mem_take hd)
  · exact h.elim
/-! ### x.remove(k) -/
def vRem (i : Nat) (te : TEv) : TSv := fun W ρ => match ρ[i]? with
  | some (some (.nd (.lst .o) xs)) => te ρ fun d => match d, ints? xs with
    | .int k, some ns => k ∈ ns ∧ W.nx (ρ.set i (some (.lst .o ((ns.erase k).map .int))))
    | _, _ => False
  | _ => False
def noX : WX := fun _ _ _ _ => False
theorem takes_no {X : Cx} : Takes X noX := fun u s' ⟨a, B, sI, pins, σ, H, cls, d, e, I, nb, up, sky, na, os, ag, w⟩ => w.elim
theorem lk_rem {i : Nat} {Te : TE} {te : TEv} (l : LE Te te) : LS (tDrop (tRemX KK.K noX (tVar i) Te)) (vRem i te) := by
  intro B0 Z B H σ ρ Dv De R h S
  unfold vRem at h
  split at h
  · rename_i xs e
    obtain ⟨a, o0, vs, G, h1, hx, c, y, nb, ng, aG, fG, W⟩ := R.write (h := .lst .o) e (.inl rfl)
    have c : o0 = .lst vs := c
    subst c
    refine ⟨_, h1, .inl ⟨rfl, _, .inl (.inl hx)⟩, ?_⟩
    refine l B0 Z B H σ ρ _ _ R h fun d v H1 ⟨B1, F, g, x, nF, fF⟩ q => ?_
    split at q
    · rename_i k ns en o
      have ex := ints_of en
      subst ex
      have ev := dens_ints y
      subst ev
      have x1 : v = .int k := x.1
      subst x1
      refine ⟨a, ns, k, rfl, rfl, g.sh _ _ hx, fun hk => ?_, fun hk => absurd q.1 hk⟩
      exact S.nx _ _ _ _ (W (.lst .o) ((ns.erase k).map .int) (.lst ((ns.erase k).map V.int)) B1 H1 ((ns.erase k).map V.int) [] rfl g rfl (int_dens _) List.nodup_nil (alls_ints nbF _) (fun b hb => nomatch hb)) q.2
    · exact q.elim
  · exact h.elim
section
variable {X : Cx} {p1 p2 p3 p4 : Pos} {x : Str} {e : Expr} {Te : TE} {te : TEv}
theorem s_pop (i : Nat) (hN : X.N[i]? = some x := by rfl) (hv : Vis X.env.scope x := by first | exact Or.inl rfl | exact Or.inr (Or.inl rfl) | exact Or.inr (Or.inr rfl)) (hd : (x == ("__debug__" : Str)) = false := by decide) (hcd : (x == ("__classdict__" : Str)) = false := by decide)
    (hbase : attributeBase (.Name x p1) "pop" X.env (eval (.Name x p1) X.env) = eval (.Name x p1) X.env := by rfl)
    (hline : (p2.endLine == p3.line) = true := by rfl)
    (hsw : swapsWith (.Call (.Attribute (.Name x p1) "pop" p2) [] [] p3) none p4.line X.env = pure false := by rfl) (hK : X.K = KK.K := by rfl) :
    VS X (.Expr (.Call (.Attribute (.Name x p1) "pop" p2) [] [] p3) p4) (tDrop (tBM0 KK.K "list" rPop (tVar i))) (vPop i) := by
  rw [← hK]
  exact ⟨ps_expr (pe_bm0 PySem.F.plainAttrs_list PySem.F.slot_list_pop PySem.F.type_list_pop mt_pop (pe_var hN hv hd hcd) hbase hline) hsw, by rw [hK]; exact lk_pop⟩
theorem s_rem (i : Nat) (hc : X.calm = true) (he : VE X e Te te) (hN : X.N[i]? = some x := by rfl) (hv : Vis X.env.scope x := by first | exact Or.inl rfl | exact Or.inr (Or.inl rfl) | exact Or.inr (Or.inr rfl)) (hd : (x == ("__debug__" : Str)) = false := by decide) (hcd : (x == ("__classdict__" : Str)) = false := by decide)
    (hbase : attributeBase (.Name x p1) "remove" X.env (eval (.Name x p1) X.env) = eval (.Name x p1) X.env := by rfl)
    (hfew : ((backTo p3 (starEach [e] X.env)).all (fun x => !x.1) && (backToKw p3 (keywordEach [] X.env)).all (fun x => x.1.isSome)
      && decide (([e] : List Expr).length + ([] : List Keyword).length + (if ([] : List Keyword).isEmpty then 0 else 1) < 30)) = true := by rfl)
    (hline : (p2.endLine == p3.line) = true := by rfl) (hs : starEach [e] X.env = (false, eval e X.env) :: starEach [] X.env := by rfl) (hplain : (backTo p3 (starEach [] X.env)).any (·.1) = false := by rfl)
    (hsw : swapsWith (.Call (.Attribute (.Name x p1) "remove" p2) [e] [] p3) none p4.line X.env = pure false := by rfl) (hK : X.K = KK.K := by rfl) :
    VS X (.Expr (.Call (.Attribute (.Name x p1) "remove" p2) [e] [] p3) p4) (tDrop (tRemX KK.K noX (tVar i) Te)) (vRem i te) := by
  rw [← hK]
  exact ⟨ps_expr (pe_remX hc takes_no (pe_var hN hv hd hcd) he.pe hbase hfew hline hs hplain) hsw, by rw [hK]; exact lk_rem he.lk⟩
end
/-! ### list(range(n)) -/
def vLstRg1 (ta : TEv) : TEv := fun ρ Q => ta ρ fun x => match x with
  | .int j => bigI j ∧ j.toNat ≤ 1000000 ∧ Q (.lst .o (upTo 0 j.toNat))
  | _ => False
theorem lk_lstRg1 {Ta : TE} {ta : TEv} (la : LE Ta ta) : LE (tLstRg (tRg1 Ta)) (vLstRg1 ta) := by
  intro B0 Z B H σ ρ Qd Q R h k
  refine la B0 Z B H σ ρ _ _ R h fun x vx H1 ⟨B1, F, g, dx, n, f⟩ h => ?_
  split at h
  · rename_i j o
    obtain ⟨b1, b3, q⟩ := h
    refine ⟨_, dx.1, ⟨by decide, by decide, b1.1, b1.2, by omega⟩, fun p hp => ?_⟩
    have := upTo_dens (Z := Z) (B := B1) (H := H1) 0 (j - 0).toNat
    refine k _ _ _ (out_lst (ds := upTo 0 j.toNat) ⟨B1, [], g, ?_, List.nodup_nil, fun a h => nomatch h⟩ hp) q
    rw [show (j - 0).toNat = j.toNat by omega] at this
    unfold rgV
    rw [show (j - 0).toNat = j.toNat by omega]
    exact this
  · exact h.elim
section
variable {X : Cx} {a : Expr} {p p2 pos pos2 : Pos} {Ta : TE} {ta : TEv}
theorem e_lstRg1 (hc : X.calm = true) (hl : X.mg "list" = none) (hm : X.mg "range" = none) (ha : VE X a Ta ta) (hg : Gl X "list" := by rfl) (hg2 : Gl X "range" := by rfl)
    (na : starEach [a] X.env = (false, eval a X.env) :: starEach [] X.env := by rfl)
    (nc : starEach [.Call (.Name "range" p2) [a] [] pos2] X.env = (false, eval (.Call (.Name "range" p2) [a] [] pos2) X.env) :: starEach [] X.env := by rfl) :
    VE X (.Call (.Name "list" p) [.Call (.Name "range" p2) [a] [] pos2] [] pos) (tLstRg (tRg1 Ta)) (vLstRg1 ta) := ⟨pe_listRg hc hg hl (prg_1 hg2 hm ha.pe na) nc, lk_lstRg1 ha.lk⟩
end
end VL
/-! ### sorted(x, reverse=b) of a tuple -/
namespace VLS
open PySem PyProof.Rows Srt SrtO SrtR
section
variable {prog : Program} {w : World} {A : Around} {E : Value → Shared → Prop} {s : Shared}
theorem collect_tup {l : Addr} {vs : List Value} {Q : List Value → Shared → Prop} (hl : IsTup s.heap l vs.toArray) (hsz : vs.length ≤ sizeLine)
    (h : Q vs { s with heap := (s.heap.push (seqObj "list" #[] 0)).update s.heap.objs.size (Obj.mapSeq (· ++ vs.toArray)) }) :
    wpAny (model prog w) A (collect (.ref l)) Q E s := by
  obtain ⟨o, ho, hc, n, hd⟩ := id hl
  have ho' : (s.heap.push (seqObj "list" #[] 0)).get? l = some o := Heap.get?_push_of_some _ ho
  have hn : (s.heap.push (seqObj "list" #[] 0)).get? s.heap.objs.size = some (seqObj "list" #[] 0) := Heap.get?_push_size _ rfl
  unfold collect
  refine wpAny_bind (wpAny_runValue (codeAny_builtin entry_proto_collect' ?_))
  refine wpAny_bind (wpAny_newList (wpAny_pure ⟨Code.quiet_builtin _ (by decide +kernel), codeAny_builtin entry_list_iadd' ?_⟩))
  show wpAny _ _ (Builtin.List.listExtendWith (.ref s.heap.objs.size) (.ref l) (.ref s.heap.objs.size)) _ _ { s with heap := s.heap.push (seqObj "list" #[] 0) }
  unfold Builtin.List.listExtendWith
  refine wpAny_bind (wpAny_typeOf (T := "tuple") ⟨o, ho', hc⟩ ?_)
  have ht : (Value.type "tuple" == Value.type "tuple") = true := by rfl
  rw [if_pos (by rw [ht]; simp)]
  refine wpAny_bind (listItems_at ho' hd (wpAny_bind (listItems_at (xs := #[]) (n := 0) hn rfl ?_)))
  rw [if_neg (by simp)]
  refine wpAny_bind (listUpdate_at (xs := #[]) (n := 0) hn rfl (wpAny_pure ?_) (Nat.zero_le _) (by show (#[] ++ vs.toArray).size ≤ sizeLine + 1; simp only [Array.size_append, List.size_toArray, List.length_nil]; omega))
  refine wpAny_bind (wpAny_load (get?_update_seq hn _) ?_)
  have e : ((#[] : Array Value) ++ vs.toArray).toList = vs := by simp
  show wpAny _ _ (pure ((#[] : Array Value) ++ vs.toArray).toList) Q E _
  rw [e]
  exact wpAny_pure h
theorem sorted_tup {l : Addr} {vs : List Value} {b : Bool} {ltv : Value → Value → Bool} {Q : Value → Shared → Prop} (O : Swo ltv) (hl : IsTup s.heap l vs.toArray) (hz : vs.length ≤ sizeLine)
    (hS : 2 ≤ vs.length → ∀ (h₁ : Heap) (a : Addr), h₁.get? a = some (seqObj "list" vs.toArray 0) → (∀ b o, s.heap.get? b = some o → b ≠ a ∧ h₁.get? b = some o) → SortableO prog w A.in1.in1 { s with heap := h₁ } a vs ltv)
    (h : ∀ out : List Value, Srtd ltv out → Stb ltv out (if b = true then vs.reverse else vs) → Q (.ref (s.heap.objs.size + 1)) { s with heap := sortedAll s.heap vs (if b = true then out.toArray.reverse else out.toArray) }) :
    wpAny (model prog w) A (call (.builtin "sorted") [.ref l] [(Str.ofString "reverse", .bool b)]) Q E s := by
  have hsz : ((s.heap.push (seqObj "list" #[] 0)).update s.heap.objs.size (Obj.mapSeq (· ++ vs.toArray))).objs.size = s.heap.objs.size + 1 := by
    rw [Heap.size_update, size_push']
  have hL : (((s.heap.push (seqObj "list" #[] 0)).update s.heap.objs.size (Obj.mapSeq (· ++ vs.toArray))).push (seqObj "list" vs.toArray 0)).get? (s.heap.objs.size + 1) = some (seqObj "list" vs.toArray 0) := by
    rw [← hsz]
    exact Heap.get?_push_size _ rfl
  have keep : ∀ b o, s.heap.get? b = some o → b ≠ s.heap.objs.size + 1 ∧ (((s.heap.push (seqObj "list" #[] 0)).update s.heap.objs.size (Obj.mapSeq (· ++ vs.toArray))).push (seqObj "list" vs.toArray 0)).get? b = some o := fun b o q => by
    have hlt : b < s.heap.objs.size := Heap.lt_size q
    refine ⟨Nat.ne_of_lt (Nat.lt_succ_of_lt hlt), Heap.get?_push_of_some _ ?_⟩
    rw [Heap.get?_update_ne _ _ _ _ (Nat.ne_of_lt hlt)]
    exact Heap.get?_push_of_some _ q
  refine call_function_entry_kw kind_sorted plain_sorted entry_sorted (args_sorted_rev _ _) ?_
  unfold Builtin.«sorted»
  refine wpAny_bind (m := checkCount "sorted" 1 1 _) (wpAny_pure ?_)
  refine wpAny_bind (collect_tup hl hz (wpAny_bind (wpAny_newList ?_ hz)))
  show wpAny _ _ _ _ _ { s with heap := ((s.heap.push (seqObj "list" #[] 0)).update s.heap.objs.size (Obj.mapSeq (· ++ vs.toArray))).push (seqObj "list" vs.toArray 0) }
  rw [hsz]
  refine wpAny_bind (wpAny_holding (wpAny_call_entry_kw slot_list_sort ⟨_, hL, rfl⟩ entry_list_sort ?_ (args_list_sort_rev _ _)))
  exact list_sort_ordR O hL hz (fun h2 => hS h2 _ _ hL keep) fun out hs hb => ⟨_, rfl, wpAny_pure ⟨_, rfl, h out hs hb⟩⟩
end
end VLS
namespace VL
open PySem PySem.Spec L2
open PyProof.Rows hiding St
variable [KK : KLs] [XX : XW]
/-- sorted(x, reverse=b), x a list or a tuple of ints -/
def rSortB (K : PySem.W.Frag) (b : Bool) : List V → List V → Hp → L2.VK → Prop := fun vs zs H Q => ∃ (a : Addr) (ns : List Int), vs = [V.ref a] ∧ zs = [.bl b] ∧ (SqL K H a (ns.map V.int) ∨ SqT K H a (ns.map V.int)) ∧
  ∀ (ns' : List Int) (p : Addr), ns'.Perm ns → OrdB b ns' → H p = none → Q (.ref p) (upd H p (.lst (ns'.map V.int)))
theorem cr_sortB {X : Cx} {b : Bool} : CallRK X (.builtin "sorted") [Str.ofString "reverse"] (rSortB X.K b) := by
  intro pins s σ H vs zs us ws Q I r rz h
  obtain ⟨a, ns, rfl, rfl, hs | hs, q⟩ := h
  · exact cr_sortedRev pins s σ H _ _ us ws Q I r rz ⟨a, ns, rfl, rfl, hs, q⟩
  · obtain rfl := Vals.ref1 r
    obtain ⟨w1, rfl, e1⟩ := vals1 rz
    obtain rfl : w1 = Value.bool b := e1
    obtain ⟨its, rv, hl, hz⟩ := I.tuple hs
    have hi := rv.ints
    refine VLS.sorted_tup SrtO.swo_int hl (by rw [← rv.length]; exact hz) (fun h2 h₁ a' _ _ => SrtO.ints_sortable hi h2) fun out h1 h2 => ?_
    obtain ⟨ns', k1, k2, k3⟩ := SrtR.ints_outR hi h1 h2
    obtain ⟨ep, he'⟩ := PyProof.Rows.sortedAll_at s.heap its (if b = true then out.toArray.reverse else out.toArray)
    have hlen : (ns'.map V.int).length ≤ sizeLine := by
      rw [List.length_map, k2.length_eq]
      rw [List.length_map] at hz
      exact hz
    have e0 : ((if b = true then out.toArray.reverse else out.toArray).toList).toArray = (if b = true then out.toArray.reverse else out.toArray) := by rw [Array.toArray_toList]
    exact ⟨.ref _, upd H (s.heap.objs.size + 1) (.lst (ns'.map V.int)), I.laid (t' := s.toks) (fun _ _ => PyProof.Rows.sortedAll_old) (Nat.le_succ _) ⟨hlen, _, ep, vals_of_ints k1, by rw [e0]; exact he'⟩, rfl, q _ _ k2 k3 (I.hok.fresh (Nat.le_succ _))⟩
def dSortedR : RNv := fun ds Q => match ds with
  | [.nd (.lst _) xs] => match ints? xs with
    | some ns => ∀ ms : List Int, ms.Perm ns → ms.Pairwise (· ≥ ·) → Q (.lst .o (ms.map .int))
    | none => False
  | [.nd .tup xs] => match ints? xs with
    | some ns => ∀ ms : List Int, ms.Perm ns → ms.Pairwise (· ≥ ·) → Q (.lst .o (ms.map .int))
    | none => False
  | _ => False
theorem lr_sortedR : LRn (fun vs H Q => rSortB KK.K true vs [.bl true] H Q) dSortedR := by
  intro B0 Z B H σ ρ ds vs F Qd Q R q h k
  unfold dSortedR at h
  split at h
  · split at h
    · rename_i f xs ns e
      obtain ⟨v, e1, x⟩ := dens_one q
      obtain ⟨a, ws, G, e2, t, y, _⟩ := den_lst R.sub x
      subst e2
      rw [ints_of e] at y
      rw [dens_ints y] at t
      refine ⟨a, ns, e1, rfl, .inl t, fun ns' p pm pw hp => k _ _ _ (out_lst ?_ hp) (h ns' pm pw)⟩
      exact ⟨B, [], Grow.refl R.sub, int_dens ns', List.nodup_nil, fun a h => nomatch h⟩
    · exact h.elim
  · split at h
    · rename_i xs ns e
      obtain ⟨v, e1, x⟩ := dens_one q
      obtain ⟨a, ws, e2, t, _, y⟩ := den_tup R.sub x
      subst e2
      rw [ints_of e] at y
      rw [dens_ints y] at t
      refine ⟨a, ns, e1, rfl, .inr (.inl (.inl t)), fun ns' p pm pw hp => k _ _ _ (out_lst ?_ hp) (h ns' pm pw)⟩
      exact ⟨B, [], Grow.refl R.sub, int_dens ns', List.nodup_nil, fun a h => nomatch h⟩
    · exact h.elim
  · exact h.elim
theorem lk_sortedR {T : TA} {t : TAv} (l : LA T t) : LE (tCKw (rSortB KK.K true) T (tCons (tC (.bl true)) tNil)) (vB dSortedR t) := by
  intro B0 Z B H σ ρ Qd Q R h k
  refine l B0 Z B H σ ρ _ _ R h fun ds vs H1 ⟨B1, F, g, q, n, f⟩ h1 => ?_
  exact lr_sortedR B0 Z B1 H1 σ ρ ds vs F Qd Q (R.grow g) q h1 fun d v H2 o q => k _ _ _ (o.after g) q
section
variable {X : Cx} {p pos : Pos} {e : Expr} {T : TA} {t : TAv} {j : Nat} {kp kpos : Pos}
theorem e_sortedR (hm : X.mg "sorted" = none) (ha : VA X [e] T t) (hg : Gl X "sorted" := by rfl) (hK : X.K = KK.K := by rfl)
    (he : backTo pos (starEach [e] X.env) = (false, eval e X.env) :: backTo pos (starEach [] X.env) := by rfl) (hpl : (backTo pos (starEach [e] X.env)).any (·.1) = false := by rfl)
    (hall : (backToKw pos (keywordEach [⟨some "reverse", .Constant (.bool true) j kp, kpos⟩] X.env)).all (·.1.isSome) = true := by rfl) (hnone : (backToKw pos (keywordEach [⟨some "reverse", .Constant (.bool true) j kp, kpos⟩] X.env)).any (·.1.isNone) = false := by rfl) (hks : (backToKw pos (keywordEach [⟨some "reverse", .Constant (.bool true) j kp, kpos⟩] X.env)).filterMap (·.1) = [Str.ofString "reverse"] := by rfl) :
    VE X (.Call (.Name "sorted" p) [e] [⟨some "reverse", .Constant (.bool true) j kp, kpos⟩] pos) (tCKw (rSortB KK.K true) T (tCons (tC (.bl true)) tNil)) (vB dSortedR t) := by
  rw [← hK]
  exact ⟨pe_callBK cr_sortB hg hm (by decide +kernel) ha.pa (pk_cons pe_bl pk_nil) (by decide) (by decide) he hpl hall hnone hks, by rw [hK]; exact lk_sortedR ha.lk⟩
end
end VL

/-! ## VLA2 -/
/-! VL: a walk over an own list that can be changed again behind the walk. -/
namespace VL
open PySem PySem.Spec L2
open PyProof.Rows hiding St
variable [KK : KLs]
theorem for_go {g : TG} {gv : TGv} {vs : List Nat} {T : TS} {t : TSv} (lg : LG g gv vs) (lt : LS T t) {J : It} {items : List D} {B0 Z B1 H1 : Hp} {σ : L2.St} {ρ : VL.Env} {Dv : Ev} {De : Ends}
    (Y : Yields Z B1 J items) (nc : D.alls coF items = true) (R1 : Rep B0 Z B1 H1 σ ρ) (h : forL gv t items Dv ρ) (S : Sim B0 Z Dv De) : tFor (fun _ H RR => RR J H) g T De σ H1 := by
  refine ⟨fun i m σ' H' => m = items.length - i ∧ i ≤ items.length ∧ ∃ B' ρ', Rep B0 Z B' H' σ' ρ' ∧ Same B1 B' ∧ forL gv t (items.drop i) Dv ρ', ⟨items.length, by simp, Nat.zero_le _, B1, ρ, R1, Same.refl _, by simpa using h⟩, ?_⟩
  rintro i m σ' H' ⟨rfl, hi, B', ρ', R', sb, h'⟩
  have y := Y B' H' sb R'.sub
  by_cases hlt : i < items.length
  · refine .inr ?_
    have e : items[i]? = some items[i] := List.getElem?_eq_getElem hlt
    obtain ⟨h1, h2⟩ := y.1 i _ e
    have hd : items.drop i = items[i] :: items.drop (i + 1) := List.drop_eq_getElem_cons hlt
    rw [hd] at h'
    refine ⟨h1, fun σ2 H2 => ∃ B2 ρ2, Rep B0 Z B2 H2 σ2 ρ2 ∧ Same B1 B2 ∧ forL gv t (items.drop (i + 1)) Dv ρ2, fun σ2 H2 ⟨B2, ρ2, R2, s2, q⟩ => ⟨items.length - (i + 1), by omega, rfl, hlt, B2, ρ2, R2, s2, q⟩, fun x H'' hy => ?_⟩
    obtain ⟨B'', F, g2, dx, nf, fr⟩ := h2 x H'' hy
    have nd := alls_at nc e
    have ef := Den.nofp _ _ _ nd dx
    subst ef
    have R'' := R'.grow g2
    refine lg B0 Z B'' H'' σ' ρ' _ x _ _ R'' dx (co_nb nd) h' fun σ3 ρ3 R3 _ _ h3 => ?_
    refine lt B'' Z B'' H'' σ3 ρ3 _ _ R3.rebase h3 ⟨fun B2 H2 σ2 ρ2 R2 q => ?_, fun d v H2 o ow q => ?_, fun B2 H2 σ2 ρ2 R2 q => ?_, fun B2 H2 σ2 ρ2 R2 q => ?_⟩
    · exact ⟨B2, ρ2, R2.unbase R'', (sb.trans g2.sb).trans R2.gr.sb, q⟩
    · exact S.rt d v H2 (o.unbase R''.gr) ow q
    · exact S.nx _ _ _ _ (R2.unbase R'') q
    · exact ⟨B2, ρ2, R2.unbase R'', (sb.trans g2.sb).trans R2.gr.sb, q⟩
  · have e : i = items.length := by omega
    subst e
    refine .inl ⟨y.2, ?_⟩
    rw [List.drop_length] at h'
    exact S.nx _ _ _ _ R' h'
/-- nothing in it can be what is locked -/
def envUn (ρ : VL.Env) : Bool := ρ.all fun o => match o with | none => true | some d => d.all unF
def vForO (i : Nat) (g : TGv) (tb : TSv) : TSv := fun W ρ => match ρ[i]? with
  | some (some (.nd (.lst .o) xs)) => D.alls puF xs = true ∧ ∀ a : Addr, forL g tb xs
      { nx := fun ρ' => ρ'[i]? = some (some (.cst (.ref a))) ∧ envUn (ρ'.set i none) = true ∧ W.nx (ρ'.set i (some (.lst .o xs))), rt := fun d => d.all unF = true ∧ W.rt d, bk := fun _ => False, ct := fun _ => False } (ρ.set i (some (.cst (.ref a))))
  | _ => False
theorem Slots.unlock {Z B H : Hp} {a : Addr} {ob : Obj} {u o : HO} (hB : B a = some (.frz ob u)) (hH : H a = some (.frz ob u)) : ∀ {ρ : VL.Env} {σ : List (Option V)} {F : List Addr}, envUn ρ = true → Slots Z B H ρ σ F → Slots Z (cutB B a) (upd H a o) ρ σ F
  | [], _, _, _, h => h
  | none :: ρ, _, _, n, ⟨v, σ', e, q⟩ => ⟨v, σ', e, Slots.unlock hB hH (by simpa [envUn] using n) q⟩
  | some d :: ρ, _, _, n, ⟨v, σ', G1, G2, e, nb, x, q, f⟩ => by
    have n2 : d.all unF = true ∧ envUn ρ = true := by simpa [envUn] using n
    exact ⟨v, σ', G1, G2, e, nb, Den.unlock hB hH d v G1 n2.1 x, Slots.unlock hB hH n2.2 q, f⟩
theorem lk_forO {i : Nat} {g : TG} {gv : TGv} {vs : List Nat} {T : TS} {t : TSv} (lg : LG g gv vs) (lt : LS T t) : LS (tLock (tFor (iSeq KK.K (tVar i)) g T)) (vForO i gv t) := by
  intro B0 Z B H σ ρ Dv De R h S
  unfold vForO at h
  split at h
  · rename_i xs e
    obtain ⟨pu, h⟩ := h
    have co : D.alls coF xs = true := D.alls_imp (p := puF) (q := coF) (fun f e => by cases f <;> first | rfl | exact nomatch e) xs pu
    have un : D.alls unF xs = true := D.alls_imp (p := puF) (q := unF) (fun f e => by cases f <;> first | rfl | exact nomatch e) xs pu
    have nbx : D.alls nbF xs = true := D.alls_imp (p := puF) (q := nbF) (fun f e => by cases f <;> first | rfl | exact nomatch e) xs pu
    obtain ⟨F, q, n, z⟩ := R.ex
    obtain ⟨v, G, Rr, h1, h2, h3, h4, h5, h6, h7, h8⟩ := q.part n e
    obtain ⟨a, o, ws, G', ev, x, c, y, f⟩ := h3
    have x : H a = some o := x
    have c : o = .lst ws := c
    subst c ev
    have eG := Dens.nofp xs ws G' co y
    subst eG
    have f : G = [a] := f
    subst f
    have za := z a (h6 a (.inl List.mem_cons_self))
    refine ⟨a, .lst ws, x, True.intro, fun od => ?_⟩
    have sb : Same B (upd B a (.frz od (.lst ws))) := fun b o' eb => by
      have : b ≠ a := fun hb => by subst hb; rw [za.1] at eb; cases eb
      rw [upd_ne this]; exact eb
    have kH : ∀ b, b ≠ a → upd H a (.frz od (.lst ws)) b = H b := fun b hb => upd_ne hb
    have sub : Same (upd B a (.frz od (.lst ws))) (upd H a (.frz od (.lst ws))) := fun b o' eb => by
      by_cases hb : b = a
      · subst hb; rw [upd_same] at eb ⊢; exact eb
      · rw [upd_ne hb] at eb ⊢; exact R.sub _ _ eb
    have y2 : Dens Z (upd B a (.frz od (.lst ws))) (upd H a (.frz od (.lst ws))) xs ws [] := Dens.fixed sb xs ws [] co y
    have q2 := (h8.grow sb (Same.refl _)).keep (H' := upd H a (.frz od (.lst ws))) fun b hb => kH b fun e2 => h5 a List.mem_cons_self (e2 ▸ hb)
    obtain ⟨F', k1, k2, k3⟩ := q2.fill (d := .cst (.ref a)) (v := .ref a) (G := []) (length_of_get e) h1 h7 rfl ⟨rfl, rfl⟩ List.nodup_nil (fun a h => nomatch h)
    have RB : Rep (upd B a (.frz od (.lst ws))) Z (upd B a (.frz od (.lst ws))) (upd H a (.frz od (.lst ws))) σ (ρ.set i (some (.cst (.ref a)))) := by
      refine ⟨xl0, ⟨Same.refl _, fun b o' eb => ?_, sub, fun _ _ _ _ n => n⟩, F', k1, k2, fun b hb => ?_⟩
      · have hb : b ≠ a := fun hb => by subst hb; rw [za.2] at eb; cases eb
        rw [kH b hb]; exact R.gr.sh _ _ eb
      · rcases k3 b hb with m | m
        · have hz := z b (h6 b (.inr m))
          have hba : b ≠ a := fun e2 => h5 a List.mem_cons_self (e2 ▸ m)
          exact ⟨by rw [upd_ne hba]; exact hz.1, hz.2⟩
        · cases m
    have Y : Yields Z (upd B a (.frz od (.lst ws))) (Itl KK.K a) xs := yields_lst (fun H' s' => .inl (.inr ⟨od, s' _ _ upd_same⟩)) y2 co
    refine ⟨_, h1, .inr (.inl ⟨a, rfl, ⟨ws, .inl (.inr ⟨od, upd_same⟩)⟩, ?_⟩)⟩
    refine for_go lg lt Y co RB (h a) ⟨fun B' H' σ' ρ' R' w => ?_, fun d v H' ou ow w => ?_, fun _ _ _ _ _ w => w.elim, fun _ _ _ _ _ w => w.elim⟩
    · have b2 : B' a = some (.frz od (.lst ws)) := R'.gr.sb _ _ upd_same
      have hh : H' a = some (.frz od (.lst ws)) := R'.sub _ _ b2
      refine ⟨hh, S.nx (cutB B' a) (upd H' a (.lst ws)) σ' _ ⟨R.xl, ⟨fun b o' eb => ?_, fun b o' eb => ?_, fun b o' eb => ?_, fun b o' eb nt nb => ?_⟩, ?_⟩ w.2.2⟩
      · have bb := R.gr.sb _ _ eb
        have hb : b ≠ a := fun hb => by subst hb; rw [za.1] at bb; cases bb
        rw [cutB_ne hb]
        exact R'.gr.sb _ _ (by rw [upd_ne hb]; exact bb)
      · have hb : b ≠ a := fun hb => by subst hb; rw [za.2] at eb; cases eb
        rw [upd_ne hb]; exact R'.gr.sh _ _ eb
      · have hb : b ≠ a := fun hb => by subst hb; rw [cutB_same] at eb; cases eb
        rw [cutB_ne hb] at eb
        rw [upd_ne hb]; exact R'.sub _ _ eb
      · have hb : b ≠ a := fun hb => by subst hb; rw [za.2] at eb; cases eb
        rw [cutB_ne hb]
        exact R'.gr.old _ _ eb nt (by rw [upd_ne hb]; exact R.gr.old _ _ eb nt nb)
      · obtain ⟨F2, q', n', z'⟩ := R'.ex
        obtain ⟨v', G2, Rr2, j1, j2, j3, j4, j5, j6, j7, j8⟩ := q'.part n' w.1
        have ev2 : v' = .ref a := j3.1
        have eG2 : G2 = [] := j3.2
        subst ev2 eG2
        have aR : a ∉ Rr2 := fun m => by
          have := (z' a (j6 a (.inr m))).1
          rw [b2] at this; cases this
        have u8 := Slots.unlock (o := .lst ws) b2 hh w.2.1 j8
        have yy : Dens Z (cutB B' a) (upd H' a (.lst ws)) xs ws [] := Dens.unlock b2 hh xs ws [] un (Dens.fixed (sb.trans R'.gr.sb) xs ws [] co y)
        obtain ⟨F3, l1, l2, l3⟩ := u8.fill (d := .lst .o xs) (v := .ref a) (G := [a]) (length_of_get w.1) j1 j7 (by show (nbF .o && D.alls nbF xs) = true; rw [nbx]; rfl) ⟨a, _, ws, [], rfl, upd_same, rfl, yy, rfl⟩ (by simp) (fun b m => by rw [List.mem_singleton.mp m]; exact aR)
        refine ⟨F3, l1, l2, fun b m => ?_⟩
        rcases l3 b m with m | m
        · have hz := z' b (j6 b (.inr m))
          have hb : b ≠ a := fun e2 => aR (e2 ▸ m)
          exact ⟨by rw [cutB_ne hb]; exact hz.1, hz.2⟩
        · rw [List.mem_singleton.mp m]
          exact ⟨cutB_same, za.2⟩
    · obtain ⟨B2, F2, g, x2, nf, fr⟩ := ou
      have b2 : B2 a = some (.frz od (.lst ws)) := g.sb _ _ upd_same
      have hh : H' a = some (.frz od (.lst ws)) := g.sub _ _ b2
      refine ⟨hh, S.rt d v (upd H' a (.lst ws)) ⟨cutB B2 a, F2, ⟨fun b o' eb => ?_, fun b o' eb => ?_, fun b o' eb => ?_, fun b o' eb nt nb => ?_⟩, Den.unlock b2 hh d v F2 w.1 x2, nf, fun b m => ?_⟩ ow w.2⟩
      · have bb := R.gr.sb _ _ eb
        have hb : b ≠ a := fun hb => by subst hb; rw [za.1] at bb; cases bb
        rw [cutB_ne hb]
        exact g.sb _ _ (by rw [upd_ne hb]; exact bb)
      · have hb : b ≠ a := fun hb => by subst hb; rw [za.2] at eb; cases eb
        rw [upd_ne hb]; exact g.sh _ _ eb
      · have hb : b ≠ a := fun hb => by subst hb; rw [cutB_same] at eb; cases eb
        rw [cutB_ne hb] at eb
        rw [upd_ne hb]; exact g.sub _ _ eb
      · have hb : b ≠ a := fun hb => by subst hb; rw [za.2] at eb; cases eb
        rw [cutB_ne hb]
        exact g.old _ _ eb nt (by rw [upd_ne hb]; exact R.gr.old _ _ eb nt nb)
      · have zz := fr b m
        have hb : b ≠ a := fun hb => by subst hb; rw [b2] at zz; cases zz.1
        exact ⟨by rw [cutB_ne hb]; exact zz.1, zz.2⟩
  · exact h.elim
section
variable {X : Cx} {tg iter : Expr} {body : List Stmt} {pos : Pos} {ti : TIv} {g : TG} {gv : TGv} {vs : List Nat} {T : TS} {t : TSv}
theorem s_forO (i : Nat) (hc : X.calm = true) (hp : PassesOwn (model X.prog X.w) X.A X.env X.xe) (hi : VI X tg iter (iSeq KK.K (tVar i)) ti) (hg : VG X tg g gv vs) (hb : VSs X body T t) (hs : ∀ x, foldedSetIterable iter X.env x = pure x := by intro _; rfl) :
    VS X (.For tg iter body [] pos) (tLock (tFor (iSeq KK.K (tVar i)) g T)) (vForO i gv t) := ⟨ps_lock (ps_for hp hc hi.pi hg.pg hb.ps hs), lk_forO hg.lk hb.lk⟩
end
end VL

/-! ## VLC -/
/-! VL: dicts whose keys are tuples of ints and texts; x.extend(y); a list times an int. -/
namespace VL
open PySem PySem.Spec L2
open PyProof.Rows hiding St
variable [KK : KLs] [XX : XW]
/-! ### keys -/
def keys? : List D → Option (List Key)
  | [] => some []
  | d :: ds => match d.key, keys? ds with
    | some k, some ks => some (k :: ks)
    | _, _ => none
def D.tkey : D → Option (List Key)
  | .nd .tup xs => keys? xs
  | _ => none
section
variable {Z B H : Hp}
theorem keys_den : ∀ {xs : List D} {ks : List Key} {vs : List V} {F : List Addr}, Dens Z B H xs vs F → keys? xs = some ks → vs = ks.map kV
  | [], ks, vs, F, q, e => by cases e; exact q.1
  | d :: ds, ks, _, F, ⟨v, ws, G1, G2, ev, x, q, f⟩, e => by
    subst ev
    unfold keys? at e
    split at e
    · rename_i k ks' e1 e2
      cases e
      rw [D.key_den x e1, keys_den q e2]; rfl
    · cases e
theorem D.tkey_den {y : D} {v : V} {F : List Addr} {k : List Key} (s : Same B H) (h : Den Z B H y v F) (e : y.tkey = some k) : ∃ b, v = .ref b ∧ H b = some (.tup (k.map kV)) := by
  cases y with
  | nd hd xs =>
    cases hd with
    | tup =>
      obtain ⟨a, us, e2, t, tb, yy⟩ := den_tup s h
      exact ⟨a, e2, by rw [t, keys_den yy e]⟩
    | _ => exact nomatch e
  | _ => exact nomatch e
theorem den_dtt {f : Fl} {ks : List (List Key)} {xs : List D} {v : V} {F : List Addr} (s : Same B H) (n : f.ls ≠ .x) (h : Den Z B H (.nd (.dtt f ks) xs) v F) : ∃ a vs G, v = .ref a ∧ Rd H a (.dT (ks.zip vs)) ∧ ks.length = vs.length ∧ Dens Z B H xs vs G := by
  obtain ⟨a, o, vs, G, e, x, c, q, f'⟩ := h
  obtain ⟨l, c⟩ := c
  subst c
  refine ⟨a, vs, G, e, ?_, l, q⟩
  have x : At Z B H f.ls a (.dT (ks.zip vs)) := x
  rcases x.rd s n with h | ⟨us, e, _⟩
  · exact h
  · cases e
end
omit KK XX in
theorem valV_zipT {k : List Key} (ks : List (List Key)) (vs : List V) : valV (ks.zip vs) k = kfind ks vs k := valV_zip ks vs
/-- d[k] -/
def vTGet (td ty : TEv) : TEv := fun ρ Q => td ρ fun d => ty ρ fun y => match d, y.tkey with
  | .nd (.dtt f ks) xs, some k => rdF f = true ∧ match kfind ks xs k with
    | some d => Q d.bor
    | none => False
  | _, _ => False
theorem lk_tget {Td Ty : TE} {td ty : TEv} (ld : LE Td td) (ly : LE Ty ty) : LE (tDGet Td Ty) (vTGet td ty) := by
  intro B0 Z B H σ ρ Qd Q R h k
  refine ld B0 Z B H σ ρ _ _ R h fun x vx H1 ⟨B1, F, g, dx, n, fr⟩ h => ?_
  refine ly B0 Z B1 H1 σ ρ _ _ (R.grow g) h fun y vy H2 ⟨B2, F2, g2, dy, n2, fr2⟩ h => ?_
  split at h
  · rename_i f ks xs k' e1 _ _
    obtain ⟨hf, h⟩ := h
    split at h
    · rename_i d e2
      obtain ⟨a, vs, G, ev, rd, l, q⟩ := den_dtt g2.sub (rdF_ok hf) (dx.grow g2.sb g2.sh)
      obtain ⟨v, G', e3, y3⟩ := lookup_key q e2
      obtain ⟨b, eb, hb⟩ := D.tkey_den g2.sub dy e1
      refine ⟨a, v, ev, .inr ⟨_, k', b, rd, eb, hb, ?_⟩, k _ _ _ ((Out.of g2.sub y3.see).after (g.trans g2)) h⟩
      rw [valV_zipT, e3]
    · exact h.elim
  · exact h.elim
/-- d.get(k, e) -/
def vTGet2 (td ty te : TEv) : TEv := fun ρ Q => td ρ fun d => match d with
  | .nd (.dtt f ks) xs => rdF f = true ∧ ty ρ fun y => te ρ fun z => match y.tkey with
    | some k => Q (((kfind ks xs k).getD z).bor)
    | none => False
  | _ => False
theorem lk_tget2 {Td Ty Te : TE} {td ty te : TEv} (ld : LE Td td) (ly : LE Ty ty) (le : LE Te te) : LE (tDGet2 Td Ty Te) (vTGet2 td ty te) := by
  intro B0 Z B H σ ρ Qd Q R h k
  refine ld B0 Z B H σ ρ _ _ R h fun x vx H1 ⟨B1, F, g, dx, n, fr⟩ h => ?_
  split at h
  · rename_i f ks xs _
    obtain ⟨hf, h⟩ := h
    obtain ⟨a0, vs0, G0, ev0, rd0, _, _⟩ := den_dtt g.sub (rdF_ok hf) dx
    refine ⟨a0, ev0, .inr ⟨_, rd0⟩, ?_⟩
    refine ly B0 Z B1 H1 σ ρ _ _ (R.grow g) h fun y vy H2 ⟨B2, F2, g2, dy, n2, fr2⟩ h => ?_
    refine le B0 Z B2 H2 σ ρ _ _ ((R.grow g).grow g2) h fun z vz H3 ⟨B3, F3, g3, dz, n3, fr3⟩ h => ?_
    split at h
    · rename_i k' e1
      have g23 := g2.trans g3
      obtain ⟨a, vs, G, ev, rd, l, q⟩ := den_dtt g23.sub (rdF_ok hf) (dx.grow g23.sb g23.sh)
      cases ev0.symm.trans ev
      obtain ⟨b, eb, hb⟩ := D.tkey_den g3.sub (dy.grow g3.sb g3.sh) e1
      refine ⟨_, .inr ⟨_, k', b, rd, eb, hb, rfl⟩, ?_⟩
      rw [valV_zipT]
      cases e2 : kfind ks xs k' with
      | none =>
        rw [e2] at h
        rw [lookup_key_none q e2]
        exact k _ _ _ ((Out.of g3.sub dz.see).after (g.trans g23)) h
      | some d =>
        rw [e2] at h
        obtain ⟨v, G', e3, y3⟩ := lookup_key q e2
        rw [e3]
        exact k _ _ _ ((Out.of g3.sub y3.see).after (g.trans g23)) h
    · exact h.elim
  · exact h.elim
/-- d[k] = e, d a name -/
def vTPut (i : Nat) (ti te : TEv) : TSv := fun W ρ => te ρ fun d => match ρ[i]? with
  | some (some (.nd (.dtt .o ks) xs)) => ti ρ fun y => match y.tkey with
    | some k => d.nb = true ∧ ks.Nodup ∧ ks.length < 1000000 ∧ W.nx (ρ.set i (some (.dtt .o (kadd ks k) (kput ks xs k d))))
    | _ => False
  | _ => False
theorem lk_tput {i : Nat} {Te Ti : TE} {te ti : TEv} (l : LE Te te) (li : LE Ti ti) : LS (sDPut (tVar i) Ti Te) (vTPut i ti te) := by
  intro B0 Z B H σ ρ Dv De R h S
  refine l B0 Z B H σ ρ _ _ R h fun d v H1 ⟨B1, F, g, x, nF, fF⟩ h => ?_
  split at h
  · rename_i ks xs e
    obtain ⟨a, o0, vs, G, h1, hx, c, y, nb, ng, aG, fG, W⟩ := R.write (h := .dtt .o ks) e (.inl rfl)
    obtain ⟨lk, c⟩ := c
    subst c
    refine ⟨_, h1, ?_⟩
    refine li B0 Z B1 H1 σ ρ _ _ (R.grow g) h fun ky kv H2 ⟨B2, F2, g2, x2, _, _⟩ h => ?_
    split at h
    · rename_i k ek
      obtain ⟨nbd, nk, hl, q⟩ := h
      have g12 := g.trans g2
      have live : ∀ b ∈ G, ∃ o, H b = some o ∧ NT o := Dens.liveN _ _ _ y
      obtain ⟨G', q', n', s'⟩ := Dens.kput (k := k) (x.grow g2.sb g2.sh) (ks := ks) lk (Dens.grow g12.sb g12.sh _ _ _ y) ng nF fun b hb z => by
        obtain ⟨o, eo, nt⟩ := live b z
        rw [(fF b hb).2] at eo; cases eo
      obtain ⟨b, eb, hb⟩ := D.tkey_den g2.sub x2 ek
      refine ⟨a, _, rfl, .inr ⟨_, k, b, g12.sh _ _ hx, eb, hb, by rw [List.length_zip]; exact million (by omega), rfl⟩, ?_⟩
      rw [put_zip ks vs lk nk]
      refine S.nx _ _ _ _ (W (.dtt .o (kadd ks k)) (kput ks xs k d) _ B2 H2 (kput ks vs k v) G' rfl g12 ⟨kput_len ks vs lk, rfl⟩ q' n' (alls_kput nb nbd) (fun b hb => ?_)) q
      rcases s' b hb with h | h
      · exact .inl h
      · obtain ⟨o, eo, nt⟩ := x.liveN _ _ _ b h
        exact .inr ⟨g2.old b o eo nt (fF b h).1, (fF b h).2⟩
    · exact h.elim
  · exact h.elim
/-- {} -/
def vTct0 : TEv := fun _ Q => Q (.dtt .o [] [])
theorem lk_tct0 : LE tDNewT vTct0 := by
  intro B0 Z B H σ ρ Qd Q R h k p hp
  refine k _ _ _ ?_ h
  have g := Grow.new (o := HO.dT []) R.sub hp
  refine ⟨B, [p], g, ⟨p, _, [], [], rfl, upd_same, ⟨rfl, rfl⟩, ⟨rfl, rfl⟩, rfl⟩, by simp, fun a h => ?_⟩
  have e : a = p := by simpa using h
  subst e
  exact ⟨R.sub.free hp, hp⟩
section
variable {X : Cx} {d i e f k : Expr} {pos apos p1 p2 : Pos} {Td Ti Te Tk : TE} {td ti te tk : TEv} {n : Nat} {x : Str}
theorem e_tct0 : VE X (.Dict [] [] pos) tDNewT vTct0 := ⟨pe_dnewT, lk_tct0⟩
theorem e_tget (hr : Room n X.A) (hd : VE X d Td td) (hi : VE X i Ti ti) (hs : NoSl i := by exact fun _ _ => rfl) : VE X (.Subscript d i pos) (tDGet Td Ti) (vTGet td ti) := ⟨pe_dget (by have := hr.un; omega) hd.pe hi.pe hs, lk_tget hd.lk hi.lk⟩
theorem e_tget2 (hr : Room n X.A) (hd : VE X d Td td) (hi : VE X e Ti ti) (hf : VE X f Te te) (m : M2 X d "get" apos e f pos := by exact ⟨rfl, rfl, rfl, rfl⟩) : VE X (.Call (.Attribute d "get" apos) [e, f] [] pos) (tDGet2 Td Ti Te) (vTGet2 td ti te) := ⟨pe_dget2 (by have := hr.un; omega) hd.pe hi.pe hf.pe m, lk_tget2 hd.lk hi.lk hf.lk⟩
theorem s_tput (hr : Room n X.A) (i : Nat) (he : VE X e Te te) (hk : VE X k Tk tk) (hN : X.N[i]? = some x := by rfl) (hv : Vis X.env.scope x := by first | exact Or.inl rfl | exact Or.inr (Or.inl rfl) | exact Or.inr (Or.inr rfl)) (hd : (x == ("__debug__" : Str)) = false := by decide) (hcd : (x == ("__classdict__" : Str)) = false := by decide)
    (hs : swapsWith e (some (.Subscript (.Name x p1) k p2)) pos.line X.env = pure false := by rfl) : VS X (.Assign [.Subscript (.Name x p1) k p2] e pos) (sDPut (tVar i) Tk Te) (vTPut i tk te) :=
  ⟨ps_dput (by have := hr.un; omega) (pe_var hN hv hd hcd) hk.pe he.pe hs, lk_tput he.lk hk.lk⟩
end
/-! ### the lock -/
theorem Rep.lockT {B0 Z B H : Hp} {σ : L2.St} {ρ : VL.Env} {i : Nat} {ks : List (List Key)} {xs : List D} (R : Rep B0 Z B H σ ρ) (e : ρ[i]? = some (some (.dtt .o ks xs))) (co : D.alls coF xs = true) :
    ∃ a vs, ks.length = vs.length ∧ H a = some (.dT (ks.zip vs)) ∧ B a = none ∧ ∀ od, Rep B0 Z (upd B a (.frz od (.dT (ks.zip vs)))) (upd H a (.frz od (.dT (ks.zip vs)))) σ (ρ.set i (some (.dtt .s ks xs))) := by
  obtain ⟨F, q, n, z⟩ := R.ex
  obtain ⟨v, G, Rr, h1, h2, h3, h4, h5, h6, h7, h8⟩ := q.part n e
  obtain ⟨a, o, vs, G', ev, x, c, y, f⟩ := h3
  have x : H a = some o := x
  obtain ⟨l, c⟩ := c
  subst c
  have eG := Dens.nofp xs vs G' co y
  subst eG
  have f : G = [a] := f
  subst f
  have za := z a (h6 a (.inl List.mem_cons_self))
  refine ⟨a, vs, l, x, za.1, fun od => ?_⟩
  have sb : Same B (upd B a (.frz od (.dT (ks.zip vs)))) := fun b o' eb => by
    have : b ≠ a := fun hb => by subst hb; rw [za.1] at eb; cases eb
    rw [upd_ne this]; exact eb
  have kH : ∀ b, b ≠ a → upd H a (.frz od (.dT (ks.zip vs))) b = H b := fun b hb => upd_ne hb
  have sub : Same (upd B a (.frz od (.dT (ks.zip vs)))) (upd H a (.frz od (.dT (ks.zip vs)))) := fun b o' eb => by
    by_cases hb : b = a
    · subst hb; rw [upd_same] at eb ⊢; exact eb
    · rw [upd_ne hb] at eb ⊢; exact R.sub _ _ eb
  have y2 : Dens Z (upd B a (.frz od (.dT (ks.zip vs)))) (upd H a (.frz od (.dT (ks.zip vs)))) xs vs [] := Dens.fixed sb xs vs [] co y
  have x2 : Den Z (upd B a (.frz od (.dT (ks.zip vs)))) (upd H a (.frz od (.dT (ks.zip vs)))) (.dtt .s ks xs) v [] := ⟨a, _, vs, [], ev, .inl ⟨od, upd_same⟩, ⟨l, rfl⟩, y2, rfl⟩
  have q2 := (h8.grow sb (Same.refl _)).keep (H' := upd H a (.frz od (.dT (ks.zip vs)))) fun b hb => kH b fun e2 => h5 a List.mem_cons_self (e2 ▸ hb)
  have nb : D.nb (.dtt .s ks xs) = true := by
    have := D.alls_imp (p := coF) (q := nbF) (fun f e => by cases f <;> first | rfl | exact nomatch e) xs co
    show (nbF .s && D.alls nbF xs) = true
    rw [this]; rfl
  obtain ⟨F', k1, k2, k3⟩ := q2.fill (length_of_get e) h1 h7 nb x2 List.nodup_nil (fun a h => nomatch h)
  refine ⟨R.xl, ⟨R.gr.sb.trans sb, fun b o' eb => ?_, sub, fun b o' eb nt nbb => ?_⟩, F', k1, k2, fun b hb => ?_⟩
  · have hb : b ≠ a := fun hb => by subst hb; rw [za.2] at eb; cases eb
    rw [kH b hb]; exact R.gr.sh _ _ eb
  · have hb : b ≠ a := fun hb => by subst hb; rw [za.2] at eb; cases eb
    rw [upd_ne hb]; exact R.gr.old _ _ eb nt nbb
  · rcases k3 b hb with m | m
    · have hz := z b (h6 b (.inr m))
      have hba : b ≠ a := fun e2 => h5 a List.mem_cons_self (e2 ▸ m)
      exact ⟨by rw [upd_ne hba]; exact hz.1, hz.2⟩
    · cases m
def vLockT (i : Nat) (te : TEv) : TEv := fun ρ Q => match ρ[i]? with
  | some (some (.nd (.dtt .o ks) xs)) => D.alls coF xs = true ∧ te (ρ.set i (some (.dtt .s ks xs))) fun d => d.all unF = true ∧ Q d
  | _ => False
theorem lk_lockT {i : Nat} {T : TE} {t : TEv} (l : LE T t) : LE (tLockE T) (vLockT i t) := by
  intro B0 Z B H σ ρ Qd Q R h k
  unfold vLockT at h
  split at h
  · rename_i ks xs e
    obtain ⟨co, h⟩ := h
    obtain ⟨a, vs, hl, ha, hb, L⟩ := R.lockT e co
    refine ⟨a, _, ha, True.intro, fun od => ?_⟩
    refine l B0 Z _ _ σ _ _ _ (L od) h fun d v H2 o q => ⟨?_, ?_⟩
    · obtain ⟨B2, F, g, _⟩ := o
      exact g.sh _ _ upd_same
    · exact k d v _ (Out.unlock ha hb q.1 o) q.2
  · exact h.elim
theorem e_lockT {X : Cx} {e : Expr} {T : TE} {t : TEv} (i : Nat) (h : VE X e T t) : VE X e (tLockE T) (vLockT i t) := ⟨pe_lock h.pe, lk_lockT h.lk⟩
/-! ### x.extend(y) -/
def vExt (i : Nat) (te : TEv) : TSv := fun W ρ => match ρ[i]? with
  | some (some (.nd (.lst .o) xs)) => te ρ fun d => match d with
    | .nd (.lst f) ys => nsF f.ls = true ∧ D.alls coF ys = true ∧ D.alls nbF ys = true ∧ xs.length + ys.length < 1000000 ∧ W.nx (ρ.set i (some (.lst .o (xs ++ ys))))
    | _ => False
  | _ => False
theorem lk_ext {i : Nat} {Te : TE} {te : TEv} (l : LE Te te) : LS (tDrop (tBM KK.K "list" rExtend (tVar i) (tCons Te tNil))) (vExt i te) := by
  intro B0 Z B H σ ρ Dv De R h S
  unfold vExt at h
  split at h
  · rename_i xs e
    obtain ⟨a, o0, vs, G, h1, hx, c, y, nb, ng, aG, fG, W⟩ := R.write (h := .lst .o) e (.inl rfl)
    have c : o0 = .lst vs := c
    subst c
    refine ⟨_, h1, .inl ⟨rfl, _, .inl (.inl hx)⟩, ?_⟩
    refine l B0 Z B H σ ρ _ _ R h fun d v H1 ⟨B1, F, g, x, nF, fF⟩ q => ?_
    split at q
    · rename_i f ys _
      obtain ⟨nf, co, nby, hl, q⟩ := q
      obtain ⟨b, us, G2, ev, hb, y2, _, _⟩ := den_lst' g.sub nf x
      have e2 := Dens.nofp _ _ _ co y2
      subst e2
      refine ⟨a, b, vs, us, rfl, by rw [ev], g.sh _ _ hx, hb, by rw [← y.len, ← y2.len]; exact Nat.le_of_lt (million (Nat.le_of_lt hl)), ?_⟩
      refine S.nx _ _ _ _ (W (.lst .o) (xs ++ ys) (.lst (vs ++ us)) B1 H1 (vs ++ us) (G ++ []) rfl g rfl (Dens.app (Dens.grow g.sb g.sh _ _ _ y) y2) (by rw [List.append_nil]; exact ng) (by rw [alls_app, nb, nby]; rfl) (fun b hb => ?_)) q
      rw [List.append_nil] at hb
      exact .inl hb
    · exact q.elim
  · exact h.elim
/-! ### a list times an int -/
def dRep : RDv := fun x y Q => match x, y with
  | .nd (.lst f) xs, .int k => nsF f.ls = true ∧ D.alls coF xs = true ∧ bigI k ∧ xs.length * k.toNat ≤ 1000000 ∧ Q (.lst .o (List.replicate k.toNat xs).flatten)
  | _, _ => False
theorem dens_rep {Z B H : Hp} {xs : List D} {vs : List V} (q : Dens Z B H xs vs []) : ∀ n : Nat, Dens Z B H (List.replicate n xs).flatten (List.replicate n vs).flatten []
  | 0 => ⟨rfl, rfl⟩
  | n + 1 => by
    rw [List.replicate_succ, List.replicate_succ, List.flatten_cons, List.flatten_cons]
    exact Dens.app q (dens_rep q n)
theorem lr_rep : LR2 rRep dRep := by
  intro B0 Z B H σ ρ x y vx vy F G Qd Q R dx dy h k
  unfold dRep at h
  split at h
  · obtain ⟨n1, c1, b, hl, q⟩ := h
    obtain ⟨a, us, G1, e1, t1, y1, _⟩ := den_lst' R.sub n1 dx
    have f1 := Dens.nofp _ _ _ c1 y1
    subst f1
    unfold bigI at b
    refine ⟨a, _, us, e1, dy.1, t1, by omega, by omega, by rw [← y1.len]; exact Nat.le_of_lt (million hl), fun p hp => k _ _ _ (out_lst ?_ hp) q⟩
    exact ⟨B, [], Grow.refl R.sub, dens_rep y1 _, List.nodup_nil, fun a h => nomatch h⟩
  · exact h.elim
section
variable {X : Cx} {a b e : Expr} {pos p1 p2 p3 p4 : Pos} {Ta Tb Te : TE} {ta tb te : TEv} {x : Str}
theorem e_rep (ha : VE X a Ta ta) (hb : VE X b Tb tb) : VE X (.BinOp a .Mult b pos) (tOp rRep Ta Tb) (vOp dRep ta tb) := ⟨pe_op op_rep ha.pe hb.pe, lk_op lr_rep ha.lk hb.lk⟩
theorem s_ext (i : Nat) (he : VE X e Te te) (hN : X.N[i]? = some x := by rfl) (hv : Vis X.env.scope x := by first | exact Or.inl rfl | exact Or.inr (Or.inl rfl) | exact Or.inr (Or.inr rfl)) (hd : (x == ("__debug__" : Str)) = false := by decide) (hcd : (x == ("__classdict__" : Str)) = false := by decide)
    (hbase : attributeBase (.Name x p1) "extend" X.env (eval (.Name x p1) X.env) = eval (.Name x p1) X.env := by rfl)
    (hfew : ((backTo p3 (starEach [e] X.env)).all (fun x => !x.1) && (backToKw p3 (keywordEach [] X.env)).all (fun x => x.1.isSome)
      && decide (([e] : List Expr).length + ([] : List Keyword).length + (if ([] : List Keyword).isEmpty then 0 else 1) < 30)) = true := by rfl)
    (hline : (p2.endLine == p3.line) = true := by rfl) (hs : starEach [e] X.env = (false, eval e X.env) :: starEach [] X.env := by rfl) (hplain : (backTo p3 (starEach [] X.env)).any (·.1) = false := by rfl)
    (hsw : swapsWith (.Call (.Attribute (.Name x p1) "extend" p2) [e] [] p3) none p4.line X.env = pure false := by rfl) (hK : X.K = KK.K := by rfl) :
    VS X (.Expr (.Call (.Attribute (.Name x p1) "extend" p2) [e] [] p3) p4) (tDrop (tBM KK.K "list" rExtend (tVar i) (tCons Te tNil))) (vExt i te) := by
  rw [← hK]
  exact ⟨ps_expr (pe_bm PySem.F.plainAttrs_list PySem.F.slot_list_extend PySem.F.type_list_extend mt_extend (pe_var hN hv hd hcd) (pa_cons he.pe pa_nil hs) hbase hfew hline hs hplain) hsw, by rw [hK]; exact lk_ext he.lk⟩
end
/-! ### [k for k in d if d[k] > c[k[0]]], d locked -/
def ovE (ks : List (List Key)) (xs cs : List D) (k : List Key) : Option Bool := match k, kfind ks xs k with
  | .inl a :: _, some (.int x) => match atI cs a with
    | some (.int c) => some (decide (c < x))
    | _ => none
  | _, _ => none
def vKeyC (i c j : Nat) : TEv := fun ρ Q => match ρ[i]?, ρ[c]? with
  | some (some (.nd (.dtt .s ks) xs)), some (some (.nd .tup cs)) => j < ρ.length ∧ ks.Nodup ∧ xs.length = ks.length ∧ ks.length ≤ 1000000 ∧ ∃ f : List Key → Bool, (∀ k, k ∈ ks → ovE ks xs cs k = some (f k)) ∧ ∀ vs : List V, (vs = [] ↔ ∀ k, k ∈ ks → f k = false) → Q (.lst .o (vs.map .cst))
  | _, _ => False
theorem dens_csts {Z B H : Hp} : ∀ vs : List V, Dens Z B H (vs.map D.cst) vs []
  | [] => ⟨rfl, rfl⟩
  | v :: vs => ⟨v, vs, [], [], rfl, ⟨rfl, rfl⟩, dens_csts vs, rfl⟩
theorem lk_keyC {i c j : Nat} (hic : i ≠ j) (hcj : c ≠ j) : LE (tLc (iKeys (tVar i)) (gName j) (tTest (tOp (rI0 fun a b => .bl (decide (b < a))) (tDGet (tVar i) (tVar j)) (tOp (rIx KK.K) (tVar c) (tOp (rIx KK.K) (tVar j) (tC (.int 0)))))) (tVar j) [j]) (vKeyC i c j) := by
  intro B0 Z B H σ ρ Qd Q R h k
  unfold vKeyC at h
  split at h
  · rename_i ks xs cs ei ec
    obtain ⟨hj, nd, hlx, hl, f, hf, h⟩ := h
    obtain ⟨v, G, s1, nb, dx, _⟩ := R.get' ei
    obtain ⟨w, G2, s2, _, dc, _⟩ := R.get' ec
    obtain ⟨a, o, vs, G', ev, x, ⟨hlk, ceq⟩, y, fe⟩ := dx
    subst ceq
    obtain ⟨p, us, ew, tp, bp, yc⟩ := den_tup R.sub dc
    rw [R.len] at hj
    rcases (show (∃ ob, B a = some (.frz ob (.dT (ks.zip vs)))) ∨ ∃ xs, HO.dT (ks.zip vs) = .lst xs ∧ KLst a xs from x) with ⟨ob, hb⟩ | ⟨us, e2, _⟩
    · have ha : H a = some (.frz ob (.dT (ks.zip vs))) := R.sub _ _ hb
      have lz : (ks.zip vs).length = ks.length := by rw [List.length_zip]; omega
      refine ⟨v, s1, a, ob, ev, .inr ⟨_, ha, ?_⟩⟩
      intro Da hD
      have ne : ∀ b o, H b = some o → b ≠ Da := fun b o e z => by rw [z, hD] at e; cases e
      refine ⟨fun n m H' => m = ks.length - n ∧ n ≤ ks.length ∧ ∃ rs : List V, rs.length ≤ n ∧ (rs = [] ↔ ∀ q, q ∈ ks.take n → f q = false) ∧ H' = upd H Da (.lst rs), ⟨ks.length, rfl, Nat.zero_le _, [], by simp, by simp, rfl⟩, ?_⟩
      rintro n m H' ⟨rfl, hn, rs, hrs, hrf, rfl⟩
      have ha' : upd H Da (.lst rs) a = some (.frz ob (.dT (ks.zip vs))) := by rw [upd_ne (ne a _ ha)]; exact ha
      by_cases hlt : n < ks.length
      · refine .inr ⟨⟨ha', by rw [lz]; exact hlt⟩, fun H2 => ∃ rs : List V, rs.length ≤ n + 1 ∧ (rs = [] ↔ ∀ q, q ∈ ks.take (n + 1) → f q = false) ∧ H2 = upd H Da (.lst rs), fun H2 q => ⟨ks.length - (n + 1), by omega, rfl, hlt, q⟩, fun z H'' hy => ?_⟩
        obtain ⟨rfl, kk, vv, q, e3, ez, hq⟩ := hy
        have hn2 : n < vs.length := by omega
        have e4 : (ks.zip vs)[n]? = some (ks[n], vs[n]) := by
          rw [List.getElem?_eq_getElem (by rw [lz]; exact hlt), List.getElem_zip]
        rw [e4] at e3
        have e5 := Option.some.inj e3
        have ek : ks[n] = kk := congrArg Prod.fst e5
        have kf := hf _ (List.getElem_mem hlt)
        rw [ek] at kf
        unfold ovE at kf
        split at kf
        · rename_i a0 rest x0 ef
          split at kf
          · rename_i c0 ea
            have kf := Option.some.inj kf
            obtain ⟨v0, G0, f1, f2⟩ := lookup_key y ef
            have f2 : v0 = .int x0 := f2.1
            subst f2
            obtain ⟨jj, g1, g2⟩ := atI_len yc.len ea
            obtain ⟨w0, G3, g3, g4, _⟩ := yc.at g1
            have g4 : w0 = .int c0 := g4.1
            subst g4
            have ea2 := g2 _ g3
            have s1' : ((wipe σ [j]).set j (some (.ref q)))[i]? = some (some v) := by
              rw [List.getElem?_set_ne (Ne.symm hic)]
              show (σ.set j none)[i]? = _
              rw [List.getElem?_set_ne (Ne.symm hic)]; exact s1
            have s2' : ((wipe σ [j]).set j (some (.ref q)))[c]? = some (some w) := by
              rw [List.getElem?_set_ne (Ne.symm hcj)]
              show (σ.set j none)[c]? = _
              rw [List.getElem?_set_ne (Ne.symm hcj)]; exact s2
            have s3' : ((wipe σ [j]).set j (some (.ref q)))[j]? = some (some (V.ref q)) := by
              show ((σ.set j none).set j _)[j]? = _
              rw [List.getElem?_set_self (by rw [List.length_set]; exact hj)]
            subst ez
            refine ⟨?_, ?_⟩
            · show (((σ.set j none).set j _).set j none) = σ.set j none
              rw [List.set_set, List.set_set]
            · have hp' : upd H Da (.lst rs) p = some (.tup us) := by rw [upd_ne (ne p _ tp)]; exact tp
              refine ⟨v, s1', .ref q, s3', a, .int x0, ev, .inr ⟨_, _, q, .inr ⟨ob, ha'⟩, rfl, hq, by rw [valV_zipT]; exact f1.symm⟩, w, s2', .ref q, s3', .inr (.inl ⟨q, _, 0, .int a0, rfl, rfl, SqT.of hq, by rw [List.map_cons]; exact at0 .. , .inr (.inl ⟨p, us, a0, .int c0, ew, rfl, SqT.of hp', ea2, x0, c0, rfl, rfl, decide (c0 < x0), rfl, ?_⟩)⟩)⟩
              have tk : ks.take (n + 1) = ks.take n ++ [.inl a0 :: rest] := by
                rw [List.take_succ, List.getElem?_eq_getElem hlt, ek]; rfl
              have nx : decide (c0 < x0) = f (.inl a0 :: rest) := kf
              cases hc : decide (c0 < x0) with
              | true =>
                dsimp only
                rw [if_pos rfl]
                refine ⟨.ref q, s3', rs, upd_same, million (by omega), rs ++ [.ref q], by rw [List.length_append]; simp; omega, ⟨fun z => absurd z (by simp), fun z => ?_⟩, upd_upd⟩
                have := z (.inl a0 :: rest) (by rw [tk]; simp)
                rw [← nx, hc] at this
                cases this
              | false =>
                dsimp only
                rw [if_neg Bool.false_ne_true]
                refine ⟨rs, by omega, ?_, rfl⟩
                rw [hrf, tk]
                constructor
                · intro z q hq
                  rcases List.mem_append.mp hq with h | h
                  · exact z q h
                  · rw [List.mem_singleton.mp h, ← nx, hc]
                · exact fun z q hq => z q (List.mem_append.mpr (.inl hq))
          · cases kf
        · cases kf
      · have en : n = ks.length := by omega
        subst en
        refine .inl ⟨⟨ha', by rw [lz]; exact Nat.le_refl _⟩, ?_⟩
        rw [List.take_length] at hrf
        refine k _ _ _ ?_ (h rs hrf)
        exact out_lst ⟨B, [], Grow.refl R.sub, dens_csts rs, List.nodup_nil, fun a h => nomatch h⟩ hD
    · cases e2
  · exact h.elim
section
variable {X : Cx} {elt tg iter : Expr} {ifs : List Expr} {scope : Scope} {own : List (Str × Nat)} {pos : Pos} {i c j : Nat} {ti : TIv} {gv : TGv} {vg : List Nat} {tt : TTv} {te : TEv}
theorem e_keyC (hij : i ≠ j) (hcj : c ≠ j) (hc : X.calm = true) (hN : X.N.Nodup) (hi : VI X tg iter (iKeys (tVar i)) ti) (ok : BlkOk X.N X.env.scope scope own)
    (hg : ∀ (s : Shared) (H : Hp) (C : Addr) (cl : List (Str × Addr)) (fp : List Addr), VG (X.blk s H scope (compEnvC scope cl C X.env) fp) tg (gName j) gv vg) (hv : own.map (·.2) = [j])
    (ht : ∀ (s : Shared) (H : Hp) (C : Addr) (cl : List (Str × Addr)) (fp : List Addr), VTs (X.blk s H scope (compEnvC scope cl C X.env) fp) ifs (tTest (tOp (rI0 fun a b => .bl (decide (b < a))) (tDGet (tVar i) (tVar j)) (tOp (rIx KK.K) (tVar c) (tOp (rIx KK.K) (tVar j) (tC (.int 0)))))) tt)
    (he : ∀ (s : Shared) (H : Hp) (C : Addr) (cl : List (Str × Addr)) (fp : List Addr), VE (X.blk s H scope (compEnvC scope cl C X.env) fp) elt (tVar j) te) (hs : ∀ x, foldedSetIterable iter X.env x = pure x := by intro _; rfl) :
    VE X (.ListComp elt [⟨tg, iter, ifs, 0⟩] scope pos) (tLc (iKeys (tVar i)) (gName j) (tTest (tOp (rI0 fun a b => .bl (decide (b < a))) (tDGet (tVar i) (tVar j)) (tOp (rIx KK.K) (tVar c) (tOp (rIx KK.K) (tVar j) (tC (.int 0)))))) (tVar j) (own.map (·.2))) (vKeyC i c j) :=
  ⟨pe_lc hc hN hi.pi ok (fun s H C cl fp => (hg s H C cl fp).pg) (fun s H C cl fp => (ht s H C cl fp).pt) (fun s H C cl fp => (he s H C cl fp).pe) hs, by rw [hv]; exact lk_keyC hij hcj⟩
end
end VL

/-! ## VLK -/
/-! VL: max of a tuple of ints. -/
namespace VL
open PySem PySem.Spec L2
open PyProof.Rows hiding St
section
variable {prog : Program} {w : World} {A : Around} {E : Value → Shared → Prop} {s : Shared} {l : Addr} {its : List Value} {ns : List Int} {Q : Value → Shared → Prop}
theorem max_rawT (hh : A.handled = none) (hl : IsTup s.heap l its.toArray) (hi : IntsAre its ns) (hne : 0 < ns.length)
    (h : ∀ h' tk M t', (∀ b o, s.heap.get? b = some o → h'.get? b = some o) → M ∈ ns → (∀ a, a ∈ ns → a ≤ M) → Q (.int M t') { s with heap := h', toks := tk }) : wpAny (model prog w) A (call (.builtin "max") [.ref l]) Q E s := by
  obtain ⟨xs, e⟩ := hi.allInts.items
  have hn : numsOf (intItems xs).toList = ns := by rw [← e]; exact hi.numsOf
  rw [nums_intItems] at hn
  subst hn
  rw [e] at hl
  have hsz : 0 < xs.size := by simpa using hne
  have hlt : l < s.heap.objs.size := by obtain ⟨_, e, _⟩ := hl; exact Heap.lt_size e
  refine call_max_walk (iter_tuple hl ?_)
  refine ⟨_, _, _, _, _, _, _, rfl, Walks.tuple (A := A.in1) hh _ l (Nat.ne_of_lt hlt) (intItems xs), ⟨⟨_, Heap.get?_push_size _ rfl, rfl, rfl⟩, hl.push _⟩, ?_, by simpa [intItems] using hsz, CmpOf.ints_gt (numAt xs) (fun _ _ => intItems_at), fun v h' tk hP hk => ?_⟩
  · intro b hb
    show b < (s.heap.push _).objs.size
    rw [Heap.size_push]
    rcases List.mem_cons.mp hb with rfl | hb
    · exact Nat.lt_succ_self _
    · rw [List.mem_singleton.mp hb]; exact Nat.lt_succ_of_lt hlt
  · have hP : (intItems xs)[argBest (fun i j => decide (numAt xs i > numAt xs j)) (xs.size - 1)]? = some v := by simpa [intItems] using hP
    obtain ⟨t, rfl⟩ := intItems_at hP
    obtain ⟨h1, h2⟩ := argBest_gt (numAt xs) (xs.size - 1)
    refine h h' tk _ t (fun b o e => hk b o (fun hm => ?_) (Heap.get?_push_of_some _ e)) ?_ fun a ha => ?_
    · rw [List.mem_singleton.mp hm] at e
      exact absurd (Heap.lt_size e) (Nat.lt_irrefl _)
    · rw [numAt_eq]; exact PySem.getD_mem (by rw [List.length_map, Array.length_toList]; omega)
    · obtain ⟨j, hj, rfl⟩ := mem_getD ha
      rw [List.length_map, Array.length_toList] at hj
      rw [← numAt_eq]; exact h2 j (by omega)
end
variable [KK : KLs] [XX : XW]
def rMaxT (K : PySem.W.Frag) : List V → Hp → L2.VK → Prop := fun vs H Q => ∃ (a : Addr) (ns : List Int), vs = [V.ref a] ∧ SqT K H a (ns.map V.int) ∧ 0 < ns.length ∧ ∀ m, m ∈ ns → (∀ y, y ∈ ns → y ≤ m) → Q (.int m) H
theorem cr_maxT {X : Cx} (hc : X.calm = true) : CallR X (.builtin "max") (rMaxT X.K) := by
  intro pins s σ H vs us Q I r h
  obtain ⟨a, ns, rfl, hs, hne, q⟩ := h
  obtain ⟨its, rv, hl, _⟩ := I.tuple hs
  rw [Vals.ref1 r]
  exact max_rawT (I.ok.hd hc) hl rv.ints hne fun h' tk m t' hk h1 h2 => ⟨.int _, H, I.kept hk, ⟨_, rfl⟩, q m h1 h2⟩
def dMaxT : RNv := fun ds Q => match ds with
  | [.nd .tup xs] => match ints? xs with
    | some ns => 0 < ns.length ∧ ∀ m, m ∈ ns → (∀ y, y ∈ ns → y ≤ m) → Q (.int m)
    | none => False
  | _ => False
theorem lr_maxT : LRn (rMaxT KK.K) dMaxT := by
  intro B0 Z B H σ ρ ds vs F Qd Q R q h k
  unfold dMaxT at h
  split at h
  · split at h
    · rename_i xs ns e
      obtain ⟨v, e1, x⟩ := dens_one q
      obtain ⟨a, ws, e2, t, b, y⟩ := den_tup R.sub x
      subst e2
      rw [ints_of e] at y
      rw [dens_ints y] at t
      exact ⟨a, ns, e1, SqT.of t, h.1, fun m h1 h2 => k _ _ _ (Out.of R.sub den_int) (h.2 m h1 h2)⟩
    · exact h.elim
  · exact h.elim
theorem e_maxT {X : Cx} {e : Expr} {es : List Expr} {p pos : Pos} {T : TA} {t : TAv} (hc : X.calm = true) (hm : X.mg "max" = none) (ha : VA X (e :: es) T t) (hg : Gl X "max" := by rfl) (hs : St1 X e es pos := by exact ⟨rfl, rfl⟩) (hK : X.K = KK.K := by rfl) : VE X (.Call (.Name "max" p) (e :: es) [] pos) (tCB (rMaxT KK.K) T) (vB dMaxT t) := by
  rw [← hK]
  exact e_callB (cr_maxT hc) (by rw [hK]; exact lr_maxT) hg hm (by decide +kernel) ha (by decide) (by decide) hs.1 hs.2
end VL

/-! ## VLO -/
/-! VL: a class of the text as a value; isinstance of it; its own ==, != and len. -/
namespace VL
open PySem PySem.Spec L2
open PyProof.Rows hiding St
structure ClsF (K : PySem.W.Frag) (C : Addr) : Prop where
  cl : Cls K C
  ic : PySem.W.isClsIn K C = true
  ty : PySem.W.typeIn K (.ref C) = some (.type "type")
  ha : PySem.W.findIn K (.ref C) "__class__" = some (some (.builtin "object.__class__"))
  hn : PySem.W.specialIn K (.builtin "object.__class__") "__get__" = some (some (.builtin "getset_descriptor.__get__"))
  htk : PySem.W.takesIn K (.builtin "object.__class__") = some true
  hm : PySem.W.mroIn K C (.type "object") = some true
theorem sub_no {K : PySem.W.Frag} {C : Addr} : ∀ T ∈ tyNames, PySem.W.subIn K (.type T) (.ref C) = some false := by
  intro T hT
  simp only [tyNames, List.mem_cons, List.not_mem_nil, or_false] at hT
  rcases hT with rfl | rfl | rfl | rfl | rfl | rfl | rfl <;> kernel_rfl
theorem kit_no {K : PySem.W.Frag} {C : Addr} (F : ClsF K C) {T : String} (hT : T ∈ tyNames) : PySem.W.kitOne K (.type T) (.ref C) = some false := by
  unfold PySem.W.kitOne
  rw [if_neg (by simp)]
  show (if ((PySem.W.clsIn K C).isSome && PySem.W.typeIn K (.ref C) == some (.type "type")) = true then PySem.W.subIn K (.type T) (.ref C) else none) = _
  rw [if_pos (by rw [show (PySem.W.clsIn K C).isSome = true from F.ic, F.ty]; simp), sub_no T hT]
theorem kit_yes {K : PySem.W.Frag} {C : Addr} : PySem.W.kitOne K (.ref C) (.ref C) = some true := if_pos (by simp)
theorem nf_no {K : PySem.W.Frag} {C : Addr} {T : String} (hT : T ∈ tyNames) : PySem.W.notFirst K C (.type T) = true := by
  unfold PySem.W.notFirst
  rw [sub_no T hT]; simp
theorem nf_yes {K : PySem.W.Frag} {C : Addr} : PySem.W.notFirst K C (.ref C) = true := by
  unfold PySem.W.notFirst
  simp
variable [KK : KLs] [XX : XW]
def D.kn : D → Bool
  | .cst _ => false | .nd (.obj _ _) _ => false | .nd (.slf _ _ _) _ => false | .nd (.dtt _ _) _ => false | .nd (.lsk _) _ => false | _ => true
omit KK XX in
theorem kn_ty {d : D} (h : d.kn = true) : d.ty ≠ "?" := by
  cases d with
  | non => decide
  | bl b => show "bool" ≠ "?"; decide
  | int i => show "int" ≠ "?"; decide
  | str x => show "str" ≠ "?"; decide
  | cst v => exact nomatch h
  | nd hd xs =>
    cases hd with
    | tup => show "tuple" ≠ "?"; decide
    | lst f => show "list" ≠ "?"; decide
    | dct f ks => show "dict" ≠ "?"; decide
    | _ => exact nomatch h
/-- the second side of an own comparison -/
def okY (C : Addr) : D → Prop
  | .nd (.obj C' _) _ => C' = C
  | y => y.kn = true
theorem okY_ty {Z B H : Hp} {C : Addr} {y : D} {v : V} {F : List Addr} (CF : ClsF KK.K C) (s : Same B H) (x : Den Z B H y v F) (h : okY C y) : ∃ tb, TyX KK.K H v tb ∧ PySem.W.notFirst KK.K C tb = true := by
  have other : y.kn = true → ∃ tb, TyX KK.K H v tb ∧ PySem.W.notFirst KK.K C tb = true := fun k => ⟨_, den_tyx s x (kn_ty k), nf_no (ty_mem (kn_ty k))⟩
  cases y with
  | nd hd xs =>
    cases hd with
    | obj C' ns =>
      have e : C' = C := h
      subst e
      obtain ⟨a, o, vs, G, ev, hx, ⟨l, dx, c⟩, q, f⟩ := x
      subst ev c
      exact ⟨_, .base (.ins (s _ _ hx) CF.cl CF.ha CF.hn CF.htk CF.hm), nf_yes⟩
    | _ => exact other h
  | _ => exact other h
/-! ### isinstance(x, C) -/
def dIsiO (C : Addr) : RNv := fun ds Q => match ds with
  | [.nd (.obj C' _) _, .cst (.ref c)] => c = C ∧ C' = C ∧ Q (.bl true)
  | [d, .cst (.ref c)] => d.kn = true ∧ c = C ∧ Q (.bl false)
  | _ => False
theorem lr_isiO {C : Addr} (CF : ClsF KK.K C) : LRn (rIsi KK.K) (dIsiO C) := by
  intro B0 Z B H σ ρ ds vs F Qd Q R q h k
  unfold dIsiO at h
  split at h
  · obtain ⟨rfl, rfl, h⟩ := h
    obtain ⟨v, w, G1, G2, e, x, y, _⟩ := dens_two q
    have y : w = .ref _ := y.1
    subst y
    obtain ⟨a, o, us, G, ev, hx, ⟨l, dx, c⟩, q', f⟩ := x
    subst ev c
    exact ⟨_, _, _, _, true, e, .own _, .base (.ins (R.sub _ _ hx) CF.cl CF.ha CF.hn CF.htk CF.hm), kit_yes, k _ _ _ (Out.of R.sub den_bl) h⟩
  · obtain ⟨kn, rfl, h⟩ := h
    obtain ⟨v, w, G1, G2, e, x, y, _⟩ := dens_two q
    have y : w = .ref _ := y.1
    subst y
    exact ⟨_, _, _, _, false, e, .own _, den_tyx R.sub x (kn_ty kn), kit_no CF (ty_mem (kn_ty kn)), k _ _ _ (Out.of R.sub den_bl) h⟩
  · exact h.elim
/-! ### x == y, x != y by the class's own method -/
def rOwn (K : PySem.W.Frag) (C : Addr) (sp : Sp) : R2 := fun x y H Q => ∃ a dx fs, x = .ref a ∧ H a = some (.ins C dx fs) ∧ (∃ tb, TyX K H y tb ∧ PySem.W.notFirst K C tb = true) ∧ sp [x, y] H (fun v H' => ∃ b, v = .bl b ∧ Q v H') E0
theorem op_own {X : Cx} {op : CmpOp} {C f : Addr} {k : Nat} {fd : FuncData} {ps : List Str} {sp : Sp} (F : FnOk X.prog X.w X.K X.mg X.base (L2N.CX X.prog X.w) k f fd ps sp) (hs : PySem.W.findIn X.K (.ref C) (cmpInfo op).2.1 = some (some (.ref f))) (hf : PySem.W.isFn X.K (.ref f) = true) (hb : Binds X.K fd ps []) (hr : Room k X.A)
    (hop : ∀ v u, compareOp op v u = richCompare op v u) : OpR X (compareOp op) (rOwn X.K C sp) := by
  intro pins s σ H x y v u Q I rx ry h
  obtain ⟨a, dx, fs, rfl, ha, ⟨tb, ty, nf⟩, hsp⟩ := h
  cases rx
  obtain ⟨mA, J, _⟩ := ins_get I.hok ha
  obtain ⟨od, J, _⟩ := J.look
  obtain ⟨m, hF⟩ := I.fr
  obtain ⟨P, Z, p, _⟩ := kit_of I ry ty
  rw [hop]
  refine PySem.W.cmp_K (op := op) (tb := tb) (by have := hr.un; omega) hF I.ok.mod.kin J (Z.ty _ _ I.kIn p) nf hs hf ?_
  refine wpAny_mono (run_fn (Q := fun v H' => ∃ b, v = .bl b ∧ Q v H') F hr hb .nil passN I (show Vals [V.ref a, y] [Value.ref a, u] from .cons rfl (.cons ry .nil)) (by simpa using hsp)) (fun r s' q => ?_) fun _ _ e => e
  obtain ⟨z, H', I', rz, b, ez, q⟩ := q
  subst ez
  cases rz
  exact ⟨.bl b, H', I', rfl, q⟩
def vOwn (C : Addr) (P : PV) (ta tb : TEv) : TEv := fun ρ Q => ta ρ fun x => tb ρ fun y => match x with
  | .nd (.obj C' _) _ => C' = C ∧ okY C y ∧ P [x.arg, y.arg] (fun d => d.ow = true ∧ match d with | .bl b => Q (.bl b) | _ => False) (fun _ => False)
  | _ => False
theorem lk_own {C : Addr} {P : PV} {Ta Tb : TE} {ta tb : TEv} (CF : ClsF KK.K C) (la : LE Ta ta) (lb : LE Tb tb) : LE (tOp (rOwn KK.K C (spV 2 P)) Ta Tb) (vOwn C P ta tb) := by
  intro B0 Z B H σ ρ Qd Q R h k
  refine la B0 Z B H σ ρ _ _ R h fun x vx H1 ⟨B1, F, g, dx, n, f⟩ h => ?_
  refine lb B0 Z B1 H1 σ ρ _ _ (R.grow g) h fun y vy H2 ⟨B2, F2, g2, dy, n2, f2⟩ h => ?_
  split at h
  · rename_i C' ns xs _ _
    obtain ⟨rfl, oy, hP⟩ := h
    have dx2 := dx.grow g2.sb g2.sh
    obtain ⟨a, o, us, G, ev, hx, ⟨l, ddx, c⟩, q', fe⟩ := id dx2
    subst ev c
    refine ⟨a, ddx, _, rfl, g2.sub _ _ hx, okY_ty CF g2.sub dy oy, ?_⟩
    have := hand_call (n := 2) (P := P) (dds := []) (dvs := []) (ds := [.nd (.obj C' ns) xs, y]) (vs := [.ref a, vy]) (F := F ++ (F2 ++ [])) (Qd := fun d => match d with | .bl b => Qd (.bl b) | _ => False) (Q := fun v H' => ∃ b, v = .bl b ∧ Q v H') R (g.trans g2) ⟨_, _, _, _, rfl, dx2, ⟨_, _, _, _, rfl, dy, ⟨rfl, rfl⟩, rfl⟩, rfl⟩ True.intro rfl hP fun d v H' o q => ?_
    · simpa using this
    · split at q
      · rename_i b
        obtain ⟨B3, F3, g3, x3, _⟩ := id o
        exact ⟨b, x3.1, k _ _ _ o q⟩
      · exact q.elim
  · exact h.elim
/-! ### len(x) by the class's own method -/
def rLenO (C : Addr) (sp : Sp) : List V → Hp → L2.VK → Prop := fun xs H Q => ∃ a dx fs, xs = [V.ref a] ∧ H a = some (.ins C dx fs) ∧ sp [.ref a] H (fun v H' => ∃ n : Int, v = .int n ∧ 0 ≤ n ∧ n < 2 ^ 63 ∧ Q v H') E0
theorem cr_lenO {X : Cx} {C f : Addr} {k : Nat} {fd : FuncData} {ps : List Str} {sp : Sp} (F : FnOk X.prog X.w X.K X.mg X.base (L2N.CX X.prog X.w) k f fd ps sp) (hs : PySem.W.findIn X.K (.ref C) "__len__" = some (some (.ref f))) (hf : PySem.W.isFn X.K (.ref f) = true) (hb : Binds X.K fd ps []) (hr : Room (k + 1) X.A) : CallR X (.builtin "len") (rLenO C sp) := by
  intro pins s σ H vs us Q I r h
  obtain ⟨a, dx, fs, rfl, ha, hsp⟩ := h
  rw [Vals.ref1 r]
  obtain ⟨mA, J, _⟩ := ins_get I.hok ha
  obtain ⟨od, J, _⟩ := J.look
  obtain ⟨m, hF⟩ := I.fr
  refine PySem.W.len_K hF I.ok.mod.kin J hs hf ?_
  have e0 : Env0 X.prog X.w X.K X.mg X.base X.A.in1 X.stack s H := by
    have e := I.env0
    exact ⟨e.frames, e.mod, e.bs, e.bsz, e.funs, e.frf, e.hok, e.bare⟩
  have hl := F.len _ _ _ _ hsp
  have r2 : Vals [V.ref a] [Value.ref a] := .cons rfl .nil
  refine wpAny_call (codeAny_mono (F.run X.A.in1 X.stack s H ⟨[.ref a], []⟩ [.ref a] [.ref a] _ E0 hr.in1 e0 (by
    have := hb s [.ref a] I.kIn (by simpa using hl)
    simpa using this) r2 hsp) fun r s' hq => ?_)
  cases r with
  | error e => exact passN pins σ H s e s' I hq
  | ok fl =>
    cases fl with
    | ret w =>
      obtain ⟨z, H', I', rz, n, ez, h0, h1, q⟩ := I.after hq
      subst ez
      obtain ⟨t, rfl⟩ := rz
      exact ⟨⟨h0, h1⟩, ⟨.int n, H', I'.tok _, ⟨_, rfl⟩, q⟩⟩
    | next => exact False.elim hq
    | brk => exact False.elim hq
    | cont => exact False.elim hq
def dLenO (C : Addr) (P : PV) : RNv := fun ds Q => match ds with
  | [.nd (.obj C' ns) xs] => C' = C ∧ P [D.arg (.nd (.obj C' ns) xs)] (fun d => d.ow = true ∧ match d with | .int n => 0 ≤ n ∧ n < 2 ^ 63 ∧ Q (.int n) | _ => False) (fun _ => False)
  | _ => False
theorem lr_lenO {C : Addr} {P : PV} : LRn (rLenO C (spV 1 P)) (dLenO C P) := by
  intro B0 Z B H σ ρ ds vs F Qd Q R q h k
  unfold dLenO at h
  split at h
  · rename_i C' ns xs
    obtain ⟨rfl, hP⟩ := h
    obtain ⟨v, e1, x⟩ := dens_one q
    obtain ⟨a, o, us, G, ev, hx, ⟨l, ddx, c⟩, q', fe⟩ := id x
    subst ev c e1
    refine ⟨a, ddx, _, rfl, R.sub _ _ hx, ?_⟩
    have := hand_call (n := 1) (P := P) (dds := []) (dvs := []) (Qd := fun d => match d with | .int n => 0 ≤ n ∧ n < 2 ^ 63 ∧ Qd (.int n) | _ => False) (Q := fun v H' => ∃ n : Int, v = .int n ∧ 0 ≤ n ∧ n < 2 ^ 63 ∧ Q v H') R (Grow.refl R.sub) q True.intro rfl hP fun d v H' o q => ?_
    · simpa using this
    · split at q
      · rename_i n
        obtain ⟨h0, h1, q⟩ := q
        obtain ⟨B3, F3, g3, x3, _⟩ := id o
        exact ⟨n, x3.1, h0, h1, k _ _ _ o q⟩
      · exact q.elim
  · exact h.elim
/-! ### the rules -/
/-- a method of a class that the language calls by itself -/
structure Met (P : Program) (w : World) (K : PySem.W.Frag) (mg : Str → Option Value) (base : Heap) (k : Nat) (C : Addr) (m : Str) (n : Nat) (Pv : PV) : Prop where
  ex : ∃ (f : Addr) (fd : FuncData) (ps : List Str), FnOk P w K mg base (L2N.CX P w) k f fd ps (spV n Pv) ∧ PySem.W.findIn K (.ref C) m = some (some (.ref f)) ∧ PySem.W.isFn K (.ref f) = true ∧ Binds K fd ps []
section
variable {X : Cx} {k j : Nat} {C f : Addr} {P : PV} {a b e : Expr} {es : List Expr} {p pos : Pos} {x : Str} {Ta Tb : TE} {ta tb : TEv} {T : TA} {t : TAv} {fd : FuncData} {ps : List Str}
theorem e_eqO (CF : ClsF KK.K C) (F : FnOk X.prog X.w X.K X.mg X.base (L2N.CX X.prog X.w) k f fd ps (spV 2 P)) (hs : PySem.W.findIn X.K (.ref C) "__eq__" = some (some (.ref f))) (hf : PySem.W.isFn X.K (.ref f) = true) (hb : Binds X.K fd ps []) (hr : Room j X.A) (hk : k ≤ j)
    (h1 : VE X a Ta ta) (h2 : VE X b Tb tb) (hK : X.K = KK.K := by rfl) : VE X (.Compare a [.Eq] [b] pos) (tOp (rOwn KK.K C (spV 2 P)) Ta Tb) (vOwn C P ta tb) :=
  ⟨by rw [← hK]; exact pe_cmpR (op_own (op := .Eq) F hs hf hb (hr.mono hk) fun _ _ => rfl) h1.pe h2.pe (nomark _), lk_own CF h1.lk h2.lk⟩
theorem t_eqO (CF : ClsF KK.K C) (F : FnOk X.prog X.w X.K X.mg X.base (L2N.CX X.prog X.w) k f fd ps (spV 2 P)) (hs : PySem.W.findIn X.K (.ref C) "__eq__" = some (some (.ref f))) (hf : PySem.W.isFn X.K (.ref f) = true) (hb : Binds X.K fd ps []) (hr : Room j X.A) (hk : k ≤ j)
    (h1 : VE X a Ta ta) (h2 : VE X b Tb tb) (hK : X.K = KK.K := by rfl) : VT X (.Compare a [.Eq] [b] pos) (tTest (tOp (rOwn KK.K C (spV 2 P)) Ta Tb)) (vTest (vOwn C P ta tb)) :=
  ⟨by rw [← hK]; exact pt_cmpR (op_own (op := .Eq) F hs hf hb (hr.mono hk) fun _ _ => rfl) h1.pe h2.pe (nomark _), lk_test (lk_own CF h1.lk h2.lk)⟩
theorem e_neO (CF : ClsF KK.K C) (F : FnOk X.prog X.w X.K X.mg X.base (L2N.CX X.prog X.w) k f fd ps (spV 2 P)) (hs : PySem.W.findIn X.K (.ref C) "__ne__" = some (some (.ref f))) (hf : PySem.W.isFn X.K (.ref f) = true) (hb : Binds X.K fd ps []) (hr : Room j X.A) (hk : k ≤ j)
    (h1 : VE X a Ta ta) (h2 : VE X b Tb tb) (hK : X.K = KK.K := by rfl) : VE X (.Compare a [.NotEq] [b] pos) (tOp (rOwn KK.K C (spV 2 P)) Ta Tb) (vOwn C P ta tb) :=
  ⟨by rw [← hK]; exact pe_cmpR (op_own (op := .NotEq) F hs hf hb (hr.mono hk) fun _ _ => rfl) h1.pe h2.pe (nomark _), lk_own CF h1.lk h2.lk⟩
theorem e_lenO (F : FnOk X.prog X.w X.K X.mg X.base (L2N.CX X.prog X.w) k f fd ps (spV 1 P)) (hs : PySem.W.findIn X.K (.ref C) "__len__" = some (some (.ref f))) (hf : PySem.W.isFn X.K (.ref f) = true) (hb : Binds X.K fd ps []) (hr : Room j X.A) (hk : k + 1 ≤ j)
    (hm : X.mg "len" = none) (ha : VA X (e :: es) T t) (hg : Gl X "len" := by rfl) (hs2 : St1 X e es pos := by exact ⟨rfl, rfl⟩) : VE X (.Call (.Name "len" p) (e :: es) [] pos) (tCB (rLenO C (spV 1 P)) T) (vB (dLenO C P) t) :=
  e_callB (cr_lenO F hs hf hb (hr.mono hk)) lr_lenO hg hm (by decide +kernel) ha (by decide) (by decide) hs2.1 hs2.2
theorem e_clsV (hm : X.mg x = some (.ref C)) (hg : Gl X x := by rfl) (hd : (x == ("__debug__" : Str)) = false := by decide) : VE X (.Name x pos) (tC (.ref C)) (vC (.cst (.ref C))) :=
  ⟨pe_glob hg hm (show RelV (V.ref C) (Value.ref C) from rfl) hd, lk_c fun _ _ _ => den_cst⟩
theorem e_isiO (CF : ClsF KK.K C) (hm : X.mg "isinstance" = none) (ha : VA X (e :: es) T t) (hg : Gl X "isinstance" := by rfl) (hs : St1 X e es pos := by exact ⟨rfl, rfl⟩) (hK : X.K = KK.K := by rfl) : VE X (.Call (.Name "isinstance" p) (e :: es) [] pos) (tCB (rIsi KK.K) T) (vB (dIsiO C) t) := by
  rw [← hK] at CF ⊢
  exact e_callB call_isi (by rw [hK] at CF ⊢; exact lr_isiO CF) hg hm (by decide +kernel) ha (by decide) (by decide) hs.1 hs.2
end
end VL

/-! ## VLJ -/
/-! VL: an own list that a name and a dict hold at the same time: its place is told (vKnow), the dict holds the place alone, and at the end they are put together (vKnit). -/
namespace VL
open PySem PySem.Spec L2
open PyProof.Rows hiding St
variable [KK : KLs] [XX : XW]
def vKnow (i : Nat) (t : TSv) : TSv := fun W ρ => match ρ[i]? with
  | some (some (.nd (.lst .o) xs)) => ∀ y : Addr, t W (ρ.set i (some (.nd (.lsk (.c y)) xs)))
  | _ => False
theorem lk_know {i : Nat} {T : TS} {t : TSv} (l : LS T t) : LS T (vKnow i t) := by
  intro B0 Z B H σ ρ Dv De R h S
  unfold vKnow at h
  split at h
  · rename_i xs e
    obtain ⟨F, q, n, z⟩ := R.ex
    obtain ⟨v, G, Rr, h1, h2, h3, h4, h5, h6, h7, h8⟩ := q.part n e
    obtain ⟨a, o, vs, G', ev, x, c, yd, f⟩ := h3
    have h2' : (nbF .o && D.alls nbF xs) = true := h2
    obtain ⟨F', k1, k2, k3⟩ := h8.fill (d := .nd (.lsk (.c a)) xs) (length_of_get e) h1 h7 (by show (nbF (.c a) && D.alls nbF xs) = true; simpa [nbF] using h2') ⟨a, o, vs, G', ev, ⟨x, rfl⟩, c, yd, f⟩ h4 h5
    exact l B0 Z B H σ _ Dv De ⟨R.xl, R.gr, F', k1, k2, fun b m => z b (h6 b ((k3 b m).elim .inr .inl))⟩ (h a) S
  · exact h.elim
def vKnit (i j : Nat) (t : TSv) : TSv := fun W ρ => match ρ[i]?, ρ[j]? with
  | some (some (.nd (.lsk (.c y)) xs)), some (some (.nd (.dct .o ks) (.cst (.ref y') :: ds))) => y' = y ∧ i ≠ j ∧ t W ((ρ.set i none).set j (some (.dct .o ks (.lst .o xs :: ds))))
  | _, _ => False
theorem lk_knit {i j : Nat} {T : TS} {t : TSv} (l : LS T t) : LS T (vKnit i j t) := by
  intro B0 Z B H σ ρ Dv De R h S
  unfold vKnit at h
  split at h
  · rename_i y xs ks y' ds ei ej
    obtain ⟨rfl, ne, h⟩ := h
    obtain ⟨F, q, n, z⟩ := R.ex
    obtain ⟨v, G, Rr, h1, h2, h3, h4, h5, h6, h7, h8⟩ := q.part n ei
    obtain ⟨a, o, vs, G', ev, ⟨x, ea⟩, c, yd, f⟩ := h3
    subst ea
    have f : G = a :: G' := f
    subst f
    have ej2 : (ρ.set i none)[j]? = some (some (.nd (.dct .o ks) (.cst (.ref a) :: ds))) := by rw [List.getElem?_set_ne ne]; exact ej
    obtain ⟨v2, G2, Rr2, j1, j2, j3, j4, j5, j6, j7, j8⟩ := h8.part h7 ej2
    obtain ⟨b, o2, vs2, Gd, ev2, x2, c2, yd2, f2⟩ := j3
    have f2 : G2 = b :: Gd := f2
    subst f2
    obtain ⟨w, ws, W1, W2, ew, ⟨ew2, eW1⟩, yd3, fd⟩ := yd2
    subst ew2 eW1 ew
    have fd : Gd = W2 := fd
    subst fd
    have nbx : D.alls nbF xs = true := by
      have : (nbF (.c a) && D.alls nbF xs) = true := h2
      simpa [nbF] using this
    have nbd : D.alls nbF ds = true := by
      have : (nbF .o && (D.all nbF (.cst (.ref a)) && D.alls nbF ds)) = true := j2
      simpa [nbF, D.all] using this
    have dj : ∀ u, u ∈ a :: G' → u ∉ b :: Gd := fun u m m2 => h5 u m (j6 u (.inl m2))
    have nj := List.nodup_cons.mp j4
    obtain ⟨F', k1, k2, k3⟩ := j8.fill (d := .dct .o ks (.lst .o xs :: ds)) (v := v2) (G := b :: ((a :: G') ++ Gd)) (length_of_get ej2) j1 j7 (by show (nbF .o && ((nbF .o && D.alls nbF xs) && D.alls nbF ds)) = true; rw [nbx, nbd]; rfl)
      ⟨b, o2, _, (a :: G') ++ Gd, ev2, x2, c2, ⟨_, _, a :: G', Gd, rfl, ⟨a, o, vs, G', rfl, x, c, yd, rfl⟩, yd3, rfl⟩, rfl⟩
      (List.nodup_cons.mpr ⟨fun m => (List.mem_append.mp m).elim (fun m => dj b m List.mem_cons_self) nj.1, List.nodup_append.mpr ⟨h4, nj.2, fun u hu w hw e => by subst e; exact dj u hu (List.mem_cons_of_mem _ hw)⟩⟩)
      (fun u m m2 => by
        rcases List.mem_cons.mp m with e | m
        · subst e; exact j5 u List.mem_cons_self m2
        · rcases List.mem_append.mp m with m | m
          · exact h5 u m (j6 u (.inr m2))
          · exact j5 u (List.mem_cons_of_mem _ m) m2)
    refine l B0 Z B H σ _ Dv De ⟨R.xl, R.gr, F', k1, k2, fun u m => z u ?_⟩ h S
    rcases k3 u m with m | m
    · exact h6 u (.inr (j6 u (.inr m)))
    · rcases List.mem_cons.mp m with e | m
      · subst e; exact h6 u (.inr (j6 u (.inl List.mem_cons_self)))
      · rcases List.mem_append.mp m with m | m
        · exact h6 u (.inl m)
        · exact h6 u (.inr (j6 u (.inl (List.mem_cons_of_mem _ m))))
  · exact h.elim
/-- the place alone -/
def vVarK (i : Nat) : TEv := fun ρ Q => match ρ[i]? with
  | some (some (.nd (.lsk (.c y)) _)) => Q (.cst (.ref y))
  | _ => False
theorem lk_varK (i : Nat) : LE (tVar i) (vVarK i) := by
  intro B0 Z B H σ ρ Qd Q R h k
  unfold vVarK at h
  split at h
  · rename_i y xs e
    obtain ⟨v, G, h1, h2, h3, h4, h5⟩ := R.get' e
    obtain ⟨a, o, vs, G', ev, ⟨x, ea⟩, c, yd, f⟩ := h3
    subst ea
    exact ⟨v, h1, k (.cst (.ref _)) v H (Out.of R.sub (show Den Z B H (.cst (.ref _)) v [] from ⟨ev, rfl⟩)) h⟩
  · exact h.elim
/-- seen as a list -/
def vVarB (i : Nat) : TEv := fun ρ Q => match ρ[i]? with
  | some (some (.nd (.lsk (.c _)) xs)) => D.alls coF xs = true ∧ Q (.lst .b xs)
  | _ => False
theorem lk_varB (i : Nat) : LE (tVar i) (vVarB i) := by
  intro B0 Z B H σ ρ Qd Q R h k
  unfold vVarB at h
  split at h
  · rename_i y xs e
    obtain ⟨v, G, h1, h2, h3, h4, h5⟩ := R.get' e
    obtain ⟨a, o, vs, G', ev, ⟨x, ea⟩, c, yd, f⟩ := h3
    have e2 := Dens.nofp _ _ _ h.1 yd
    subst e2
    exact ⟨v, h1, k _ _ _ (Out.of R.sub (show Den Z B H (.lst .b xs) v [] from ⟨_, o, vs, [], ev, x, c, yd, rfl⟩)) h.2⟩
  · exact h.elim
def vAppK (i : Nat) (te : TEv) : TSv := fun D ρ => match ρ[i]? with
  | some (some (.nd (.lsk (.c y)) xs)) => te ρ fun d => d.nb = true ∧ xs.length < 1000000 ∧ D.nx (ρ.set i (some (.nd (.lsk (.c y)) (xs ++ [d]))))
  | _ => False
theorem lk_appK {i : Nat} {Te : TE} {te : TEv} (l : LE Te te) : LS (tDrop (tBM KK.K "list" rAppend (tVar i) (tCons Te tNil))) (vAppK i te) := by
  intro B0 Z B H σ ρ Dv De R h S
  unfold vAppK at h
  split at h
  · rename_i y0 xs e
    obtain ⟨a, o0, vs, G, h1, hx, c, y, nb, ng, aG, fG, W⟩ := R.write (h := .lsk (.c y0)) e (.inr ⟨y0, rfl⟩)
    have c : o0 = .lst vs := c
    subst c
    refine ⟨_, h1, .inl ⟨rfl, _, .inl (.inl hx)⟩, ?_⟩
    refine l B0 Z B H σ ρ _ _ R h fun d v H1 ⟨B1, F, g, x, nF, fF⟩ ⟨nbd, hl, q⟩ => ?_
    refine ⟨a, vs, v, rfl, rfl, g.sh _ _ hx, by rw [← y.len]; exact million (Nat.le_of_lt hl), ?_⟩
    refine S.nx _ _ _ _ (W (.lsk (.c y0)) (xs ++ [d]) (.lst (vs ++ [v])) B1 H1 (vs ++ [v]) (G ++ F) rfl g rfl (Dens.app (Dens.grow g.sb g.sh _ _ _ y) (Dens.one x)) (List.nodup_append.mpr ⟨ng, nF, fun b hb b' hb' z => ?_⟩) (by rw [alls_app, nb]; simp [D.alls, nbd]) (fun b hb => ?_)) q
    · subst z
      obtain ⟨o, eo, nt⟩ := Dens.liveN _ _ _ y b hb
      rw [(fF b hb').2] at eo
      cases eo
    · rcases List.mem_append.mp hb with m | m
      · exact .inl m
      · exact .inr (fF b m)
  · exact h.elim
def vSetIxK (i : Nat) (tk te : TEv) : TSv := fun W ρ => te ρ fun d => match ρ[i]? with
  | some (some (.nd (.lsk (.c y0)) xs)) => tk ρ fun y => match y with
    | .int k => d.nb = true ∧ D.alls coF xs = true ∧ ∃ j, ixN xs.length k = some j ∧ W.nx (ρ.set i (some (.nd (.lsk (.c y0)) (xs.set j d))))
    | _ => False
  | _ => False
theorem lk_setIxK {i : Nat} {Te Tk : TE} {te tk : TEv} (l : LE Te te) (lk : LE Tk tk) : LS (tAsg Te (gSub (tVar i) Tk rSetL)) (vSetIxK i tk te) := by
  intro B0 Z B H σ ρ Dv De R h S
  refine l B0 Z B H σ ρ _ _ R h fun d v H1 ⟨B1, F, g, x, nF, fF⟩ h => ?_
  split at h
  · rename_i y0 xs e
    obtain ⟨a, o0, vs, G, h1, hx, c, y, nb, ng, aG, fG, W⟩ := R.write (h := .lsk (.c y0)) e (.inr ⟨y0, rfl⟩)
    have c : o0 = .lst vs := c
    subst c
    refine ⟨_, h1, ?_⟩
    refine lk B0 Z B1 H1 σ ρ _ _ (R.grow g) h fun ky kv H2 ⟨B2, F2, g2, x2, _, _⟩ h => ?_
    split at h
    · obtain ⟨nbd, co, j, hj, q⟩ := h
      have hjl := ixN_lt hj
      have g12 := g.trans g2
      have eG := Dens.nofp _ _ _ co y
      subst eG
      refine ⟨a, vs, _, j, rfl, x2.1, g12.sh _ _ hx, by rw [← y.len]; exact hj, ?_⟩
      refine S.nx _ _ _ _ (W (.lsk (.c y0)) (xs.set j d) (.lst (vs.set j v)) B2 H2 (vs.set j v) F rfl g12 rfl (Dens.set j (Dens.grow g12.sb g12.sh _ _ _ y) (x.grow g2.sb g2.sh) hjl) nF (alls_set j nb nbd) (fun b hb => .inr ?_)) q
      obtain ⟨o, eo, nt⟩ := x.liveN _ _ _ b hb
      exact ⟨g2.old b o eo nt (fF b hb).1, (fF b hb).2⟩
    · exact h.elim
  · exact h.elim
def vPopK (i : Nat) : TSv := fun W ρ => match ρ[i]? with
  | some (some (.nd (.lsk (.c y0)) xs)) => 0 < xs.length ∧ D.alls coF xs = true ∧ W.nx (ρ.set i (some (.nd (.lsk (.c y0)) (xs.take (xs.length - 1)))))
  | _ => False
theorem lk_popK {i : Nat} : LS (tDrop (tBM0 KK.K "list" rPop (tVar i))) (vPopK i) := by
  intro B0 Z B H σ ρ Dv De R h S
  unfold vPopK at h
  split at h
  · rename_i y0 xs e
    obtain ⟨hn, co, h⟩ := h
    obtain ⟨a, o0, vs, G, h1, hx, c, y, nb, ng, aG, fG, W⟩ := R.write (h := .lsk (.c y0)) e (.inr ⟨y0, rfl⟩)
    have c : o0 = .lst vs := c
    subst c
    have eG := Dens.nofp xs vs G co y
    subst eG
    have el : xs.length = vs.length := y.len
    have hv : vs.length - 1 < vs.length := by omega
    refine ⟨_, h1, .inl ⟨rfl, _, .inl (.inl hx)⟩, a, vs, vs[vs.length - 1], rfl, rfl, hx, List.getElem?_eq_getElem hv, ?_⟩
    rw [List.dropLast_eq_take]
    refine S.nx _ _ _ _ (W (.lsk (.c y0)) (xs.take (xs.length - 1)) (.lst (vs.take (vs.length - 1))) B H (vs.take (vs.length - 1)) [] rfl (Grow.refl R.sub) rfl (by rw [el]; exact Dens.take _ y) List.nodup_nil ?_ (fun b hb => nomatch hb)) h
    rw [D.alls_eq, List.all_eq_true] at nb ⊢
    exact fun d hd => nb d (List.mem_of_mem_take hd)
  · exact h.elim
section
variable {X : Cx} {e : Expr} {st : Stmt} {T : TS} {t : TSv} {Te Tk : TE} {te tk : TEv} {i : Nat}
theorem e_varK (h : VE X e (tVar i) (vVar i)) : VE X e (tVar i) (vVarK i) := ⟨h.pe, lk_varK i⟩
theorem e_varB (h : VE X e (tVar i) (vVar i)) : VE X e (tVar i) (vVarB i) := ⟨h.pe, lk_varB i⟩
theorem s_know (i : Nat) (h : VS X st T t) : VS X st T (vKnow i t) := ⟨h.ps, lk_know h.lk⟩
theorem s_knit (i j : Nat) (h : VS X st T t) : VS X st T (vKnit i j t) := ⟨h.ps, lk_knit h.lk⟩
theorem s_popK (h : VS X st (tDrop (tBM0 KK.K "list" rPop (tVar i))) (vPop i)) : VS X st (tDrop (tBM0 KK.K "list" rPop (tVar i))) (vPopK i) := ⟨h.ps, lk_popK⟩
end
section
variable {X : Cx} {e k : Expr} {pos p1 p2 p3 p4 p5 : Pos} {Te Tk : TE} {te tk : TEv} {x : Str}
theorem s_appK (i : Nat) (he : VE X e Te te) (hN : X.N[i]? = some x := by rfl) (hv : Vis X.env.scope x := by first | exact Or.inl rfl | exact Or.inr (Or.inl rfl) | exact Or.inr (Or.inr rfl)) (hd : (x == ("__debug__" : Str)) = false := by decide) (hcd : (x == ("__classdict__" : Str)) = false := by decide)
    (hbase : attributeBase (.Name x p1) "append" X.env (eval (.Name x p1) X.env) = eval (.Name x p1) X.env := by rfl)
    (hfew : ((backTo p3 (starEach [e] X.env)).all (fun x => !x.1) && (backToKw p3 (keywordEach [] X.env)).all (fun x => x.1.isSome)
      && decide (([e] : List Expr).length + ([] : List Keyword).length + (if ([] : List Keyword).isEmpty then 0 else 1) < 30)) = true := by rfl)
    (hline : (p2.endLine == p3.line) = true := by rfl) (hs : starEach [e] X.env = (false, eval e X.env) :: starEach [] X.env := by rfl) (hplain : (backTo p3 (starEach [] X.env)).any (·.1) = false := by rfl)
    (hsw : swapsWith (.Call (.Attribute (.Name x p1) "append" p2) [e] [] p3) none p4.line X.env = pure false := by rfl) (hK : X.K = KK.K := by rfl) :
    VS X (.Expr (.Call (.Attribute (.Name x p1) "append" p2) [e] [] p3) p4) (tDrop (tBM KK.K "list" rAppend (tVar i) (tCons Te tNil))) (vAppK i te) := by
  rw [← hK]
  exact ⟨ps_expr (pe_bm PySem.F.plainAttrs_list PySem.F.slot_list_append PySem.F.type_list_append mt_append (pe_var hN hv hd hcd) (pa_cons he.pe pa_nil hs) hbase hfew hline hs hplain) hsw, by rw [hK]; exact lk_appK he.lk⟩
theorem s_setIxK (i : Nat) (he : VE X e Te te) (hk : VE X k Tk tk) (hN : X.N[i]? = some x := by rfl) (hv : Vis X.env.scope x := by first | exact Or.inl rfl | exact Or.inr (Or.inl rfl) | exact Or.inr (Or.inr rfl)) (hd : (x == ("__debug__" : Str)) = false := by decide) (hcd : (x == ("__classdict__" : Str)) = false := by decide)
    (hs : swapsWithSole [.Subscript (.Name x p1) k p2] e pos.line X.env = pure false := by rfl) (hw : swappedStores [.Subscript (.Name x p1) k p2] e X.env = pure none := by rfl)
    (ha : ∀ v, assign (.Subscript (.Name x p1) k p2) X.env v = (do
      let ov ← holding [v] (eval (.Name x p1) X.env)
      let iv ← holding [v, ov] (eval k X.env)
      standAt p2
      holding [v, ov, iv] (setItem ov iv v)
      release [v, ov, iv] []) := by intro _; rfl) :
    VS X (.Assign [.Subscript (.Name x p1) k p2] e pos) (tAsg Te (gSub (tVar i) Tk rSetL)) (vSetIxK i tk te) :=
  ⟨ps_asg he.pe (pg_sub (pe_var hN hv hd hcd) hk.pe set_list ha) hs hw rfl, lk_setIxK he.lk hk.lk⟩
end
end VL

/-! ## VLI -/
/-! VL: own methods o.m(e, ..), own + , while. -/
namespace PySem.W
open Lean Elab Tactic Meta PySem PySem.Calls PyProof.Rows
section
variable {prog : Program} {w : World} {A : Around} {E : Value → Shared → Prop} {s : Shared} {K : Frag} {x C L f : Addr} {h₀ : Heap} {m : Str → Option Value} {ox : Obj} {od : Option Obj} {T : String}
/-- + by the left side's own method; the right side is a thing of a built-in type -/
theorem vl_bin {op : Operator} {b : Value} {fo ro rc : Option Value} {Q : Value → Shared → Prop} (F : Fr h₀ L s.heap m) (X₀ : K.In h₀) (I : InstAt s.heap x ox C od) (hb : Looks (model prog w) s.heap (typeOf b) (.type T)) (hc : selfFirst K C = true)
    (hs : findIn K (.ref C) (PySem.dunder op.info.2) = some (some (.ref f))) (hf : isFn K (.ref f) = true) (hr : findIn K (.ref C) (dunderR op.info.2) = some rc) (hp : rc = none ∨ ∃ g : Addr, rc = some (.ref g))
    (h1 : findIn K (.type T) (PySem.dunder op.info.2) = some fo) (h2 : findIn K (.type T) (dunderR op.info.2) = some ro) (hsub : subIn K (.type T) (.ref C) = some false)
    (h : wpAny (model prog w) A (call (.ref f) [.ref x, b]) (CmpBack Q) E s) : wpAny (model prog w) A (binaryOp op (.ref x) b) Q E s := by
  have X := X₀.keeps F.keep
  obtain ⟨cd, rest, hcd, hm⟩ := ksp_first hc
  rcases hi : op.info with ⟨sym, nm'⟩
  rw [hi] at hs hr h1 h2
  dsimp only at hs hr h1 h2
  have one := ksp_try X I hs hf h
  obtain ⟨hh, g, d, tt, os⟩ := s
  have L1 : Looks (model prog w) hh (typeOf (.ref x)) (.ref C) := I.type
  have L2 : Looks (model prog w) hh (typeOf b) (.type T) := hb
  have L3 : Looks (model prog w) hh (fillsNumberSlot (.ref C) nm') true := fills_K X hcd hm hs
  have L4 : Looks (model prog w) hh (fillsNumberSlot (.type T) nm') ((fo.isSome && !isSeqSlot fo) || (ro.isSome && !isSeqSlot ro)) := ksp_fillsT X h1 h2
  have L5 : Looks (model prog w) hh (isSubtype (.type T) (.ref C)) false := looks_subIn X hsub
  have L6 : Looks (model prog w) hh (numberSlotInPython (.ref C) nm') true := ksp_inPy X hs hr hp
  have L7 : Looks (model prog w) hh (numberSlotInPython (.type T) nm') false := Looks.of_pure rfl
  have L8 : Looks (model prog w) hh (typeLookup (.type T) (dunderR nm')) ro := looks_findIn X h2
  generalize ((fo.isSome && !isSeqSlot fo) || (ro.isSome && !isSeqSlot ro)) = right at L4
  have hne : (Value.ref C == Value.type T) = false := Bool.eq_false_iff.mpr fun q => by cases beq_iff_eq.mp q
  simp only [binaryOp, hi]
  refine wpAny_holding (wpAny_bind ?_)
  unfold binaryOp1
  refine wpAny_bind (L1.at (wpAny_bind (L2.at (wpAny_bind (L3.at ?_)))))
  simp only [hne, Bool.false_eq_true, if_false]
  cases right with
  | false =>
    ksp_lk
    refine wpAny_mono one (fun r s' hr' => ?_) fun _ _ e => e
    obtain ⟨v, rfl, hq⟩ := hr'
    ksp_lk
    exact hq
  | true =>
    ksp_lk
    refine wpAny_mono one (fun r s' hr' => ?_) fun _ _ e => e
    obtain ⟨v, rfl, hq⟩ := hr'
    ksp_lk
    exact hq
end
end PySem.W
namespace VL
open PySem PySem.Spec L2
open PyProof.Rows hiding St
variable [KK : KLs] [XX : XW]
omit KK XX in
theorem lookup_none {m : Str} : ∀ (ns : List Str) (vs : List V), m ∉ ns → (ns.zip vs).lookup m = none
  | [], _, _ => rfl
  | n :: ns, [], _ => rfl
  | n :: ns, v :: vs, h => by
    rw [List.zip_cons_cons, List.lookup_cons]
    rw [show (m == n) = false by
      rw [Bool.eq_false_iff]
      intro e
      exact h (by rw [eq_of_beq e]; exact List.mem_cons_self)]
    exact lookup_none ns vs fun e => h (List.mem_cons_of_mem _ e)
omit KK XX in
theorem maps_lenI (g : Fl → Fl) : ∀ ds : List D, (D.maps g ds).length = ds.length
  | [] => rfl
  | d :: ds => by rw [D.maps, List.length_cons, List.length_cons, maps_lenI g ds]
/-! ### o.m(e, ..) -/
def vMeth (n : Nat) (C : Addr) (m : Str) (P : PV) (ta : TEv) (t : TAv) : TEv := fun ρ Q => ta ρ fun x => match x with
  | .nd (.obj C' ns) xs => C' = C ∧ m ∉ ns ∧ t ρ fun ds => ds.length + 1 = n ∧ P (D.arg (.nd (.obj C' ns) xs) :: D.maps fArg ds) (fun d => d.ow = true ∧ Q d) (fun _ => False)
  | _ => False
theorem lk_meth {n : Nat} {C : Addr} {m : Str} {P : PV} {Ta : TE} {ta : TEv} {T : TA} {t : TAv} (la : LE Ta ta) (lb : LA T t) : LE (tMeth C m (spV n P) [] E0 Ta T) (vMeth n C m P ta t) := by
  intro B0 Z B H σ ρ Qd Q R h k
  refine la B0 Z B H σ ρ _ _ R h fun x vx H1 ⟨B1, F, g, dx, nf, f⟩ h => ?_
  split at h
  · rename_i C' ns xs _
    obtain ⟨rfl, hm, h⟩ := h
    obtain ⟨a, o, us, G, ev, hx, ⟨l, ddx, c⟩, q', fe⟩ := id dx
    subst ev c
    refine ⟨a, ddx, _, rfl, (R.grow g).sub _ _ hx, lookup_none _ _ hm, ?_⟩
    refine lb B0 Z B1 H1 σ ρ _ _ (R.grow g) h fun ds vs H2 ⟨B2, F2, g2, q, nd, f2⟩ h => ?_
    obtain ⟨hl, hP⟩ := h
    have dx2 := dx.grow g2.sb g2.sh
    have := hand_call (n := n) (P := P) (dds := []) (dvs := []) (ds := .nd (.obj C' ns) xs :: ds) (vs := .ref a :: vs) (F := F ++ F2) (Qd := Qd) (Q := Q) R (g.trans g2) ⟨_, _, _, _, rfl, dx2, q, rfl⟩ True.intro (by
      rw [D.maps, List.append_nil, List.length_cons, maps_lenI]; exact hl) (by rw [D.maps, List.append_nil]; exact hP) k
    simpa using this
  · exact h.elim
/-! ### x + y by the own method of x -/
structure AddF (K : PySem.W.Frag) (C : Addr) : Prop where
  sf : PySem.W.selfFirst K C = true
  hr : PySem.W.findIn K (.ref C) "__radd__" = some none
theorem find_add {K : PySem.W.Frag} {T : String} (h : T = "list" ∨ T = "tuple") : ∃ fo ro, PySem.W.findIn K (.type T) "__add__" = some fo ∧ PySem.W.findIn K (.type T) "__radd__" = some ro := by
  have e : ∀ n : Str, (PySem.W.findIn K (.type T) n).isSome = true → ∃ r, PySem.W.findIn K (.type T) n = some r := fun n h => Option.isSome_iff_exists.mp h
  rcases h with rfl | rfl
  · obtain ⟨fo, h1⟩ := e "__add__" (by kernel_rfl)
    obtain ⟨ro, h2⟩ := e "__radd__" (by kernel_rfl)
    exact ⟨fo, ro, h1, h2⟩
  · obtain ⟨fo, h1⟩ := e "__add__" (by kernel_rfl)
    obtain ⟨ro, h2⟩ := e "__radd__" (by kernel_rfl)
    exact ⟨fo, ro, h1, h2⟩
def rAddO (K : PySem.W.Frag) (C : Addr) (sp : Sp) : R2 := fun x y H Q => ∃ a dx fs T, x = .ref a ∧ H a = some (.ins C dx fs) ∧ TyX K H y (.type T) ∧ (T = "list" ∨ T = "tuple") ∧ sp [x, y] H Q E0
theorem op_addO {X : Cx} {C f : Addr} {k : Nat} {fd : FuncData} {ps : List Str} {sp : Sp} (AF : AddF X.K C) (F : FnOk X.prog X.w X.K X.mg X.base (L2N.CX X.prog X.w) k f fd ps sp) (hs : PySem.W.findIn X.K (.ref C) "__add__" = some (some (.ref f))) (hf : PySem.W.isFn X.K (.ref f) = true) (hb : Binds X.K fd ps []) (hr : Room k X.A) :
    OpR X (binaryOp .Add) (rAddO X.K C sp) := by
  intro pins s σ H x y v u Q I rx ry h
  obtain ⟨a, dx, fs, T, rfl, ha, ty, hT, hsp⟩ := h
  cases rx
  obtain ⟨mA, J, _⟩ := ins_get I.hok ha
  obtain ⟨od, J, _⟩ := J.look
  obtain ⟨m, hF⟩ := I.fr
  obtain ⟨P, Z, p, _⟩ := kit_of I ry ty
  obtain ⟨fo, ro, h1, h2⟩ := find_add (K := X.K) hT
  have hsub : PySem.W.subIn X.K (.type T) (.ref C) = some false := sub_no T (by rcases hT with rfl | rfl <;> simp [tyNames])
  refine PySem.W.vl_bin (op := .Add) hF I.ok.mod.kin J (Z.ty _ _ I.kIn p) AF.sf hs hf AF.hr (.inl rfl) h1 h2 hsub ?_
  refine wpAny_mono (run_fn (Q := Q) F hr hb .nil passN I (show Vals [V.ref a, y] [Value.ref a, u] from .cons rfl (.cons ry .nil)) (by simpa using hsp)) (fun r s' q => ?_) fun _ _ e => e
  obtain ⟨z, H', I', rz, q⟩ := q
  cases z with
  | non => cases rz; exact ⟨.non, H', I', rfl, q⟩
  | bl b => cases rz; exact ⟨.bl b, H', I', rfl, q⟩
  | int i => obtain ⟨t, rfl⟩ := rz; exact ⟨.int i, H', I', ⟨_, rfl⟩, q⟩
  | str i => obtain ⟨t, rfl⟩ := rz; exact ⟨.str i, H', I', ⟨_, rfl⟩, q⟩
  | byt i => obtain ⟨t, rfl⟩ := rz; exact ⟨.byt i, H', I', ⟨_, rfl⟩, q⟩
  | flt i => obtain ⟨t, rfl⟩ := rz; exact ⟨.flt i, H', I', ⟨_, rfl⟩, q⟩
  | ref a => cases rz; exact ⟨.ref a, H', I', rfl, q⟩
  | ty n => cases rz; exact ⟨.ty n, H', I', rfl, q⟩
def vAddO (C : Addr) (P : PV) (ta tb : TEv) : TEv := fun ρ Q => ta ρ fun x => tb ρ fun y => match x with
  | .nd (.obj C' _) _ => C' = C ∧ (y.ty = "list" ∨ y.ty = "tuple") ∧ P [x.arg, y.arg] (fun d => d.ow = true ∧ Q d) (fun _ => False)
  | _ => False
theorem lk_addO {C : Addr} {P : PV} {Ta Tb : TE} {ta tb : TEv} (la : LE Ta ta) (lb : LE Tb tb) : LE (tOp (rAddO KK.K C (spV 2 P)) Ta Tb) (vAddO C P ta tb) := by
  intro B0 Z B H σ ρ Qd Q R h k
  refine la B0 Z B H σ ρ _ _ R h fun x vx H1 ⟨B1, F, g, dx, n, f⟩ h => ?_
  refine lb B0 Z B1 H1 σ ρ _ _ (R.grow g) h fun y vy H2 ⟨B2, F2, g2, dy, n2, f2⟩ h => ?_
  split at h
  · rename_i C' ns xs _ _
    obtain ⟨rfl, oy, hP⟩ := h
    have dx2 := dx.grow g2.sb g2.sh
    obtain ⟨a, o, us, G, ev, hx, ⟨l, ddx, c⟩, q', fe⟩ := id dx2
    subst ev c
    refine ⟨a, ddx, _, _, rfl, g2.sub _ _ hx, den_tyx g2.sub dy (by rcases oy with e | e <;> rw [e] <;> decide), oy, ?_⟩
    have := hand_call (n := 2) (P := P) (dds := []) (dvs := []) (ds := [.nd (.obj C' ns) xs, y]) (vs := [.ref a, vy]) (F := F ++ (F2 ++ [])) (Qd := Qd) (Q := Q) R (g.trans g2) ⟨_, _, _, _, rfl, dx2, ⟨_, _, _, _, rfl, dy, ⟨rfl, rfl⟩, rfl⟩, rfl⟩ True.intro rfl hP k
    simpa using this
  · exact h.elim
/-! ### while -/
/-- the loop: a measure and what holds ahead of each turn -/
def vWhile (tc : TTv) (tb : TSv) : TSv := fun D ρ => ∃ I : Nat → Env → Prop, (∃ m, I m ρ) ∧ ∀ m ρ, I m ρ → tc ρ fun b => if b = true then tb { nx := fun ρ' => ∃ m', m' < m ∧ I m' ρ', rt := D.rt, bk := D.nx, ct := fun ρ' => ∃ m', m' < m ∧ I m' ρ' } ρ else D.nx ρ
theorem lk_while {Tc : TT} {tc : TTv} {T : TS} {t : TSv} (lc : LT Tc tc) (lt : LS T t) : LS (tWhile Tc T) (vWhile tc t) := by
  intro B0 Z B H σ ρ Dv De R h S
  obtain ⟨I, ⟨m0, h0⟩, hs⟩ := h
  refine ⟨fun m σ' H' => ∃ B' ρ', Rep B0 Z B' H' σ' ρ' ∧ I m ρ', ⟨m0, B, ρ, R, h0⟩, ?_⟩
  rintro m σ' H' ⟨B', ρ', R', h'⟩
  refine lc B0 Z B' H' σ' ρ' _ _ R' (hs m ρ' h') fun b B1 H1 g q => ?_
  cases b with
  | true =>
    rw [if_pos rfl] at q ⊢
    refine ⟨fun σ2 H2 => ∃ m', m' < m ∧ ∃ B2 ρ2, Rep B0 Z B2 H2 σ2 ρ2 ∧ I m' ρ2, fun σ2 H2 z => z, ?_⟩
    refine lt B0 Z B1 H1 σ' ρ' _ _ (R'.grow g) q ⟨fun B2 H2 σ2 ρ2 R2 q => ?_, fun d v H2 o ow q => ?_, fun B2 H2 σ2 ρ2 R2 q => ?_, fun B2 H2 σ2 ρ2 R2 q => ?_⟩
    · obtain ⟨m', hm, i⟩ := q
      exact ⟨m', hm, B2, ρ2, R2, i⟩
    · exact S.rt d v H2 o ow q
    · exact S.nx _ _ _ _ R2 q
    · obtain ⟨m', hm, i⟩ := q
      exact ⟨m', hm, B2, ρ2, R2, i⟩
  | false =>
    rw [if_neg Bool.false_ne_true] at q ⊢
    exact S.nx _ _ _ _ (R'.grow g) q
/-! ### the rules -/
/-- a method that the text calls by its name -/
structure Mth (P : Program) (w : World) (K : PySem.W.Frag) (mg : Str → Option Value) (base : Heap) (k : Nat) (C : Addr) (m : Str) (n : Nat) (Pv : PV) : Prop where
  ex : ∃ (f : Addr) (fd : FuncData) (ps : List Str), FnOk P w K mg base (L2N.CX P w) k f fd ps (spV n Pv) ∧ Meth K C m f ∧ Binds K fd ps []
section
variable {X : Cx} {k j n : Nat} {C f : Addr} {P : PV} {a b c o e : Expr} {es : List Expr} {m : Str} {p pos apos : Pos} {x : Str} {Ta Tb : TE} {ta tb : TEv} {T : TA} {t : TAv} {fd : FuncData} {ps : List Str} {Tc : TT} {tc : TTv} {ss : List Stmt} {U : TS} {u : TSv}
theorem e_meth {pl : Sem Bool} (CF : Cls X.K C) (F : FnOk X.prog X.w X.K X.mg X.base (L2N.CX X.prog X.w) k f fd ps (spV n P)) (hm : Meth X.K C m f) (hb : Binds X.K fd ps []) (hr : Room j X.A) (hk : k ≤ j)
    (ho : VE X o Ta ta) (ha : VA X (e :: es) T t) (hst : starEach (e :: es) X.env = (false, eval e X.env) :: starEach es X.env := by rfl) (hpl : (backTo pos (starEach es X.env)).any (·.1) = false := by rfl)
    (ht : eval (.Call (.Attribute o m apos) (e :: es) [] pos) X.env = (do
      let ov ← eval o X.env
      standAt apos.atName
      let (f, first) ← holding [ov] (getMethod ov m pl)
      callWith pos f first (backTo pos (starEach (e :: es) X.env)) (backToKw pos (keywordEach [] X.env))) := by rfl) : VE X (.Call (.Attribute o m apos) (e :: es) [] pos) (tMeth C m (spV n P) [] E0 Ta T) (vMeth n C m P ta t) :=
  ⟨pe_meth (pl := pl) ho.pe CF hm F (hr.mono hk) hb .nil passN ha.pa hst hpl ht, lk_meth ho.lk ha.lk⟩
theorem e_meth0 {pl : Sem Bool} (CF : Cls X.K C) (F : FnOk X.prog X.w X.K X.mg X.base (L2N.CX X.prog X.w) k f fd ps (spV n P)) (hm : Meth X.K C m f) (hb : Binds X.K fd ps []) (hr : Room j X.A) (hk : k ≤ j) (ho : VE X o Ta ta)
    (ht : eval (.Call (.Attribute o m apos) [] [] pos) X.env = (do
      let ov ← eval o X.env
      standAt apos.atName
      let (f, first) ← holding [ov] (getMethod ov m pl)
      callWith pos f first (backTo pos (starEach [] X.env)) (backToKw pos (keywordEach [] X.env))) := by rfl) : VE X (.Call (.Attribute o m apos) [] [] pos) (tMeth C m (spV n P) [] E0 Ta tNil) (vMeth n C m P ta vNil) :=
  ⟨pe_meth0 (pl := pl) ho.pe CF hm F (hr.mono hk) hb .nil passN ht, lk_meth ho.lk lk_nil⟩
theorem e_addO (AF : AddF KK.K C) (F : FnOk X.prog X.w X.K X.mg X.base (L2N.CX X.prog X.w) k f fd ps (spV 2 P)) (hs : PySem.W.findIn X.K (.ref C) "__add__" = some (some (.ref f))) (hf : PySem.W.isFn X.K (.ref f) = true) (hb : Binds X.K fd ps []) (hr : Room j X.A) (hk : k ≤ j)
    (h1 : VE X a Ta ta) (h2 : VE X b Tb tb) (hK : X.K = KK.K := by rfl) : VE X (.BinOp a .Add b pos) (tOp (rAddO KK.K C (spV 2 P)) Ta Tb) (vAddO C P ta tb) :=
  ⟨by rw [← hK] at AF ⊢; exact pe_op (op_addO AF F hs hf hb (hr.mono hk)) h1.pe h2.pe, lk_addO h1.lk h2.lk⟩
theorem s_while (hp : PassesOwn (model X.prog X.w) X.A X.env X.xe) (hc : VT X c Tc tc) (hb : VSs X ss U u) : VS X (.While c ss [] pos) (tWhile Tc U) (vWhile tc u) := ⟨ps_while hp hc.pt hb.ps, lk_while hc.lk hb.lk⟩
end
end VL

/-! ## VLH -/
set_option maxHeartbeats 1000000
/-! VL: what an own class's __iter__ hands back (iter of a tuple of its own): walked, and list(o). -/
namespace VL
open PySem PySem.Spec L2
open PyProof.Rows hiding St
variable [KK : KLs] [XX : XW]
/-- at it the iterator of the tuple at l -/
def ItT (l it : Addr) (i : Nat) : HO := .ext fun h => h.IsTupleIter it l i
theorem itT_ok {P : Program} {w : World} {H : Hp} {h : Heap} {l it : Addr} {i : Nat} (e : h.IsTupleIter it l i) : ObjOk P w H h it (ItT l it i) := ⟨e, by obtain ⟨o, ho, _⟩ := e; exact ⟨o, ho⟩, fun h1 h2 q k => q.at fun o e => k o e⟩
/-- iter(t), t a tuple -/
def rIterT (K : PySem.W.Frag) (n : Nat) : List V → Hp → L2.VK → Prop := fun xs H Q => ∃ (l : Addr) (zs : List V), xs = [.ref l] ∧ SqT K H l zs ∧ ∀ it, H it = none → n ≤ it → Q (.ref it) (upd H it (ItT l it 0))
theorem call_iterT {X : Cx} : CallR X (.builtin "iter") (rIterT X.K X.s_0.heap.objs.size) := by
  intro pins s σ H xs us Q I r h
  obtain ⟨l, zs, rfl, hq, q⟩ := h
  obtain rfl := Vals.ref1 r
  obtain ⟨its, rv, p, hz⟩ := I.tuple hq
  refine Calls.call_function_entry (by decide +kernel) (by decide +kernel) PySem.W.kdk_entry_iter (PySem.W.kdk_args_iter _) ?_
  unfold Builtin.«iter»
  refine wpAny_bind (m := someArgs "iter" 1 2 _) (wpAny_of_eq (a := [Value.ref l]) (by first | rfl | kernel_rfl!) ?_)
  show wpAny _ _ (pyIter (.ref l) >>= _) _ _ _
  refine wpAny_bind (wpAny_pyIter_tuple (show s.heap.IsTuple l its.toArray from p) ?_)
  refine wpAny_pure ⟨_, rfl, ?_⟩
  exact ⟨.ref s.heap.objs.size, _, I.laid (t' := s.toks) (fun b u e => Heap.get?_push_of_some _ e) (Nat.le_refl _) (itT_ok ⟨_, Heap.get?_push_size _ rfl, rfl, rfl⟩), rfl, q _ (I.hok.fresh (Nat.le_refl _)) I.sz⟩
/-- a def self.__iter__ that ends with iter(self.fld), fld a tuple -/
structure FnIt (P : Program) (w : World) (K : PySem.W.Frag) (mg : Str → Option Value) (base : Heap) (k : Nat) (f : Addr) (fd : FuncData) (C : Addr) (fld : Str) : Prop where
  run : ∀ (A : Around) (outer : List PySem.Env) (s : Shared) (H : Hp) (args : Args) (Q : L2.VK) (a dx : Addr) (fs : List (Str × V)) (l : Addr) (zs : List V), Room k A → Env0 P w K mg base A outer s H → BindsTo s fd args [("self", .ref a)] → H a = some (.ins C dx fs) → fs.lookup fld = some (.ref l) → SqT K H l zs →
    (∀ it, H it = none → s.heap.objs.size ≤ it → Q (.ref it) (upd H it (ItT l it 0))) → codeAny (model P w) A (.call (.ref f) args) (CR (L2N.CX P w) outer P w H s Q E0) s
def spItN (K : PySem.W.Frag) (C : Addr) (fld : Str) (n : Nat) : Sp := fun vs H Q _ => ∃ a dx fs l zs, vs = [V.ref a] ∧ H a = some (.ins C dx fs) ∧ fs.lookup fld = some (.ref l) ∧ SqT K H l zs ∧ ∀ it, H it = none → n ≤ it → Q (.ref it) (upd H it (ItT l it 0))
/-- fn_of with the place of what is new -/
theorem fn_it {P : Program} {w : World} {K : PySem.W.Frag} {mg : Str → Option Value} {base : Heap} {k : Nat} {f : Addr} {x qual : Str} {params : Arguments} {body : List Stmt} {scope : Scope} {dvs : List V} {kws : List (Str × V)} {fd : FuncData} {N : List Str} {C : Addr} {fld : Str}
    (F : FunD K x qual params body scope dvs kws f fd) (S : FnScope N ["self"] scope)
    (hb : ∀ (cdv : Value) (A : Around) (outer : List PySem.Env) (s : Shared) (H : Hp) (vs : List V) (Q : L2.VK) (E : XK), Room k (A.deeper (envOfC qual scope s.heap.objs.size f cdv)) → spItN K C fld s.heap.objs.size vs H Q E →
      ∃ t, PSs (cxOf (L2N.CX P w) P w K mg base N qual scope f cdv A outer s H E) body t ∧ t { nx := fun _ H' => Q .non H', rt := Q } (L2.start N vs) H) : FnIt P w K mg base (k + 1) f fd C fld := by
  obtain ⟨oc, od, dV, kV, doc, pm, an, cdv, ct, osl, rfl, lk, hcd, _, _⟩ := F.ex
  refine ⟨fun A outer s H args Q a dx fs l zs hr e0 hbd ha hlk hz hq0 => ?_⟩
  have hl : ([V.ref a] : List V).length = (["self"] : List Str).length := rfl
  have r : Vals [V.ref a] [Value.ref a] := .cons rfl .nil
  have hsp : spItN K C fld s.heap.objs.size [V.ref a] H Q E0 := ⟨a, dx, fs, l, zs, rfl, ha, hlk, hz, hq0⟩
  have KX : K.In s.heap := e0.mod.kin.keeps fun b o e => (e0.bs b o e).1
  have lim : s.heap.NoLimit := e0.mod.nolimit.keeps fun b o e => (e0.bs b o e).1
  have hkind : ∀ y ∈ (["self"] : List Str).zip [Value.ref a], scope.names.lookup y.1 = some .local ∨ (scope.names.lookup y.1 = some .cell ∧ ((cellsFrom (s.heap.objs.size + 1) scope.names []).lookup y.1).isSome = true) := fun ⟨n, v⟩ hy => by
    rcases S.par n (List.of_mem_zip hy).1 with q | q
    · exact .inl q
    · exact .inr ⟨q, PySem.W.cellsFrom_some _ _ _ (.inl q)⟩
  refine codeAny_call_function hr.depth (KX _ _ lk) rfl S.co S.gen rfl (PySem.W.codeRec_of KX hcd) (hbd _ _ _ _ ?_)
  refine wpAny_newFunctionEnv_cells S.kind hkind fun env he s1 x => ?_
  subst he
  refine ⟨lim.keeps x.toInCall.keep, codeAny_func ?_⟩
  obtain ⟨t, ht, hq⟩ := hb cdv A outer s H [V.ref a] Q E0 (hr.deeper _) hsp
  have I : Inv (cxOf (L2N.CX P w) P w K mg base N qual scope f cdv A outer s H E0) [] (L2.start N [V.ref a]) H s1 := inv_start S hr.hd e0 hl r x
  refine wpAny_mono (ht.run [] s1 (L2.start N [V.ref a]) H _ I hq) (fun fl s' hs => ?_) fun e s' hs => hs
  have fin : ∀ {σ' : L2.St} {H' : Hp} {v : V} {u : Value}, Inv (cxOf (L2N.CX P w) P w K mg base N qual scope f cdv A outer s H E0) [] σ' H' s' → RelV v u → Q v H' → CE outer P w H s Q u s' :=
    fun {σ' H' v u} J rv q => ⟨v, H', J.os, J.bare, J.base, J.hok, rv, q⟩
  cases fl with
  | ret u =>
    obtain ⟨v, σ', H', J, rv, q⟩ := hs
    exact fin J rv q
  | next =>
    obtain ⟨σ', H', J, q⟩ := hs
    exact fin (v := V.non) (u := Value.none) J rfl q
  | brk =>
    obtain ⟨_, _, _, q⟩ := hs
    exact False.elim q
  | cont =>
    obtain ⟨_, _, _, q⟩ := hs
    exact False.elim q
/-- .. its body: return iter(self.fld) -/
theorem it_body {X : Cx} {fld : Str} {p1 p2 p3 p4 p5 : Pos} (hg : Gl X "iter") (hm : X.mg "iter" = none) (hN : X.N[0]? = some ("self" : Str)) (hv : Vis X.env.scope "self")
    (hb : attributeBase (.Name "self" p2) fld X.env (eval (.Name "self" p2) X.env) = eval (.Name "self" p2) X.env := by rfl)
    (he : starEach [.Attribute (.Name "self" p2) fld p3] X.env = (false, eval (.Attribute (.Name "self" p2) fld p3) X.env) :: starEach [] X.env := by rfl) (hpl : (backTo p4 (starEach [] X.env)).any (·.1) = false := by rfl) :
    PSs X [.Return (some (.Call (.Name "iter" p1) [.Attribute (.Name "self" p2) fld p3] [] p4)) p5] (tRet (tCB (rIterT X.K X.s_0.heap.objs.size) (tCons (tFld X.K (tVar 0) fld) tNil))) :=
  pss_one (ps_ret (pe_callB call_iterT hg hm (by decide +kernel) (pa_cons (pe_fld (pe_var hN hv) hb) pa_nil he) (by decide) (by decide) he hpl))
theorem it_math {K : PySem.W.Frag} {C : Addr} {fld : Str} {n : Nat} {vs : List V} {H : Hp} {Q : L2.VK} {E : XK} {N : List Str} (fo : FldOk K C fld) (hN : 0 < N.length) (h : spItN K C fld n vs H Q E) (D : Ends) (hD : D.rt = Q) :
    (tRet (tCB (rIterT K n) (tCons (tFld K (tVar 0) fld) tNil))) D (L2.start N vs) H := by
  obtain ⟨a, dx, fs, l, zs, rfl, ha, hl, hz, hq⟩ := h
  refine ⟨.ref a, ?_, a, C, dx, fs, .ref l, rfl, ha, fo.1, fo.2, hl, l, zs, rfl, hz, fun it h1 h2 => ?_⟩
  · cases N with
    | nil => exact absurd hN (by decide)
    | cons x xs => rfl
  · rw [hD]; exact hq it h1 h2

/-! ### o walked -/
def iOwnT (K : PySem.W.Frag) (C : Addr) (fld : Str) (te : TE) : TI := fun σ H R => te σ H fun x H1 => ∃ a dx fs l zs, x = .ref a ∧ H1 a = some (.ins C dx fs) ∧ fs.lookup fld = some (.ref l) ∧ SqT K H1 l zs ∧ R (Itt K l) H1
section
variable {X : Cx} {C f : Addr} {fd : FuncData} {fld : Str} {k : Nat}
/-- the own class's part -/
structure ItF (K : PySem.W.Frag) (C f : Addr) : Prop where
  it : PySem.W.findIn K (.ref C) "__iter__" = some (some (.ref f))
  fn : PySem.W.isFn K (.ref f) = true
theorem own_iter {pins : List (Addr × Obj)} {σ : L2.St} {H : Hp} {s : Shared} {A1 : Around} {a dx l : Addr} {fs : List (Str × V)} {zs : List V} {Q : Value → Shared → Prop} (sb : Sub X k A1) (hc : ItF X.K C f)
    (F : FnIt X.prog X.w X.K X.mg X.base k f fd C fld) (b : Binds X.K fd ["self"] []) (I : Inv X pins σ H s) (ha : H a = some (.ins C dx fs)) (hl : fs.lookup fld = some (.ref l)) (hz : SqT X.K H l zs)
    (hQ : ∀ it s', H it = none → s.heap.objs.size ≤ it → Inv X pins σ (upd H it (ItT l it 0)) s' → Q (.ref it) s') : wpAny (model X.prog X.w) A1 (pyIter (.ref a)) Q X.xe s := by
  obtain ⟨mA, J, _⟩ := ins_get I.hok ha
  obtain ⟨od, J, _⟩ := J.look
  obtain ⟨m0, hF⟩ := I.fr
  refine PySem.W.owit_iter hF I.ok.mod.kin J hc.it hc.fn ?_
  have e0 : Env0 X.prog X.w X.K X.mg X.base A1 X.stack s H := by
    have e := I.env0
    exact ⟨by rw [sb.fr]; exact e.frames, e.mod, e.bs, e.bsz, e.funs, e.frf, e.hok, e.bare⟩
  refine wpAny_call (codeAny_mono (F.run A1 X.stack s H ⟨[.ref a], []⟩ (fun v H' => ∃ it, v = .ref it ∧ H it = none ∧ s.heap.objs.size ≤ it ∧ H' = upd H it (ItT l it 0)) a dx fs l zs sb.room e0 (by
    have := b s [.ref a] I.kIn rfl
    simpa using this) ha hl hz fun it h1 h2 => ⟨it, rfl, h1, h2, rfl⟩) fun r s' hq' => ?_)
  cases r with
  | error e => exact passN pins σ H s e s' I hq'
  | ok fl =>
    cases fl with
    | next => exact False.elim hq'
    | brk => exact False.elim hq'
    | cont => exact False.elim hq'
    | ret u =>
      obtain ⟨v, H', I', rv, it, ev, h1, h2, eH⟩ := I.after hq'
      subst ev
      rw [eH] at I'
      cases rv
      have st : s'.heap.IsTupleIter it l 0 := (I'.hok it _ upd_same).1
      exact wpAny_specialOf (name := Str.ofString "__next__") st.typeIs slot_tupleiter_next.lookup (hQ it s' h1 h2 I')
theorem pi_own {tg e : Expr} {te : TE} (hc : ItF X.K C f) (F : FnIt X.prog X.w X.K X.mg X.base k f fd C fld) (b : Binds X.K fd ["self"] []) (hr : Room k X.A) (he : PE X e te) : PI X tg e (iOwnT X.K C fld te) := by
  refine ⟨fun pins s σ H R I h => ?_⟩
  refine thn (he.run pins s σ H _ I h) fun u s1 ⟨v, H1, I1, r1, a, dx, fs, l, zs, ev, ha, hl, hz, hR⟩ => ?_
  subst ev
  cases r1
  refine own_iter ⟨hr, rfl⟩ hc F b I1 ha hl hz fun it s' h1 h2 I' => ?_
  have st : s'.heap.IsTupleIter it l 0 := (I'.hok it _ upd_same).1
  have e : (upd H1 it (ItT l it 0)) it = some (ItT l it 0) := upd_same
  have e' := e
  unfold ItT at e'
  refine ⟨it, [it], _, Itt X.K l, ItX.dropH (upd H1 it (ItT l it 0)) it, rfl, ItX.inv_drop I' e', turn_tuple l it, st, fun b hb => ?_, ?_⟩
  · have eb : b = it := by simpa using hb
    rw [eb]
    exact ItX.inv_fp I' e (Nat.le_trans I1.sz h2)
  · rw [ItX.dropH_upd h1]; exact hR
/-! ### list(o) -/
/-- what __len__ promises: the length of the tuple at fld -/
def spLn (K : PySem.W.Frag) (C : Addr) (fld : Str) : Sp := fun vs H Q _ => ∃ a dx fs l zs, vs = [V.ref a] ∧ H a = some (.ins C dx fs) ∧ fs.lookup fld = some (.ref l) ∧ SqT K H l zs ∧ Q (.int zs.length) H
theorem sqT_upd {K : PySem.W.Frag} {H : Hp} {a b : Addr} {o : HO} {xs : List V} (hn : H b = none) (h : SqT K H a xs) : SqT K (upd H b o) a xs := by
  rcases h with (h | ⟨o', h⟩) | h
  · exact .inl (.inl (by rw [upd_ne (fun z => by rw [z, hn] at h; cases h)]; exact h))
  · exact .inl (.inr ⟨o', by rw [upd_ne (fun z => by rw [z, hn] at h; cases h)]; exact h⟩)
  · exact .inr h
theorem own_loopT {pins : List (Addr × Obj)} {σ : L2.St} {H : Hp} {A1 : Around} {q it l : Addr} {zs : List V} {Rs : Result → Shared → Prop} (hd : A1.in1.handled = none) (hqn : H q = none) (hz : SqT X.K H l zs) (hlen : zs.length < sizeLine)
    (hdone : ∀ s, Inv X pins σ (upd H q (.lst zs)) s → Rs (.ok (.ret .none)) s) (hfp : ∀ acc, FpOk X pins (upd H q (.lst acc)) it) :
    ∀ (rest acc : List V) (s : Shared), zs = acc ++ rest → Inv X pins σ (upd H q (.lst acc)) s → s.heap.IsTupleIter it l acc.length → codeAny (model X.prog X.w) A1 (.builtin "list.extend.loop" ⟨[.ref q, .ref it, .none], []⟩) Rs s := by
  intro rest
  induction rest with
  | nil =>
    intro acc s e I st
    rw [List.append_nil] at e
    subst e
    refine codeAny_builtin PySem.F.entry_extend_loop ?_
    rw [Around.under_plainId PySem.F.plain_extend_loop _]
    show wpAny _ A1.in1 (pyNext (.ref it) >>= _) _ _ s
    have hzq : SqT X.K (upd H q (.lst zs)) l zs := sqT_upd hqn hz
    obtain ⟨its, rv, p, hsz⟩ := I.tuple hzq
    have hl := rv.length
    obtain ⟨f0, f1, f2, f3, f4, f5⟩ := hfp zs
    refine wpAny_bind (wpAny_pyNext_tuple_end hd st (show s.heap.IsTuple l its.toArray from p) (by simp; omega) fun h' eb => ?_)
    exact wpAny_pure (hdone _ (I.turned (t' := s.toks) (fun b o hb e => eb b o hb e) f0 f1 f3 f4 f5))
  | cons v rest ih =>
    intro acc s e I st
    refine codeAny_builtin PySem.F.entry_extend_loop ?_
    rw [Around.under_plainId PySem.F.plain_extend_loop _]
    show wpAny _ A1.in1 (pyNext (.ref it) >>= _) _ _ s
    have hzq : SqT X.K (upd H q (.lst acc)) l zs := sqT_upd hqn hz
    obtain ⟨its, rv, p, hsz⟩ := I.tuple hzq
    have hv : zs[acc.length]? = some v := by rw [e]; simp
    obtain ⟨u, hu, ru⟩ := rv.get hv
    obtain ⟨f0, f1, f2, f3, f4, f5⟩ := hfp acc
    have nq : it ≠ q := fun z => by rw [z, upd_same] at f0; cases f0
    refine wpAny_bind (wpAny_pyNext_tuple_item st (show s.heap.IsTuple l its.toArray from p) (x := u) (by simpa using hu) fun h' st' sb => ?_)
    have I' : Inv X pins σ (upd H q (.lst acc)) { s with heap := h' } := I.turned (t' := s.toks) (fun b o hb e => (sb.2 b hb).trans e) f0 f1 f3 f4 f5
    show wpAny _ A1.in1 (updateSeq q (·.push u) >>= _) _ _ _
    obtain ⟨z, its2, k, r2, hl, e2⟩ := I'.lstM upd_same
    have hla : its2.length = acc.length := r2.length.symm
    have hlt : acc.length < zs.length := by rw [e, List.length_append, List.length_cons]; omega
    refine wpAny_bind (wpAny_updateSeq e2 rfl (wpAny_pure ⟨plainId_quiet PySem.F.plain_extend_loop _, ?_⟩) (by rw [List.size_toArray]; omega) (by show (its2.toArray.push u).size ≤ sizeLine + 1; rw [Array.size_push, List.size_toArray]; omega))
    have I2 := I'.lset (f := (·.push u)) (its' := its2 ++ [u]) (ys := acc ++ [v]) (t' := s.toks) upd_same e2 (by simp) (r2.append (.cons ru .nil)) (by rw [List.length_append, List.length_singleton]; omega)
    rw [upd_upd] at I2
    refine ih (acc ++ [v]) _ (by rw [e]; simp) I2 ?_
    rw [List.length_append, List.length_singleton]
    exact st'.at fun o ho => (Heap.get?_update_ne _ _ _ _ nq).trans ho
structure LnF (K : PySem.W.Frag) (C f : Addr) : Prop where
  ln : PySem.W.findIn K (.ref C) "__len__" = some (some (.ref f))
  fn : PySem.W.isFn K (.ref f) = true
theorem own_lenT {pins : List (Addr × Obj)} {σ : L2.St} {H : Hp} {s : Shared} {A1 : Around} {g a dx l : Addr} {gd : FuncData} {fs : List (Str × V)} {zs : List V} {Q : Value → Shared → Prop} {E : Value → Shared → Prop} (sb : Sub X k A1.in1) (hc : LnF X.K C g)
    (F : FnOk X.prog X.w X.K X.mg X.base (L2N.CX X.prog X.w) k g gd ["self"] (spLn X.K C fld)) (b : Binds X.K gd ["self"] []) (I : Inv X pins σ H s) (ha : H a = some (.ins C dx fs)) (hl : fs.lookup fld = some (.ref l)) (hz : SqT X.K H l zs) (hlen : zs.length < sizeLine)
    (hQ : ∀ t s', Inv X pins σ H s' → Q (.int zs.length t) s') : wpAny (model X.prog X.w) A1 (call (.builtin "len") [.ref a]) Q E s := by
  obtain ⟨mA, J, _⟩ := ins_get I.hok ha
  obtain ⟨od, J, _⟩ := J.look
  obtain ⟨m0, hF⟩ := I.fr
  refine PySem.W.len_K hF I.ok.mod.kin J hc.ln hc.fn ?_
  have e0 : Env0 X.prog X.w X.K X.mg X.base A1.in1 X.stack s H := by
    have e := I.env0
    exact ⟨by rw [sb.fr]; exact e.frames, e.mod, e.bs, e.bsz, e.funs, e.frf, e.hok, e.bare⟩
  refine wpAny_call (codeAny_mono (F.run A1.in1 X.stack s H ⟨[.ref a], []⟩ [.ref a] [.ref a] (fun v H' => v = .int zs.length ∧ H' = H) E0 sb.room e0 (by
    have := b s [.ref a] I.kIn rfl
    simpa using this) (.cons rfl .nil) ⟨a, dx, fs, l, zs, rfl, ha, hl, hz, rfl, rfl⟩) fun r s' hq' => ?_)
  cases r with
  | error e =>
    obtain ⟨_, _, _, _, _, _, _, _, _, _, _, _, z⟩ := hq'
    exact z.elim
  | ok fl =>
    cases fl with
    | next => exact False.elim hq'
    | brk => exact False.elim hq'
    | cont => exact False.elim hq'
    | ret u =>
      obtain ⟨v, H', I', rv, ev, eH⟩ := I.after hq'
      subst ev
      rw [eH] at I'
      obtain ⟨t, rfl⟩ := rv
      have := line63
      exact ⟨⟨by omega, by omega⟩, hQ _ _ (I'.tok _)⟩
theorem own_hintT {pins : List (Addr × Obj)} {σ : L2.St} {H : Hp} {s : Shared} {A1 : Around} {g a dx l : Addr} {gd : FuncData} {fs : List (Str × V)} {zs : List V} {Q : Bool → Shared → Prop} (sb : Sub X k A1.in1) (hc : LnF X.K C g)
    (F : FnOk X.prog X.w X.K X.mg X.base (L2N.CX X.prog X.w) k g gd ["self"] (spLn X.K C fld)) (b : Binds X.K gd ["self"] []) (I : Inv X pins σ H s) (ha : H a = some (.ins C dx fs)) (hl : fs.lookup fld = some (.ref l)) (hz : SqT X.K H l zs) (hlen : zs.length < sizeLine)
    (hQ : ∀ r s', Inv X pins σ H s' → Q r s') : wpAny (model X.prog X.w) A1 (Builtin.List.listLengthHint (.ref a)) Q X.xe s := by
  obtain ⟨mA, J, _⟩ := ins_get I.hok ha
  obtain ⟨od, J, _⟩ := J.look
  unfold Builtin.List.listLengthHint
  refine wpAny_bind (wpAny_bind (J.type.here ((PySem.W.looks_findIn I.kIn hc.ln).here ?_)))
  refine PySem.W.KFB.if_not rfl ?_
  refine PySem.W.KFB.if_so rfl ?_
  refine wpAny_bind (wpAny_rule ?_)
  refine wpAny_bind (wpAny_attempt (own_lenT sb hc F b I ha hl hz hlen fun t s' I' => ?_))
  refine wpAny_bind (wpAny_of_eq (a := some (zs.length : Int)) (by first | rfl | kernel_rfl) ?_)
  refine PySem.W.KFB.if_not (by
    show (decide (((zs.length : Int)).toNat > sizeLine)) = false
    exact decide_eq_false (by omega)) ?_
  exact wpAny_pure (hQ _ _ I')
/-- list(o), o an own class's thing that is walked by its tuple at fld and has its length -/
def rListO (K : PySem.W.Frag) (C : Addr) (fld : Str) : List V → Hp → L2.VK → Prop := fun xs H Q => ∃ a dx fs l zs, xs = [.ref a] ∧ H a = some (.ins C dx fs) ∧ fs.lookup fld = some (.ref l) ∧ SqT K H l zs ∧ zs.length < sizeLine ∧ ∀ q, H q = none → Q (.ref q) (upd H q (.lst zs))
theorem call_listOwnT {g : Addr} {gd : FuncData} (hc : ItF X.K C f) (F : FnIt X.prog X.w X.K X.mg X.base k f fd C fld) (b : Binds X.K fd ["self"] []) (hg : LnF X.K C g) (G : FnOk X.prog X.w X.K X.mg X.base (L2N.CX X.prog X.w) k g gd ["self"] (spLn X.K C fld)) (bg : Binds X.K gd ["self"] [])
    (hr : Room (k + 3) X.A) : CallR X (.type "list") (rListO X.K C fld) := by
  intro pins s σ H xs us Q I rv h
  obtain ⟨a, dx, fs, l, zs, rfl, ha, hl, hz, hlen, hq⟩ := h
  obtain ⟨u, rfl, ru⟩ := rv.one
  cases ru
  have sb3 : Sub X k X.A.in1.in1.in1 := Sub.in1 (Sub.in1 (Sub.in1 (⟨hr, rfl⟩ : Sub X (k + 3) X.A)))
  have sb2 : Sub X k X.A.in1.in1 := (Sub.in1 (Sub.in1 (⟨hr, rfl⟩ : Sub X (k + 3) X.A))).mono (Nat.le_succ k)
  refine callType_codes (Q₁ := fun obj s₁ => obj = .ref s.heap.objs.size ∧ s₁ = { s with heap := s.heap.push { cls := .type "list", data := .seq #[] } }) PySem.F.called_list (PySem.F.typeCall_list_1 _) PySem.F.entry_list_init
    (code_list_new _ ⟨rfl, rfl⟩) fun obj s₁ h₁ => ?_
  obtain ⟨rfl, rfl⟩ := h₁
  have hS : (s.heap.push { cls := .type "list", data := .seq #[] }).get? s.heap.objs.size = some { cls := .type "list", data := .seq #[] } := Heap.get?_push_size _ rfl
  refine ⟨⟨_, hS, rfl⟩, PySem.F.args_list_init_2 _ _, ?_⟩
  have fr : H s.heap.objs.size = none := I.hok.fresh (Nat.le_refl _)
  have I1 : Inv X pins σ (upd H s.heap.objs.size (.lst [])) { s with heap := s.heap.push { cls := .type "list", data := .seq #[] } } := I.lnew (its := []) (t' := s.toks) .nil (Nat.zero_le _)
  show wpAny _ _ (do let old ← Builtin.List.listItems (.ref s.heap.objs.size); Builtin.List.listUpdate (.ref s.heap.objs.size) (fun _ => #[]); letGo old.toList.reverse; Builtin.List.listExtendWith (.ref s.heap.objs.size) (.ref a) .none) _ _ _
  refine wpAny_bind ?_
  unfold Builtin.List.listItems
  refine wpAny_bind (wpAny_seqItems hS rfl (wpAny_pure ?_))
  show wpAny _ _ (updateSeq s.heap.objs.size (fun _ => #[]) >>= fun _ => letGo (#[] : Array Value).toList.reverse >>= fun _ => Builtin.List.listExtendWith (.ref s.heap.objs.size) (.ref a) .none) _ _ _
  refine wpAny_bind (wpAny_updateSeq hS rfl ?_)
  have I2 := I1.lset (f := fun _ => #[]) (its := []) (its' := []) (ys := []) (t' := s.toks) upd_same hS rfl .nil (Nat.zero_le _)
  rw [upd_upd] at I2
  refine wpAny_bind (wpAny_letGo ?_)
  have hqq := hq _ fr
  generalize s.heap.objs.size = q at fr hqq I2 ⊢
  have hne : q ≠ a := fun z => by rw [z, ha] at fr; cases fr
  have ha2 : upd H q (.lst []) a = some (.ins C dx fs) := by rw [upd_ne (Ne.symm hne)]; exact ha
  obtain ⟨mA, J, _⟩ := ins_get I2.hok ha2
  obtain ⟨od, J, _⟩ := J.look
  unfold Builtin.List.listExtendWith
  refine wpAny_bind (J.type.here ?_)
  have h1 : Builtin.List.listSameRef (.ref q) (.ref a) = false := by simp [Builtin.List.listSameRef, hne]
  have h2 : (Value.ref C == Value.type "list") = false := rfl
  have h3 : (Value.ref C == Value.type "tuple") = false := rfl
  simp only [h1, h2, h3, Bool.or_false, Bool.false_eq_true, if_false]
  refine wpAny_bind (own_iter sb2 hc F b I2 ha2 hl (sqT_upd fr hz) fun it s' hi hi2 I' => ?_)
  have nia : it ≠ a := fun z => by rw [z, ha2] at hi; cases hi
  have niq : it ≠ q := fun z => by rw [z, upd_same] at hi; cases hi
  have ha3 : upd (upd H q (.lst [])) it (ItT l it 0) a = some (.ins C dx fs) := by rw [upd_ne (Ne.symm nia)]; exact ha2
  have hq3 : upd (upd H q (.lst [])) it (ItT l it 0) q = some (.lst []) := by rw [upd_ne (Ne.symm niq), upd_same]
  have h0 : H it = none := by have h0 := hi; rw [upd_ne niq] at h0; exact h0
  have fin : ∀ s2, Inv X pins σ (upd (upd H q (.lst [])) it (ItT l it 0)) s2 → codeAny (model X.prog X.w) X.A.in1 (.builtin "list.extend.loop" ⟨[.ref q, .ref it, .none], []⟩) (wants (fun r s₂ => r = .none ∧ EP X pins σ Q (.ref q) s₂) X.xe) s2 := by
    intro s2 J2
    have st : s2.heap.IsTupleIter it l 0 := (J2.hok it _ upd_same).1
    have e' : (upd (upd H q (.lst [])) it (ItT l it 0)) it = some (ItT l it 0) := upd_same
    have e2 := e'
    unfold ItT at e2
    have J3 := ItX.inv_drop J2 e2
    have fp := ItX.inv_fp J2 e' (Nat.le_trans I2.sz hi2)
    rw [ItX.dropH_upd hi] at J3 fp
    refine own_loopT (X := X) (A1 := X.A.in1) (pins := pins) (σ := σ) (H := H) (it := it) (l := l) (zs := zs) hr.hd fr hz hlen (fun s3 J4 => ⟨rfl, .ref q, _, J4, rfl, hqq⟩) (fun acc => ⟨by rw [upd_ne niq]; exact h0, fp.2⟩) zs [] s2 rfl J3 st
  refine wpAny_bind (wpAny_holding (own_hintT sb3 hg G bg I' ha3 hl (sqT_upd hi (sqT_upd fr hz)) hlen fun r s'' I3 => ?_))
  obtain ⟨z, its, kk, r3, hl3, e3⟩ := I3.lstM hq3
  cases r3
  refine wpAny_ite_split (fun _ => ?_) (fun _ => wpAny_pure ⟨plainId_quiet PySem.F.plain_extend_loop _, fin _ I3⟩)
  refine wpAny_bind (wpAny_rule ?_)
  refine wpAny_bind ?_
  show wpAny _ _ (updateSeq q (·.push .none) >>= fun _ => updateSeq q (·.pop)) _ _ _
  refine wpAny_bind (wpAny_updateSeq e3 rfl ?_)
  have I4 := I3.lset (f := (·.push Value.none)) (its' := [Value.none]) (ys := [.non]) (t' := s''.toks) hq3 e3 (by simp) (.cons rfl .nil) (by rw [List.length_singleton, sizeLine_eq]; decide)
  obtain ⟨z4, its4, k4, r4, hl4, e4⟩ := I4.lstM upd_same
  obtain ⟨u4, rfl, ru4⟩ := r4.one
  refine wpAny_updateSeq e4 rfl ?_ (by show 1 ≤ sizeLine; rw [sizeLine_eq]; decide) (by show 0 ≤ sizeLine + 1; exact Nat.zero_le _)
  refine wpAny_pure ⟨plainId_quiet PySem.F.plain_extend_loop _, fin _ ?_⟩
  have I5 := I4.lset (f := (·.pop)) (its := [u4]) (its' := []) (ys := []) (t' := s''.toks) upd_same e4 (by rfl) .nil (Nat.zero_le _)
  rw [upd_upd] at I5
  have hH : upd (upd (upd H q (.lst [])) it (ItT l it 0)) q (.lst []) = upd (upd H q (.lst [])) it (ItT l it 0) := by
    funext b
    by_cases hb : b = q
    · rw [hb, upd_same, hq3]
    · rw [upd_ne hb]
  rw [hH] at I5
  exact I5
end
/-! ### the readings -/
def vItO (C : Addr) (fld : Str) (te : TEv) : TIv := fun ρ R => te ρ fun x => match x with
  | .nd (.obj C' ns) xs => C' = C ∧ (match (ns.zip xs).lookup fld with
    | some (.nd .tup ys) => D.alls coF ys = true ∧ R ys
    | _ => False)
  | _ => False
theorem lk_itO {C : Addr} {fld : Str} {Te : TE} {te : TEv} (l : LE Te te) : LI (iOwnT KK.K C fld Te) (vItO C fld te) := by
  intro B0 Z B H σ ρ R RR Rp h k
  refine l B0 Z B H σ ρ _ _ Rp h fun x vx H1 ⟨B1, F, g, dx, n, fr⟩ h9 => ?_
  clear h
  split at h9
  · rename_i C' ns xs _
    obtain ⟨e9, h9⟩ := h9
    subst e9
    split at h9
    · rename_i ys e2
      obtain ⟨hc, hR⟩ := h9
      obtain ⟨a, o, us, G, ev, hx, ⟨l, ddx, c⟩, q', fe⟩ := dx
      subst ev c
      obtain ⟨v, G', e3, y⟩ := lookup_zip l q' e2
      obtain ⟨b, o, vs, G2, e4, x2, c2, q2, _⟩ := y
      subst e4
      have c2 : o = .tup vs := c2
      subst c2
      have x2 : B1 b = some (.tup vs) := x2
      exact ⟨a, ddx, _, b, vs, rfl, g.sub _ _ hx, e3, SqT.of (g.sub _ _ x2), k _ _ _ _ g (yields_tup x2 q2 hc) hc hR⟩
    · exact h9.elim
  · exact h9.elim
def dListO (C : Addr) (fld : Str) : RNv := fun ds Q => match ds with
  | [.nd (.obj C' ns) xs] => C' = C ∧ (match (ns.zip xs).lookup fld with
    | some (.nd .tup ys) => ys.length ≤ 1000000 ∧ D.alls coF ys = true ∧ Q (.lst .o ys)
    | _ => False)
  | _ => False
theorem lr_listO {C : Addr} {fld : Str} : LRn (rListO KK.K C fld) (dListO C fld) := by
  intro B0 Z B H σ ρ ds vs F Qd Q R q h k
  unfold dListO at h
  split at h
  · rename_i C' ns xs
    obtain ⟨rfl, h⟩ := h
    split at h
    · rename_i ys e2
      obtain ⟨hl, hc, hQ⟩ := h
      obtain ⟨v, e1, x⟩ := dens_one q
      obtain ⟨a, o, us, G, ev, hx, ⟨l, ddx, c⟩, q', fe⟩ := x
      subst ev c e1
      obtain ⟨v, G', e3, y⟩ := lookup_zip l q' e2
      obtain ⟨b, o, vs, G2, e4, x2, c2, q2, _⟩ := y
      subst e4
      have c2 : o = .tup vs := c2
      subst c2
      have x2 : B b = some (.tup vs) := x2
      have f2 := Dens.nofp _ _ _ hc q2
      subst f2
      refine ⟨a, ddx, _, b, vs, rfl, R.sub _ _ hx, e3, SqT.of (R.sub _ _ x2), by rw [← q2.len, sizeLine_eq]; omega, fun p hp => k _ _ _ (out_lst ?_ hp) hQ⟩
      exact ⟨B, [], Grow.refl R.sub, q2, List.nodup_nil, fun a h => nomatch h⟩
    · exact h.elim
  · exact h.elim
/-- a class's __iter__ and __len__ as list and for use them -/
structure Itr (P : Program) (w : World) (K : PySem.W.Frag) (mg : Str → Option Value) (base : Heap) (k : Nat) (C : Addr) (fld : Str) : Prop where
  ex : ∃ (f : Addr) (fd : FuncData), FnIt P w K mg base k f fd C fld ∧ ItF K C f ∧ Binds K fd ["self"] []
structure Lnr (P : Program) (w : World) (K : PySem.W.Frag) (mg : Str → Option Value) (base : Heap) (k : Nat) (C : Addr) (fld : Str) : Prop where
  ex : ∃ (g : Addr) (gd : FuncData), FnOk P w K mg base (L2N.CX P w) k g gd ["self"] (spLn K C fld) ∧ LnF K C g ∧ Binds K gd ["self"] []
section
variable {X : Cx} {k j i : Nat} {C f g : Addr} {fd gd : FuncData} {fld : Str} {tg e : Expr} {es : List Expr} {p pos : Pos} {Te : TE} {te : TEv} {T : TA} {t : TAv}
theorem i_own (hc : ItF X.K C f) (F : FnIt X.prog X.w X.K X.mg X.base k f fd C fld) (b : Binds X.K fd ["self"] []) (hr : Room j X.A) (hk : k ≤ j) (he : VE X e Te te) (hK : X.K = KK.K := by rfl) : VI X tg e (iOwnT KK.K C fld Te) (vItO C fld te) :=
  ⟨by rw [← hK]; exact pi_own hc F b (hr.mono hk) he.pe, lk_itO he.lk⟩
theorem e_listO (hc : ItF X.K C f) (F : FnIt X.prog X.w X.K X.mg X.base k f fd C fld) (b : Binds X.K fd ["self"] []) (hg : LnF X.K C g) (G : FnOk X.prog X.w X.K X.mg X.base (L2N.CX X.prog X.w) k g gd ["self"] (spLn X.K C fld)) (bg : Binds X.K gd ["self"] []) (hr : Room j X.A) (hk : k + 3 ≤ j)
    (hm : X.mg "list" = none) (ha : VA X (e :: es) T t) (hgl : Gl X "list" := by rfl) (hs : St1 X e es pos := by exact ⟨rfl, rfl⟩) (hK : X.K = KK.K := by rfl) : VE X (.Call (.Name "list" p) (e :: es) [] pos) (tCB (rListO KK.K C fld) T) (vB (dListO C fld) t) := by
  rw [← hK]
  exact e_callTy (r := rListO X.K C fld) (call_listOwnT hc F b hg G bg (hr.mono hk)) (by rw [hK]; exact lr_listO) hgl hm (by decide +kernel) ha (by decide) (by decide) hs.1 hs.2
end
theorem ln_len {K : PySem.W.Frag} {C : Addr} {fld : Str} : ∀ vs H Q E, spLn K C fld vs H Q E → vs.length = (["self"] : List Str).length := fun vs H Q E h => by
  obtain ⟨a, dx, fs, l, zs, e, _⟩ := h
  rw [e]; rfl
theorem ln_body {X : Cx} {fld : Str} {p1 p2 p3 p4 p5 : Pos} (hg : Gl X "len") (hm : X.mg "len" = none) (hN : X.N[0]? = some ("self" : Str)) (hv : Vis X.env.scope "self")
    (hb : attributeBase (.Name "self" p2) fld X.env (eval (.Name "self" p2) X.env) = eval (.Name "self" p2) X.env := by rfl)
    (he : starEach [.Attribute (.Name "self" p2) fld p3] X.env = (false, eval (.Attribute (.Name "self" p2) fld p3) X.env) :: starEach [] X.env := by rfl) (hpl : (backTo p4 (starEach [] X.env)).any (·.1) = false := by rfl) :
    PSs X [.Return (some (.Call (.Name "len" p1) [.Attribute (.Name "self" p2) fld p3] [] p4)) p5] (tRet (tCB (fun xs H Q => ∃ x n, xs = [x] ∧ LenV X.K x H n ∧ Q (.int n) H) (tCons (tFld X.K (tVar 0) fld) tNil))) :=
  pss_one (ps_ret (pe_callB call_len hg hm (by decide +kernel) (pa_cons (pe_fld (pe_var hN hv) hb) pa_nil he) (by decide) (by decide) he hpl))
theorem ln_math {K : PySem.W.Frag} {C : Addr} {fld : Str} {vs : List V} {H : Hp} {Q : L2.VK} {E : XK} {N : List Str} (fo : FldOk K C fld) (hN : 0 < N.length) (h : spLn K C fld vs H Q E) (D : Ends) (hD : D.rt = Q) :
    (tRet (tCB (fun xs H Q => ∃ x n, xs = [x] ∧ LenV K x H n ∧ Q (.int n) H) (tCons (tFld K (tVar 0) fld) tNil))) D (L2.start N vs) H := by
  obtain ⟨a, dx, fs, l, zs, rfl, ha, hl, hz, hq⟩ := h
  refine ⟨.ref a, ?_, a, C, dx, fs, .ref l, rfl, ha, fo.1, fo.2, hl, .ref l, zs.length, rfl, .inr ⟨zs, hz, rfl⟩, ?_⟩
  · cases N with
    | nil => exact absurd hN (by decide)
    | cons x xs => rfl
  · rw [hD]; exact hq
/-- a def with defaults, called with all of its arguments -/
theorem binds_full {K : PySem.W.Frag} {x qual : Str} {params : Arguments} {body : List Stmt} {scope : Scope} {dvs : List V} {kws : List (Str × V)} {f : Addr} {fd : FuncData} {ps : List Str} (F : FunD K x qual params body scope dvs kws f fd) (hd : dvs ≠ [])
    (h : ∀ (T : Addr) (kV doc pm : Value) (an : Option Addr) (cdv ct : Value) (us its : List Value), us.length = ps.length → its.length = dvs.length →
      ∃ k, bindArgs (PySem.W.fnOf x qual params body scope (.ref T) kV doc pm an cdv ct) ⟨us, []⟩ = seqItems? (.ref T) >>= k ∧ k (some its.toArray) = pure (ps.zip us)) : Binds K fd ps [] := by
  obtain ⟨ds, hv, hb⟩ := F.binds1 (ps := ps) ps.length dvs.length hd (by omega) fun T kV doc pm an cdv ct us its l1 l2 => by
    obtain ⟨k, e1, e2⟩ := h T kV doc pm an cdv ct us its l1 l2
    refine ⟨k, e1, ?_⟩
    rw [← l2, List.drop_length, List.append_nil]
    exact e2
  rw [List.drop_length] at hv
  cases hv
  exact hb
theorem e_globI {X : Cx} {x : Str} {i : Int} {pos : Pos} (h : ∃ u, X.mg x = some u ∧ RelV (.int i) u) (hg : Gl X x := by rfl) (hd : (x == ("__debug__" : Str)) = false := by decide) : VE X (.Name x pos) (tC (.int i)) (vC (.int i)) := by
  obtain ⟨u, hm, r⟩ := h
  exact ⟨pe_glob hg hm r hd, lk_c fun _ _ _ => den_int⟩
end VL

/-! ## VLR -/
/-! VL: the draw that all the laws share. -/
namespace VL
open PySem PySem.Spec L2
open PyProof.Rows hiding St
variable [KK : KLs]
local macro_rules | `(tactic| walk_at "vl") => `(tactic| simp only [vSeq, vAsgL, vAsg, vB, vCons, vNil, vC, vVar, vOp, vUn, vIf, vTest, vRet, vRetV, vNext, vNever, vTup, vLst, vAnd, vOr, vNot, vAndT, vOrT, vNotT, vIsN, vFld, dFld, vIt, vRng1, vRng2, vFor, vCall, vLstRg2, vSetF, vMake, vgName, vgTup, vgCons, vgNil, vLc, wipeD, dMax2, dMin2, dLen, dI, dI0, dIx, dInt1, dAdd, dNeg, dEq, dEqN, dList, dIsi, startD, vAsgG, initEnd,
  List.map_cons, List.map_nil, List.cons_append, List.nil_append, List.append_nil, List.length_cons, List.length_nil, List.replicate, List.getElem?_cons_zero, List.getElem?_cons_succ, List.set_cons_zero, List.set_cons_succ, List.zip_cons_cons, List.zip_nil_right, List.lookup_cons, D.map, D.maps, D.all, D.alls, D.isNon, D.isCst, D.ty, Hd.map, Hd.fl, Fl.ls, Fl.sl, fBor, fLoc, fArg, nbF, owF, puF, coF, riF, nsF, D.bor, D.loc, D.arg, D.nb, D.ow, maps_ints, alls_ints, at0, at1, at2, at3, D.isNon, List.lookup_nil, beq_self_eq_true, D.isCst, str_beq, str_eqv, String.reduceEq, Nat.reduceAdd, Nat.reduceLeDiff, Int.cast_ofNat_Int, eq_self, List.all_cons, List.all_nil, ty_int_int, ty_int_bool, ty_tuple_tuple, ty_non_tuple, decide_true, decide_false, true_and, and_true, Bool.true_and, Bool.and_true, if_true, if_false, Bool.not_true, Bool.not_false, Bool.false_eq_true, Option.some.injEq, reduceCtorEq])

def t_draw : TSv :=
  (vSeq (vAsgL 3 (vB dMax2 (vCons (vC (.int 1)) (vCons (vB dMin2 (vCons (vB dLen (vCons (vVar 0) vNil)) (vCons (vC (.int 63)) vNil))) vNil))))
    (vSeq (vAsgL 4 (vC (.int 0)))
    (vSeq (vIf (vTest (vOp dGt (vB dLen (vCons (vVar 0) vNil)) (vC (.int 0)))) (vAsgL 4 (vOp dIx (vVar 0) (vOp dMod (vB dInt1 (vCons (vVar 1) vNil)) (vVar 3)))) vNext)
    (vSeq (vIf (vTest (vOp dGe (vVar 4) (vOp dPow (vC (.int 10)) (vC (.int 18))))) (vSeq (vAsgL 5 (vVar 4))
    (vSeq (vFor (vRng1 (vB dMin2 (vCons (vOp dDiv (vVar 1) (vVar 3)) (vCons (vC (.int 60)) vNil)))) (vgName 6)
    (vAsgL 5 (vOp dDiv (vVar 5) (vC (.int 1000)))))
    (vIf (vTest (vOp dGt (vVar 5) (vC (.int 0)))) (vRet (vOp dMod (vB dInt1 (vCons (vOp dMod (vB dInt1 (vCons (vVar 5) vNil)) (vC (.int 1000))) vNil)) (vVar 2))) vNext))) vNext)
    (vSeq (vAsgL 7 (vOp dMod (vB dInt1 (vCons (vOp dAdd (vOp dAdd (vVar 4) (vOp dMul (vC (.int 7919)) (vVar 1))) (vC (.int 13))) vNil)) (vC (.int 2147483647))))
    (vSeq (vAsgL 7 (vOp dMod (vB dInt1 (vCons (vOp dMul (vVar 7) (vOp dAdd (vVar 7) (vC (.int 48271)))) vNil)) (vC (.int 2147483629))))
    (vSeq (vAsgL 7 (vOp dMod (vB dInt1 (vCons (vOp dAdd (vOp dMul (vVar 7) (vOp dAdd (vVar 7) (vC (.int 69621)))) (vOp dMul (vC (.int 31)) (vVar 1))) vNil)) (vC (.int 2147483647))))
    (vRet (vOp dMod (vB dInt1 (vCons (vOp dDiv (vVar 7) (vC (.int 9))) vNil)) (vVar 2))))))))))
def DrawP : PV := fun ds Q _ => ∃ (ns : List Int) (k size : Int), ds = [.lst .s (ns.map .int), .int k, .int size] ∧ ns.length ≤ 63 ∧ 0 ≤ k ∧ k ≤ 1000000 ∧ 0 < size ∧ ∀ r, 0 ≤ r → r < size → Q (.int r)
theorem mod_b (a : Int) {m : Int} (h : 0 < m) : 0 ≤ a % m ∧ a % m < m := ⟨Int.emod_nonneg _ (by omega), Int.emod_lt_of_pos _ h⟩
theorem draw_fin {Q : D → Prop} {k size : Int} (c : Int) (hs : 0 < size) (hq : ∀ r, 0 ≤ r → r < size → Q (.int r)) :
    CMul 7919 k ∧ 0 < (2147483647 : Int) ∧ CMul ((c + 7919 * k + 13) % 2147483647) ((c + 7919 * k + 13) % 2147483647 + 48271) ∧ 0 < (2147483629 : Int) ∧
      CMul ((c + 7919 * k + 13) % 2147483647 * ((c + 7919 * k + 13) % 2147483647 + 48271) % 2147483629) ((c + 7919 * k + 13) % 2147483647 * ((c + 7919 * k + 13) % 2147483647 + 48271) % 2147483629 + 69621) ∧
      CMul 31 k ∧ 0 < (2147483647 : Int) ∧ CDiv (((c + 7919 * k + 13) % 2147483647 * ((c + 7919 * k + 13) % 2147483647 + 48271) % 2147483629 * ((c + 7919 * k + 13) % 2147483647 * ((c + 7919 * k + 13) % 2147483647 + 48271) % 2147483629 + 69621) + 31 * k) % 2147483647) 9 ∧ 0 < size ∧
      Q (.int ((((c + 7919 * k + 13) % 2147483647 * ((c + 7919 * k + 13) % 2147483647 + 48271) % 2147483629 * ((c + 7919 * k + 13) % 2147483647 * ((c + 7919 * k + 13) % 2147483647 + 48271) % 2147483629 + 69621) + 31 * k) % 2147483647) / 9 % size)) := by
  have b1 := mod_b (c + 7919 * k + 13) (m := 2147483647) (by decide)
  generalize (c + 7919 * k + 13) % 2147483647 = a at b1 ⊢
  have b2 := mod_b (a * (a + 48271)) (m := 2147483629) (by decide)
  generalize a * (a + 48271) % 2147483629 = b at b2 ⊢
  exact ⟨.inl (by decide), by decide, .inl (by omega), by decide, .inl (by omega), .inl (by decide), by decide, ⟨by decide, by decide⟩, hs, hq _ (mod_b _ hs).1 (mod_b _ hs).2⟩
theorem pow18 : CPow 10 18 := ⟨by decide, by decide, by decide⟩
theorem m_draw : ∀ ds Q Ed, ds.length = 3 → DrawP ds Q Ed → t_draw { nx := fun _ => Q .non, rt := Q } (startD 8 ds) := by
  rintro ds Q Ed - ⟨ns, k, size, rfl, hl, hk, hk2, hs, hq⟩
  have fin := fun c => draw_fin (k := k) (Q := Q) c hs hq
  unfold t_draw
  walk_at "vl"
  simp only [List.length_map]
  by_cases h : ns.length = 0
  · rw [if_neg (by simp [h])]
    refine ⟨pow18, if_dec (fun h => absurd h (by decide)) (fun _ => fin 0)⟩
  · rw [if_pos (by simp; omega)]
    have hz : 0 < max 1 (min (ns.length : Int) 63) := by omega
    have hz2 : max 1 (min (ns.length : Int) 63) ≤ 63 := by omega
    obtain ⟨c, hc⟩ := atI_ints (ns := ns) (i := k % max 1 (min (ns.length : Int) 63)) (mod_b _ (by omega)).1 (by have := (mod_b k (m := max 1 (min (ns.length : Int) 63)) (by omega)).2; omega)
    rw [hc]
    walk_at "vl"
    generalize max 1 (min (ns.length : Int) 63) = z at hz hz2 ⊢
    have hkz : 0 ≤ k / z := Int.ediv_nonneg hk (by omega)
    have hkz2 : k / z ≤ k := Int.ediv_le_self _ hk
    refine ⟨hz, pow18, if_dec (fun _ => ⟨⟨by omega, by omega⟩, ⟨by omega, by omega⟩, forL_keep (fun ρ => ∃ r y, ρ = [some (.lst .s (ns.map .int)), some (.int k), some (.int size), some (.int z), some (.int c), some (.int r), y, none]) ⟨_, _, rfl⟩ ?_ ?_⟩) (fun _ => fin c)⟩
    · rintro x - ρ ⟨r, y, rfl⟩ N hN
      walk_at "vl"
      exact ⟨⟨by decide, by decide⟩, hN _ ⟨_, _, rfl⟩⟩
    · rintro ρ ⟨r, y, rfl⟩
      walk_at "vl"
      refine if_dec (fun _ => ?_) (fun _ => fin c)
      exact ⟨by decide, hs, hq _ (mod_b _ hs).1 (mod_b _ hs).2⟩

theorem draw_ok {ns : List Int} {k size : Int} {Q : D → Prop} {E : XD → Prop} (hl : ns.length ≤ 63) (h0 : 0 ≤ k) (h1 : k ≤ 1000000) (hs : 0 < size) (hq : ∀ r, 0 ≤ r → r < size → Q (.int r)) : DrawP [.lst .s (ns.map .int), .int k, .int size] Q E :=
  ⟨ns, k, size, rfl, hl, h0, h1, hs, hq⟩
end VL

/-! ## VLN -/
/-! VL: readings walked step by step: what stands behind a choice, a call or a loop is held until it is reached. -/
namespace VL
open PySem PySem.Spec L2
open PyProof.Rows hiding St
variable [KK : KLs]
structure Lk (A : Prop) : Type where
structure LkQ (Q : D → Prop) : Type where
structure LkE (f : VL.Env → Prop) : Type where
def stp (f : VL.Env → Prop) (ρ : VL.Env) (_ : LkE f) : Prop := f ρ
theorem stp_i {f : VL.Env → Prop} {ρ : VL.Env} {l : LkE f} (h : f ρ) : stp f ρ l := h
def hold (A : Prop) (_ : Lk A) : Prop := A
def sel (k : Bool) (A B : Prop) (_ : Lk A) (_ : Lk B) : Prop := if k = true then A else B
def ixQ (o : Option D) (Q : D → Prop) (_ : LkQ Q) : Prop := match o with
  | some d => Q d.bor
  | none => False
section

variable {A B : Prop} {l1 : Lk A} {l2 : Lk B} {Q : D → Prop} {l : LkQ Q}
theorem hold_i (h : A) : hold A l1 := h
theorem sel_t : sel true A B l1 l2 = A := if_pos rfl
theorem sel_f : sel false A B l1 l2 = B := if_neg Bool.false_ne_true
theorem sel_d {p : Prop} [Decidable p] (h1 : p → A) (h2 : ¬ p → B) : sel (decide p) A B l1 l2 := if_dec h1 h2
theorem sel_b {k : Bool} (h1 : k = true → A) (h2 : k = false → B) : sel k A B l1 l2 := if_bool h1 h2
theorem ixQ_s {d : D} : ixQ (some d) Q l = Q d.bor := rfl
end
section
variable {W : Ev} {ρ : VL.Env} {Q : D → Prop} {QB : Bool → Prop} {n m1 m2 : Nat} {P : PV} {PI : PI'} {C : Addr} {dds : List D} {t tk : TAv} {ta tb te : TEv} {tc td : TTv} {ts us : TSv} {ti : TIv} {g : TGv} {vs : List Nat} {gv : List D → List D → List D}
theorem n_call : vCall n P dds t ρ Q = t ρ fun ds => (D.maps fArg ds ++ dds).length = n ∧ P (D.maps fArg ds ++ dds) (fun d => hold (d.ow = true ∧ Q d) ⟨⟩) (fun _ => False) := rfl
theorem n_callW : vCallW n P dds t ρ Q = t ρ fun ds => D.alls fxF ds = true ∧ (D.maps fArg ds ++ dds).length = n ∧ P (D.maps fArg ds ++ dds) (fun d => hold (Q d) ⟨⟩) (fun _ => False) := rfl
theorem n_make : vMake n m1 m2 PI C gv t tk ρ Q = t ρ fun ds => tk ρ fun es => ds.length = m1 ∧ es.length = m2 ∧ (gv ds es).length = n ∧ PI C (D.maps fArg (gv ds es)) (fun ns xs => hold (Q (.obj C ns xs)) ⟨⟩) (fun _ => False) := rfl
theorem n_make0 : vMake0 n PI C dds t ρ Q = t ρ fun ds => (ds ++ dds).length = n ∧ PI C (D.maps fArg (ds ++ dds)) (fun ns xs => hold (Q (.obj C ns xs)) ⟨⟩) (fun _ => False) := rfl
theorem n_seq : vSeq ts us W ρ = ts { W with nx := fun ρ' => stp (us W) ρ' ⟨⟩ } ρ := rfl
theorem n_if : vIf tc ts us W ρ = tc ρ fun k => sel k (ts W ρ) (us W ρ) ⟨⟩ ⟨⟩ := rfl
theorem n_ifE : vIfE tc ta tb ρ Q = tc ρ fun k => sel k (ta ρ Q) (tb ρ Q) ⟨⟩ ⟨⟩ := rfl
theorem n_andT : vAndT tc td ρ QB = tc ρ fun k => sel k (td ρ QB) (QB false) ⟨⟩ ⟨⟩ := rfl
theorem n_orT : vOrT tc td ρ QB = tc ρ fun k => sel k (QB true) (td ρ QB) ⟨⟩ ⟨⟩ := rfl
theorem n_and : vAnd ta tb ρ Q = ta ρ fun x => match x with
  | .bl k => sel k (tb ρ Q) (Q (.bl false)) ⟨⟩ ⟨⟩
  | _ => False := rfl
theorem n_or : vOr ta tb ρ Q = ta ρ fun x => match x with
  | .bl k => sel k (Q (.bl true)) (tb ρ Q) ⟨⟩ ⟨⟩
  | _ => False := rfl
theorem n_lc : vLc ti g tc te vs ρ Q = ti ρ fun items => items.length ≤ 1000000 ∧ lcL g tc te (wipeD ρ vs) items [] (fun d => hold (Q d) ⟨⟩) := rfl
theorem n_maxL {f : Fl} {ns : List Int} : dMaxL [.nd (.lst f) (ns.map .int)] Q = (0 < ns.length ∧ ∀ m, m ∈ ns → (∀ y, y ∈ ns → y ≤ m) → hold (Q (.int m)) ⟨⟩) := by
  unfold dMaxL; simp only [ints_map]; rfl
theorem n_ixT {xs : List D} {i : Int} : dIx (.nd .tup xs) (.int i) Q = ixQ (atI xs i) Q ⟨⟩ := by
  unfold dIx ixQ; rfl
theorem n_ixL {f : Fl} {xs : List D} {i : Int} : dIx (.nd (.lst f) xs) (.int i) Q = ixQ (atI xs i) Q ⟨⟩ := by
  unfold dIx ixQ; rfl
end
section
variable {ks : List Key} {xs : List D} {d x : D} {a b : String} {k : Key} {W : Ev} {ρ : VL.Env} {i : Nat} {ti te : TEv}
theorem kput_str : kput (.inr (Str.ofString a) :: ks) (x :: xs) (.inr (Str.ofString b)) d = if a = b then d :: xs else x :: kput ks xs (.inr (Str.ofString b)) d := by
  rw [kput]
  by_cases h : a = b
  · subst h; rw [if_pos rfl, if_pos rfl]
  · rw [if_neg h, if_neg fun e => h (str_inj (Sum.inr.inj e))]
theorem kadd_str : kadd (.inr (Str.ofString a) :: ks) (.inr (Str.ofString b)) = if a = b then .inr (Str.ofString a) :: ks else .inr (Str.ofString a) :: kadd ks (.inr (Str.ofString b)) := by
  rw [kadd]
  by_cases h : a = b
  · subst h; rw [if_pos rfl, if_pos rfl]
  · rw [if_neg h, if_neg fun e => h (str_inj (Sum.inr.inj e))]
theorem kfind_str : kfind (.inr (Str.ofString a) :: ks) (x :: xs) (.inr (Str.ofString b)) = if a = b then some x else kfind ks xs (.inr (Str.ofString b)) := by
  rw [kfind]
  by_cases h : a = b
  · subst h; rw [if_pos rfl, if_pos rfl]
  · rw [if_neg h, if_neg fun e => h (str_inj (Sum.inr.inj e))]
theorem key_str {z : Str} : (D.str z).key = some (.inr z) := rfl
theorem key_int {z : Int} : (D.int z).key = some (.inl z) := rfl
def dputS (o : Option (Option D)) (ti : TEv) (W : Ev) (ρ : VL.Env) (i : Nat) (d : D) : Prop := match o with
  | some (some (.nd (.dct .o ks) xs)) => ti ρ fun y => match y.key with
    | some k => d.nb = true ∧ ks.Nodup ∧ ks.length < 1000000 ∧ W.nx (ρ.set i (some (.dct .o (kadd ks k) (kput ks xs k d))))
    | _ => False
  | _ => False
def dputK (o : Option Key) (ks : List Key) (xs : List D) (W : Ev) (ρ : VL.Env) (i : Nat) (d : D) : Prop := match o with
  | some k => d.nb = true ∧ ks.Nodup ∧ ks.length < 1000000 ∧ W.nx (ρ.set i (some (.dct .o (kadd ks k) (kput ks xs k d))))
  | _ => False
theorem n_dput : vDPut i ti te W ρ = te ρ fun d => dputS ρ[i]? ti W ρ i d := rfl
theorem n_dputS : dputS (some (some (.nd (.dct .o ks) xs))) ti W ρ i d = ti ρ fun y => dputK y.key ks xs W ρ i d := rfl
theorem n_dputK : dputK (some k) ks xs W ρ i d = (d.nb = true ∧ ks.Nodup ∧ ks.length < 1000000 ∧ W.nx (ρ.set i (some (.dct .o (kadd ks k) (kput ks xs k d))))) := rfl
def dgetK (d : D) (o : Option Key) (Q : D → Prop) : Prop := match d, o with
  | .nd (.dct f ks) xs, some k => rdF f = true ∧ match kfind ks xs k with
    | some d => Q d.bor
    | none => False
  | _, _ => False
def dgetO (o : Option D) (Q : D → Prop) : Prop := match o with
  | some d => Q d.bor
  | none => False
theorem n_dget : vDGet te ti ρ Q = te ρ fun d => ti ρ fun y => dgetK d y.key Q := rfl
theorem n_dgetK {f : Fl} {Q : D → Prop} : dgetK (.nd (.dct f ks) xs) (some k) Q = (rdF f = true ∧ dgetO (kfind ks xs k) Q) := rfl
theorem n_dgetO {Q : D → Prop} : dgetO (some d) Q = Q d.bor := rfl
theorem rdF_o : rdF .o = true := rfl
theorem rdF_l : rdF .l = true := rfl
theorem rdF_b : rdF .b = true := rfl
theorem rdF_a : rdF .a = true := rfl
theorem rdF_s : rdF .s = true := rfl
end
theorem cut_to {xs : List Int} {c : Int} (h0 : 0 ≤ c) : (xs.drop (HT.sIx xs.length 0 none)).take (HT.sIx xs.length xs.length (some c) - HT.sIx xs.length 0 none) = xs.take c.toNat := by
  rw [HT.sIx_none, sIx_pos h0, List.drop_zero, Nat.sub_zero]
  by_cases h : c.toNat ≤ xs.length
  · rw [show min c.toNat xs.length = c.toNat by omega]
  · rw [show min c.toNat xs.length = xs.length by omega, List.take_of_length_le (Nat.le_refl _), List.take_of_length_le (by omega)]
theorem at_getD {xs : List Int} {i : Int} (h0 : 0 ≤ i) (h1 : i.toNat < xs.length) : atI (xs.map D.int) i = some (.int (xs.getD i.toNat 0)) := by
  rw [at_ints h0 h1, List.getD_eq_getElem?_getD, List.getElem?_eq_getElem h1]; rfl
section
variable {g : TGv} {tb : TSv} {W : Ev} {α : Type}
/-- a for that ends early at the first item with t -/
theorem forL_stop (emb : α → D) (t : α → Bool) (I : VL.Env → Prop) : ∀ (xs : List α) {ρ : VL.Env}, I ρ →
    (∀ x, x ∈ xs → ∀ ρ, I ρ → ∀ N : VL.Env → Prop, (t x = false → ∀ ρ', I ρ' → N ρ') → g (emb x) ρ fun ρ' => tb { nx := N, rt := W.rt, bk := W.nx, ct := N } ρ') →
    (∀ ρ, I ρ → (∀ x, x ∈ xs → t x = false) → W.nx ρ) → forL g tb (xs.map emb) W ρ
  | [], ρ, h0, _, hd => hd ρ h0 (fun _ h => nomatch h)
  | x :: xs, ρ, h0, hs, hd => hs x List.mem_cons_self ρ h0 (forL g tb (xs.map emb) W) fun e ρ' h' => forL_stop emb t I xs h' (fun y hy => hs y (List.mem_cons_of_mem _ hy)) fun ρ2 h2 ha => hd ρ2 h2 fun y hy => by
      rcases List.mem_cons.mp hy with rfl | hy
      · exact e
      · exact ha y hy
end
omit KK in
theorem any_of {α : Type} {xs : List α} {t : α → Bool} {x : α} (h : x ∈ xs) (e : t x = true) : xs.any t = true := List.any_eq_true.mpr ⟨x, h, e⟩
omit KK in
theorem any_no {α : Type} {xs : List α} {t : α → Bool} (h : ∀ x, x ∈ xs → t x = false) : xs.any t = false := by
  rw [List.any_eq_false]; intro x hx; rw [h x hx]; decide
/-! ### is None -/
def isNQ (neg : Bool) (x : D) (Q : D → Prop) : Prop := x.isCst = false ∧ Q (.bl (if neg then !x.isNon else x.isNon))
section
variable {neg : Bool} {ta : TEv} {ρ : VL.Env} {Q : D → Prop} {b : Bool} {i : Int} {z : Str} {h : Hd} {xs : List D} {x : D}
theorem n_isN : vIsN neg ta ρ Q = ta ρ fun x => isNQ neg x Q := rfl
theorem isNQ_of (h1 : x.isCst = false) (h2 : x.isNon = b) : isNQ neg x Q = Q (.bl (if neg then !b else b)) := by
  unfold isNQ; rw [h1, h2]; simp
theorem isNQ_non : isNQ neg .non Q = Q (.bl (if neg then !true else true)) := isNQ_of rfl rfl
theorem isNQ_int : isNQ neg (.int i) Q = Q (.bl (if neg then !false else false)) := isNQ_of rfl rfl
theorem isNQ_bl : isNQ neg (.bl b) Q = Q (.bl (if neg then !false else false)) := isNQ_of rfl rfl
theorem isNQ_str : isNQ neg (.str z) Q = Q (.bl (if neg then !false else false)) := isNQ_of rfl rfl
theorem isNQ_nd : isNQ neg (.nd h xs) Q = Q (.bl (if neg then !false else false)) := isNQ_of rfl rfl
end
end VL

/-! ## VLP -/
/-! VL: data told by a function of plain values; more lemmas for walks. -/
namespace VL
open PySem PySem.Spec L2
open PyProof.Rows hiding St
variable [KK : KLs]
section
variable {α : Type} {emb : α → D}
theorem maps_emb {g : Fl → Fl} (h : ∀ a, (emb a).map g = emb a) : ∀ xs : List α, D.maps g (xs.map emb) = xs.map emb
  | [] => rfl
  | x :: xs => by rw [List.map_cons, D.maps, maps_emb h xs, h]
theorem alls_emb {q : Fl → Bool} (h : ∀ a, (emb a).all q = true) : ∀ xs : List α, D.alls q (xs.map emb) = true
  | [] => rfl
  | x :: xs => by rw [List.map_cons, D.alls, alls_emb h xs, h]; rfl
/-- no list, no dict in it -/
def Fix (emb : α → D) : Prop := ∀ a, (emb a).pure = true
theorem Fix.map (h : Fix emb) (g : Fl → Fl) (a : α) : (emb a).map g = emb a := D.pure_map (h a)
theorem Fix.maps (h : Fix emb) (g : Fl → Fl) (xs : List α) : D.maps g (xs.map emb) = xs.map emb := maps_emb (h.map g) xs
theorem Fix.all (h : Fix emb) {q : Fl → Bool} (hq : q .i = true) (a : α) : (emb a).all q = true := D.all_imp (fun f e => by cases f <;> first | exact hq | exact nomatch e) _ (h a)
theorem Fix.alls (h : Fix emb) {q : Fl → Bool} (hq : q .i = true) (xs : List α) : D.alls q (xs.map emb) = true := alls_emb (h.all hq) xs
theorem Fix.tup (h : Fix emb) : Fix fun xs : List α => D.tup (xs.map emb) := fun xs => by
  show (puF .i && D.alls puF (xs.map emb)) = true
  rw [h.alls rfl]; rfl
end
theorem fix_int : Fix D.int := fun _ => rfl
theorem fix_bl : Fix D.bl := fun _ => rfl
theorem fix_str : Fix D.str := fun _ => rfl
/-- a tuple of ints -/
abbrev tI (xs : List Int) : D := .tup (xs.map .int)
theorem fix_tI : Fix tI := fix_int.tup
/-- a part of a list -/
def cutL {α : Type} (xs : List α) (lo hi : Option Int) : List α := (xs.drop (HT.sIx xs.length 0 lo)).take (HT.sIx xs.length xs.length hi - HT.sIx xs.length 0 lo)
theorem cut_emb {α : Type} {emb : α → D} (xs : List α) (lo hi : Option Int) : cutD (xs.map emb) lo hi = (cutL xs lo hi).map emb := by
  unfold cutD cutL
  rw [List.length_map, List.map_take, List.map_drop]
theorem cutL_len {α : Type} {xs : List α} {lo hi : Option Int} : (cutL xs lo hi).length ≤ xs.length := by
  unfold cutL
  rw [List.length_take, List.length_drop]; omega
theorem cutL_mem {α : Type} {xs : List α} {lo hi : Option Int} {x : α} (h : x ∈ cutL xs lo hi) : x ∈ xs := List.mem_of_mem_drop (List.mem_of_mem_take h)
theorem cutL_to {α : Type} {xs : List α} {c : Int} (h0 : 0 ≤ c) : cutL xs none (some c) = xs.take c.toNat := by
  unfold cutL
  rw [HT.sIx_none, sIx_pos h0, List.drop_zero, Nat.sub_zero]
  by_cases h : c.toNat ≤ xs.length
  · rw [show min c.toNat xs.length = c.toNat by omega]
  · rw [show min c.toNat xs.length = xs.length by omega, List.take_of_length_le (Nat.le_refl _), List.take_of_length_le (by omega)]
theorem cutL_from {α : Type} {xs : List α} {c : Int} (h0 : 0 ≤ c) : cutL xs (some c) none = xs.drop c.toNat := by
  unfold cutL
  rw [HT.sIx_none, sIx_pos h0]
  by_cases h : c.toNat ≤ xs.length
  · rw [show min c.toNat xs.length = c.toNat by omega, List.take_of_length_le (by rw [List.length_drop]; omega)]
  · rw [show min c.toNat xs.length = xs.length by omega, List.drop_of_length_le (by omega : xs.length ≤ c.toNat), List.drop_of_length_le (Nat.le_refl _), List.take_nil]
theorem cut_set {α : Type} {xs : List α} {i : Int} {x : α} (h0 : 0 ≤ i) (h1 : i < xs.length) : xs.take i.toNat ++ [x] ++ xs.drop (i + 1).toNat = xs.set i.toNat x := by
  rw [List.set_eq_take_append_cons_drop, if_pos (by omega), show (i + 1).toNat = i.toNat + 1 by omega]
  simp
section
variable {α : Type} {emb : α → D} {xs : List α} {i : Int} {Q : D → Prop} {l : LkQ Q} {ds : List D}
theorem at_emb (h0 : 0 ≤ i) (h1 : i < xs.length) : atI (xs.map emb) i = some (emb (xs[i.toNat]'(by omega))) := by
  obtain ⟨j, rfl⟩ := Int.eq_ofNat_of_zero_le h0
  rw [at_nat]
  have : j < xs.length := by omega
  simp [this]
theorem ix_emb (h0 : 0 ≤ i) (h1 : i < xs.length) (h : ∀ x, x ∈ xs → xs[i.toNat]? = some x → Q (emb x).bor) : ixQ (atI (xs.map emb) i) Q l := by
  rw [at_emb h0 h1]
  have : i.toNat < xs.length := by omega
  exact h _ (List.getElem_mem _) (List.getElem?_eq_getElem this)
theorem ix_all (h0 : 0 ≤ i) (h1 : i < ds.length) (h : ∀ d, d ∈ ds → Q d.bor) : ixQ (atI ds i) Q l := by
  obtain ⟨j, rfl⟩ := Int.eq_ofNat_of_zero_le h0
  rw [at_nat]
  have : j < ds.length := by omega
  rw [List.getElem?_eq_getElem this]
  exact h _ (List.getElem_mem _)
end
section
variable {ts us : TSv} {W : Ev} {ρ : VL.Env}
/-- a statement whose end is told by I -/
theorem seq_cut (I : VL.Env → Prop) (h1 : ∀ N : VL.Env → Prop, (∀ ρ', I ρ' → N ρ') → ts { W with nx := N } ρ) (h2 : ∀ ρ', I ρ' → us W ρ') : vSeq ts us W ρ := h1 _ h2
theorem stp_cut (I : VL.Env → Prop) {l : LkE (vSeq ts us W)} (h1 : ∀ N : VL.Env → Prop, (∀ ρ', I ρ' → N ρ') → ts { W with nx := N } ρ) (h2 : ∀ ρ', I ρ' → us W ρ') : stp (vSeq ts us W) ρ l := h1 _ h2
end
omit KK in
theorem all_no {α : Type} {xs : List α} {t : α → Bool} {x : α} (h : x ∈ xs) (e : t x = false) : xs.all t = false := List.all_eq_false.mpr ⟨x, h, by rw [e]; decide⟩
omit KK in
theorem all_yes {α : Type} {xs : List α} {t : α → Bool} (h : ∀ x, x ∈ xs → t x = true) : xs.all t = true := List.all_eq_true.mpr h
omit KK in
theorem all_rng {α : Type} (d : α) (f : α → Bool) (xs : List α) : xs.all f = (rngI 0 xs.length).all fun k => f (xs.getD k.toNat d) := by
  by_cases h : xs.all f = true
  · rw [h, all_yes]
    intro k hk
    have := mem_rngI.mp hk
    have hk : k.toNat < xs.length := by omega
    rw [List.getD_eq_getElem?_getD, List.getElem?_eq_getElem hk]
    exact List.all_eq_true.mp h _ (List.getElem_mem _)
  · have h := Bool.eq_false_iff.mpr h
    rw [h]
    obtain ⟨x, hx, e⟩ := List.all_eq_false.mp h
    obtain ⟨i, hi, rfl⟩ := List.getElem_of_mem hx
    refine (all_no (x := (i : Int)) (mem_rngI.mpr ⟨by omega, by omega⟩) ?_).symm
    rw [List.getD_eq_getElem?_getD, Int.toNat_natCast, List.getElem?_eq_getElem hi]
    simpa using e
omit KK in
theorem zip_rng {α β : Type} (a : α) (b : β) (f : α → β → Bool) {xs : List α} {ys : List β} (h : xs.length = ys.length) : (xs.zip ys).all (fun p => f p.1 p.2) = (rngI 0 xs.length).all fun k => f (xs.getD k.toNat a) (ys.getD k.toNat b) := by
  rw [all_rng (a, b), List.length_zip, ← h, Nat.min_self]
  have key : ∀ k : Int, k ∈ rngI 0 xs.length → ((xs.zip ys).getD k.toNat (a, b)) = (xs.getD k.toNat a, ys.getD k.toNat b) := by
    intro k hk
    have := mem_rngI.mp hk
    have h1 : k.toNat < xs.length := by omega
    have h2 : k.toNat < ys.length := by omega
    have h3 : k.toNat < (xs.zip ys).length := by rw [List.length_zip]; omega
    rw [List.getD_eq_getElem?_getD, List.getD_eq_getElem?_getD, List.getD_eq_getElem?_getD, List.getElem?_eq_getElem h1, List.getElem?_eq_getElem h2, List.getElem?_eq_getElem h3]
    simp
  have ext : ∀ (ks : List Int) (p q : Int → Bool), (∀ k, k ∈ ks → p k = q k) → ks.all p = ks.all q := by
    intro ks p q hk
    induction ks with
    | nil => rfl
    | cons k ks ih => rw [List.all_cons, List.all_cons, hk k List.mem_cons_self, ih fun j hj => hk j (List.mem_cons_of_mem _ hj)]
  exact ext _ _ _ fun k hk => by rw [key k hk]
theorem pairs_emb {α β : Type} {e1 : α → D} {e2 : β → D} : ∀ (xs : List α) (ys : List β), pairsD (xs.map e1) (ys.map e2) = (xs.zip ys).map fun p => .tup [e1 p.1, e2 p.2]
  | [], _ => by simp [pairsD]
  | _ :: _, [] => by simp [pairsD]
  | x :: xs, y :: ys => by
    have := pairs_emb (e1 := e1) (e2 := e2) xs ys
    simp [pairsD] at this ⊢
    exact this
omit KK in
theorem getD_mem {α : Type} {xs : List α} {i : Nat} {d : α} (h : i < xs.length) : xs.getD i d ∈ xs := by
  rw [List.getD_eq_getElem?_getD, List.getElem?_eq_getElem h]; exact List.getElem_mem _
theorem at_embD {α : Type} {emb : α → D} {xs : List α} {i : Int} (d : α) (h0 : 0 ≤ i) (h1 : i < xs.length) : atI (xs.map emb) i = some (emb (xs.getD i.toNat d)) := by
  rw [at_emb h0 h1, List.getD_eq_getElem?_getD, List.getElem?_eq_getElem]; rfl
omit KK in
theorem foldl_or {α : Type} (t : α → Bool) : ∀ (xs : List α) (b : Bool), xs.foldl (fun b x => b || t x) b = (b || xs.any t)
  | [], b => by simp
  | x :: xs, b => by rw [List.foldl_cons, foldl_or t xs, List.any_cons, Bool.or_assoc]
omit KK in
theorem filter_none {α : Type} {xs : List α} {t : α → Bool} (h : ∀ x, x ∈ xs → t x = false) : xs.filter t = [] := List.filter_eq_nil_iff.mpr fun x hx => by rw [h x hx]; decide
theorem emb_ex {α : Type} (emb : α → D) (A : α → Prop) : ∀ {ys : List D}, (∀ y, y ∈ ys → ∃ i, A i ∧ y = emb i) → ∃ is : List α, ys = is.map emb ∧ ∀ i, i ∈ is → A i
  | [], _ => ⟨[], rfl, fun _ h => nomatch h⟩
  | y :: ys, h => by
    obtain ⟨i, hi, e⟩ := h y List.mem_cons_self
    obtain ⟨is, e2, h2⟩ := emb_ex emb A (ys := ys) fun z hz => h z (List.mem_cons_of_mem _ hz)
    exact ⟨i :: is, by rw [e, e2]; rfl, fun j hj => by rcases List.mem_cons.mp hj with rfl | hj; exact hi; exact h2 j hj⟩
theorem ix4 {a b c d : D} {i : Int} {Q : D → Prop} {l : LkQ Q} (h0 : 0 ≤ i) (h1 : i < 4) (ha : Q a.bor) (hb : Q b.bor) (hc : Q c.bor) (hd : Q d.bor) : ixQ (atI [a, b, c, d] i) Q l := by
  have : i = 0 ∨ i = 1 ∨ i = 2 ∨ i = 3 := by omega
  rcases this with rfl | rfl | rfl | rfl
  · rw [at0]; exact ha
  · rw [at1]; exact hb
  · rw [at2]; exact hc
  · rw [at3]; exact hd
theorem ix3 {a b c : D} {i : Int} {Q : D → Prop} {l : LkQ Q} (h0 : 0 ≤ i) (h1 : i < 3) (ha : Q a.bor) (hb : Q b.bor) (hc : Q c.bor) : ixQ (atI [a, b, c] i) Q l := by
  have : i = 0 ∨ i = 1 ∨ i = 2 := by omega
  rcases this with rfl | rfl | rfl
  · rw [at0]; exact ha
  · rw [at1]; exact hb
  · rw [at2]; exact hc
theorem ix2 {a b : D} {i : Int} {Q : D → Prop} {l : LkQ Q} (h0 : 0 ≤ i) (h1 : i < 2) (ha : Q a.bor) (hb : Q b.bor) : ixQ (atI [a, b] i) Q l := by
  have : i = 0 ∨ i = 1 := by omega
  rcases this with rfl | rfl
  · rw [at0]; exact ha
  · rw [at1]; exact hb
section
variable {g : TGv} {tb : TSv} {W : Ev} {α : Type}
/-- a for by an invariant over the items that are left -/
theorem forL_rest (emb : α → D) (I : List α → VL.Env → Prop) : ∀ (xs : List α) {ρ : VL.Env}, I xs ρ →
    (∀ x rest, ∀ ρ, I (x :: rest) ρ → ∀ N : VL.Env → Prop, (∀ ρ', I rest ρ' → N ρ') → g (emb x) ρ fun ρ' => tb { nx := N, rt := W.rt, bk := W.nx, ct := N } ρ') →
    (∀ ρ, I [] ρ → W.nx ρ) → forL g tb (xs.map emb) W ρ
  | [], ρ, h0, _, hd => hd ρ h0
  | x :: xs, ρ, h0, hs, hd => hs x xs ρ h0 (forL g tb (xs.map emb) W) fun ρ' h' => forL_rest emb I xs h' hs hd
end
/-! ### pairs of ints, None or an int -/
theorem fix_pD : Fix pD := fun _ => rfl
theorem ms_p (q : Fl → Fl) (xs : List (Int × Int)) : D.maps q (xs.map pD) = xs.map pD := fix_pD.maps q xs
theorem as_p1 (xs : List (Int × Int)) : D.alls coF (xs.map pD) = true := fix_pD.alls rfl xs
theorem as_p2 (xs : List (Int × Int)) : D.alls nbF (xs.map pD) = true := fix_pD.alls rfl xs
theorem as_p3 (xs : List (Int × Int)) : D.alls owF (xs.map pD) = true := fix_pD.alls rfl xs
theorem as_p4 (xs : List (Int × Int)) : D.alls unF (xs.map pD) = true := fix_pD.alls rfl xs
def oI : Option Int → D
  | none => .non
  | some i => .int i
theorem fix_oI : Fix oI := fun o => by cases o <;> rfl
theorem ms_o (q : Fl → Fl) (xs : List (Option Int)) : D.maps q (xs.map oI) = xs.map oI := fix_oI.maps q xs
theorem as_o1 (xs : List (Option Int)) : D.alls coF (xs.map oI) = true := fix_oI.alls rfl xs
theorem as_o2 (xs : List (Option Int)) : D.alls nbF (xs.map oI) = true := fix_oI.alls rfl xs
theorem as_o3 (xs : List (Option Int)) : D.alls owF (xs.map oI) = true := fix_oI.alls rfl xs
theorem m_o (q : Fl → Fl) (o : Option Int) : (oI o).map q = oI o := fix_oI.map q o
theorem a_o1 (o : Option Int) : (oI o).all coF = true := fix_oI.all rfl o
theorem a_o2 (o : Option Int) : (oI o).all nbF = true := fix_oI.all rfl o
theorem a_o3 (o : Option Int) : (oI o).all owF = true := fix_oI.all rfl o
section
variable {f : Fl} {Q : D → Prop}
theorem n_sorted {ns : List Int} : dSorted [.nd (.lst f) (ns.map .int)] Q = ∀ ms : List Int, ms.Perm ns → ms.Pairwise (· ≤ ·) → hold (Q (.lst .o (ms.map .int))) ⟨⟩ := by
  unfold dSorted; simp only [ints_map]; rfl
theorem n_sortedP {ns : List (Int × Int)} : dSortedP [.nd (.lst f) (ns.map pD)] Q = ∀ ms : List (Int × Int), ms.Perm ns → ms.Pairwise leP → hold (Q (.lst .o (ms.map pD))) ⟨⟩ := by
  unfold dSortedP; simp only [pairs_map]; rfl
end
omit KK in
theorem foldl_count {α : Type} (t : α → Bool) : ∀ (xs : List α) (c : Int), xs.foldl (fun c x => if t x = true then c + 1 else c) c = c + (xs.filter t).length
  | [], c => by simp
  | x :: xs, c => by
    rw [List.foldl_cons, foldl_count t xs, List.filter_cons]
    split <;> simp <;> omega
/-! ### == of bools, of lists of pairs of ints -/
theorem okEq_bl (b : Bool) : D.okEq (.bl b) := ⟨rfl, by cases b <;> rfl⟩
theorem eqv_bl (b : Bool) : D.eqv (.bl b) (.bl b) = true := by cases b <;> rfl
theorem pys_pairs : ∀ is : List (Int × Int), D.pys (is.map pD) = is.map fun p => PyData.tuple [.int p.1, .int p.2]
  | [] => rfl
  | i :: is => by rw [List.map_cons, D.pys, pys_pairs is]; rfl
theorem plains_pairs : ∀ is : List (Int × Int), D.plains (is.map pD) = true
  | [] => rfl
  | i :: is => by rw [List.map_cons, D.plains, plains_pairs is]; rfl
theorem lay_pairs : ∀ is : List (Int × Int), PyData.canLayAll0 (is.map fun p => PyData.tuple [.int p.1, .int p.2]) = true
  | [] => rfl
  | i :: is => by rw [List.map_cons, PyData.canLayAll0, lay_pairs is]; rfl
theorem deep_pairs : ∀ is : List (Int × Int), PyData.depthAll (is.map fun p => PyData.tuple [.int p.1, .int p.2]) ≤ 3
  | [] => by rw [List.map_nil, PyData.depthAll]; omega
  | i :: is => by
    have := deep_pairs is
    have h : PyData.depth (PyData.tuple [.int i.1, .int i.2]) ≤ 2 := by simp [PyData.depth, PyData.depthAll]
    rw [List.map_cons, PyData.depthAll]; omega
theorem eqv_pair (p : Int × Int) : PyData.eqv (PyData.tuple [.int p.1, .int p.2]) (PyData.tuple [.int p.1, .int p.2]) = true := by simp [PyData.eqv, PyData.eqvAll]
theorem eqvAll_pairs : ∀ is : List (Int × Int), PyData.eqvAll (is.map fun p => PyData.tuple [.int p.1, .int p.2]) (is.map fun p => PyData.tuple [.int p.1, .int p.2]) = true
  | [] => rfl
  | i :: is => by rw [List.map_cons, PyData.eqvAll, eqvAll_pairs is, eqv_pair]; rfl
theorem okEq_lst_pairs (f : Fl) (is : List (Int × Int)) : D.okEq (.lst f (is.map pD)) := ⟨by rw [D.plain, plains_pairs], by
  rw [D.py, pys_pairs]; · unfold SeqAt.shaped; rw [PyData.canLay0, lay_pairs, PyData.depth, decide_eq_true (by have := deep_pairs is; omega)]; rfl
  · intro h; cases h⟩
theorem eqv_lst_pairs (f g : Fl) (is : List (Int × Int)) : D.eqv (.lst f (is.map pD)) (.lst g (is.map pD)) = true := by
  unfold D.eqv; rw [D.py, D.py, pys_pairs, PyData.eqv, eqvAll_pairs] <;> (intro h; cases h)
end VL

/-! ## VLPI -/
/-! VL: while, walked. -/
namespace VL
open PySem PySem.Spec L2
open PyProof.Rows hiding St
variable [KK : KLs]
theorem while_d {tc : TTv} {tb : TSv} {W : Ev} {ρ : VL.Env} (I : Nat → VL.Env → Prop) (h0 : ∃ m, I m ρ)
    (hs : ∀ m ρ, I m ρ → ∀ N : VL.Env → Prop, (∀ m' ρ', m' < m → I m' ρ' → N ρ') → tc ρ fun b => sel b (tb { nx := N, rt := W.rt, bk := W.nx, ct := N } ρ) (W.nx ρ) ⟨⟩ ⟨⟩) : vWhile tc tb W ρ :=
  ⟨I, h0, fun m ρ i => hs m ρ i _ fun m' ρ' h i => ⟨m', h, i⟩⟩
/-- a comprehension told place by place -/
theorem lc_rel {α β : Type} {g : TGv} {te : TEv} {ρ : VL.Env} (emb : α → D) (emb2 : β → D) (A : α → β → Prop) (hnb : ∀ b, (emb2 b).nb = true) {Q : D → Prop} : ∀ {xs : List α} {acc : List D},
    (∀ x, x ∈ xs → ∀ (N : D → Prop), (∀ b, A x b → N (emb2 b)) → g (emb x) ρ fun ρ2 => te ρ2 fun d => d.nb = true ∧ N d) →
    (∀ ys : List β, ys.length = xs.length → (∀ (k : Nat) x y, xs[k]? = some x → ys[k]? = some y → A x y) → Q (.lst .o (acc ++ ys.map emb2))) → lcL g vYes te ρ (xs.map emb) acc Q
  | [], acc, _, h => by
    have := h [] rfl (fun k x y h1 _ => by simp at h1)
    rw [List.map_nil, List.append_nil] at this
    exact this
  | x :: xs, acc, hs, h => by
    show g (emb x) ρ fun ρ2 => vYes ρ2 fun k => if k = true then te ρ2 fun d => d.nb = true ∧ lcL g vYes te ρ (xs.map emb) (acc ++ [d]) Q else lcL g vYes te ρ (xs.map emb) acc Q
    have e : (fun ρ2 => vYes ρ2 fun k => if k = true then te ρ2 fun d => d.nb = true ∧ lcL g vYes te ρ (xs.map emb) (acc ++ [d]) Q else lcL g vYes te ρ (xs.map emb) acc Q) = fun ρ2 => te ρ2 fun d => d.nb = true ∧ lcL g vYes te ρ (xs.map emb) (acc ++ [d]) Q := by
      funext ρ2; simp [vYes]
    rw [e]
    refine hs x List.mem_cons_self _ fun b hb => ?_
    refine lc_rel emb emb2 A hnb (fun z hz => hs z (List.mem_cons_of_mem _ hz)) fun ys hl hy => ?_
    have := h (b :: ys) (by simp [hl]) fun k z w h1 h2 => by
      cases k with
      | zero =>
        simp only [List.getElem?_cons_zero, Option.some.injEq] at h1 h2
        subst h1 h2; exact hb
      | succ k =>
        simp only [List.getElem?_cons_succ] at h1 h2
        exact hy k z w h1 h2
    rw [List.map_cons] at this
    rw [List.append_assoc]
    exact this
/-- .. over a range, whole numbers out -/
theorem lc_relI {g : TGv} {te : TEv} {ρ : VL.Env} (A : Int → Int → Prop) {Q : D → Prop} {n : Nat}
    (hs : ∀ k : Nat, k < n → ∀ (N : D → Prop), (∀ b, A k b → N (.int b)) → g (.int k) ρ fun ρ2 => te ρ2 fun d => d.nb = true ∧ N d)
    (h : ∀ is : List Int, is.length = n → (∀ k : Nat, k < n → A k (is.getD k 0)) → Q (.lst .o (is.map .int))) : lcL g vYes te ρ ((rngI 0 n).map .int) [] Q := by
  refine lc_rel D.int D.int A (fun _ => rfl) (fun x hx N hN => ?_) fun ys hl hy => ?_
  · have := mem_rngI.mp hx
    have e : x = ((x.toNat : Nat) : Int) := by omega
    rw [e] at hN ⊢
    exact hs x.toNat (by omega) N hN
  · rw [rngI_len] at hl
    rw [List.nil_append]
    refine h ys hl fun k hk => ?_
    refine hy k (k : Int) _ ?_ ?_
    · unfold rngI; simp [hk]
    · rw [List.getD_eq_getElem?_getD, List.getElem?_eq_getElem (by omega)]; rfl
end VL

/-! ## VLXA -/
/-! VL: defs that raise; calls that may raise. -/
namespace VL
open PySem PySem.Spec L2
open PyProof.Rows hiding St
variable [KK : KLs]

theorem alls_ow {ds : List D} (h : D.alls puF ds = true) : D.alls owF ds = true := D.alls_imp (fun f e => by cases f <;> first | rfl | exact nomatch e) ds h
theorem alls_co {ds : List D} (h : D.alls puF ds = true) : D.alls coF ds = true := D.alls_imp (fun f e => by cases f <;> first | rfl | exact nomatch e) ds h
/-- a callee's exception, seen by the caller -/
theorem OutX.back {Z B H H' : Hp} {x : XD} {cls : Value} {dx : Option Addr} (sub : Same B H) (hz : ∀ a, H a = none → Z a = none) (o : OutX H (argBase B H) H x cls dx H') (pu : D.alls puF x.2.2 = true) : OutX Z B H x cls dx H' := by
  obtain ⟨hc, B', g, h⟩ := o
  refine ⟨hc, unB B H B', Grow.back sub g, h.imp id fun ⟨d, vs, hd, hB, hl, hD⟩ => ⟨d, vs, hd, ?_, hl, Dens.back sub g hz _ _ _ (alls_ow pu) hD⟩⟩
  cases hH : H d with
  | none => rw [unB_new hH]; exact hB
  | some o =>
    cases ha : argBase B H d with
    | none =>
      have eo : o = .xd (x.2.1.zip vs) := by
        have a1 := g.sh _ _ hH
        rw [g.sub _ _ hB] at a1
        exact (Option.some.inj a1).symm
      have := g.old d o hH (by rw [eo]; exact fun _ z => nomatch z) ha
      rw [this] at hB; cases hB
    | some o' =>
      have e1 := g.sb _ _ ha
      rw [hB] at e1
      cases e1
      unfold argBase at ha
      split at ha
      · cases ha
      · cases ha
      · cases ha
      · rw [unB_fix ha]; exact hB
theorem OutX.base {Z B0 B H H' : Hp} {x : XD} {cls : Value} {dx : Option Addr} (g : Grow B0 Z B H) (o : OutX Z B H x cls dx H') : OutX Z B0 Z x cls dx H' := by
  obtain ⟨hc, B', g', h⟩ := o
  exact ⟨hc, B', g.trans g', h⟩
/-- the wish of a def's own frame -/
abbrev xwE (E : XK) (Ed : XD → Prop) : XW := ⟨fun cls d _ H => E cls d H, fun x _ => Ed x, fun _ => True, fun _ _ _ _ => True.intro⟩
theorem xlE {B H : Hp} {E : XK} {Ed : XD → Prop} (hx : ∀ x cls dx H', OutX H B H x cls dx H' → D.alls puF x.2.2 = true → Ed x → E cls dx H') : XL (XX := xwE E Ed) B H :=
  @XL.mk _ (xwE E Ed) B H True.intro (fun B1 H1 σ ρ x cls dx H' R o pu e => hx x cls dx H' (o.base R.gr) pu e)
/-- a link at hand, with what it asks told apart -/
theorem ls_run (y : XW) {T : TS} {t : TSv} (h : LS (XX := y) T t) {B0 Z B H : Hp} {σ : L2.St} {ρ : Env} {Dv : Ev} {De : Ends} (xl : XL (XX := y) B0 Z) (R : Rep0 B0 Z B H σ ρ) (ht : t Dv ρ) (nx : ∀ B H σ ρ, Rep0 B0 Z B H σ ρ → Dv.nx ρ → De.nx σ H)
    (rt : ∀ d v H, Out Z B0 Z d v H → d.ow2 = true → Dv.rt d → De.rt v H) (bk : ∀ B H σ ρ, Rep0 B0 Z B H σ ρ → Dv.bk ρ → De.bk σ H) (ct : ∀ B H σ ρ, Rep0 B0 Z B H σ ρ → Dv.ct ρ → De.ct σ H) : T De σ H :=
  h B0 Z B H σ ρ Dv De (@Rep.mk _ y _ _ _ _ _ _ xl R.gr R.ex) ht
    (@Sim.mk _ y _ _ _ _ (fun B H σ ρ R q => nx B H σ ρ (@Rep.to0 _ y _ _ _ _ _ _ R) q) rt (fun B H σ ρ R q => bk B H σ ρ (@Rep.to0 _ y _ _ _ _ _ _ R) q) (fun B H σ ρ R q => ct B H σ ρ (@Rep.to0 _ y _ _ _ _ _ _ R) q))
theorem rep0_start {B H : Hp} {N : List Str} {ds : List D} {vs : List V} (s : Same B H) (q : Dens H B H ds vs []) (n : D.alls arF ds = true) : Rep0 B H B H (L2.start N vs) (startD N.length ds) := by
  refine ⟨Grow.refl s, [], ?_, List.nodup_nil, fun a h => nomatch h⟩
  unfold L2.start startD
  rw [q.len]
  exact slots_start q (ar_nb n)
section
variable {P : Program} {w : World} {mg : Str → Option Value} {base : Heap} {x qual : Str} {params : Arguments} {body : List Stmt} {scope : Scope} {dvs : List V} {kws : List (Str × V)} {f : Addr} {fd : FuncData} {N ps : List Str} {k n : Nat} {Pv : PV} {Pi : PI'} {t : (XD → Env → Prop) → TSv}
/-- a def that may raise -/
theorem fn_x (F : FunD KK.K x qual params body scope dvs kws f fd) (S : FnScope N ps scope) (hn : ps.length = n)
    (hb : ∀ (y : XW) (cdv : Value) (A : Around) (outer : List PySem.Env) (s : Shared) (H : Hp) (E : XK), L2N.Takes (cxOf (L2N.CX P w) P w KK.K mg base N qual scope f cdv A outer s H E) y.W →
      PassesOwn (model P w) (A.deeper (envOfC qual scope s.heap.objs.size f cdv)) (envOfC qual scope s.heap.objs.size f cdv) (cxOf (L2N.CX P w) P w KK.K mg base N qual scope f cdv A outer s H E).xe → Room k (A.deeper (envOfC qual scope s.heap.objs.size f cdv)) →
      ∃ T, VSs (XX := y) (cxOf (L2N.CX P w) P w KK.K mg base N qual scope f cdv A outer s H E) body T (t y.Ed))
    (hm : ∀ ds Q Ed, ds.length = n → Pv ds Q Ed → t (fun z _ => Ed z) { nx := fun _ => Q .non, rt := Q } (startD N.length ds)) : FnOk P w KK.K mg base (L2N.CX P w) (k + 1) f fd ps (spV n Pv) := by
  refine F.ok S (fun vs H Q E h => ?_) fun cdv A outer s H vs Q E hr h => ?_
  · obtain ⟨B, ds, Qd, Ed, e, _, q, _⟩ := h
    rw [← q.len, e, hn]
  · obtain ⟨B, ds, Qd, Ed, e, sB, q, na, hP, hq, hx⟩ := h
    obtain ⟨T, hT⟩ := hb (xwE E Ed) cdv A outer s H E (L2N.takes_of rfl rfl rfl rfl) (L2.passes_of (X := cxOf (L2N.CX P w) P w KK.K mg base N qual scope f cdv A outer s H E) rfl) hr
    refine ⟨T, @VSs.ps _ (xwE E Ed) _ _ _ _ hT, ?_⟩
    have R0 := rep0_start (N := N) sB q na
    refine ls_run (xwE E Ed) (@VSs.lk _ (xwE E Ed) _ _ _ _ hT) (xlE hx) R0 (hm ds Qd Ed e hP) (fun B' H' σ ρ R h => ?_) (fun d v H' o ow h => hq d v H' o ow h) (fun _ _ _ _ _ h => h.elim) (fun _ _ _ _ _ h => h.elim)
    exact hq .non .non H' ⟨B', [], R.gr, den_non, List.nodup_nil, fun a h => nomatch h⟩ rfl h
/-- an __init__ that may raise -/
theorem fn_ix (F : FunD KK.K x qual params body scope dvs kws f fd) (S : FnScope N ps scope) (hn : ps.length = n + 1)
    (hb : ∀ (y : XW) (cdv : Value) (A : Around) (outer : List PySem.Env) (s : Shared) (H : Hp) (E : XK), L2N.Takes (cxOf (L2N.CX P w) P w KK.K mg base N qual scope f cdv A outer s H E) y.W →
      PassesOwn (model P w) (A.deeper (envOfC qual scope s.heap.objs.size f cdv)) (envOfC qual scope s.heap.objs.size f cdv) (cxOf (L2N.CX P w) P w KK.K mg base N qual scope f cdv A outer s H E).xe → Room k (A.deeper (envOfC qual scope s.heap.objs.size f cdv)) →
      ∃ T, VSs (XX := y) (cxOf (L2N.CX P w) P w KK.K mg base N qual scope f cdv A outer s H E) body T (t y.Ed))
    (hm : ∀ y C ds Qd Ed, ds.length = n → Pi C ds Qd Ed → t (fun z _ => Ed z) { nx := initEnd C Qd y, rt := fun _ => False } (startD N.length (.slf (.c y) C [] [] :: ds))) : FnOk P w KK.K mg base (L2N.CX P w) (k + 1) f fd ps (spI n Pi) := by
  refine F.ok S (fun vs H Q E h => ?_) fun cdv A outer s H vs Q E hr h => ?_
  · obtain ⟨Z, B, y, C, dx, ds, ws, Qd, Ed, e, _, _, _, _, en, q, _⟩ := h
    rw [e, List.length_cons, ← q.len, en, hn]
  · obtain ⟨Z, B, y, C, dx, ds, ws, Qd, Ed, e, hx, sZ, sB, zy, en, q, na, hP, hq, hxx⟩ := h
    subst e
    obtain ⟨T, hT⟩ := hb (xwE E Ed) cdv A outer s H E (L2N.takes_of rfl rfl rfl rfl) (L2.passes_of (X := cxOf (L2N.CX P w) P w KK.K mg base N qual scope f cdv A outer s H E) rfl) hr
    refine ⟨T, @VSs.ps _ (xwE E Ed) _ _ _ _ hT, ?_⟩
    have by' : B y = none := sB.free zy
    have R0 : Rep0 B Z B H (L2.start N (.ref y :: ws)) (startD N.length (.slf (.c y) C [] [] :: ds)) := by
      refine ⟨⟨Same.refl _, sZ, sB.trans sZ, fun _ _ _ _ n => n⟩, [y], ?_, List.nodup_cons.mpr ⟨List.not_mem_nil, List.nodup_nil⟩, fun a h => ?_⟩
      · have hs := slots_start (m := N.length - (.slf (.c y) C [] [] :: ds).length) q (ar_nb na)
        have hl : N.length - (V.ref y :: ws).length = N.length - (D.slf (.c y) C [] [] :: ds).length := by rw [List.length_cons, List.length_cons, q.len]
        unfold L2.start startD
        rw [hl]
        refine ⟨.ref y, _, [y], [], rfl, rfl, ?_, hs, rfl⟩
        exact ⟨y, _, [], [], rfl, ⟨hx, rfl⟩, ⟨rfl, dx, rfl⟩, ⟨rfl, rfl⟩, rfl⟩
      · have e := List.mem_singleton.mp h
        subst e
        exact ⟨by', zy⟩
    have xl : XL (XX := xwE E Ed) B Z := @XL.mk _ (xwE E Ed) B Z True.intro (fun B1 H1 σ ρ x cls dx H' R o pu e => hxx x cls dx H' (o.base R.gr) pu e)
    refine ls_run (xwE E Ed) (@VSs.lk _ (xwE E Ed) _ _ _ _ hT) xl R0 (hm y C ds Qd Ed en hP) (fun B' H' σ ρ R' h => ?_) (fun d v H' o ow h => h.elim) (fun _ _ _ _ _ h => h.elim) (fun _ _ _ _ _ h => h.elim)
    have hI : initEnd C Qd y ρ := h
    unfold initEnd at hI
    split at hI
    · rename_i y' C' ns xs e
      obtain ⟨rfl, rfl, pu, hI⟩ := hI
      obtain ⟨F', qs, nd, z⟩ := R'.ex
      obtain ⟨v, G, Rr, h1, h2, h3, h4, h5, h6, h7, h8⟩ := qs.part nd e
      obtain ⟨a, o0, us, G2, ev, x, c, y, f'⟩ := h3
      obtain ⟨hl, dx', c⟩ := c
      subst c
      have xx : H' a = some (.ins C' dx' (ns.zip us)) ∧ a = y' := x
      obtain ⟨x1, rfl⟩ := xx
      have f' : G = a :: G2 := f'
      subst f'
      have eG := pu_fp y pu
      subst eG
      exact hq ns xs us dx' B' H' R'.gr (z a (h6 a (.inl List.mem_cons_self))).1 x1 hl y pu hI
    · exact hI.elim
end
end VL

/-! ## VLXB -/
/-! VL: calls that may raise, at the slots at hand: o.m(e), x + y, C(e). -/
namespace VL
open PySem PySem.Spec L2
open PyProof.Rows hiding St
section
variable {X : Cx} {k : Nat} {f C : Addr} {fd : FuncData} {ps : List Str} {ds : List Value} {dvs : List V} {sp : Sp} {Ex : L2.St → XK} {pins : List (Addr × Obj)} {σ : L2.St} {H : Hp} {s : Shared} {Q : L2.VK} {us : List Value} {vs : List V}
/-- a call of a def that may raise, the defaults laid -/
theorem run_x (F : FnOk X.prog X.w X.K X.mg X.base (L2N.CX X.prog X.w) k f fd ps sp) (hr : Room k X.A) (hb : Binds X.K fd ps ds) (hd : Vals dvs ds) (hx : PassesAt (L2N.CX X.prog X.w) X σ (Ex σ)) (I : Inv X pins σ H s) (r : Vals vs us)
    (h : sp (vs ++ dvs) H Q (Ex σ)) : wpAny (model X.prog X.w) X.A (call (.ref f) us) (EP X pins σ Q) X.xe s := by
  have rr : Vals (vs ++ dvs) (us ++ ds) := r.append hd
  have ll : (us ++ ds).length = ps.length := by rw [← rr.length]; exact F.len _ _ _ _ h
  refine wpAny_call (codeAny_mono (F.run X.A X.stack s H ⟨us, []⟩ (us ++ ds) (vs ++ dvs) Q (Ex σ) hr I.env0 (hb s us I.kIn ll) rr h) ?_)
  rintro (e | (_ | _ | _ | u)) s' q
  · exact hx pins H s e s' I q
  · exact q.elim
  · exact q.elim
  · exact q.elim
  · exact I.after q
/-- the same, an instance made -/
theorem run_mkx (M : Mk X.K C f) (F : FnOk X.prog X.w X.K X.mg X.base (L2N.CX X.prog X.w) k f fd ps sp) (hr : Room (k + 1) X.A) (hb : Binds X.K fd ps ds) (hd : Vals dvs ds) (hx : PassesAt (L2N.CX X.prog X.w) X σ (Ex σ)) (I : Inv X pins σ H s) (r : Vals vs us)
    (h : ∀ x dx, H x = none → H dx = none → dx ≠ x → sp (.ref x :: (vs ++ dvs)) (upd (upd H dx (.own x)) x (.ins C dx [])) (fun v H2 => v = .non ∧ Q (.ref x) H2) (Ex σ)) :
    wpAny (model X.prog X.w) X.A (call (.ref C) us) (EP X pins σ Q) X.xe s := by
  obtain ⟨n, en⟩ : ∃ n, n = s.heap.objs.size := ⟨_, rfl⟩
  have q := h (n + 1) n (I.hok.fresh (by rw [en]; exact Nat.le_succ _)) (I.hok.fresh (by rw [en]; exact Nat.le_refl _)) (Nat.ne_of_lt (Nat.lt_succ_self _))
  have J := Inv.made (C := C) I
  rw [← en] at J
  have rr : Vals (V.ref (n + 1) :: (vs ++ dvs)) (Value.ref (n + 1) :: (us ++ ds)) := .cons rfl (r.append hd)
  have ll : (Value.ref (n + 1) :: us ++ ds).length = ps.length := by have e := rr.length; rw [F.len _ _ _ _ q] at e; exact e.symm
  subst en
  refine wpAny_call (make_map (f := f) I.kIn M.makes M.init (beq_iff_eq.mp M.fn) (codeAny_mono (F.run _ X.stack _ _ ⟨Value.ref (s.heap.objs.size + 1) :: us, []⟩ _ _ _ (Ex σ) (hr.make C us []) (J.env0.make C us []) (hb _ _ J.kIn ll) rr q) ?_))
  rintro (e | (_ | _ | _ | u)) s' q'
  · exact hx pins _ _ e s' J q'
  · exact q'.elim
  · exact q'.elim
  · exact q'.elim
  · obtain ⟨v, H', I3, rv, ev, q3⟩ := J.after q'
    subst ev
    exact ⟨rv, ⟨V.ref (s.heap.objs.size + 1), H', I3, rfl, q3⟩⟩
/-- .. with keywords -/
theorem run_mkKx {n : Nat} {ks : List Str} {g : List Value → List Value → List Value} {gV : List V → List V → List V} {ws : List Value} {zs : List V} (M : Mk X.K C f) (F : FnOk X.prog X.w X.K X.mg X.base (L2N.CX X.prog X.w) k f fd ps sp) (hr : Room (k + 1) X.A) (hb : KBn X.K fd ps (n + 1) ks g gV)
    (hx : PassesAt (L2N.CX X.prog X.w) X σ (Ex σ)) (I : Inv X pins σ H s) (r : Vals vs us) (rz : Vals zs ws) (l1 : vs.length = n) (l2 : zs.length = ks.length)
    (h : ∀ x dx, H x = none → H dx = none → dx ≠ x → sp (gV (.ref x :: vs) zs) (upd (upd H dx (.own x)) x (.ins C dx [])) (fun v H2 => v = .non ∧ Q (.ref x) H2) (Ex σ)) :
    wpAny (model X.prog X.w) X.A (call (.ref C) us (ks.zip ws)) (EP X pins σ Q) X.xe s := by
  have q := h (s.heap.objs.size + 1) s.heap.objs.size (I.hok.fresh (Nat.le_succ _)) (I.hok.fresh (Nat.le_refl _)) (Nat.ne_of_lt (Nat.lt_succ_self _))
  have J := Inv.made (C := C) I
  have rr : Vals (V.ref (s.heap.objs.size + 1) :: vs) (Value.ref (s.heap.objs.size + 1) :: us) := .cons rfl r
  have nn : (Value.ref (s.heap.objs.size + 1) :: us).length = n + 1 := by rw [List.length_cons, ← r.length, l1]
  refine wpAny_call (make_map (f := f) I.kIn M.makes M.init (beq_iff_eq.mp M.fn) (codeAny_mono (F.run _ X.stack _ _ ⟨Value.ref (s.heap.objs.size + 1) :: us, ks.zip ws⟩ _ _ _ (Ex σ) (hr.make C us (ks.zip ws)) (J.env0.make C us (ks.zip ws))
    (hb.to _ _ ws J.kIn nn (rz.length.symm.trans l2)) (hb.rel rr rz) q) ?_))
  rintro (e | (_ | _ | _ | u)) s' q'
  · exact hx pins _ _ e s' J q'
  · exact q'.elim
  · exact q'.elim
  · exact q'.elim
  · obtain ⟨v, H', I3, rv, ev, q3⟩ := J.after q'
    subst ev
    exact ⟨rv, ⟨V.ref (s.heap.objs.size + 1), H', I3, rfl, q3⟩⟩
end
/-! ### readings over the heap -/
def tMethX (C : Addr) (m : Str) (sp : Sp) (W : WX) (ta : TE) (t : TA) : TE := fun σ H Q => ta σ H fun x H1 => ∃ a dx fs, x = .ref a ∧ H1 a = some (.ins C dx fs) ∧ fs.lookup m = none ∧ t σ H1 fun vs H2 => sp (x :: vs) H2 Q (WE W σ)
def tMakeX (C : Addr) (sp : Sp) (dvs : List V) (W : WX) (t : TA) : TE := fun σ H Q => t σ H fun vs H1 => ∀ x dx, H1 x = none → H1 dx = none → dx ≠ x → sp (.ref x :: (vs ++ dvs)) (upd (upd H1 dx (.own x)) x (.ins C dx [])) (fun v H2 => v = .non ∧ Q (.ref x) H2) (WE W σ)
def tAddX (K : PySem.W.Frag) (C : Addr) (sp : Sp) (W : WX) (ta tb : TE) : TE := fun σ H Q => ta σ H fun x H1 => tb σ H1 fun y H2 => ∃ a dx fs T, x = .ref a ∧ H2 a = some (.ins C dx fs) ∧ TyX K H2 y (.type T) ∧ (T = "list" ∨ T = "tuple") ∧ sp [x, y] H2 Q (WE W σ)
section
variable {X : Cx} {W : WX} {k : Nat} {f C : Addr} {fd : FuncData} {ps : List Str} {ds : List Value} {dvs : List V} {sp : Sp} {ta tb : TE} {t : TA} {a b o e : Expr} {es : List Expr} {x m : Str} {p pos apos : Pos}
theorem pe_methX {pl : Sem Bool} (tk : L2N.Takes X W) (he : PE X o ta) (c : Cls X.K C) (hm : Meth X.K C m f) (F : FnOk X.prog X.w X.K X.mg X.base (L2N.CX X.prog X.w) k f fd ps sp) (hr : Room k X.A) (hb : Binds X.K fd ps []) (ha : PA X (e :: es) t)
    (hst : starEach (e :: es) X.env = (false, eval e X.env) :: starEach es X.env) (hpl : (backTo pos (starEach es X.env)).any (·.1) = false)
    (ht : eval (.Call (.Attribute o m apos) (e :: es) [] pos) X.env = (do let ov ← eval o X.env; standAt apos.atName; let (f, first) ← holding [ov] (getMethod ov m pl); callWith pos f first (backTo pos (starEach (e :: es) X.env)) (backToKw pos (keywordEach [] X.env)))) :
    PE X (.Call (.Attribute o m apos) (e :: es) [] pos) (tMethX C m sp W ta t) := by
  refine ⟨fun pins s σ H Q J h => PySem.W.methodCall_KW (pl := pl) (thn (he.run pins s σ H _ J h) ?_) ht⟩
  rintro u s1 ⟨x, H1, J1, rx, a, dx, fs, rfl, ea, l, q⟩
  obtain rfl : u = Value.ref a := rx
  refine getmeth_ok J1 ea c hm l (PySem.W.callWith_K (first := [.ref a]) (h₀ := X.base) J.ok.mod.kin hm.kp (thn (ha.run pos pins s1 σ H1 _ J1 q) ?_) hst hpl)
  rintro us s2 ⟨vs, H2, J2, r, q2⟩
  exact ⟨J2.kIn, run_x (Ex := WE W) (us := .ref a :: us) (vs := .ref a :: vs) F hr hb .nil (L2N.passAt tk σ) J2 (.cons rfl r) (by simpa using q2)⟩
theorem pe_makeX (tk : L2N.Takes X W) (M : Mk X.K C f) (F : FnOk X.prog X.w X.K X.mg X.base (L2N.CX X.prog X.w) k f fd ps sp) (hr : Room (k + 1) X.A) (hg : Gl X x) (hm : X.mg x = some (.ref C)) (hb : Binds X.K fd ps ds) (hd : Vals dvs ds) (ha : PA X (e :: es) t)
    (hdb : (x == ("__debug__" : Str)) = false) (he : starEach (e :: es) X.env = (false, eval e X.env) :: starEach es X.env) (hpl : (backTo pos (starEach es X.env)).any (·.1) = false) : PE X (.Call (.Name x p) (e :: es) [] pos) (tMakeX C sp dvs W t) := by
  refine ⟨fun pins s σ H Q J h => wpAny_Call_Name_kw (ld_glob J hg hm (PySem.W.callWith_K (h₀ := X.base) J.ok.mod.kin M.kp (thn (ha.run pos pins s σ H _ J h) ?_) he hpl) hdb)⟩
  rintro us s1 ⟨vs, H1, J1, r, q⟩
  exact ⟨J1.kIn, run_mkx (Ex := WE W) M F hr hb hd (L2N.passAt tk σ) J1 r q⟩
variable [KK : KLs]
theorem pe_addX (tk : L2N.Takes X W) (AF : AddF X.K C) (F : FnOk X.prog X.w X.K X.mg X.base (L2N.CX X.prog X.w) k f fd ps sp) (hs : PySem.W.findIn X.K (.ref C) "__add__" = some (some (.ref f))) (hf : PySem.W.isFn X.K (.ref f) = true) (hb : Binds X.K fd ps []) (hr : Room k X.A)
    (h1 : PE X a ta) (h2 : PE X b tb) : PE X (.BinOp a .Add b pos) (tAddX X.K C sp W ta tb) := by
  refine ⟨fun pins s σ H Q I h => wpAny_BinOp (binT h1 h2 I h fun v u s2 x y H2 I2 rx ry q => ?_)⟩
  obtain ⟨a, dx, fs, T, rfl, ha, ty, hT, hsp⟩ := q
  cases rx
  obtain ⟨mA, J, _⟩ := ins_get I2.hok ha
  obtain ⟨od, J, _⟩ := J.look
  obtain ⟨m, hF⟩ := I2.fr
  obtain ⟨P, Z, p, _⟩ := kit_of I2 ry ty
  obtain ⟨fo, ro, h1, h2⟩ := find_add (K := X.K) hT
  have hsub : PySem.W.subIn X.K (.type T) (.ref C) = some false := sub_no T (by rcases hT with rfl | rfl <;> simp [tyNames])
  refine PySem.W.vl_bin (op := .Add) hF I2.ok.mod.kin J (Z.ty _ _ I2.kIn p) AF.sf hs hf AF.hr (.inl rfl) h1 h2 hsub ?_
  refine wpAny_mono (run_x (Ex := WE W) (Q := Q) F hr hb .nil (L2N.passAt tk σ) I2 (show Vals [V.ref a, y] [Value.ref a, u] from .cons rfl (.cons ry .nil)) (by simpa using hsp)) (fun r s' q => ?_) fun _ _ e => e
  obtain ⟨z, H', I', rz, q⟩ := q
  cases z with
  | non => cases rz; exact ⟨.non, H', I', rfl, q⟩
  | bl b => cases rz; exact ⟨.bl b, H', I', rfl, q⟩
  | int i => obtain ⟨t, rfl⟩ := rz; exact ⟨.int i, H', I', ⟨_, rfl⟩, q⟩
  | str i => obtain ⟨t, rfl⟩ := rz; exact ⟨.str i, H', I', ⟨_, rfl⟩, q⟩
  | byt i => obtain ⟨t, rfl⟩ := rz; exact ⟨.byt i, H', I', ⟨_, rfl⟩, q⟩
  | flt i => obtain ⟨t, rfl⟩ := rz; exact ⟨.flt i, H', I', ⟨_, rfl⟩, q⟩
  | ref a => cases rz; exact ⟨.ref a, H', I', rfl, q⟩
  | ty n => cases rz; exact ⟨.ty n, H', I', rfl, q⟩
end
/-! ### over data -/
section
variable [KK : KLs] [XX : XW]
theorem Rep.raise {B0 Z B H B1 H1 : Hp} {σ : L2.St} {ρ : VL.Env} (R : Rep B0 Z B H σ ρ) (g : Grow B H B1 H1) : ∀ x cls dx H', OutX H1 (argBase B1 H1) H1 x cls dx H' → D.alls puF x.2.2 = true → XX.Ed x ρ → XX.W cls dx σ H' := fun x cls dx H' o pu e =>
  R.xl.ll B1 H1 σ ρ x cls dx H' (R.grow g).to0 (o.back g.sub (R.grow g).z pu) pu e
/-- a call that may raise: what the callee is handed -/
theorem hand_callX {n : Nat} {P : PV} {B0 Z B H B1 H1 : Hp} {σ : L2.St} {ρ : VL.Env} {ds : List D} {vs : List V} {F : List Addr} {Qd : D → Prop} {Q : L2.VK} (R : Rep B0 Z B H σ ρ) (g : Grow B H B1 H1) (q : Dens Z B1 H1 ds vs F)
    (hl : (D.maps fArg ds).length = n) (hP : P (D.maps fArg ds) (fun d => d.ow = true ∧ Qd d) (fun z => XX.Ed z ρ)) (k : ∀ d v H', Out Z B H d v H' → Qd d → Q v H') : spV n P vs H1 Q (WE XX.W σ) := by
  refine ⟨argBase B1 H1, D.maps fArg ds, fun d => d.ow = true ∧ Qd d, fun z => XX.Ed z ρ, hl, argBase_sub g.sub, Dens.hand g.sub ds vs F q, ar_arg _, hP, fun d v H' o _ ⟨ow, q⟩ => ?_, R.raise g⟩
  obtain ⟨B', G, g', x, ng, f⟩ := o
  have gb := Grow.back g.sub g'
  refine k d v H' ⟨unB B1 H1 B', G, g.trans gb, Den.back g.sub g' (R.grow g).z d v G ow x, ng, fun a h => ⟨?_, g.sh.free (f a h).2⟩⟩ q
  cases hu : unB B1 H1 B' a with
  | none => rfl
  | some o' => have := unB_sub hu; rw [(f a h).1] at this; cases this
def vMethX (Ex : XD → VL.Env → Prop) (n : Nat) (C : Addr) (m : Str) (P : PV) (ta : TEv) (t : TAv) : TEv := fun ρ Q => ta ρ fun x => match x with
  | .nd (.obj C' ns) xs => C' = C ∧ m ∉ ns ∧ t ρ fun ds => ds.length + 1 = n ∧ P (D.arg (.nd (.obj C' ns) xs) :: D.maps fArg ds) (fun d => d.ow = true ∧ Q d) (fun z => Ex z ρ)
  | _ => False
theorem lk_methX {n : Nat} {C : Addr} {m : Str} {P : PV} {Ta : TE} {ta : TEv} {T : TA} {t : TAv} (la : LE Ta ta) (lb : LA T t) : LE (tMethX C m (spV n P) XX.W Ta T) (vMethX XX.Ed n C m P ta t) := by
  intro B0 Z B H σ ρ Qd Q R h k
  refine la B0 Z B H σ ρ _ _ R h fun x vx H1 ⟨B1, F, g, dx, nf, f⟩ h => ?_
  split at h
  · rename_i C' ns xs _
    obtain ⟨rfl, hm, h⟩ := h
    obtain ⟨a, o, us, G, ev, hx, ⟨l, ddx, c⟩, q', fe⟩ := id dx
    subst ev c
    refine ⟨a, ddx, _, rfl, (R.grow g).sub _ _ hx, lookup_none _ _ hm, ?_⟩
    refine lb B0 Z B1 H1 σ ρ _ _ (R.grow g) h fun ds vs H2 ⟨B2, F2, g2, q, nd, f2⟩ h => ?_
    obtain ⟨hl, hP⟩ := h
    exact hand_callX (ds := .nd (.obj C' ns) xs :: ds) (vs := .ref a :: vs) (F := F ++ F2) R (g.trans g2) ⟨_, _, _, _, rfl, dx.grow g2.sb g2.sh, q, rfl⟩ (by rw [D.maps, List.length_cons, maps_lenI]; exact hl) (by rw [D.maps]; exact hP) k
  · exact h.elim
def vAddX (Ex : XD → VL.Env → Prop) (C : Addr) (P : PV) (ta tb : TEv) : TEv := fun ρ Q => ta ρ fun x => tb ρ fun y => match x with
  | .nd (.obj C' _) _ => C' = C ∧ (y.ty = "list" ∨ y.ty = "tuple") ∧ P [x.arg, y.arg] (fun d => d.ow = true ∧ Q d) (fun z => Ex z ρ)
  | _ => False
theorem lk_addX {C : Addr} {P : PV} {Ta Tb : TE} {ta tb : TEv} (la : LE Ta ta) (lb : LE Tb tb) : LE (tAddX KK.K C (spV 2 P) XX.W Ta Tb) (vAddX XX.Ed C P ta tb) := by
  intro B0 Z B H σ ρ Qd Q R h k
  refine la B0 Z B H σ ρ _ _ R h fun x vx H1 ⟨B1, F, g, dx, n, f⟩ h => ?_
  refine lb B0 Z B1 H1 σ ρ _ _ (R.grow g) h fun y vy H2 ⟨B2, F2, g2, dy, n2, f2⟩ h => ?_
  split at h
  · rename_i C' ns xs _ _
    obtain ⟨rfl, oy, hP⟩ := h
    have dx2 := dx.grow g2.sb g2.sh
    obtain ⟨a, o, us, G, ev, hx, ⟨l, ddx, c⟩, q', fe⟩ := id dx2
    subst ev c
    have R2 := (R.grow g).grow g2
    refine ⟨a, ddx, _, y.ty, rfl, R2.sub _ _ hx, den_tyx R2.sub dy (by rcases oy with e | e <;> (rw [e]; decide)), oy, ?_⟩
    exact hand_callX (n := 2) (P := P) (ds := [.nd (.obj C' ns) xs, y]) (vs := [.ref a, vy]) (F := F ++ (F2 ++ [])) R (g.trans g2) ⟨_, _, _, _, rfl, dx2, ⟨_, _, _, _, rfl, dy, ⟨rfl, rfl⟩, rfl⟩, rfl⟩ rfl hP k
  · exact h.elim
def vMakeX (Ex : XD → VL.Env → Prop) (n : Nat) (P : PI') (C : Addr) (dds : List D) (t : TAv) : TEv := fun ρ Q => t ρ fun ds => (ds ++ dds).length = n ∧ P C (D.maps fArg (ds ++ dds)) (fun ns xs => Q (.obj C ns xs)) (fun z => Ex z ρ)
theorem spI_mono {n : Nat} {P : PI'} {vs : List V} {H : Hp} {Q : L2.VK} {E : XK} {Ed : XD → Prop} {x C dx : Addr} {ds : List D} {ws : List V} {Z B : Hp} {Qd : List Str → List D → Prop} (ev : vs = .ref x :: ws) (hx : H x = some (.ins C dx [])) (sZ : Same Z H) (sB : Same B Z) (zx : Z x = none) (hn : ds.length = n)
    (q : Dens Z B H ds ws []) (na : D.alls arF ds = true) (hP : P C ds Qd Ed) (hq : ∀ ns xs us dx' B' H', Grow B Z B' H' → B' x = none → H' x = some (.ins C dx' (ns.zip us)) → ns.length = us.length → Dens Z B' H' xs us [] → D.alls puF xs = true → Qd ns xs → Q .non H')
    (hE : ∀ e cls dx H', OutX Z B Z e cls dx H' → D.alls puF e.2.2 = true → Ed e → E cls dx H') : spI n P vs H Q E := ⟨Z, B, x, C, dx, ds, ws, Qd, Ed, ev, hx, sZ, sB, zx, hn, q, na, hP, hq, hE⟩
theorem lk_makeX {n : Nat} {P : PI'} {C : Addr} {dds : List D} {dvs : List V} {T : TA} {t : TAv} (hd : Flat dds dvs) (l : LA T t) : LE (tMakeX C (spI n P) dvs XX.W T) (vMakeX XX.Ed n P C dds t) := by
  intro B0 Z B H σ ρ Qd Q R h k
  refine l B0 Z B H σ ρ _ _ R h fun ds vs H1 ⟨B1, F, g, q, nd, f⟩ h => ?_
  intro x dx hx hdx ne
  obtain ⟨hl, hP⟩ := h
  have dd := Dens.app q (hd.dens (Z := Z) (B := B1) (H := H1) _ _).1
  have up : Same H1 (upd (upd H1 dx (.own x)) x (.ins C dx [])) := fun b o e => by
    rw [upd_ne (ne_of_none e hx), upd_ne (ne_of_none e hdx)]; exact e
  refine spI_mono (Z := H1) (B := argBase B1 H1) (ds := D.maps fArg (ds ++ dds)) (ws := vs ++ dvs) rfl upd_same up (argBase_sub g.sub) hx (by rw [D.maps_eq, List.length_map, hl]) (Dens.grow (Same.refl _) up _ _ _ (Dens.hand g.sub _ _ _ dd)) (ar_arg _) hP ?_ (R.raise g)
  intro ns xs us dx' B' H' gr bx hx' hlen dn pu h
  refine ⟨rfl, ?_⟩
  have gb := Grow.back g.sub gr
  have R1 := R.grow g
  have ux : unB B1 H1 B' x = none := by
    cases hu : unB B1 H1 B' x with
    | none => rfl
    | some o => have := unB_sub hu; rw [bx] at this; cases this
  refine k (.obj C ns xs) (.ref x) H' ⟨upd (unB B1 H1 B') x (.ins C dx' (ns.zip us)), [], ⟨fun b o e => ?_, g.sh.trans gb.sh, fun b o e => ?_, fun b o e nt nb => ?_⟩, ?_, List.nodup_nil, fun a h => nomatch h⟩ h
  · have e2 := (g.trans gb).sb _ _ e
    rw [upd_ne (fun z => by rw [z, ux] at e2; cases e2)]; exact e2
  · by_cases z : b = x
    · subst z; rw [upd_same] at e; rw [hx']; exact e
    · rw [upd_ne z] at e; exact gb.sub _ _ e
  · have z : b ≠ x := fun z => by rw [z] at e; rw [g.sh _ _ e] at hx; cases hx
    rw [upd_ne z]
    exact (g.trans gb).old b o e nt nb
  · refine ⟨x, _, us, [], rfl, upd_same, ⟨hlen, dx', rfl⟩, ?_, rfl⟩
    have d2 := Dens.back g.sub gr R1.z xs us [] (alls_ow pu) dn
    refine Dens.grow (fun b o e => ?_) (Same.refl _) _ _ _ d2
    rw [upd_ne (fun z => by rw [z, ux] at e; cases e)]; exact e
end
section
variable [KK : KLs] [XX : XW] {X : Cx} {k j n : Nat} {f C : Addr} {fd : FuncData} {ps : List Str} {ds : List Value} {dds : List D} {dvs : List V} {P : PV} {Pi : PI'} {Ta Tb : TE} {ta tb : TEv} {T : TA} {t : TAv} {a b o e : Expr} {es : List Expr} {x m : Str} {p pos apos : Pos}
theorem e_methX {pl : Sem Bool} (tk : L2N.Takes X XX.W) (c : Cls X.K C) (F : FnOk X.prog X.w X.K X.mg X.base (L2N.CX X.prog X.w) k f fd ps (spV n P)) (hm : Meth X.K C m f) (hb : Binds X.K fd ps []) (hr : Room j X.A) (hk : k ≤ j) (he : VE X o Ta ta) (ha : VA X (e :: es) T t)
    (hst : starEach (e :: es) X.env = (false, eval e X.env) :: starEach es X.env := by rfl) (hpl : (backTo pos (starEach es X.env)).any (·.1) = false := by rfl)
    (ht : eval (.Call (.Attribute o m apos) (e :: es) [] pos) X.env = (do let ov ← eval o X.env; standAt apos.atName; let (f, first) ← holding [ov] (getMethod ov m pl); callWith pos f first (backTo pos (starEach (e :: es) X.env)) (backToKw pos (keywordEach [] X.env))) := by rfl) :
    VE X (.Call (.Attribute o m apos) (e :: es) [] pos) (tMethX C m (spV n P) XX.W Ta T) (vMethX XX.Ed n C m P ta t) := ⟨pe_methX tk he.pe c hm F (hr.mono hk) hb ha.pa hst hpl ht, lk_methX he.lk ha.lk⟩
theorem e_addX (tk : L2N.Takes X XX.W) (AF : AddF KK.K C) (F : FnOk X.prog X.w X.K X.mg X.base (L2N.CX X.prog X.w) k f fd ps (spV 2 P)) (hs : PySem.W.findIn X.K (.ref C) "__add__" = some (some (.ref f))) (hf : PySem.W.isFn X.K (.ref f) = true) (hb : Binds X.K fd ps []) (hr : Room j X.A) (hk : k ≤ j)
    (h1 : VE X a Ta ta) (h2 : VE X b Tb tb) (hK : X.K = KK.K := by rfl) : VE X (.BinOp a .Add b pos) (tAddX KK.K C (spV 2 P) XX.W Ta Tb) (vAddX XX.Ed C P ta tb) := by
  rw [← hK] at AF ⊢
  exact ⟨pe_addX tk AF F hs hf hb (hr.mono hk) h1.pe h2.pe, by rw [hK]; exact lk_addX h1.lk h2.lk⟩
theorem e_makeX (tk : L2N.Takes X XX.W) (M : Mk KK.K C f) (F : FnOk X.prog X.w KK.K X.mg X.base (L2N.CX X.prog X.w) k f fd ps (spI n Pi)) (hb : Binds KK.K fd ps ds) (hd : Vals dvs ds) (hf : Flat dds dvs) (hm : X.mg x = some (.ref C)) (hr : Room j X.A) (hk : k + 1 ≤ j) (ha : VA X (e :: es) T t) (hg : Gl X x := by rfl)
    (hdb : (x == ("__debug__" : Str)) = false := by decide) (he : starEach (e :: es) X.env = (false, eval e X.env) :: starEach es X.env := by rfl) (hpl : (backTo pos (starEach es X.env)).any (·.1) = false := by rfl) (hK : X.K = KK.K := by rfl) :
    VE X (.Call (.Name x p) (e :: es) [] pos) (tMakeX C (spI n Pi) dvs XX.W T) (vMakeX XX.Ed n Pi C dds t) := by
  rw [← hK] at M F hb
  exact ⟨pe_makeX tk M F (hr.mono hk) hg hm hb hd ha.pa hdb he hpl, lk_makeX hf ha.lk⟩
end
end VL

/-! ## VLXC -/
/-! VL: own exceptions: how they are made, raise. -/
namespace VL
open PySem PySem.Spec L2
open PyProof.Rows hiding St
/-! ### str(i) -/
section
variable [KK : KLs] [XX : XW]
def dStrI : RNv := fun ds Q => match ds with
  | [.int i] => i.natAbs < 10 ^ 30 ∧ ∀ z : Str, z.length ≤ 31 → Q (.str z)
  | _ => False
def rStrI : List V → Hp → L2.VK → Prop := fun xs H Q => ∃ i, xs = [.int i] ∧ i.natAbs.log2 < 1920 ∧ Q (.str (toString i)) H
omit KK XX in
theorem log2_small {n : Nat} (h : n < 10 ^ 30) : n.log2 < 1920 := by
  by_cases z : n = 0
  · subst z; decide
  · exact (Nat.log2_lt z).mpr (Nat.lt_of_lt_of_le h (by decide +kernel))
omit KK XX in
theorem str_small {i : Int} (h : i.natAbs < 10 ^ 30) : (Str.ofString (toString i)).length ≤ 31 := by
  have e := PySem.int_text_length_le10 (a := i) (k := 30) (by decide) h
  rw [PySem.ofString_length]
  exact e
theorem lr_strI : LRn rStrI dStrI := by
  intro B0 Z B H σ ρ ds vs F Qd Q R q h k
  unfold dStrI at h
  split at h
  · rename_i i
    obtain ⟨v, e1, x⟩ := dens_one q
    refine ⟨i, by rw [e1, x.1], log2_small h.1, k _ _ _ (Out.of R.sub den_str) (h.2 _ ?_)⟩
    exact str_small h.1
  · exact h.elim
theorem e_strI {X : Cx} {p pos : Pos} {e : Expr} {es : List Expr} {T : TA} {t : TAv} (hm : X.mg "str" = none) (ha : VA X (e :: es) T t) (hg : Gl X "str" := by rfl) (hs : St1 X e es pos := by exact ⟨rfl, rfl⟩) : VE X (.Call (.Name "str" p) (e :: es) [] pos) (tCB rStrI T) (vB dStrI t) :=
  e_callTy call_str_int lr_strI hg hm (by decide +kernel) ha (by decide) (by decide) hs.1 hs.2
end
/-! ### E0.__init__(self, ..), E0 a class over ValueError -/
structure SupF (K : PySem.W.Frag) (C : Addr) : Prop where
  rd : PySem.W.readsIn K C (.type "type") = true
  ga : PySem.W.specialIn K (.ref C) "__getattribute__" = some (some (.builtin "type.__getattribute__"))
  at_ : PySem.W.findCls K (.ref C) (.type "type") "__init__" = some (.val (.builtin "ValueError.__init__"))
theorem pe_sup {X : Cx} {x : Str} {C0 : Addr} {e : Expr} {es : List Expr} {ta : TA} {p1 p2 pos : Pos} {pl : Sem Bool} (hg : Gl X x) (hm : X.mg x = some (.ref C0)) (S : SupF X.K C0) (ha : PA X (e :: es) ta) (hdb : (x == ("__debug__" : Str)) = false)
    (hc : eval (.Call (.Attribute (.Name x p1) "__init__" p2) (e :: es) [] pos) X.env = (do let ov ← eval (.Name x p1) X.env; standAt p2.atName; let (f, first) ← holding [ov] (getMethod ov "__init__" pl); callWith pos f first (backTo pos (starEach (e :: es) X.env)) (backToKw pos (keywordEach [] X.env))))
    (he : starEach (e :: es) X.env = (false, eval e X.env) :: starEach es X.env) (hpl : (backTo pos (starEach es X.env)).any (·.1) = false) : PE X (.Call (.Attribute (.Name x p1) "__init__" p2) (e :: es) [] pos) (tVeI X.K ta) := by
  refine ⟨fun pins s σ H Q J h => PySem.W.methodCall_KW (ld_glob J hg hm ?_ hdb) hc⟩
  refine PySem.W.method_cls J.kIn S.ga (PySem.W.cls_value J.kIn S.rd S.at_ rfl ?_)
  show wpAny _ _ (callWith pos (Value.builtin "ValueError.__init__") [] (backTo pos (starEach (e :: es) X.env)) []) _ _ _
  refine PyProof.Rows.callWith_method1 (thn (ha.run pos pins _ σ H _ (J.tok _) h) ?_) he hpl
  rintro us s1 ⟨vs, H1, J1, r1, a, C, ws, rfl, hl, T, ea, q⟩
  cases r1 with
  | @cons _ u0 _ ur ra rw' =>
    obtain rfl : u0 = Value.ref a := ra
    refine oinit_ok T J1 ea ?_ fun s' I' => ⟨.non, H1, I', rfl, q⟩
    have := Paired.length rw'
    rw [sizeLine_eq]
    omega
/-! ### C(e, ..) for such a class, in a calm frame -/
theorem pmk_xo {X : Cx} {x : Str} {e : Expr} {es : List Expr} {ta : TA} {p pos : Pos} {C fI : Addr} {k : Nat} {fd : FuncData} {ps : List Str} {sp : Sp} (T : OexC X.K C) (iC : PySem.W.findIn X.K (.ref C) "__init__" = some (some (.ref fI))) (tI : PySem.W.typeIn X.K (.ref fI) = some (.type "function"))
    (F1 : FnOk X.prog X.w X.K X.mg X.base (L2N.CX X.prog X.w) k fI fd ps sp) (hr : Room (k + 1) X.A) (hb : Binds X.K fd ps []) (hg : Gl X x) (hm : X.mg x = some (.ref C)) (ha : PA X (e :: es) ta) (hdb : (x == ("__debug__" : Str)) = false)
    (he : starEach (e :: es) X.env = (false, eval e X.env) :: starEach es X.env) (hpl : (backTo pos (starEach es X.env)).any (·.1) = false) : L2N.PMk X (.Call (.Name x p) (e :: es) [] pos) (tMkO C sp [] ta) := by
  intro pins s σ H Q J h
  obtain ⟨nm, q, N, bs, bm, sn, sub, ab, col, dd, k0, k1, k2, k3, k5, hC, hbm⟩ := T.cls
  refine wpAny_Call_Name_kw (ld_glob J hg hm (PySem.W.callWith_K (h₀ := X.base) J.ok.mod.kin T.kC (thn (ha.run pos pins s σ H _ J h) ?_) he hpl) hdb)
  rintro us s1 ⟨vs, H1, I1, r1, hz, q1⟩
  refine ⟨I1.kIn, ?_⟩
  show wpAny _ _ (call (.ref C) us) _ _ _
  obtain ⟨hp, g, dr, tk, os⟩ := s1
  obtain ⟨n, en⟩ : ∃ n, n = hp.objs.size + 1 := ⟨_, rfl⟩
  have nsz : hp.objs.size ≤ n := by rw [en]; exact Nat.le_succ _
  have hn : H1 n = none := I1.hok.fresh nsz
  have hq := q1 n hn
  rw [List.append_nil] at hq
  generalize hh2 : (hp.push (PySem.W.kdv_tup us)).push (PySem.HandSPX.excO C hp.objs.size) = hp2
  have kk : ∀ b o, hp.get? b = some o → hp2.get? b = some o := fun b o e => by rw [← hh2]; exact Heap.get?_push_of_some _ (Heap.get?_push_of_some _ e)
  have hget : hp2.get? n = some (PySem.HandSPX.excO C hp.objs.size) := by rw [← hh2, en]; heap_get
  have I2 : Inv X pins σ (upd H1 n (exo n C none)) ⟨hp2, g, dr, tk, os⟩ := I1.laid (t' := tk) (a := n) (o := exo n C none) (h' := hp2) kk nsz (exo_ok hget)
  have r2 : Vals (V.ref n :: vs) (Value.ref n :: us) := .cons rfl r1
  have hl : (Value.ref n :: us ++ []).length = ps.length := by
    have e := r2.length
    rw [F1.len _ _ _ _ hq] at e
    rw [List.append_nil, e]
  have hus : us.length ≤ sizeLine := by rw [← Paired.length r1, sizeLine_eq]; omega
  have b2 := hb _ (Value.ref n :: us) I2.kIn hl
  rw [List.append_nil] at b2
  subst en hh2
  refine wpAny_call (PySem.HandSPX.call_own F.excBase_ValueError (fun Y => PySem.HandSPX.refsVE_contains Y bm hbm) (I1.kIn _ _ hC) (PySem.W.looks_findIn I1.kIn iC) (fun self => PySem.W.bind_fn I1.kIn self tI) hus
    (codeAny_mono (F1.run _ X.stack _ _ ⟨Value.ref (hp.objs.size + 1) :: us, []⟩ _ _ _ (fun _ _ _ => False) (hr.make C us []) (I2.env0.make C us []) b2 r2 hq) ?_))
  rintro (er | (_ | _ | _ | u)) s' q'
  · exact passN pins σ _ _ er s' I2 q'
  · exact q'.elim
  · exact q'.elim
  · exact q'.elim
  · obtain ⟨v, H2, os2, bare2, un2, hok2, rv, ev, d, fs, ea, ed, hd1, q2⟩ := q'
    subst ev
    obtain ⟨h2, g2, d2, t2, os'⟩ := s'
    obtain ⟨t0, G, K', kG, ge, hoe, na⟩ := mk_end0 (d2 := d2) (t2 := t2) I1 nsz kk un2 hok2 os2 bare2 ea ed hd1
    refine ⟨rv, hp.objs.size + 1, _, _, ⟨G, g2, d2, t2, os'⟩, _, .ref C, some d, rfl, K', kG, ge, hoe, ⟨rfl, rfl, fun vs hv => ?_⟩, rfl, rfl, na, rfl, bare2, raises_own T.exC T.tyC, q2⟩
    cases hv
    rfl
end VL

/-! ## VLXD -/
/-! VL: the __init__ of an own exception; raise. -/
namespace VL
open PySem PySem.Spec L2
open PyProof.Rows hiding St
section
variable [KK : KLs]
/-- the promise of an own exception's __init__: its attributes are laid -/
def spE (ok : List D → Prop) (fl : List Str) : Sp := fun vs H Q E => ∃ (a C : Addr) (ds : List D) (ys : List V), vs = .ref a :: ys ∧ ds.length = fl.length ∧ Flat ds ys ∧ ok ds ∧ OexC KK.K C ∧ (∀ f ∈ fl, PySem.W.findIn KK.K (.ref C) f = some none) ∧ H a = some (exo a C none) ∧
  ∀ H2 d, H2 a = some (exo a C (some d)) → H2 d = some (exd d (fl.zip ys).reverse) → H d = none → d ≠ a → (∀ b o, b ≠ a → H b = some o → H2 b = some o) → Q .non H2
omit KK in
theorem flat_nb : ∀ {ds : List D} {vs : List V}, Flat ds vs → D.alls nbF ds = true
  | [], [], _ => rfl
  | .non :: ds, .non :: vs, h => by simp [D.alls, D.all, flat_nb (ds := ds) (vs := vs) h]
  | .bl b :: ds, .bl c :: vs, h => by simp [D.alls, D.all, flat_nb h.2]
  | .int b :: ds, .int c :: vs, h => by simp [D.alls, D.all, flat_nb h.2]
  | .str b :: ds, .str c :: vs, h => by simp [D.alls, D.all, flat_nb h.2]
theorem rep_e {H : Hp} {a : Addr} {ds : List D} {ys : List V} {m : Nat} (f : Flat ds ys) : Rep (XX := xw0) (fun _ => none) H (fun _ => none) H (some (.ref a) :: (ys.map some ++ List.replicate m none)) (none :: (ds.map some ++ List.replicate m none)) :=
  ⟨xl0, Grow.refl (fun _ _ h => nomatch h), [], ⟨some (.ref a), _, rfl, slots_start (f.dens ds ys).1 (flat_nb f)⟩, List.nodup_nil, fun a h => nomatch h⟩
/-- what E0.__init__ is told behind self -/
def supArg : List Stmt → Expr
  | .Expr (.Call _ [_, e] _ _) _ :: _ => e
  | _ => .Constant .none 0 ⟨0, 0, 0, 0⟩
section
variable {P : Program} {w : World} {mg : Str → Option Value} {base : Heap} {x qual : Str} {params : Arguments} {body : List Stmt} {scope : Scope} {f : Addr} {fd : FuncData} {N ps : List Str} {k n : Nat} {te : TEv} {ok : List D → Prop} {f1 f2 : Str}
theorem fn_e1 (F : FunD KK.K x qual params body scope [] [] f fd) (S : FnScope N ps scope) (hn : ps.length = 2) (hN : N.length = 2)
    (hb : ∀ (cdv : Value) (A : Around) (outer : List PySem.Env) (s : Shared) (H : Hp) (E : XK), Room k (A.deeper (envOfC qual scope s.heap.objs.size f cdv)) → ∃ Te, VE (XX := xw0) (cxOf (L2N.CX P w) P w KK.K mg base N qual scope f cdv A outer s H E).nox (supArg body) Te te ∧
      PSs (cxOf (L2N.CX P w) P w KK.K mg base N qual scope f cdv A outer s H E).nox body (tSeq (tDrop (tVeI KK.K (tCons (tVar 0) (tCons Te tNil)))) (tOst KK.K f1 (tVar 0) (tVar 1))))
    (hm : ∀ d, ok [d] → te [none, some d] (fun z => ∃ y, z = .str y)) : FnOk P w KK.K mg base (L2N.CX P w) (k + 1) f fd ps (spE ok [f1]) := by
  refine F.ok S (fun vs H Q E h => ?_) fun cdv A outer s H vs Q E hr h => ?_
  · obtain ⟨a, C, ds, ys, rfl, hl, fl, _⟩ := h
    have := (fl.dens (Z := H) (B := H) (H := H) ds ys).1.len
    rw [List.length_cons, ← this, hl, hn]; rfl
  · obtain ⟨a, C, ds, ys, rfl, hl, fl, hok, T, hno, ha, q⟩ := h
    have ly := (fl.dens (Z := H) (B := H) (H := H) ds ys).1.len
    match ds, ys, hl, ly with
    | [d], [y], _, _ =>
      obtain ⟨Te, ve, pq⟩ := hb cdv A outer s H E hr
      have lk := ve.lk
      have R := rep_e (H := H) (a := a) (m := 0) fl
      have es : L2.start N [.ref a, y] = [some (.ref a), some y] := by unfold L2.start; rw [hN]; rfl
      refine ⟨_, pq.nox, ?_⟩
      rw [es]
      refine ⟨.ref a, rfl, ?_⟩
      refine lk (fun _ => none) H (fun _ => none) H [some (.ref a), some y] [none, some d] _ _ R (hm d hok) fun z v H1 ⟨B', G, g, dz, _, _⟩ ⟨t, et⟩ => ?_
      subst et
      refine ⟨a, C, [v], rfl, Nat.le_of_ble_eq_true rfl, T, g.sh _ _ ha, ?_⟩
      refine ⟨y, rfl, .ref a, rfl, a, C, rfl, T, hno _ List.mem_cons_self, .inl ⟨g.sh _ _ ha, fun dx hdx ne => ?_⟩⟩
      refine q _ dx upd_same ?_ (g.sh.free hdx) ne fun b o nb hb => ?_
      · rw [upd_ne ne, upd_same]; rfl
      · rw [upd_ne nb, upd_ne (ne_of_none (g.sh _ _ hb) hdx)]; exact g.sh _ _ hb
theorem fn_e2 (F : FunD KK.K x qual params body scope [] [] f fd) (S : FnScope N ps scope) (hn : ps.length = 3) (hN : N.length = 3) (hne : f1 ≠ f2)
    (hb : ∀ (cdv : Value) (A : Around) (outer : List PySem.Env) (s : Shared) (H : Hp) (E : XK), Room k (A.deeper (envOfC qual scope s.heap.objs.size f cdv)) → ∃ Te, VE (XX := xw0) (cxOf (L2N.CX P w) P w KK.K mg base N qual scope f cdv A outer s H E).nox (supArg body) Te te ∧
      PSs (cxOf (L2N.CX P w) P w KK.K mg base N qual scope f cdv A outer s H E).nox body (tSeq (tDrop (tVeI KK.K (tCons (tVar 0) (tCons Te tNil)))) (tSeq (tOst KK.K f1 (tVar 0) (tVar 1)) (tOst KK.K f2 (tVar 0) (tVar 2)))))
    (hm : ∀ d e, ok [d, e] → te [none, some d, some e] (fun z => ∃ y, z = .str y)) : FnOk P w KK.K mg base (L2N.CX P w) (k + 1) f fd ps (spE ok [f1, f2]) := by
  refine F.ok S (fun vs H Q E h => ?_) fun cdv A outer s H vs Q E hr h => ?_
  · obtain ⟨a, C, ds, ys, rfl, hl, fl, _⟩ := h
    have := (fl.dens (Z := H) (B := H) (H := H) ds ys).1.len
    rw [List.length_cons, ← this, hl, hn]; rfl
  · obtain ⟨a, C, ds, ys, rfl, hl, fl, hok, T, hno, ha, q⟩ := h
    have ly := (fl.dens (Z := H) (B := H) (H := H) ds ys).1.len
    match ds, ys, hl, ly with
    | [d, e], [y, y'], _, _ =>
      obtain ⟨Te, ve, pq⟩ := hb cdv A outer s H E hr
      have lk := ve.lk
      have R := rep_e (H := H) (a := a) (m := 0) fl
      have es : L2.start N [.ref a, y, y'] = [some (.ref a), some y, some y'] := by unfold L2.start; rw [hN]; rfl
      refine ⟨_, pq.nox, ?_⟩
      rw [es]
      refine ⟨.ref a, rfl, ?_⟩
      refine lk (fun _ => none) H (fun _ => none) H [some (.ref a), some y, some y'] [none, some d, some e] _ _ R (hm d e hok) fun z v H1 ⟨B', G, g, dz, _, _⟩ ⟨t, et⟩ => ?_
      subst et
      refine ⟨a, C, [v], rfl, Nat.le_of_ble_eq_true rfl, T, g.sh _ _ ha, ?_⟩
      refine ⟨y, rfl, .ref a, rfl, a, C, rfl, T, hno _ List.mem_cons_self, .inl ⟨g.sh _ _ ha, fun dx hdx ne => ?_⟩⟩
      refine ⟨y', rfl, .ref a, rfl, a, C, rfl, T, hno _ (List.mem_cons_of_mem _ List.mem_cons_self), .inr ⟨dx, [(f1, y)], upd_same, ?_, Nat.le_of_ble_eq_true rfl, ?_⟩⟩
      · rw [upd_ne ne, upd_same]
      · refine q _ dx ?_ ?_ (g.sh.free hdx) ne fun b o nb hb => ?_
        · rw [upd_ne (Ne.symm ne), upd_same]
        · rw [upd_same]; rfl
        · rw [upd_ne (ne_of_none (g.sh _ _ hb) hdx), upd_ne nb, upd_ne (ne_of_none (g.sh _ _ hb) hdx)]; exact g.sh _ _ hb
end
end
/-! ### raise C(e, ..) -/
section
variable [KK : KLs] [XX : XW]
def D.flat : D → Bool
  | .non => true | .bl _ => true | .int _ => true | .str _ => true | _ => false
def flats (ds : List D) : Bool := ds.all D.flat
omit KK XX in
theorem flats_pu {ds : List D} (h : flats ds = true) : D.alls puF ds = true := by
  rw [D.alls_eq, List.all_eq_true]
  intro d hd
  have := (List.all_eq_true.mp h) d hd
  cases d <;> first | rfl | exact nomatch this
omit XX in
theorem flat_of {Z B H : Hp} : ∀ {ds : List D} {vs : List V} {F : List Addr}, flats ds = true → Dens Z B H ds vs F → Flat ds vs
  | [], _, _, _, ⟨e, _⟩ => by subst e; exact True.intro
  | d :: ds, _, _, h, ⟨v, ws, G1, G2, e, x, q, f⟩ => by
    subst e
    have h' : d.flat = true ∧ flats ds = true := by simpa [flats] using h
    have ih := flat_of h'.2 q
    cases d with
    | non => obtain ⟨rfl, _⟩ := x; exact ih
    | bl b => obtain ⟨rfl, _⟩ := x; exact ⟨rfl, ih⟩
    | int b => obtain ⟨rfl, _⟩ := x; exact ⟨rfl, ih⟩
    | str b => obtain ⟨rfl, _⟩ := x; exact ⟨rfl, ih⟩
    | cst u => exact nomatch h'.1
    | nd hd xs => exact nomatch h'.1
omit XX in
theorem Dens.rev {Z B H : Hp} : ∀ {ds : List D} {vs : List V}, Dens Z B H ds vs [] → Dens Z B H ds.reverse vs.reverse []
  | [], _, ⟨e, _⟩ => by subst e; exact ⟨rfl, rfl⟩
  | d :: ds, _, ⟨v, ws, G1, G2, e, x, q, f⟩ => by
    subst e
    have f1 : G1 = [] := (List.append_eq_nil_iff.mp f.symm).1
    have f2 : G2 = [] := (List.append_eq_nil_iff.mp f.symm).2
    subst f1 f2
    rw [List.reverse_cons, List.reverse_cons]
    exact Dens.app (Dens.rev q) (Dens.one x)
omit KK XX in
theorem zip_rev {α β : Type} : ∀ {l : List α} {r : List β}, l.length = r.length → (l.zip r).reverse = l.reverse.zip r.reverse
  | [], [], _ => rfl
  | a :: l, b :: r, h => by
    rw [List.zip_cons_cons, List.reverse_cons, List.reverse_cons, List.reverse_cons, zip_rev (by simpa using h), List.zip_append (by simpa using h)]
    rfl
omit KK XX in
theorem alls_rev {p : Fl → Bool} {ds : List D} (h : D.alls p ds = true) : D.alls p ds.reverse = true := by
  rw [D.alls_eq] at h ⊢
  rw [List.all_reverse]; exact h
def vRaise (Ex : XD → VL.Env → Prop) (C : Addr) (ok : List D → Prop) (fl : List Str) (t : TAv) : TSv := fun _ ρ => t ρ fun ds => ds.length = fl.length ∧ fl.length ≤ 1000 ∧ flats ds = true ∧ ok ds ∧ Ex (C, fl.reverse, ds.reverse) ρ
theorem lk_raise {C : Addr} {ok : List D → Prop} {fl : List Str} {T : TA} {t : TAv} (OC : OexC KK.K C) (hno : ∀ f ∈ fl, PySem.W.findIn KK.K (.ref C) f = some none) (la : LA T t) :
    LS (fun _ σ H => tMkO C (spE ok fl) [] T σ H fun cls d H' => XX.W cls d σ H') (vRaise XX.Ed C ok fl t) := by
  intro B0 Z B H σ ρ Dv De R h S
  refine la B0 Z B H σ ρ _ _ R h fun ds vs H1 ⟨B1, F, g, q, nd, f⟩ ⟨hl, hle, fls, hok, hE⟩ => ?_
  have ly := q.len
  have eF : F = [] := pu_fp q (flats_pu fls)
  subst eF
  refine ⟨by rw [← ly, hl]; exact hle, fun a ha => ⟨a, C, ds, vs, by rw [List.append_nil], hl, flat_of fls q, hok, OC, hno, upd_same, ?_⟩⟩
  intro H2 d ea ed hd ne fr
  rw [upd_ne ne] at hd
  refine ⟨rfl, d, _, ea, ed, hd, ?_⟩
  have sh : Same H1 (upd (del H2 a) d (.xd (fl.zip vs).reverse)) := fun b o eb => by
    have ba : b ≠ a := ne_of_none eb ha
    rw [upd_ne (ne_of_none eb hd), del_ne ba]
    exact fr b o ba (by rw [upd_ne ba]; exact eb)
  have bd : B1 d = none := g.sub.free hd
  refine R.xl.ll B1 H1 σ ρ (C, fl.reverse, ds.reverse) _ _ _ (R.grow g).to0 ⟨rfl, upd B1 d (.xd (fl.zip vs).reverse), ⟨fun b o eb => ?_, sh, fun b o eb => ?_, fun b o eb _ nb => ?_⟩, .inr ⟨d, vs.reverse, rfl, ?_, ?_, ?_⟩⟩ (alls_rev (flats_pu fls)) hE
  · rw [upd_ne (ne_of_none eb bd)]; exact eb
  · by_cases z : b = d
    · subst z; rw [upd_same] at eb ⊢; exact eb
    · rw [upd_ne z] at eb; exact sh _ _ (g.sub _ _ eb)
  · rw [upd_ne (ne_of_none eb hd)]; exact nb
  · show upd B1 d _ d = some (.xd (fl.reverse.zip vs.reverse))
    rw [upd_same, zip_rev (by rw [← ly, hl])]
  · show fl.reverse.length = vs.reverse.length
    rw [List.length_reverse, List.length_reverse, ← ly, hl]
  · refine Dens.grow (fun b o eb => ?_) sh _ _ _ (Dens.rev q)
    rw [upd_ne (ne_of_none eb bd)]; exact eb
/-- the facts of an own exception class -/
structure XcF (K : PySem.W.Frag) (C f : Addr) : Prop where
  oc : OexC K C
  it : PySem.W.findIn K (.ref C) "__init__" = some (some (.ref f))
  ty : PySem.W.typeIn K (.ref f) = some (.type "function")
theorem s_raise {X : Cx} {x : Str} {e : Expr} {es : List Expr} {T : TA} {t : TAv} {p pos pos' : Pos} {C fI : Addr} {k j : Nat} {fd : FuncData} {ps : List Str} {ok : List D → Prop} {fl : List Str} (tk : L2N.Takes X XX.W) (XF : XcF KK.K C fI) (hno : ∀ f ∈ fl, PySem.W.findIn KK.K (.ref C) f = some none)
    (F : FnOk X.prog X.w X.K X.mg X.base (L2N.CX X.prog X.w) k fI fd ps (spE ok fl)) (hb : Binds X.K fd ps []) (hr : Room j X.A) (hk : k + 1 ≤ j) (hm : X.mg x = some (.ref C)) (ha : VA X (e :: es) T t) (hc : X.calm = true := by rfl) (hg : Gl X x := by rfl)
    (hdb : (x == ("__debug__" : Str)) = false := by decide) (he : starEach (e :: es) X.env = (false, eval e X.env) :: starEach es X.env := by rfl) (hpl : (backTo pos (starEach es X.env)).any (·.1) = false := by rfl) (hK : X.K = KK.K := by rfl) :
    VS X (.Raise (some (.Call (.Name x p) (e :: es) [] pos)) none pos') (fun _ σ H => tMkO C (spE ok fl) [] T σ H fun cls d H' => XX.W cls d σ H') (vRaise XX.Ed C ok fl t) :=
  ⟨L2N.ps_raise hc tk (pmk_xo (by rw [hK]; exact XF.oc) (by rw [hK]; exact XF.it) (by rw [hK]; exact XF.ty) F (hr.mono hk) hb hg hm ha.pa hdb he hpl), lk_raise XF.oc hno ha.lk⟩
end
end VL

/-! ## VLXE -/
/-! VL: try: .. except C as e: .. ; e.f in the suite. -/
namespace VL
open PySem PySem.Spec L2
open PyProof.Rows hiding St
section
variable [KK : KLs]
theorem Dens.fix {Z Z' B H H' : Hp} {ds : List D} {vs : List V} (h : Dens Z B H ds vs []) (n : D.alls puF ds = true) : Dens Z' B H' ds vs [] := by
  have K : FlagOk id Z B H Z' B H' puF (fun _ => True) id := ⟨⟨rfl, fun _ => rfl, fun _ => rfl⟩, fun f a o G hf _ x => ⟨by cases f <;> first | exact x | (exact nomatch hf), rfl⟩, rfl, fun _ _ => rfl⟩
  have e : D.maps id ds = ds := maps_id ds
  have := Dens.flag K ds vs [] n (fun _ _ => True.intro) h
  rwa [e] at this
/-- in a suite: nothing may be raised; the exception's attributes are known -/
def knS (x : XD) (d : Option Addr) (B : Hp) : Prop := x.2.1 = [] ∨ ∃ dd vs, d = some dd ∧ B dd = some (.xd (x.2.1.zip vs)) ∧ x.2.1.length = vs.length ∧ ∀ Z H, Dens Z B H x.2.2 vs []
abbrev xwS (x : XD) (d : Option Addr) : XW := ⟨fun _ _ _ _ => False, fun _ _ => False, knS x d, fun B B' s h => h.imp id fun ⟨dd, vs, h1, h2, h3, h4⟩ => ⟨dd, vs, h1, s _ _ h2, h3, fun Z H => Dens.grow s (Same.refl _) _ _ _ (h4 Z H)⟩⟩
/-- a body's link, whatever is wished -/
theorem tr_lk {X : Cx} {body : List Stmt} {Tb : WX → TS} {tb : (XD → VL.Env → Prop) → TSv} (hs : X.stack = X.env :: X.outer) (hf : X.env.frame = some X.env.locals)
    (hb : ∀ (y : XW) (pn : List (Addr × Obj)) (xe : Value → Shared → Prop), L2N.Takes (X.tr pn xe) y.W → PassesOwn (model X.prog X.w) X.A X.env xe → VSs (XX := y) (X.tr pn xe) body (Tb y.W) (tb y.Ed)) (y : XW) : LS (XX := y) (Tb y.W) (tb y.Ed) := by
  refine @VSs.lk _ y _ _ _ _ (hb y [] (fun e s₁ => wpAny (model X.prog X.w) X.A (noteFrame e X.env) (fun _ s₂ => wpAny (model X.prog X.w) X.A (setFlight e none) (fun _ s₃ => True) X.xe s₂) X.xe s₁) (fun u s' xx => ?_) PassesOwn.looking)
  obtain ⟨a, B, sI, pins', σ', H', cls, d, rfl, J', nb, up, sky, _⟩ := xx
  have hfr : X.A.frames = some (X.env :: X.outer) := by rw [← hs]; exact J'.ok.frames
  have sky' : Sky B (X.env :: X.outer) a (L2N.Zn cls d) X.env.locals s'.heap := by rw [← hs]; exact sky
  exact L2N.Sky.land L2N.Zn.steady hfr hf sky' fun h3 fl3 up3 => True.intro
def tsOf (T : Addr → Addr → Option Addr → TS) : Addr → Value → Option Addr → TS := fun a cls d => match cls with
  | .ref C => T a C d
  | _ => fun _ _ _ => False
theorem pss_false {X : Cx} {sts : List Stmt} : PSs X sts (fun _ _ _ => False) := ⟨fun _ _ _ _ _ _ h => h.elim⟩
theorem oe_ok (C : Addr) (d : Option Addr) : ∃ oe : Obj, L2N.Zn (.ref C) d oe ∧ ∃ vs, oe.data = .fields vs := ⟨{ cls := .ref C, dict := d, data := .fields #[.none, .none, .none] }, ⟨rfl, rfl, fun vs e => by cases e; rfl⟩, _, rfl⟩
end
def endsS (i : Nat) (D : Ev) : Ev := { nx := fun r => D.nx (r.set i none), rt := D.rt, bk := fun r => D.bk (r.set i none), ct := fun r => D.ct (r.set i none) }
def vTry (ok : Addr → Prop) (i : Nat) (tb : (XD → VL.Env → Prop) → TSv) (ts : XD → Addr → TSv) : TSv := fun D ρ => tb (fun x r => ok x.1 ∧ ∀ a : Addr, ts x a (endsS i D) (r.set i (some (.cst (.ref a))))) D ρ
section
variable [KK : KLs]
/-- the frame behind the catch -/
theorem rep_catch {B0 Z B H B' H' : Hp} {σ : L2.St} {ρ : VL.Env} {i : Nat} {a : Addr} (R : Rep0 B0 Z B H σ ρ) (g : Grow B H B' H') : Rep0 B' Z B' H' (σ.set i (some (.ref a))) (ρ.set i (some (.cst (.ref a)))) := by
  have R1 := Rep.grow (⟨xl0, R.gr, R.ex⟩ : Rep (XX := xw0) B0 Z B H σ ρ) g
  obtain ⟨F, q, n, z⟩ := R1.ex
  obtain ⟨F', h1, h2, h3⟩ := q.set (d := .cst (.ref a)) (v := .ref a) (G := []) i n rfl den_cst List.nodup_nil (fun a h => nomatch h)
  exact ⟨⟨Same.refl _, R1.gr.sh, R1.gr.sub, fun _ _ _ _ n => n⟩, F', h1, h2, fun b hb => (h3 b hb).elim (z b) (fun h => nomatch h)⟩
theorem rep_leave {B0 Z B1 H1 B H : Hp} {σ : L2.St} {ρ : VL.Env} (i : Nat) (g : Grow B0 Z B1 H1) (R : Rep0 B1 Z B H σ ρ) : Rep0 B0 Z B H (σ.set i none) (ρ.set i none) := by
  have R1 := Rep.drop i (⟨xl0, R.gr, R.ex⟩ : Rep (XX := xw0) B1 Z B H σ ρ)
  exact ⟨⟨g.sb.trans R.gr.sb, R.gr.sh, R.gr.sub, fun a o e nt n => R.gr.old a o e nt (g.old a o e nt n)⟩, R1.ex⟩
end
section
variable [KK : KLs]
abbrev xwT (c : Addr) (ok : Addr → Prop) (i : Nat) (T : Addr → Addr → Option Addr → TS) (ts : XD → Addr → TSv) (W : WX) (De : Ends) (Dv : Ev) : XW := ⟨wAs KK.K (.ref c) i (tsOf T) W De, fun x r => ok x.1 ∧ ∀ a : Addr, ts x a (endsS i Dv) (r.set i (some (.cst (.ref a)))), fun _ => True, fun _ _ _ _ => True.intro⟩
end
section
variable [KK : KLs] [XX : XW]
theorem lk_try {c : Addr} {ok : Addr → Prop} {i : Nat} {Tb : WX → TS} {tb : (XD → VL.Env → Prop) → TSv} {T : Addr → Addr → Option Addr → TS} {ts : XD → Addr → TSv} (hok : ∀ C, ok C → PySem.W.exmOne KK.K (.ref C) (.ref c) = some true)
    (hb : ∀ y : XW, LS (XX := y) (Tb y.W) (tb y.Ed)) (hsu : ∀ (x : XD) (d : Option Addr) (a : Addr), LS (XX := xwS x d) (T a x.1 d) (ts x a)) :
    LS (fun D σ H => Tb (wAs KK.K (.ref c) i (tsOf T) XX.W D) D σ H) (vTry ok i tb ts) := by
  intro B0 Z B H σ ρ Dv De R h S
  have full : ∀ {B H : Hp} {σ : L2.St} {ρ : VL.Env}, Rep0 B0 Z B H σ ρ → Rep (XX := XX) B0 Z B H σ ρ := fun R0 => @Rep.mk _ XX _ _ _ _ _ _ R.xl R0.gr R0.ex
  refine ls_run (xwT c ok i T ts XX.W De Dv) (hb (xwT c ok i T ts XX.W De Dv)) (@XL.mk _ (xwT c ok i T ts XX.W De Dv) _ _ True.intro fun B1 H1 σ1 ρ1 x cls dx H' R1 o pu e => ?_) (@Rep.to0 _ XX _ _ _ _ _ _ R) h (fun B H σ ρ R0 q => S.nx B H σ ρ (full R0) q) S.rt (fun B H σ ρ R0 q => S.bk B H σ ρ (full R0) q) (fun B H σ ρ R0 q => S.ct B H σ ρ (full R0) q)
  obtain ⟨hokx, hts⟩ := e
  obtain ⟨hc, B', g', hx⟩ := o
  subst hc
  refine ⟨true, hok _ hokx, fun _ a na => ?_, fun z => nomatch z⟩
  have gg := R1.gr.trans g'
  have hkn : knS x dx B' := hx.imp id fun ⟨dd, vs, hd, hB, hl, hD⟩ => ⟨dd, vs, hd, hB, hl, fun Z' H'' => Dens.fix hD pu⟩
  refine ls_run (xwS x dx) (hsu x dx a) (@XL.mk _ (xwS x dx) _ _ hkn fun _ _ _ _ _ _ _ _ _ _ _ z => False.elim z) (rep_catch R1 g') (hts a) (fun B3 H3 σ3 ρ3 R3 q => ?_) (fun d v H3 o ow q => ?_) (fun B3 H3 σ3 ρ3 R3 q => ?_) (fun B3 H3 σ3 ρ3 R3 q => ?_)
  · exact S.nx _ _ _ _ (full (rep_leave i gg R3)) q
  · exact S.rt d v H3 (o.unbase gg) ow q
  · exact S.bk _ _ _ _ (full (rep_leave i gg R3)) q
  · exact S.ct _ _ _ _ (full (rep_leave i gg R3)) q
theorem s_try0 {X : Cx} {x n : Str} {c : Addr} {ok : Addr → Prop} {body suite : List Stmt} {b₀ : Stmt} {np pos pos' : Pos} {Tb : WX → TS} {tb : (XD → VL.Env → Prop) → TSv} {T : Addr → Addr → Option Addr → TS} {ts : XD → Addr → TSv} (i : Nat) (hok : ∀ C, ok C → PySem.W.exmOne KK.K (.ref C) (.ref c) = some true)
    (tk : L2N.Takes X XX.W) (hN : X.N.Nodup) (hm : X.mg x = some (.ref c))
    (hb : ∀ (y : XW) (pn : List (Addr × Obj)) (xe : Value → Shared → Prop), L2N.Takes (X.tr pn xe) y.W → PassesOwn (model X.prog X.w) X.A X.env xe → VSs (XX := y) (X.tr pn xe) body (Tb y.W) (tb y.Ed))
    (hsu : ∀ (a : Addr) (oe : Obj) (C : Addr) (d : Option Addr) (pn : List (Addr × Obj)) (ns : List Str) (xs : List D) (y : XW), y = xwS (C, ns, xs) d → L2N.Zn (.ref C) d oe → (∃ vs, oe.data = .fields vs) → VSs (XX := y) (X.suite a ((a, oe) :: pn)) (b₀ :: suite) (T a C d) (ts (C, ns, xs) a))
    (hi : X.N[i]? = some n := by rfl) (hln : X.env.kindOf n = some .local := by rfl) (hg : Gl X x := by rfl) (hdb : (x == ("__debug__" : Str)) = false := by decide) (hs : X.stack = X.env :: X.outer := by rfl) (hf : X.env.frame = some X.env.locals := by rfl) (hK : X.K = KK.K := by rfl) :
    VS X (.Try body [.ExceptHandler (some (.Name x np)) (some n) (b₀ :: suite) pos'] [] [] pos) (fun D σ H => Tb (wAs KK.K (.ref c) i (tsOf T) XX.W D) D σ H) (vTry ok i tb ts) := by
  refine ⟨?_, lk_try hok (tr_lk hs hf hb) fun x d a => ?_⟩
  · rw [← hK]
    refine L2N.ps_try_as hs hf hN hi hln ⟨hg, hdb, .inl hm⟩ tk (fun W pn xe tk' po => @VSs.ps _ ⟨W, fun _ _ => False, fun _ => True, fun _ _ _ _ => True.intro⟩ _ _ _ _ (hb ⟨W, fun _ _ => False, fun _ => True, fun _ _ _ _ => True.intro⟩ pn xe tk' po)) fun a oe cls d pn hz hfl => ?_
    cases cls with
    | ref C => exact @VSs.ps _ (xwS (C, [], []) d) _ _ _ _ (hsu a oe C d pn [] [] _ rfl hz hfl)
    | _ => exact pss_false
  · obtain ⟨oe, h1, h2⟩ := oe_ok x.1 d
    exact @VSs.lk _ (xwS x d) _ _ _ _ (hsu a oe x.1 d [] x.2.1 x.2.2 _ rfl h1 h2)
/-- the wish that W alone makes -/
abbrev xwOf (W : WX) : XW := ⟨W, fun _ _ => False, fun _ => True, fun _ _ _ _ => True.intro⟩
theorem s_try {X : Cx} {x n : Str} {c : Addr} {ok : Addr → Prop} {body suite : List Stmt} {b₀ : Stmt} {np pos pos' : Pos} {Tb : XW → TS} {tb : (XD → VL.Env → Prop) → TSv} {T : Addr → Addr → Option Addr → TS} {ts : XD → Addr → TSv} (i : Nat) (hok : ∀ C, ok C → PySem.W.exmOne KK.K (.ref C) (.ref c) = some true)
    (tk : L2N.Takes X XX.W) (hN : X.N.Nodup) (hm : X.mg x = some (.ref c))
    (hb : ∀ (y : XW) (pn : List (Addr × Obj)) (xe : Value → Shared → Prop), L2N.Takes (X.tr pn xe) y.W → PassesOwn (model X.prog X.w) X.A X.env xe → VSs (XX := y) (X.tr pn xe) body (Tb y) (tb y.Ed))
    (hsu : ∀ (a : Addr) (oe : Obj) (C : Addr) (d : Option Addr) (pn : List (Addr × Obj)) (ns : List Str) (xs : List D) (y : XW), y = xwS (C, ns, xs) d → L2N.Zn (.ref C) d oe → (∃ vs, oe.data = .fields vs) → VSs (XX := y) (X.suite a ((a, oe) :: pn)) (b₀ :: suite) (T a C d) (ts (C, ns, xs) a))
    (hT : ∀ y : XW, Tb y = Tb (xwOf y.W) := by intro _; rfl)
    (hi : X.N[i]? = some n := by rfl) (hln : X.env.kindOf n = some .local := by rfl) (hg : Gl X x := by rfl) (hdb : (x == ("__debug__" : Str)) = false := by decide) (hs : X.stack = X.env :: X.outer := by rfl) (hf : X.env.frame = some X.env.locals := by rfl) (hK : X.K = KK.K := by rfl) :
    VS X (.Try body [.ExceptHandler (some (.Name x np)) (some n) (b₀ :: suite) pos'] [] [] pos) (fun D σ H => Tb (xwOf (wAs KK.K (.ref c) i (tsOf T) XX.W D)) D σ H) (vTry ok i tb ts) :=
  s_try0 (Tb := fun W => Tb (xwOf W)) i hok tk hN hm (fun y pn xe tk po => by rw [← hT y]; exact hb y pn xe tk po) hsu hi hln hg hdb hs hf hK
end
/-! ### e.f in the suite -/
section
variable [KK : KLs]
def tXfG (p : Prop) (a C : Addr) (d : Option Addr) (f : Str) (te : TE) : TE := fun σ H Q => p ∧ tXf a (.ref C) d C f te σ H Q
def vXf (okC : Addr → Prop) (C a : Addr) (ns : List Str) (xs : List D) (f : Str) (te : TEv) : TEv := fun ρ Q => okC C ∧ te ρ fun y => y = .cst (.ref a) ∧ ∃ z, (ns.zip xs).lookup f = some z ∧ Q z.bor
theorem lk_xf {okC : Addr → Prop} {C a : Addr} {d : Option Addr} {ns : List Str} {xs : List D} {f : Str} {Te : TE} {te : TEv} (la : LE (XX := xwS (C, ns, xs) d) Te te) : LE (XX := xwS (C, ns, xs) d) (tXfG (okC C) a C d f Te) (vXf okC C a ns xs f te) := by
  intro B0 Z B H σ ρ Qd Q R h k
  refine ⟨h.1, ?_⟩
  refine la B0 Z B H σ ρ _ _ R h.2 fun y vy H1 ⟨B1, F, g, dy, n, fr⟩ ⟨ey, z, hz, q⟩ => ?_
  subst ey
  have ev : vy = .ref a := dy.1
  subst ev
  have gr := @Rep.gr _ (xwS (C, ns, xs) d) _ _ _ _ _ _ R
  have kn : knS (C, ns, xs) d B0 := @XL.kn _ (xwS (C, ns, xs) d) _ _ (@Rep.xl _ (xwS (C, ns, xs) d) _ _ _ _ _ _ R)
  rcases kn with e | ⟨dd, vs, hd, hB, hl, hD⟩
  · have e : ns = [] := e
    subst e
    simp at hz
  · have gs : Same B0 B1 := gr.sb.trans g.sb
    obtain ⟨v, G, e3, y⟩ := lookup_zip hl (hD Z H1) hz
    refine ⟨rfl, rfl, dd, _, v, hd, g.sub _ _ (gs _ _ hB), e3, ?_⟩
    exact k _ _ _ ((Out.of g.sub (Den.grow gs (Same.refl _) _ _ _ y.see)).after g) q
def vXfx (okC : Addr → Prop) (a : Addr) (x : XD) (f : Str) (te : TEv) : TEv := vXf okC x.1 a x.2.1 x.2.2 f te
theorem e_xf {X : Cx} {y : XW} {a C : Addr} {oe : Obj} {d : Option Addr} {pn : List (Addr × Obj)} {okC : Addr → Prop} {ns : List Str} {xs : List D} {f : Str} {e : Expr} {Te : TE} {te : TEv} {pos : Pos} (hk : ∀ C, okC C → XfC X.K C ∧ PySem.W.findIn X.K (.ref C) f = some none) (hy : y = xwS (C, ns, xs) d) (hz : L2N.Zn (.ref C) d oe) (hf : ∃ vs, oe.data = .fields vs)
    (he : VE (XX := y) (X.suite a ((a, oe) :: pn)) e Te te) (hb : attributeBase e f X.env (eval e X.env) = eval e X.env := by rfl) : VE (XX := y) (X.suite a ((a, oe) :: pn)) (.Attribute e f pos) (tXfG (okC C) a C d f Te) (vXfx okC a (C, ns, xs) f te) := by
  subst hy
  exact @VE.mk _ (xwS (C, ns, xs) d) _ _ _ _ ⟨fun pins s σ H Q I h => (pe_xf (pos := pos) (hk C h.1).1 (hk C h.1).2 hz.zc hf (@VE.pe _ (xwS (C, ns, xs) d) _ _ _ _ he) hb).run pins s σ H Q I h.2⟩ (lk_xf (@VE.lk _ (xwS (C, ns, xs) d) _ _ _ _ he))
end
end VL

/-! ## VLXF -/
/-! VL: defs that are called while an exception is handled; isinstance of that exception. -/
namespace VL
open PySem PySem.Spec L2
open PyProof.Rows hiding St
/-- the exception that is handled: its place, class, dict; its attributes as data -/
structure EI where
  a : Addr
  C : Addr
  d : Option Addr
  ns : List Str
  xs : List D
abbrev EI.x (i : EI) : XD := (i.C, i.ns, i.xs)
structure EI.ok (i : EI) (p : Addr × Obj) : Prop where
  a : p.1 = i.a
  z : L2N.Zn (.ref i.C) i.d p.2
  f : ∃ vs, p.2.data = .fields vs
/-- what a def promises there, i the exception -/
structure FnE (P : Program) (w : World) (K : PySem.W.Frag) (mg : Str → Option Value) (base : Heap) (k : Nat) (f : Addr) (fd : FuncData) (ps : List Str) (sp : EI → Sp) : Prop where
  len : ∀ i vs H Q E, sp i vs H Q E → vs.length = ps.length
  run : ∀ (A : Around) (outer : List PySem.Env) (s : Shared) (H : Hp) (args : Args) (us : List Value) (vs : List V) (Q : L2.VK) (E : XK) (p : Addr × Obj) (i : EI), L2H.RoomH k A → L2H.Hot1 A p → i.ok p → L2H.PinOk outer H s p → Env0 P w K mg base A outer s H →
    BindsTo s fd args (ps.zip us) → Vals vs us → sp i vs H Q E → codeAny (model P w) A (.call (.ref f) args) (CR (L2N.CX P w) outer P w H s Q E) s
section
variable {P : Program} {w : World} {K : PySem.W.Frag} {mg : Str → Option Value} {base : Heap} {x qual : Str} {params : Arguments} {body : List Stmt} {scope : Scope} {dvs : List V} {kws : List (Str × V)} {f : Addr} {fd : FuncData} {N ps : List Str} {k : Nat} {sp : EI → Sp}
theorem fn_ofE (F : FunD K x qual params body scope dvs kws f fd) (S : FnScope N ps scope) (len : ∀ i vs H Q E, sp i vs H Q E → vs.length = ps.length)
    (hb : ∀ (cdv : Value) (A : Around) (outer : List PySem.Env) (s : Shared) (H : Hp) (vs : List V) (Q : L2.VK) (E : XK) (p : Addr × Obj) (i : EI), i.ok p → L2H.Hot1 A p → L2H.RoomH k (A.deeper (envOfC qual scope s.heap.objs.size f cdv)) → sp i vs H Q E →
      ∃ t, PSs (L2H.cxH (L2N.CX P w) P w K mg base N qual scope f cdv A outer s H E p) body t ∧ t { nx := fun _ H' => Q .non H', rt := Q } (L2.start N vs) H) : FnE P w K mg base (k + 1) f fd ps sp := by
  obtain ⟨oc, od, dV, kV, doc, pm, an, cdv, ct, osl, rfl, lk, hcd, _, _⟩ := F.ex
  refine ⟨len, fun A outer s H args us vs Q E p i hr hot hi hpin e0 bt r hsp => ?_⟩
  have ll := len _ _ _ _ _ hsp
  have KI : K.In s.heap := e0.mod.kin.keeps fun b o e => (e0.bs b o e).1
  have nolim : s.heap.NoLimit := e0.mod.nolimit.keeps fun b o e => (e0.bs b o e).1
  refine codeAny_call_function hr.depth (KI _ _ lk) rfl S.co S.gen rfl (PySem.W.codeRec_of KI hcd) (bt _ _ _ _ (wpAny_newFunctionEnv_cells S.kind (fun ⟨n, v⟩ hy => ?_) fun env he s1 x => ?_))
  · exact (S.par n (List.of_mem_zip hy).1).imp id fun q => ⟨q, PySem.W.cellsFrom_some _ _ _ (.inl q)⟩
  · subst he
    refine ⟨nolim.keeps x.toInCall.keep, codeAny_func ?_⟩
    obtain ⟨t, ht, hq⟩ := hb cdv A outer s H vs Q E p i hi hot (hr.deeper _) hsp
    refine wpAny_mono (ht.run [] s1 (L2.start N vs) H _ (L2H.inv_startH S hpin e0 ll r x) hq) ?_ fun e s' hs => hs
    rintro (_ | _ | _ | u) s' hs
    · obtain ⟨σ', H', J, q⟩ := hs
      exact ⟨V.non, H', J.os, J.bare, J.base, J.hok, rfl, q⟩
    · obtain ⟨_, _, _, q⟩ := hs
      exact q.elim
    · obtain ⟨_, _, _, q⟩ := hs
      exact q.elim
    · obtain ⟨v, σ', H', J, rv, q⟩ := hs
      exact ⟨v, H', J.os, J.bare, J.base, J.hok, rv, q⟩
end
section
variable [KK : KLs]
/-- a def's promise over data, there -/
def spVH (n : Nat) (P : EI → PV) (i : EI) : Sp := fun vs H Q E => ∃ (B : Hp) (ds : List D) (Qd : D → Prop) (Ed : XD → Prop), ds.length = n ∧ Same B H ∧ Dens H B H ds vs [] ∧ D.alls arF ds = true ∧ knS i.x i.d B ∧ P i ds Qd Ed ∧
  (∀ d v H', Out H B H d v H' → d.ow2 = true → Qd d → Q v H') ∧ (∀ x cls dx H', OutX H B H x cls dx H' → D.alls puF x.2.2 = true → Ed x → E cls dx H')
/-- a context that bears the exception -/
structure BearsE (X : Cx) (i : EI) : Prop where
  ex : ∃ p : Addr × Obj, L2H.Hot1 X.A p ∧ p ∈ X.pn ∧ i.ok p
section
variable {P : Program} {w : World} {mg : Str → Option Value} {base : Heap} {x qual : Str} {params : Arguments} {body : List Stmt} {scope : Scope} {dvs : List V} {kws : List (Str × V)} {f : Addr} {fd : FuncData} {N ps : List Str} {k n : Nat} {Pv : EI → PV} {t : EI → TSv}
theorem fn_h (F : FunD KK.K x qual params body scope dvs kws f fd) (S : FnScope N ps scope) (hn : ps.length = n)
    (hb : ∀ (i : EI) (cdv : Value) (A : Around) (outer : List PySem.Env) (s : Shared) (H : Hp) (E : XK) (p : Addr × Obj), BearsE (L2H.cxH (L2N.CX P w) P w KK.K mg base N qual scope f cdv A outer s H E p).nox i → L2H.RoomH k (A.deeper (envOfC qual scope s.heap.objs.size f cdv)) →
      ∃ T, VSs (XX := xwS i.x i.d) (L2H.cxH (L2N.CX P w) P w KK.K mg base N qual scope f cdv A outer s H E p).nox body T (t i))
    (hm : ∀ i ds Q Ed, ds.length = n → Pv i ds Q Ed → t i { nx := fun _ => Q .non, rt := Q } (startD N.length ds)) : FnE P w KK.K mg base (k + 1) f fd ps (spVH n Pv) := by
  refine fn_ofE F S (fun i vs H Q E h => ?_) fun cdv A outer s H vs Q E p i hi hot hr h => ?_
  · obtain ⟨B, ds, Qd, Ed, e, _, q, _⟩ := h
    rw [← q.len, e, hn]
  · obtain ⟨B, ds, Qd, Ed, e, sB, q, na, kn, hP, hq, hx⟩ := h
    obtain ⟨T, hT⟩ := hb i cdv A outer s H E p ⟨p, hot, List.mem_cons_self, hi⟩ hr
    refine ⟨T, (@VSs.ps _ (xwS i.x i.d) _ _ _ _ hT).nox, ?_⟩
    have R0 := rep0_start (N := N) sB q na
    refine ls_run (xwS i.x i.d) (@VSs.lk _ (xwS i.x i.d) _ _ _ _ hT) (@XL.mk _ (xwS i.x i.d) _ _ kn fun _ _ _ _ _ _ _ _ _ _ _ z => False.elim z) R0 (hm i ds Qd Ed e hP) (fun B' H' σ ρ R h => ?_) (fun d v H' o ow h => hq d v H' o ow h) (fun _ _ _ _ _ h => h.elim) (fun _ _ _ _ _ h => h.elim)
    exact hq .non .non H' ⟨B', [], R.gr, den_non, List.nodup_nil, fun a h => nomatch h⟩ rfl h
end
/-! ### a call there -/
theorem kn_arg {x : XD} {d : Option Addr} {B B1 H1 : Hp} (sb : Same B B1) (sub : Same B1 H1) (h : knS x d B) : knS x d (argBase B1 H1) := h.imp id fun ⟨dd, vs, h1, h2, h3, h4⟩ => by
  have e1 : B1 dd = some (.xd (x.2.1.zip vs)) := sb _ _ h2
  have e2 := sub _ _ e1
  have sa : Same B (argBase B1 H1) := fun b o e => argBase_of sub (sb _ _ e)
  exact ⟨dd, vs, h1, sa _ _ h2, h3, fun Z H => Dens.grow sa (Same.refl _) _ _ _ (h4 Z H)⟩
/-- .. of an exception at a, of which only the class and the dict are told -/
def spEx (sp : EI → Sp) (a C : Addr) (d : Option Addr) : Sp := fun vs H Q E => ∃ ns xs, sp ⟨a, C, d, ns, xs⟩ vs H Q E
theorem BearsE.any {X : Cx} {i : EI} (h : BearsE X i) (ns : List Str) (xs : List D) : BearsE X ⟨i.a, i.C, i.d, ns, xs⟩ := let ⟨p, h1, h2, h3⟩ := h.ex; ⟨p, h1, h2, h3.a, h3.z, h3.f⟩
def tCallE (sp : Sp) (t : TA) : TE := fun σ H Q => t σ H fun vs H1 => sp vs H1 Q E0
theorem lk_callE {n : Nat} {P : EI → PV} {i : EI} {T : TA} {t : TAv} (l : LA (XX := xwS i.x i.d) T t) : LE (XX := xwS i.x i.d) (tCallE (spEx (spVH n P) i.a i.C i.d) T) (vCall n (P i) [] t) := by
  intro B0 Z B H σ ρ Qd Q R h k
  refine l B0 Z B H σ ρ _ _ R h fun ds vs H1 ⟨B1, F, g, q, nd, f⟩ ⟨hl, hP⟩ => ?_
  rw [List.append_nil] at hl hP
  have gr := @Rep.gr _ (xwS i.x i.d) _ _ _ _ _ _ R
  have hz := @Rep.z _ (xwS i.x i.d) _ _ _ _ _ _ (@Rep.grow _ (xwS i.x i.d) _ _ _ _ _ _ _ _ R g)
  have kn : knS i.x i.d B0 := @XL.kn _ (xwS i.x i.d) _ _ (@Rep.xl _ (xwS i.x i.d) _ _ _ _ _ _ R)
  refine ⟨i.ns, i.xs, argBase B1 H1, D.maps fArg ds, fun d => d.ow = true ∧ Qd d, fun _ => False, hl, argBase_sub g.sub, Dens.hand g.sub ds vs F q, ar_arg _, kn_arg (gr.sb.trans g.sb) g.sub kn, hP, fun d v H' o _ ⟨ow, q⟩ => ?_, fun _ _ _ _ _ _ z => z.elim⟩
  obtain ⟨B', G, g', x, ng, f⟩ := o
  have gb := Grow.back g.sub g'
  refine k d v H' ⟨unB B1 H1 B', G, g.trans gb, Den.back g.sub g' hz d v G ow x, ng, fun a h => ⟨?_, g.sh.free (f a h).2⟩⟩ q
  cases hu : unB B1 H1 B' a with
  | none => rfl
  | some o' => have := unB_sub hu; rw [(f a h).1] at this; cases this
/-- a def that may be called there -/
structure FncE (P : Program) (w : World) (K : PySem.W.Frag) (mg : Str → Option Value) (base : Heap) (k : Nat) (x : Str) (n : Nat) (Pv : EI → PV) : Prop where
  ex : ∃ (f : Addr) (fd : FuncData) (ps : List Str), FnE P w K mg base k f fd ps (spVH n Pv) ∧ mg x = some (.ref f) ∧ PySem.W.keepIn K (.ref f) = true ∧ Binds K fd ps []
section
variable {X : Cx} {k j n : Nat} {x : Str} {P : EI → PV} {i : EI} {p pos : Pos} {e : Expr} {es : List Expr} {T : TA} {t : TAv} {f : Addr} {fd : FuncData} {ps : List Str} {sp : EI → Sp} {Ta : TA}
theorem L2H.RoomH.le {k j : Nat} {A : Around} (r : L2H.RoomH j A) (h : k ≤ j) : L2H.RoomH k A := r.mono h
theorem pe_callE (F : FnE X.prog X.w X.K X.mg X.base k f fd ps sp) (hr : L2H.RoomH k X.A) (hB : BearsE X i) (hg : Gl X x) (hm : X.mg x = some (.ref f)) (hk : PySem.W.keepIn X.K (.ref f) = true) (hb : Binds X.K fd ps []) (ha : PA X (e :: es) Ta)
    (hdb : (x == ("__debug__" : Str)) = false) (he : starEach (e :: es) X.env = (false, eval e X.env) :: starEach es X.env) (hpl : (backTo pos (starEach es X.env)).any (·.1) = false) : PE X (.Call (.Name x p) (e :: es) [] pos) (tCallE (spEx sp i.a i.C i.d) Ta) := by
  refine ⟨fun pins s σ H Q J h => wpAny_Call_Name_kw (ld_glob J hg hm (PySem.W.callWith_K (h₀ := X.base) J.ok.mod.kin hk (thn (ha.run pos pins s σ H _ J h) ?_) he hpl) hdb)⟩
  rintro us s1 ⟨vs, H1, J1, r, q⟩
  refine ⟨J1.kIn, ?_⟩
  obtain ⟨ns, xs, q⟩ := q
  obtain ⟨p, hot, hp, hi⟩ := (hB.any ns xs).ex
  have hl : us.length = ps.length := by rw [← r.length]; exact F.len _ _ _ _ _ q
  have b := hb s1 us J1.kIn (by rw [List.append_nil]; exact hl)
  rw [List.append_nil] at b
  have P1 := J1.pin p (List.mem_append_left _ hp)
  have hpin : L2H.PinOk X.stack H1 s1 p := ⟨P1.1, P1.2.1, fun hm => (List.mem_cons.mp (J1.stkSub p.1 hm)).elim P1.2.2.1 P1.2.2.2.1, P1.2.2.2.2⟩
  refine wpAny_call (codeAny_mono (F.run X.A X.stack s1 H1 ⟨us, []⟩ us vs Q E0 p _ hr hot hi hpin J1.env0 b r q) ?_)
  rintro (er | (_ | _ | _ | u)) s' q'
  · exact passN pins σ H1 s1 er s' J1 q'
  · exact q'.elim
  · exact q'.elim
  · exact q'.elim
  · exact J1.after q'
theorem e_callE (F : FnE X.prog X.w X.K X.mg X.base k f fd ps (spVH n P)) (hm : X.mg x = some (.ref f)) (kp : PySem.W.keepIn X.K (.ref f) = true) (b : Binds X.K fd ps []) (hB : BearsE X i) (hr : L2H.RoomH j X.A) (hk : k ≤ j) (ha : VA (XX := xwS i.x i.d) X (e :: es) T t) (hg : Gl X x := by rfl)
    (hdb : (x == ("__debug__" : Str)) = false := by decide) (he : starEach (e :: es) X.env = (false, eval e X.env) :: starEach es X.env := by rfl) (hpl : (backTo pos (starEach es X.env)).any (·.1) = false := by rfl) :
    VE (XX := xwS i.x i.d) X (.Call (.Name x p) (e :: es) [] pos) (tCallE (spEx (spVH n P) i.a i.C i.d) T) (vCall n (P i) [] t) :=
  @VE.mk _ (xwS i.x i.d) _ _ _ _ (pe_callE F (hr.mono hk) hB hg hm kp b (@VA.pa _ (xwS i.x i.d) _ _ _ _ ha) hdb he hpl) (lk_callE (@VA.lk _ (xwS i.x i.d) _ _ _ _ ha))
/-- .. the same in a suite, where the reading may not know ns and xs -/
theorem e_callS {y : XW} {a C : Addr} {d : Option Addr} {ns : List Str} {xs : List D} {Px : Addr → XD → PV} (F : FnE X.prog X.w X.K X.mg X.base k f fd ps (spVH n fun i => Px i.a i.x)) (hm : X.mg x = some (.ref f)) (kp : PySem.W.keepIn X.K (.ref f) = true) (b : Binds X.K fd ps []) (hy : y = xwS (C, ns, xs) d) (hB : BearsE X ⟨a, C, d, ns, xs⟩) (hr : L2H.RoomH j X.A) (hk : k ≤ j) (ha : VA (XX := y) X (e :: es) T t) (hg : Gl X x := by rfl)
    (hdb : (x == ("__debug__" : Str)) = false := by decide) (he : starEach (e :: es) X.env = (false, eval e X.env) :: starEach es X.env := by rfl) (hpl : (backTo pos (starEach es X.env)).any (·.1) = false := by rfl) :
    VE (XX := y) X (.Call (.Name x p) (e :: es) [] pos) (tCallE (spEx (spVH n fun i => Px i.a i.x) a C d) T) (vCall n (Px a (C, ns, xs)) [] t) := by
  subst hy
  exact e_callE (P := fun i => Px i.a i.x) (i := ⟨a, C, d, ns, xs⟩) F hm kp b hB hr hk ha hg hdb he hpl
theorem bears_suite {X : Cx} {a : Addr} {oe : Obj} {C : Addr} {d : Option Addr} {pn : List (Addr × Obj)} {ns : List Str} {xs : List D} (hz : L2N.Zn (.ref C) d oe) (hf : ∃ vs, oe.data = .fields vs) : BearsE (X.suite a ((a, oe) :: pn)) ⟨a, C, d, ns, xs⟩ :=
  ⟨(a, oe), ⟨rfl, let ⟨vs, e⟩ := hf; ⟨vs, e, hz.2.2 vs e⟩⟩, List.mem_cons_self, rfl, hz, hf⟩
end
end
end VL

/-! ## VLXG -/
/-! VL: where an exception is handled: ==, isinstance of it, a comprehension over a range. -/
namespace VL
open PySem PySem.Spec L2
open PyProof.Rows hiding St
section
variable [KK : KLs] [XX : XW] {X : Cx} {a b e : Expr} {pos pos' : Pos} {Ta Tb : TE} {ta tb : TEv} {n : Nat}
theorem L2H.RoomH.room {k : Nat} {A : Around} (r : L2H.RoomH k A) : A.units + 64 < cLine := by have := r.un; omega
theorem e_eqH (hr : L2H.RoomH n X.A) (ha : VE X a Ta ta) (hb : VE X b Tb tb) (hK : X.K = KK.K := by rfl) : VE X (.Compare a [.Eq] [b] pos) (tOp rEqA Ta Tb) (vOp dEq ta tb) := by
  unfold rEqA
  rw [← hK]
  exact ⟨pe_cmpR (op_eq.or (op_eqD (L2H.RoomH.room hr))) ha.pe hb.pe (nomark _), by rw [hK]; exact lk_op lr_eqA ha.lk hb.lk⟩
theorem e_neH (hr : L2H.RoomH n X.A) (ha : VE X a Ta ta) (hb : VE X b Tb tb) (hK : X.K = KK.K := by rfl) : VE X (.Compare a [.NotEq] [b] pos) (tOp rNeA Ta Tb) (vOp dNe ta tb) := by
  unfold rNeA
  rw [← hK]
  exact ⟨pe_cmpR (op_ne.or (op_neD (L2H.RoomH.room hr))) ha.pe hb.pe (nomark _), by rw [hK]; exact lk_op lr_neA ha.lk hb.lk⟩
theorem t_eqH (hr : L2H.RoomH n X.A) (ha : VE X a Ta ta) (hb : VE X b Tb tb) (hK : X.K = KK.K := by rfl) : VT X (.Compare a [.Eq] [b] pos) (tTest (tOp rEqA Ta Tb)) (vTest (vOp dEq ta tb)) := by
  unfold rEqA
  rw [← hK]
  exact ⟨pt_cmpR (op_eq.or (op_eqD (L2H.RoomH.room hr))) ha.pe hb.pe (nomark _), by rw [hK]; exact lk_test (lk_op lr_eqA ha.lk hb.lk)⟩
theorem t_neH (hr : L2H.RoomH n X.A) (ha : VE X a Ta ta) (hb : VE X b Tb tb) (hK : X.K = KK.K := by rfl) : VT X (.Compare a [.NotEq] [b] pos) (tTest (tOp rNeA Ta Tb)) (vTest (vOp dNe ta tb)) := by
  unfold rNeA
  rw [← hK]
  exact ⟨pt_cmpR (op_ne.or (op_neD (L2H.RoomH.room hr))) ha.pe hb.pe (nomark _), by rw [hK]; exact lk_test (lk_op lr_neA ha.lk hb.lk)⟩
end
/-! ### isinstance(e, C), e the exception that is handled -/
structure ExcK (K : PySem.W.Frag) (C : Addr) : Prop where
  cl : PySem.W.isClsIn K C = true
  ga : PySem.W.findIn K (.ref C) "__getattribute__" = some (some (.builtin "BaseException.__getattribute__"))
  gt : PySem.W.findIn K (.ref C) "__getattr__" = some none
  sb : PySem.W.subIn K (.ref C) (.type "BaseException") = some true
  ca : PySem.W.findIn K (.ref C) "__class__" = some (some (.builtin "object.__class__"))
  cn : PySem.W.specialIn K (.builtin "object.__class__") "__get__" = some (some (.builtin "getset_descriptor.__get__"))
  ck : PySem.W.takesIn K (.builtin "object.__class__") = some true
  cm : PySem.W.mroIn K C (.type "object") = some true
def rIsX (K : PySem.W.Frag) (a C : Addr) (d : Option Addr) (q : Prop) : List V → Hp → L2.VK → Prop := fun xs H Q => q ∧ ∃ (c : V) (cv : Value) (b : Bool) (dd : Addr) (fs : List (Str × V)), xs = [.ref a, c] ∧ (∀ u, RelV c u → u = cv) ∧ PySem.W.kitOne K (.ref C) cv = some b ∧ d = some dd ∧ H dd = some (.xd fs) ∧ Q (.bl b) H
theorem call_isX {X : Cx} {i : EI} {q : Prop} (hk : q → ExcK X.K i.C) (hB : BearsE X i) : CallR X (.builtin "isinstance") (rIsX X.K i.a i.C i.d q) := by
  intro pins s σ H xs us Q I r h
  obtain ⟨hq, c, cv, b, dd, fs, rfl, hcv, e, hd, hx, q⟩ := h
  have C := hk hq
  obtain ⟨p, hot, hp, hi⟩ := hB.ex
  cases r with
  | cons rx rr =>
    cases rr with
    | cons rt rr =>
      cases rr
      cases rx
      have ec := hcv _ rt
      subst ec
      have hget := (I.pin p (List.mem_append_left _ hp)).1
      rw [hi.a] at hget
      obtain ⟨vs, hv⟩ := hi.f
      have hz := hi.z
      obtain ⟨mA, hns, _⟩ : ObjOk X.prog X.w H s.heap dd (.xd fs) := I.hok dd _ hx
      obtain ⟨od, ho, _⟩ := lookIn_ns hns
      have J : PySem.W.InstAt s.heap i.a p.2 i.C (some od) := ⟨hget, hz.1, by unfold PySem.W.notCls; rw [hv] <;> rfl, by rw [hz.2.1, hd]; exact ho⟩
      exact PySem.W.kia_one (PySem.W.kitx_exc C.cl C.ga C.gt C.sb C.ca C.cn C.ck C.cm) I.kIn J e (fun z => nomatch z) fun tk => ⟨.bl b, H, I.kept (t' := tk) fun _ _ z => z, rfl, q⟩
section
variable [KK : KLs]
def dIsX (a0 : Addr) (x : XD) (okC : Addr → Prop) : RNv := fun ds Q => match ds with
  | [.cst (.ref a), .cst (.ref D)] => okC x.1 ∧ a = a0 ∧ x.2.1 ≠ [] ∧ ∃ b, PySem.W.kitOne KK.K (.ref x.1) (.ref D) = some b ∧ Q (.bl b)
  | [.cst (.ref a), .cst (.ty n)] => okC x.1 ∧ a = a0 ∧ x.2.1 ≠ [] ∧ ∃ b, PySem.W.kitOne KK.K (.ref x.1) (.type n) = some b ∧ Q (.bl b)
  | _ => False
theorem lr_isX {i : EI} {okC : Addr → Prop} : LRn (XX := xwS i.x i.d) (rIsX KK.K i.a i.C i.d (okC i.C)) (dIsX i.a i.x okC) := by
  intro B0 Z B H σ ρ ds vs F Qd Q R q h k
  have gr := @Rep.gr _ (xwS i.x i.d) _ _ _ _ _ _ R
  have kn : knS i.x i.d B0 := @XL.kn _ (xwS i.x i.d) _ _ (@Rep.xl _ (xwS i.x i.d) _ _ _ _ _ _ R)
  have dict : i.ns ≠ [] → ∃ dd fs, i.d = some dd ∧ H dd = some (.xd fs) := fun hn => by
    rcases kn with e | ⟨dd, vs, hd, hB, hl, hD⟩
    · exact absurd e hn
    · exact ⟨dd, _, hd, gr.sub _ _ (gr.sb _ _ hB)⟩
  unfold dIsX at h
  split at h
  · rename_i a D
    obtain ⟨ok, rfl, hn, b, e, hq⟩ := h
    obtain ⟨v, w, G1, G2, ev, x, y, _⟩ := dens_two q
    obtain ⟨dd, fs, hd, hx⟩ := dict hn
    have e1 : v = .ref i.a := x.1
    have e2 : w = .ref D := y.1
    subst e1 e2
    exact ⟨ok, .ref D, .ref D, b, dd, fs, ev, fun u r => r, e, hd, hx, k _ _ _ (Out.of gr.sub den_bl) hq⟩
  · rename_i a n
    obtain ⟨ok, rfl, hn, b, e, hq⟩ := h
    obtain ⟨v, w, G1, G2, ev, x, y, _⟩ := dens_two q
    obtain ⟨dd, fs, hd, hx⟩ := dict hn
    have e1 : v = .ref i.a := x.1
    have e2 : w = .ty n := y.1
    subst e1 e2
    exact ⟨ok, .ty n, .type n, b, dd, fs, ev, fun u r => r, e, hd, hx, k _ _ _ (Out.of gr.sub den_bl) hq⟩
  · exact h.elim
theorem e_isX {X : Cx} {i : EI} {okC : Addr → Prop} {p pos : Pos} {e : Expr} {es : List Expr} {T : TA} {t : TAv} (hk : ∀ C, okC C → ExcK X.K C) (hB : BearsE X i) (hm : X.mg "isinstance" = none) (ha : VA (XX := xwS i.x i.d) X (e :: es) T t) (hg : Gl X "isinstance" := by rfl)
    (hs : St1 X e es pos := by exact ⟨rfl, rfl⟩) (hK : X.K = KK.K := by rfl) : VE (XX := xwS i.x i.d) X (.Call (.Name "isinstance" p) (e :: es) [] pos) (tCB (rIsX KK.K i.a i.C i.d (okC i.C)) T) (vB (dIsX i.a i.x okC) t) := by
  have c := call_isX (X := X) (q := okC i.C) (hk i.C) hB
  rw [hK] at c
  exact e_callB (XX := xwS i.x i.d) c lr_isX hg hm (by decide +kernel) ha (by decide) (by decide) hs.1 hs.2
end
/-! ### a comprehension over a range, where an exception is handled -/
def HotI (X : Cx) : Prop := ∀ (pins : List (Addr × Obj)) (σ : L2.St) (H : Hp) (s : Shared), Inv X pins σ H s → ∃ x1, HotX.HotAt X.A x1 s.heap
structure PIR (X : Cx) (iter : Expr) (wi : TI) : Prop where
  run : ∀ (pins : List (Addr × Obj)) (s : Shared) (σ : L2.St) (H : Hp) (R : It → Hp → Prop), Inv X pins σ H s → wi σ H R →
    wpAny (model X.prog X.w) X.A (eval iter X.env) (fun v s1 => wpAny (model X.prog X.w) X.A (pyIter v) (fun itv s2 => ∃ (it : Addr) (lo : Int) (n : Nat) (H' : Hp), itv = .ref it ∧ Inv X pins σ H' s2 ∧ IsRangeIter s2.heap it lo n 1 ∧ FpOk X pins H' it ∧ R (L2.Itr lo n) H') X.xe s1) X.xe s
section
variable {X : Cx}
theorem pi_rngR {a : Expr} {ta : TA} {p pos : Pos} (hg : Gl X "range") (hm : X.mg "range" = none) (ha : PA X [a] ta) (hs : starEach [a] X.env = [(false, eval a X.env)]) : PIR X (.Call (.Name "range" p) [a] [] pos) (iRng1 ta) := by
  refine ⟨fun pins s σ H R I h => Call_ (ld_blt I hg hm boot_range (PyProof.Rows.callWith_type1 (thn (ha.run pos pins s σ H _ I h) ?_) hs rfl))⟩
  rintro us u1 ⟨vs, G, J, r1, j, rfl, q1, q2, q⟩
  cases r1 with
  | cons r rr =>
    cases rr
    obtain ⟨t, rfl⟩ := r
    refine call_range_1 (wpAny_pyIter_range (IsRange.new ..) (small_one (by omega) (by omega) q1 q2) ?_)
    refine ⟨_, 0, j.toNat, G, rfl, (J.kept (t' := u1.toks + 1 + 1) fun b o e => Heap.get?_push_of_some _ e).kept (t' := u1.toks + 1 + 1) fun b o e => Heap.get?_push_of_some _ e, ?_, ?_, ?_⟩
    · have e2 : ((j.toNat : Nat) : Int) = Builtin.Range.rangeSize 0 j 1 := by rw [rangeSize_one]; split <;> omega
      rw [e2]
      exact Heap.get?_push_size _ rfl
    · have J1 := J.kept (t' := u1.toks + 1 + 1) (h' := u1.heap.push { cls := Value.type "range", data := Data.fields #[Value.int 0 u1.toks, Value.int j t, Value.int 1 (u1.toks + 1)] }) fun b o e => Heap.get?_push_of_some _ e
      exact J1.fpOk (Nat.le_refl _) (J1.hok.fresh (Nat.le_refl _))
    · simpa using q
/-- the comprehension's core, its range walked where an exception is handled -/
theorem lcH_core {pins : List (Addr × Obj)} {s : Shared} {σ : L2.St} {H : Hp} {Q : L2.VK} {elt tg iter : Expr} {ifs : List Expr} {scope : Scope} {own : List (Str × Nat)} {pos pos' : Pos} {wi : TI} {g : TG} {tt : TT} {te : TE} {use : Option (Value → Sem Unit)} {Qf : Value → Shared → Prop}
    (hB : L2H.HotC X) (hN : X.N.Nodup) (I : Inv X pins σ H s) (hi : PIR X iter wi) (ok : BlkOk X.N X.env.scope scope own)
    (hg : ∀ (s : Shared) (H : Hp) (C : Addr) (cl : List (Str × Addr)) (fp : List Addr), PG (X.blk s H scope (compEnvC scope cl C X.env) fp) tg g) (ht : ∀ (s : Shared) (H : Hp) (C : Addr) (cl : List (Str × Addr)) (fp : List Addr), PTs (X.blk s H scope (compEnvC scope cl C X.env) fp) ifs tt)
    (he : ∀ (s : Shared) (H : Hp) (C : Addr) (cl : List (Str × Addr)) (fp : List Addr), PE (X.blk s H scope (compEnvC scope cl C X.env) fp) elt te) (hs : ∀ x, foldedSetIterable iter X.env x = pure x) (h : tLc wi g tt te (own.map (·.2)) σ H Q)
    (hRR : ∀ D C s' m H', Inv X pins σ H' s' → Q (.ref D) H' → s'.heap.Ns C m → FpOk X pins H' C → compPost (model X.prog X.w) X.A X.xe use Qf (.ref D) C (.ok .next) s') :
    wpAny (model X.prog X.w) X.A (comprehension (.ListComp elt [⟨tg, iter, ifs, 0⟩] scope pos) scope X.env pos' (newList []) false (eval iter X.env) use) Qf X.xe s := by
  have hfree : ∀ y ∈ scope.names, y.2 = .free → ∃ c, X.env.cells.lookup y.1 = some c := fun y hy e => (ok.free y hy e).elim (fun k => I.ok.has _ (.inl k)) (fun k => I.ok.has _ (.inr k))
  refine wpAny_comprehension_free (use := use) rfl hs (closure_ok hfree) ok.kind (fun y hy e => by rw [ok.uniq y hy, e]) (thn (hi.run pins s σ H _ I h) fun xv u1 hx => thn hx ?_)
  rintro itv u2 ⟨it, lo, n, G2, rfl, J2, st2, f2, q⟩
  refine wpAny_newObj_type (newEnv_comp ?_) (by show 0 ≤ sizeLine; decide)
  generalize hD : u2.heap.objs.size = D
  have hDn : G2 D = none := J2.hok.fresh (Nat.le_of_eq hD)
  obtain ⟨W, ⟨m0, w0⟩, turn⟩ := q D hDn
  obtain ⟨u3, hu3⟩ : ∃ u3 : Shared, u3 = { u2 with heap := u2.heap.push { cls := .type "list", data := .seq ([] : List Value).toArray } } := ⟨_, rfl⟩
  rw [← hu3]
  have J3 : Inv X pins σ (upd G2 D (.lst [])) u3 := by
    rw [hu3]
    refine J2.laid (t' := u2.toks) (fun b o e => Heap.get?_push_of_some _ e) (Nat.le_of_eq hD) ⟨Nat.zero_le _, [], 0, .nil, ?_⟩
    rw [← hD]
    exact Heap.get?_push_size _ rfl
  have hp3 : u3.heap = u2.heap.push { cls := .type "list", data := .seq ([] : List Value).toArray } := by rw [hu3]
  have lt2 : it < u2.heap.objs.size := Heap.lt_size st2
  have f3 : FpOk X pins (upd G2 D (.lst [])) it ∧ it < u3.heap.objs.size := by
    refine ⟨⟨?_, f2.2⟩, by rw [hp3, Heap.size_push]; exact Nat.lt_succ_of_lt lt2⟩
    rw [upd_ne (by rw [← hD]; exact Nat.ne_of_lt lt2)]
    exact f2.1
  have f3l : ∀ b ∈ [it], FpOk X pins (upd G2 D (.lst [])) b ∧ b < u3.heap.objs.size := fun b hb => by rw [List.mem_singleton.mp hb]; exact f3
  have st3 : IsRangeIter u3.heap it lo n 1 := by
    show u3.heap.get? it = _
    rw [hp3]
    exact Heap.get?_push_of_some _ st2
  have J4 := block_start J3 ok hN f3l
  have pg := hg u3 (upd G2 D (.lst [])) u3.heap.objs.size (cellsFrom (u3.heap.objs.size + 1) scope.names (cloFrom X.env.cells scope.names [])) [it]
  have pt := ht u3 (upd G2 D (.lst [])) u3.heap.objs.size (cellsFrom (u3.heap.objs.size + 1) scope.names (cloFrom X.env.cells scope.names [])) [it]
  have pe := he u3 (upd G2 D (.lst [])) u3.heap.objs.size (cellsFrom (u3.heap.objs.size + 1) scope.names (cloFrom X.env.cells scope.names [])) [it]
  show codeAny _ _ (.compStart (.ListComp elt [⟨tg, iter, ifs, 0⟩] scope pos) 0 (.ref it) (.ref D) (compEnvC scope (cellsFrom (u3.heap.objs.size + 1) scope.names (cloFrom X.env.cells scope.names [])) u3.heap.objs.size X.env)) (compPost (model X.prog X.w) X.A X.xe use Qf (.ref D) u3.heap.objs.size) { u3 with heap := pushCells (u3.heap.push { cls := .type "dict", data := .dict #[] }) scope.names }
  generalize hce : compEnvC scope (cellsFrom (u3.heap.objs.size + 1) scope.names (cloFrom X.env.cells scope.names [])) u3.heap.objs.size X.env = ce at J4 pg pt pe ⊢
  have cL : ce.locals = u3.heap.objs.size := by subst hce; rfl
  generalize hG3 : upd G2 D (.lst []) = G3 at J3 J4 pg pt pe w0 f3 f3l
  generalize hu4 : ({ u3 with heap := pushCells (u3.heap.push { cls := .type "dict", data := .dict #[] }) scope.names } : Shared) = u4 at J4 ⊢
  have st4 : IsRangeIter u4.heap it lo n 1 := by
    show u4.heap.get? it = _
    rw [← hu4]
    exact pushCells_keeps _ _ _ _ (Heap.get?_push_of_some _ st3)
  have stat : ∀ {σ' : L2.St} {H' : Hp} {s' : Shared}, Inv (X.blk u3 G3 scope ce [it]) [] σ' H' s' → H' it = none → FpOk (X.blk u3 G3 scope ce [it]) [] H' it := fun {σ' H' s'} J hn =>
    ⟨hn, (J.ok.exf it List.mem_cons_self).1, J.ok.exfs it List.mem_cons_self, .inl List.mem_cons_self, fun x c e => (J.ok.exf it List.mem_cons_self).2 x c e, fun p hp => absurd (show p ∈ ([] : List (Addr × Obj)) ++ [] from hp) (by simp)⟩
  -- the exception stands through the block
  have hot : HotI (X.blk u3 G3 scope ce [it]) := fun pins' σ' H' s' J => by
    obtain ⟨p, ⟨hh, v1, e1, c1⟩, hp⟩ := hB
    obtain ⟨p1, p2, p3, p4, _⟩ := J3.pin p (List.mem_append_left _ hp)
    refine ⟨p.1, hh, p.2, v1, J.base.keep p.1 p.2 p1 p2 (fun hm => ?_) (fun hm => ?_), e1, c1⟩
    · exact (List.mem_cons.mp (J3.stkSub p.1 hm)).elim p3 p4
    · exact f3.1.2.2.2.2.2 p (List.mem_append_left _ hp) (List.mem_singleton.mp hm)
  have loop : codeAny (model X.prog X.w) X.A (.compLoop (.ListComp elt [⟨tg, iter, ifs, 0⟩] scope pos) 0 (.ref it) (.ref D) ce) (compPost (model X.prog X.w) X.A X.xe use Qf (.ref D) u3.heap.objs.size) u4 := by
    refine compLoop_any (fun m s' => ∃ (i : Nat) (H' : Hp), Inv (X.blk u3 G3 scope ce [it]) [] (wipe σ (own.map (·.2))) H' s' ∧ IsRangeIter s'.heap it (lo + (i : Int)) ((n : Int) - (i : Int)) 1 ∧ H' it = none ∧ W i m H') ?_ m0 ⟨0, G3, J4, by simpa using st4, f3.1.1, w0⟩
    rintro m u5 ⟨i, G5, J5, st5, n5, w5⟩
    obtain ⟨_, f1, f2', f3', f4, f5⟩ := stat J5 n5
    rcases turn i m G5 w5 with ⟨stop, qq⟩ | ⟨go, Nx, hNx, step⟩
    · obtain ⟨x1, hx1⟩ := hot _ _ _ _ J5
      refine HotX.pyNext_range_end_hot hx1 st5 (by have : n ≤ i := stop; omega) fun h' eb => ?_
      have J6 : Inv (X.blk u3 G3 scope ce [it]) [] (wipe σ (own.map (·.2))) G5 { u5 with heap := h' } := J5.turned (t' := u5.toks) (fun b o _ e => eb b o e) n5 f1 f3' f4 f5
      have J7 : Inv X pins σ G5 { u5 with heap := h' } := J3.call' (ch := [it]) J6.os J6.base J6.hok J6.bare fun b hb => by
        rw [List.mem_singleton.mp hb]
        exact ⟨f3.1.2.2.2.1, f3.1.2.1, f3.1.2.2.2.2.1, f3.1.2.2.2.2.2⟩
      have nC : G5 u3.heap.objs.size = none := by rw [← cL]; exact J6.free
      obtain ⟨mm, hn, _⟩ := J6.loc
      have hn : h'.Ns ce.locals mm := hn
      rw [cL] at hn
      exact hRR D u3.heap.objs.size _ mm G5 J7 qq hn (J3.fpOk (Nat.le_refl _) nC)
    · have hlt : i < n := go
      refine wpAny_pyNext_range_item st5 (by omega) fun h' st' sb => ?_
      have st6 : IsRangeIter h' it (lo + ((i + 1 : Nat) : Int)) ((n : Int) - ((i + 1 : Nat) : Int)) 1 := by
        have e1 : lo + (i : Int) + 1 = lo + ((i + 1 : Nat) : Int) := by omega
        have e2 : (n : Int) - (i : Int) - 1 = (n : Int) - ((i + 1 : Nat) : Int) := by omega
        rw [← e1, ← e2]
        exact st'
      have J6 : Inv (X.blk u3 G3 scope ce [it]) [] (wipe σ (own.map (·.2))) G5 { u5 with heap := h', toks := u5.toks + 1 } := J5.turned (fun b o hb e => (sb.2 b hb).trans e) n5 f1 f3' f4 f5
      refine go_of (s := { u5 with heap := h', toks := u5.toks + 1 }) (n := "range_iterator") st6 rfl rfl (by decide) ?_
      have J7 := J6.pinned (fp := [it]) (fun b hb => by rw [List.mem_singleton.mp hb]; exact stat J6 n5) (fun b hb => by
        rw [List.mem_singleton.mp hb]
        exact ⟨_, st6, fun v z => by
          have z' : Data.fields _ = Data.cell v := z
          cases z'⟩)
      refine thnF (pg.run _ _ _ G5 (.int (lo + i)) _ _ J7 ⟨u5.toks, rfl⟩ (step (.int (lo + i)) G5 ⟨rfl, rfl⟩)) ?_
      rintro _ u8 ⟨σ8, G8, J8, hw8, q8⟩
      refine thnF (pt.run _ u8 σ8 G8 _ J8 q8) ?_
      rintro b u9 ⟨G9, J9, q9⟩
      have fin : ∀ {s' : Shared} {H' : Hp}, Inv (X.blk u3 G3 scope ce [it]) ([] ++ pinsAt [it] h') σ8 H' s' → Nx H' →
          ∃ m', m' < m ∧ ∃ (i : Nat) (H' : Hp), Inv (X.blk u3 G3 scope ce [it]) [] (wipe σ (own.map (·.2))) H' s' ∧ IsRangeIter s'.heap it (lo + (i : Int)) ((n : Int) - (i : Int)) 1 ∧ H' it = none ∧ W i m' H' := fun {s' H'} J nx => by
        obtain ⟨m', hm, w'⟩ := hNx H' nx
        have z := J.pin (it, _) (List.mem_append_right _ (List.mem_append_right _ (mem_pinsAt List.mem_cons_self st6)))
        have hl : (wipe σ (own.map (·.2))).length = σ8.length := by rw [← hw8, wipe_length]
        refine ⟨m', hm, i + 1, H', (J.unpinned (pins := [])).weak hl (fun j v e => ?_), z.1, z.2.1, w'⟩
        rw [← hw8] at e
        exact (wipe_some e).1
      cases b with
      | false =>
        simp only [Bool.false_eq_true, if_false] at q9 ⊢
        exact fin J9 q9
      | true =>
        simp only [if_true] at q9 ⊢
        refine thnF (pe.run _ u9 σ8 G9 _ J9 q9) ?_
        rintro z u10 ⟨yv, G10, J10, r10, acc, hD10, hz10, nx⟩
        exact app_ok (X := X.blk u3 G3 scope ce [it]) J10 hD10 hz10 r10 fun s11 J11 => fin J11 nx
  exact codeAny_compStart_list loop (wpAny_pyIter_rangeiter st4 loop)
theorem pe_lcH {elt tg iter : Expr} {ifs : List Expr} {scope : Scope} {own : List (Str × Nat)} {pos : Pos} {wi : TI} {g : TG} {tt : TT} {te : TE} (hB : L2H.HotC X) (hN : X.N.Nodup) (hi : PIR X iter wi) (ok : BlkOk X.N X.env.scope scope own)
    (hg : ∀ (s : Shared) (H : Hp) (C : Addr) (cl : List (Str × Addr)) (fp : List Addr), PG (X.blk s H scope (compEnvC scope cl C X.env) fp) tg g) (ht : ∀ (s : Shared) (H : Hp) (C : Addr) (cl : List (Str × Addr)) (fp : List Addr), PTs (X.blk s H scope (compEnvC scope cl C X.env) fp) ifs tt)
    (he : ∀ (s : Shared) (H : Hp) (C : Addr) (cl : List (Str × Addr)) (fp : List Addr), PE (X.blk s H scope (compEnvC scope cl C X.env) fp) elt te) (hs : ∀ x, foldedSetIterable iter X.env x = pure x) : PE X (.ListComp elt [⟨tg, iter, ifs, 0⟩] scope pos) (tLc wi g tt te (own.map (·.2))) := by
  refine ⟨fun pins s σ H Q J h => ?_⟩
  rw [eval_ListComp]
  refine lcH_core hB hN J hi ok hg ht he hs h fun D C s' m H' J' q hn f => ⟨m, hn, fun h'' sb => ?_⟩
  exact ⟨.ref D, H', J'.turned (t' := s'.toks) (fun b o hb e => (sb.2 b hb).trans e) f.1 f.2.1 f.2.2.2.1 f.2.2.2.2.1 f.2.2.2.2.2, rfl, q⟩
end
section
variable [KK : KLs]
theorem BearsE.hot {X : Cx} {i : EI} (h : BearsE X i) : L2H.HotC X := let ⟨p, h1, h2, _⟩ := h.ex; ⟨p, h1, h2⟩
/-- what is walked there -/
structure VIR (X : Cx) (iter : Expr) (wi : TI) (ti : TIv) [XX : XW] : Prop where
  pi : PIR X iter wi
  lk : LI wi ti
variable [XX : XW] {X : Cx}
theorem i_rngR {e : Expr} {Te : TE} {te : TEv} {p pos : Pos} (hm : X.mg "range" = none) (he : VE X e Te te) (hg : Gl X "range" := by rfl) (hs : starEach [e] X.env = [(false, eval e X.env)] := by rfl) : VIR X (.Call (.Name "range" p) [e] [] pos) (iRng1 (tCons Te tNil)) (vRng1 te) := ⟨pi_rngR hg hm (pa_cons he.pe pa_nil hs) hs, lk_rng1 he.lk⟩
theorem e_lcH {elt tg iter : Expr} {ifs : List Expr} {scope : Scope} {own : List (Str × Nat)} {pos : Pos} {wi : TI} {ti : TIv} {g : TG} {gv : TGv} {vg : List Nat} {Tt : TT} {tt : TTv} {Te : TE} {te : TEv} (hB : L2H.HotC X) (hN : X.N.Nodup) (hi : VIR X iter wi ti) (ok : BlkOk X.N X.env.scope scope own)
    (hg : ∀ (s : Shared) (H : Hp) (C : Addr) (cl : List (Str × Addr)) (fp : List Addr), VG (X.blk s H scope (compEnvC scope cl C X.env) fp) tg g gv vg) (hv : ∀ i ∈ vg, i ∈ own.map (·.2))
    (ht : ∀ (s : Shared) (H : Hp) (C : Addr) (cl : List (Str × Addr)) (fp : List Addr), VTs (X.blk s H scope (compEnvC scope cl C X.env) fp) ifs Tt tt)
    (he : ∀ (s : Shared) (H : Hp) (C : Addr) (cl : List (Str × Addr)) (fp : List Addr), VE (X.blk s H scope (compEnvC scope cl C X.env) fp) elt Te te) (hs : ∀ x, foldedSetIterable iter X.env x = pure x := by intro _; rfl) :
    VE X (.ListComp elt [⟨tg, iter, ifs, 0⟩] scope pos) (tLc wi g Tt Te (own.map (·.2))) (vLc ti gv tt te (own.map (·.2))) :=
  ⟨pe_lcH hB hN hi.pi ok (fun s H C cl fp => (hg s H C cl fp).pg) (fun s H C cl fp => (ht s H C cl fp).pt) (fun s H C cl fp => (he s H C cl fp).pe) hs, lk_lc hi.lk (hg X.s_0 X.H_0 0 [] []).lk hv (ht X.s_0 X.H_0 0 [] []).lk (he X.s_0 X.H_0 0 [] []).lk⟩
end
end VL

/-! ## VLXH -/
/-! VL: min of a list of int pairs. -/
namespace VL
open PySem PySem.Spec L2
open PyProof.Rows hiding St
def ltPr (x y : Int × Int) : Bool := decide (x.1 < y.1 ∨ (x.1 = y.1 ∧ x.2 < y.2))
def pyP (p : Int × Int) : PyData := .tuple [.int p.1, .int p.2]
theorem pyP_inj {x y : Int × Int} (h : pyP x = pyP y) : x = y := by
  unfold pyP at h
  injection h with h
  injection h with h1 h2
  injection h2 with h2 h3
  injection h1 with h1
  injection h2 with h2
  exact Prod.ext h1 h2
theorem lt_pyP (x y : Int × Int) : PySem.W.dataLt (pyP x) (pyP y) = ltPr x y := by
  unfold pyP ltPr
  rw [PySem.W.dataLt_tuple]
  have al : ∀ a b : Int, PySem.W.alike (.int a) (.int b) = true := fun _ _ => rfl
  have ev : ∀ a b : Int, PyData.eqv (.int a) (.int b) = decide (a = b) := fun a b => by
    by_cases h : a = b
    · subst h; simp [PyData.eqv]
    · rw [decide_eq_false h]; simp [PyData.eqv, h]
  have one : ∀ a b : Int, PyProof.Rows.lexLt PyProof.Rows.itemOrd (PySem.W.keyToksAll [.int a]) (PySem.W.keyToksAll [.int b]) = decide (a < b) := fun a b => by
    by_cases h : a = b
    · subst h
      rw [PySem.W.dataLt_all_yes (al a a) (by rw [ev]; simp)]
      rw [decide_eq_false (by omega)]
      rfl
    · rw [PySem.W.dataLt_all_no (al a b) (by rw [ev]; simp [h]), PySem.W.dataLt_int]
  by_cases h : x.1 = y.1
  · rw [PySem.W.dataLt_all_yes (al _ _) (by rw [ev]; simp [h]), one]
    by_cases h2 : x.2 < y.2
    · rw [decide_eq_true h2, decide_eq_true (Or.inr ⟨h, h2⟩)]
    · rw [decide_eq_false h2, decide_eq_false (by omega)]
  · rw [PySem.W.dataLt_all_no (al _ _) (by rw [ev]; simp [h]), PySem.W.dataLt_int]
    by_cases h2 : x.1 < y.1
    · rw [decide_eq_true h2, decide_eq_true (Or.inl h2)]
    · rw [decide_eq_false h2, decide_eq_false (by omega)]
def minPr (n : Int × Int) (ns : List (Int × Int)) : Int × Int := ns.foldl (fun a y => if ltPr y a = true then y else a) n
theorem minD_pyP (n : Int × Int) (ns : List (Int × Int)) : PySem.W.minD (pyP n) (ns.map pyP) = pyP (minPr n ns) := by
  unfold PySem.W.minD minPr
  induction ns generalizing n with
  | nil => rfl
  | cons m ns ih =>
    rw [List.map_cons, List.foldl_cons, List.foldl_cons, lt_pyP]
    by_cases h : ltPr m n = true
    · rw [if_pos h, if_pos h]; exact ih m
    · rw [if_neg h, if_neg h]; exact ih n
theorem minPr_mem (n : Int × Int) (ns : List (Int × Int)) : minPr n ns ∈ n :: ns := by
  unfold minPr
  induction ns generalizing n with
  | nil => exact List.mem_cons_self
  | cons m ns ih =>
    rw [List.foldl_cons]
    by_cases h : ltPr m n = true
    · rw [if_pos h]; exact List.mem_cons_of_mem _ (ih m)
    · rw [if_neg h]
      rcases List.mem_cons.mp (ih n) with e | e
      · rw [e]; exact List.mem_cons_self
      · exact List.mem_cons_of_mem _ (List.mem_cons_of_mem _ e)
theorem minPr_le (n : Int × Int) (ns : List (Int × Int)) : ∀ y ∈ n :: ns, ltPr y (minPr n ns) = false := by
  have tr : ∀ {a b c : Int × Int}, ltPr a b = false → ltPr b c = false → ltPr a c = false := fun {a b c} h1 h2 => by
    unfold ltPr at h1 h2 ⊢
    have h1 := of_decide_eq_false h1
    have h2 := of_decide_eq_false h2
    exact decide_eq_false (by omega)
  unfold minPr
  induction ns generalizing n with
  | nil =>
    intro y hy
    have e : y = n := by simpa using hy
    rw [e]
    exact decide_eq_false (by show ¬ (n.1 < n.1 ∨ (n.1 = n.1 ∧ n.2 < n.2)); omega)
  | cons m ns ih =>
    intro y hy
    rw [List.foldl_cons]
    by_cases h : ltPr m n = true
    · rw [if_pos h]
      have nm : ltPr n m = false := by
        unfold ltPr at h ⊢
        have h := of_decide_eq_true h
        exact decide_eq_false (by omega)
      rcases List.mem_cons.mp hy with e | hy
      · rw [e]; exact tr nm (ih m m List.mem_cons_self)
      · exact ih m y hy
    · rw [if_neg h]
      have mn : ltPr m n = false := by simpa using h
      rcases List.mem_cons.mp hy with e | hy
      · rw [e]; exact ih n n List.mem_cons_self
      · rcases List.mem_cons.mp hy with e | hy
        · rw [e]; exact tr mn (ih n n List.mem_cons_self)
        · exact ih n y (List.mem_cons_of_mem _ hy)
def rMinP (K : PySem.W.Frag) : List V → Hp → L2.VK → Prop := fun vs H Q => ∃ (a : Addr) (xs : List V) (n : Int × Int) (ns : List (Int × Int)), vs = [.ref a] ∧ SqL K H a xs ∧ DpAll K H xs ((n :: ns).map pyP) ∧ ∀ (i : Nat) (x : V), xs[i]? = some x → (n :: ns)[i]? = some (minPr n ns) → Q x H
theorem depth_pyP (ns : List (Int × Int)) : PyData.depthAll (ns.map pyP) ≤ 8 := by
  induction ns with
  | nil => exact Nat.zero_le _
  | cons n ns ih => exact Nat.max_le.mpr ⟨by show PyData.depth (pyP n) ≤ 8; exact Nat.le_of_ble_eq_true rfl, ih⟩
theorem cr_minP {X : Cx} {j : Nat} (hr : Room j X.A) : CallR X (.builtin "min") (rMinP X.K) := by
  intro pins s σ H vs us Q I r h
  obtain ⟨a, xs, n, ns, rfl, hs, dp, q⟩ := h
  obtain ⟨its, rv, hl, _⟩ := I.list hs
  rw [Vals.ref1 r]
  obtain ⟨as, hrd⟩ := Dp.readsAll I _ xs its dp rv
  refine PySem.W.min_list_data (x := pyP n) (xs := ns.map pyP) hr.hd hl.isList (by simpa using hrd) ⟨?_, ?_⟩ ?_ fun i v h' tk bs hv rd hk => ?_
  · intro x hx y hy
    obtain ⟨p, _, rfl⟩ := List.mem_map.mp (show x ∈ (n :: ns).map pyP from hx)
    obtain ⟨p', _, rfl⟩ := List.mem_map.mp (show y ∈ (n :: ns).map pyP from hy)
    rfl
  · intro x hx
    obtain ⟨p, _, rfl⟩ := List.mem_map.mp (show x ∈ (n :: ns).map pyP from hx)
    exact fun z => nomatch z
  · have := hr.un
    have d : PyData.depthAll (pyP n :: ns.map pyP) ≤ 8 := depth_pyP (n :: ns)
    omega
  · have hv : its[i]? = some v := by simpa using hv
    obtain ⟨bs', rd', hlt, _, _⟩ := PySem.W.readsAll_at hrd i v hv
    rw [minD_pyP] at rd
    have eu := (PySem.Reads.unique (PySem.W.reads_keeps hk rd') _ _ rd).1
    have hlt' : i < (n :: ns).length := by simpa using hlt
    have e1 : (n :: ns)[i]? = some (n :: ns)[i] := List.getElem?_eq_getElem hlt'
    have e2 : ((n :: ns).map pyP).getD i .none = pyP (n :: ns)[i] := by rw [List.getD_eq_getElem?_getD, List.getElem?_map, e1]; rfl
    rw [e2] at eu
    have e3 := pyP_inj eu
    have hx : i < xs.length := by rw [rv.length]; exact (List.getElem?_eq_some_iff.mp hv).1
    have ex : xs[i]? = some xs[i] := List.getElem?_eq_getElem hx
    obtain ⟨u, hu, ru⟩ := rv.get ex
    rw [hv] at hu
    cases hu
    exact ⟨xs[i], H, I.kept (t' := tk) hk, ru, q i _ ex (by rw [e1, e3])⟩
section
variable [KK : KLs] [XX : XW]
def dMinP : RNv := fun ds Q => match ds with
  | [.nd (.lst _) xs] => match pairs? xs with
    | some (n :: ns) => Q (pD (minPr n ns))
    | _ => False
  | _ => False
omit XX in
theorem pys_pairsP : ∀ ns : List (Int × Int), D.pys (ns.map pD) = ns.map pyP
  | [] => rfl
  | n :: ns => by rw [List.map_cons, List.map_cons, D.pys, pys_pairsP ns]; rfl
omit XX in
theorem plain_pairs : ∀ ns : List (Int × Int), D.plains (ns.map pD) = true
  | [] => rfl
  | n :: ns => by rw [List.map_cons, D.plains, plain_pairs ns]; rfl
theorem lr_minP : LRn (rMinP KK.K) dMinP := by
  intro B0 Z B H σ ρ ds vs F Qd Q R q h k
  unfold dMinP at h
  split at h
  · split at h
    · rename_i f xs n ns e
      obtain ⟨v, e1, x⟩ := dens_one q
      obtain ⟨a, ws, G, e2, t, y, _⟩ := den_lst R.sub x
      subst e2
      rw [pairs_of e] at y
      have dp := Dens.dp R.sub _ _ _ (plain_pairs (n :: ns)) y
      rw [pys_pairsP] at dp
      refine ⟨a, ws, n, ns, e1, t, dp, fun i x hx hm => ?_⟩
      have hm' : ((n :: ns).map pD)[i]? = some (pD (minPr n ns)) := by rw [List.getElem?_map, hm]; rfl
      obtain ⟨v', G', h3, h4, _⟩ := y.at hm'
      rw [hx] at h3
      cases h3
      have nf := Den.nofp _ _ _ rfl h4
      subst nf
      exact k _ _ _ (Out.of R.sub h4) h
    · exact h.elim
  · exact h.elim
theorem e_minP {X : Cx} {j : Nat} {p pos : Pos} {e : Expr} {es : List Expr} {T : TA} {t : TAv} (hr : Room j X.A) (hm : X.mg "min" = none) (ha : VA X (e :: es) T t) (hg : Gl X "min" := by rfl) (hs : St1 X e es pos := by exact ⟨rfl, rfl⟩) (hK : X.K = KK.K := by rfl) :
    VE X (.Call (.Name "min" p) (e :: es) [] pos) (tCB (rMinP KK.K) T) (vB dMinP t) := by
  rw [← hK]
  exact e_callB (cr_minP hr) (by rw [hK]; exact lr_minP) hg hm (by decide +kernel) ha (by decide) (by decide) hs.1 hs.2
end
end VL

/-! ## VLXI -/
/-! VL: for v in x[c]: v.append(k), x an own list of own lists. -/
namespace VL
open PySem PySem.Spec L2
open PyProof.Rows hiding St
variable [KK : KLs] [XX : XW]
omit XX in
theorem Dens.part {Z B H : Hp} : ∀ {xs : List D} {vs : List V} {G : List Addr} {j : Nat} {d : D}, Dens Z B H xs vs G → G.Nodup → D.alls nbF xs = true → xs[j]? = some d →
    ∃ v Gj, vs[j]? = some v ∧ Den Z B H d v Gj ∧ (∀ b ∈ Gj, b ∈ G) ∧ Gj.Nodup ∧ d.nb = true ∧ ∀ (H' : Hp) (d' : D), (∀ b ∈ G, b ∉ Gj → H' b = H b) → Den Z B H' d' v Gj → Dens Z B H' (xs.set j d') vs G
  | [], _, _, j, _, _, _, _, e => by simp at e
  | d0 :: ds, _, _, 0, d, ⟨v, ws, G1, G2, ev, x, q, f⟩, n, nb, e => by
    subst ev f
    simp at e
    subst e
    have nb' : d0.all nbF = true ∧ D.alls nbF ds = true := by simpa [D.alls] using nb
    have n2 := List.nodup_append.mp n
    refine ⟨v, G1, rfl, x, fun b hb => List.mem_append_left _ hb, n2.1, nb'.1, fun H' d' k y => ⟨v, ws, G1, G2, rfl, y, ?_, rfl⟩⟩
    exact Dens.keep _ _ _ nb'.2 (fun b hb => k b (List.mem_append_right _ hb) (fun m => n2.2.2 b m b hb rfl)) q
  | d0 :: ds, _, _, j + 1, d, ⟨v, ws, G1, G2, ev, x, q, f⟩, n, nb, e => by
    subst ev f
    have nb' : d0.all nbF = true ∧ D.alls nbF ds = true := by simpa [D.alls] using nb
    have n2 := List.nodup_append.mp n
    obtain ⟨v', Gj, h1, h2, h3, h4, h5, h6⟩ := Dens.part (j := j) q n2.2.1 nb'.2 (by simpa using e)
    refine ⟨v', Gj, by simpa using h1, h2, fun b hb => List.mem_append_right _ (h3 b hb), h4, h5, fun H' d' k y => ⟨v, ws, G1, G2, rfl, ?_, h6 H' d' (fun b hb nj => k b (List.mem_append_right _ hb) nj) y, rfl⟩⟩
    exact Den.keep _ _ _ nb'.1 (fun b hb => k b (List.mem_append_left _ hb) (fun m => n2.2.2 b hb b (h3 b m) rfl)) x
/-- what an own datum of a name holds is changed in the heap -/
theorem Rep.poke {B0 Z B H : Hp} {σ : L2.St} {ρ : VL.Env} {i : Nat} {d : D} (R : Rep B0 Z B H σ ρ) (e : ρ[i]? = some (some d)) :
    ∃ v G, σ[i]? = some (some v) ∧ Den Z B H d v G ∧ G.Nodup ∧ d.nb = true ∧ ∀ (H' : Hp) (d' : D), (∀ b, b ∉ G → H' b = H b) → d'.nb = true → Den Z B H' d' v G → Rep B0 Z B H' σ (ρ.set i (some d')) := by
  obtain ⟨F, q, n, z⟩ := R.ex
  obtain ⟨v, G, Rr, h1, h2, h3, h4, h5, h6, h7, h8⟩ := q.part n e
  refine ⟨v, G, h1, h3, h4, h2, fun H' d' k nb y => ?_⟩
  have rest : Slots Z B H' (ρ.set i none) σ Rr := h8.keep fun b hb => k b fun m => h5 b m hb
  obtain ⟨F', w1, w2, w3⟩ := rest.fill (length_of_get e) h1 h7 nb y h4 (fun b hb m => h5 b hb m)
  refine ⟨R.xl, ⟨R.gr.sb, fun b ob eb => ?_, fun b ob eb => ?_, R.gr.old⟩, F', w1, w2, fun b hb => ?_⟩
  · rw [k b fun m => by have := (z b (h6 b (.inl m))).2; rw [this] at eb; cases eb]; exact R.gr.sh _ _ eb
  · rw [k b fun m => by have := (z b (h6 b (.inl m))).1; rw [this] at eb; cases eb]; exact R.sub _ _ eb
  · exact (w3 b hb).elim (fun m => z b (h6 b (.inr m))) (fun m => z b (h6 b (.inl m)))
omit XX in
theorem Slots.any {Z B H : Hp} : ∀ {ρ : VL.Env} {σ : List (Option V)} {F : List Addr} {v : Nat} {x : Option V}, Slots Z B H ρ σ F → ρ[v]? = some none → Slots Z B H ρ (σ.set v x) F
  | [], _, _, v, _, _, h => by simp at h
  | none :: ρ, _, _, 0, x, ⟨w, σ', e, q⟩, _ => by subst e; exact ⟨x, σ', rfl, q⟩
  | none :: ρ, _, _, v + 1, x, ⟨w, σ', e, q⟩, h => by subst e; exact ⟨w, _, rfl, q.any (by simpa using h)⟩
  | some d :: ρ, _, _, 0, _, _, h => by simp at h
  | some d :: ρ, _, _, v + 1, x, ⟨w, σ', G1, G2, e, n, y, q, f⟩, h => by subst e; exact ⟨w, _, G1, G2, rfl, n, y, q.any (by simpa using h), f⟩
theorem Rep.any {B0 Z B H : Hp} {σ : L2.St} {ρ : VL.Env} {v : Nat} {x : Option V} (R : Rep B0 Z B H σ ρ) (h : ρ[v]? = some none) : Rep B0 Z B H (σ.set v x) ρ := by
  obtain ⟨F, q, n, z⟩ := R.ex
  exact ⟨R.xl, R.gr, F, q.any h, n, z⟩
def appD (k : Int) : D → D
  | .nd (.lst .o) zs => .lst .o (zs ++ [.int k])
  | d => d
def rowO : D → Prop
  | .nd (.lst .o) zs => D.alls coF zs = true ∧ zs.length < 1000000
  | _ => False
def vAppAll (i v : Nat) (c k : Int) : TSv := fun W ρ => match ρ[i]? with
  | some (some (.nd (.lst .o) xs)) => ∃ j ys, ρ[v]? = some none ∧ ixN xs.length c = some j ∧ xs[j]? = some (.lst .o ys) ∧ (∀ y ∈ ys, rowO y) ∧ W.nx (ρ.set i (some (.lst .o (xs.set j (.lst .o (ys.map (appD k)))))))
  | _ => False
def mixD (k : Int) (ys : List D) (q : Nat) : List D := (ys.take q).map (appD k) ++ ys.drop q
omit KK XX in
theorem mix_at {k : Int} {ys : List D} {q : Nat} (h : q < ys.length) : (mixD k ys q)[q]? = ys[q]? := by
  unfold mixD
  rw [List.getElem?_append_right (by simp; omega), List.length_map, List.length_take, Nat.min_eq_left (Nat.le_of_lt h), Nat.sub_self, List.getElem?_drop, Nat.add_zero]
omit KK XX in
theorem mix_succ {k : Int} {ys : List D} {q : Nat} {y : D} (h : ys[q]? = some y) : (mixD k ys q).set q (appD k y) = mixD k ys (q + 1) := by
  have hl : q < ys.length := (List.getElem?_eq_some_iff.mp h).1
  have hy : ys[q] = y := (List.getElem?_eq_some_iff.mp h).2
  unfold mixD
  have e1 : ys.drop q = y :: ys.drop (q + 1) := by rw [List.drop_eq_getElem_cons hl, hy]
  have e2 : ys.take (q + 1) = ys.take q ++ [y] := by rw [List.take_add_one, h]; rfl
  have e3 : ((ys.take q).map (appD k)).length = q := by simp; omega
  rw [e1, e2, List.map_append, List.set_append_right _ _ (by omega), e3, Nat.sub_self, List.append_assoc]
  rfl
omit KK XX in
theorem mix_end {k : Int} {ys : List D} {n : Nat} (h : ys.length = n) : mixD k ys n = ys.map (appD k) := by
  unfold mixD
  rw [List.take_of_length_le (by omega), List.drop_of_length_le (by omega), List.append_nil]
omit XX in
theorem row_nb {k : Int} {y : D} (h : rowO y) : y.nb = true ∧ (appD k y).nb = true := by
  cases y with
  | nd hd zs =>
    cases hd with
    | lst f =>
      cases f with
      | o =>
        have c1 := D.alls_imp (p := coF) (q := nbF) (fun f e => by cases f <;> first | rfl | exact nomatch e) zs h.1
        refine ⟨by show (nbF .o && D.alls nbF zs) = true; rw [c1]; rfl, ?_⟩
        show (nbF .o && D.alls nbF (zs ++ [.int k])) = true
        rw [alls_app, c1]; rfl
      | _ => exact h.elim
    | _ => exact h.elim
  | _ => exact h.elim
omit XX in
theorem mix_nb {k : Int} {ys : List D} (q : Nat) (h : ∀ y ∈ ys, rowO y) : D.alls nbF (mixD k ys q) = true := by
  unfold mixD
  rw [alls_app, D.alls_eq, D.alls_eq, Bool.and_eq_true, List.all_eq_true, List.all_eq_true]
  refine ⟨fun d hd => ?_, fun d hd => (row_nb (k := k) (h d (List.mem_of_mem_drop hd))).1⟩
  obtain ⟨y, hy, rfl⟩ := List.mem_map.mp hd
  exact (row_nb (h y (List.mem_of_mem_take hy))).2
omit KK XX in
theorem set_own {α : Type} {l : List α} {i : Nat} {x : α} (h : l[i]? = some x) : l.set i x = l := by
  apply List.ext_getElem?
  intro j
  by_cases e : i = j
  · subst e
    rw [List.getElem?_set_self (List.getElem?_eq_some_iff.mp h).1, h]
  · rw [List.getElem?_set_ne e]
theorem lk_appAll {i v : Nat} {c k : Int} : LS (tFor (iSeq KK.K (tOp (rIx KK.K) (tVar i) (tC (.int c)))) (gName v) (tDrop (tBM KK.K "list" rAppend (tVar v) (tCons (tC (.int k)) tNil)))) (vAppAll i v c k) := by
  intro B0 Z B H σ ρ Dv De R h S
  unfold vAppAll at h
  split at h
  · rename_i xs e
    obtain ⟨j, ys, hv, hj, hxj, hrow, hnx⟩ := h
    have iv : v ≠ i := fun z => by subst z; rw [hv] at e; cases e
    obtain ⟨v0, G, p1, p3, p4, pnb, _⟩ := R.poke e
    obtain ⟨a, o, vs, G', ev, xa, c0, y, f⟩ := p3
    have c0 : o = .lst vs := c0
    subst c0 ev
    have xa : H a = some (.lst vs) := xa
    have f : G = a :: G' := f
    subst f
    have nbx : D.alls nbF xs = true := by
      have : nbF (Hd.lst Fl.o).fl && D.alls nbF xs = true := by simpa [D.all] using pnb
      simp at this; exact this.2
    obtain ⟨vj, Gj, k1, k2, k3, k4, k5, k6⟩ := y.part (List.nodup_cons.mp p4).2 nbx hxj
    obtain ⟨L, oL, us, GL, eL, xL, cL, yL, fL⟩ := k2
    have cL : oL = .lst us := cL
    subst cL eL
    have xL : H L = some (.lst us) := xL
    have ly : ys.length = us.length := yL.len
    refine ⟨_, p1, .inl ⟨a, vs, c, .ref L, rfl, rfl, .inl (.inl xa), ?_, .inr (.inl ⟨L, rfl, ⟨us, .inl (.inl xL)⟩, ?_⟩)⟩⟩
    · unfold atI
      rw [← y.len, hj]; exact k1
    refine ⟨fun q m σ' H' => m = us.length - q ∧ q ≤ us.length ∧ σ'[i]? = some (some (.ref a)) ∧ Rep B0 Z B H' σ' (ρ.set i (some (.lst .o (xs.set j (.lst .o (mixD k ys q)))))) ∧ H' a = some (.lst vs) ∧ H' L = some (.lst us), ⟨us.length, by simp, Nat.zero_le _, p1, ?_, xa, xL⟩, ?_⟩
    · have e0 : mixD k ys 0 = ys := by unfold mixD; simp
      rw [e0, set_own hxj, set_own e]; exact R
    rintro q m σ' H' ⟨rfl, hq, si, R', ha', hL'⟩
    by_cases hlt : q < us.length
    · have eu : us[q]? = some us[q] := List.getElem?_eq_getElem hlt
      refine .inr ⟨⟨us, us[q], .inl (.inl hL'), eu⟩, fun σ2 H2 => σ2[i]? = some (some (.ref a)) ∧ Rep B0 Z B H2 σ2 (ρ.set i (some (.lst .o (xs.set j (.lst .o (mixD k ys (q + 1))))))) ∧ H2 a = some (.lst vs) ∧ H2 L = some (.lst us), fun σ2 H2 z => ⟨us.length - (q + 1), by omega, rfl, hlt, z⟩, fun x H'' hy => ?_⟩
      obtain ⟨rfl, hx⟩ := hy
      have ex := hx us (.inl (.inl hL'))
      have hv' : (ρ.set i (some (.lst .o (xs.set j (.lst .o (mixD k ys q))))))[v]? = some none := by rw [List.getElem?_set_ne (Ne.symm iv)]; exact hv
      have vl : v < σ'.length := by
        rw [← R'.len]
        exact (List.getElem?_eq_some_iff.mp hv').1
      have R2 := R'.any (x := some x) hv'
      have si2 : (σ'.set v (some x))[i]? = some (some (.ref a)) := by rw [List.getElem?_set_ne iv]; exact si
      have e' : (ρ.set i (some (.lst .o (xs.set j (.lst .o (mixD k ys q))))))[i]? = some (some (.lst .o (xs.set j (.lst .o (mixD k ys q))))) := List.getElem?_set_self (length_of_get e)
      obtain ⟨w0, G2, r1, r3, r4, rnb, rup⟩ := R2.poke e'
      rw [si2] at r1
      cases r1
      obtain ⟨a2, o2, vs2, G2', ev2, xa2, c2, y2, f2⟩ := r3
      cases ev2
      have c2 : o2 = .lst vs2 := c2
      subst c2
      have xa2 : H'' a = some (.lst vs2) := xa2
      rw [ha'] at xa2
      cases xa2
      have f2 : G2 = a :: G2' := f2
      subst f2
      have ng2 := List.nodup_cons.mp r4
      have jl : j < xs.length := (List.getElem?_eq_some_iff.mp hxj).1
      have nb2 : D.alls nbF (xs.set j (.lst .o (mixD k ys q))) = true := by
        have : nbF (Hd.lst Fl.o).fl && D.alls nbF (xs.set j (.lst .o (mixD k ys q))) = true := by simpa [D.all] using rnb
        simp at this; exact this.2
      obtain ⟨vj2, Gj2, l1, l2, l3, l4, l5, l6⟩ := y2.part ng2.2 nb2 (List.getElem?_set_self jl)
      rw [k1] at l1
      cases l1
      obtain ⟨L2, oL2, us2, GL2, eL2, xL2, cL2, yL2, fL2⟩ := l2
      cases eL2
      have cL2 : oL2 = .lst us2 := cL2
      subst cL2
      have xL2 : H'' L = some (.lst us2) := xL2
      rw [hL'] at xL2
      cases xL2
      have fL2 : Gj2 = L :: GL2 := fL2
      subst fL2
      have ngL := List.nodup_cons.mp l4
      have eyq : ys[q]? = some (ys[q]'(by omega)) := List.getElem?_eq_getElem (by omega)
      have hr := hrow _ (List.mem_of_getElem? eyq)
      generalize ys[q]'(by omega) = yq at eyq hr
      obtain ⟨vq, Gq, m1, m2, m3, m4, m5, m6⟩ := yL2.part ngL.2 (mix_nb q hrow) ((mix_at (by omega)).trans eyq)
      rw [ex] at m1
      cases m1
      match yq, hr with
      | .nd (.lst .o) zs, hr =>
        obtain ⟨r, oR, ws, GR, eR, xR, cR, yR, fR⟩ := m2
        subst eR
        have cR : oR = .lst ws := cR
        subst cR
        have xR : H'' r = some (.lst ws) := xR
        have nR := Dens.nofp zs ws GR hr.1 yR
        subst nR
        have fR : Gq = [r] := fR
        subst fR
        have rL : r ∈ GL2 := m3 r (by simp)
        have rG : r ∈ G2' := l3 r (List.mem_cons_of_mem _ rL)
        have raL : L ≠ r := fun z => ngL.1 (z ▸ rL)
        have raa : a ≠ r := fun z => ng2.1 (z ▸ rG)
        refine ⟨.ref r, by rw [List.getElem?_set_self vl], .inl ⟨rfl, ws, .inl (.inl xR)⟩, r, ws, .int k, rfl, rfl, xR, by rw [← yR.len]; exact million (Nat.le_of_lt hr.2), si2, ?_, by rw [upd_ne raa]; exact ha', by rw [upd_ne raL]; exact hL'⟩
        have den1 : Den Z B (upd H'' r (.lst (ws ++ [.int k]))) (.lst .o (zs ++ [.int k])) (.ref r) [r] := ⟨r, _, ws ++ [V.int k], [], rfl, upd_same, rfl, Dens.app (F := []) (G := []) (Dens.fixed (Same.refl _) _ _ _ hr.1 yR) (Dens.one (den_int (i := k))), rfl⟩
        have den2 := m6 (upd H'' r (.lst (ws ++ [.int k]))) (.lst .o (zs ++ [.int k])) (fun b hb nb => upd_ne fun z => nb (by rw [z]; simp)) den1
        have em : (mixD k ys q).set q (.lst .o (zs ++ [.int k])) = mixD k ys (q + 1) := mix_succ (y := .lst .o zs) eyq
        rw [em] at den2
        have den3 := l6 (upd H'' r (.lst (ws ++ [.int k]))) (.lst .o (mixD k ys (q + 1))) (fun b hb nb => upd_ne fun z => nb (by rw [z]; exact List.mem_cons_of_mem _ rL)) ⟨L, _, us, GL2, rfl, by show upd H'' r _ L = _; rw [upd_ne raL]; exact hL', rfl, den2, rfl⟩
        rw [List.set_set] at den3
        have nbm : D.alls nbF (xs.set j (.lst .o (mixD k ys (q + 1)))) = true := alls_set j nbx (by show (nbF .o && D.alls nbF (mixD k ys (q + 1))) = true; rw [mix_nb (q + 1) hrow]; rfl)
        have fin := rup (upd H'' r (.lst (ws ++ [.int k]))) (.lst .o (xs.set j (.lst .o (mixD k ys (q + 1))))) (fun b hb => upd_ne fun z => hb (by rw [z]; exact List.mem_cons_of_mem _ rG)) (by show (nbF .o && D.alls nbF (xs.set j (.lst .o (mixD k ys (q + 1))))) = true; rw [nbm]; rfl)
          ⟨a, _, vs, G2', rfl, by show upd H'' r _ a = _; rw [upd_ne raa]; exact ha', rfl, den3, rfl⟩
        rw [List.set_set] at fin
        exact fin
    · have eq : q = us.length := by omega
      subst eq
      refine .inl ⟨⟨us, .inl (.inl hL'), Nat.le_refl _⟩, S.nx _ _ _ _ R' ?_⟩
      rw [mix_end ly]; exact hnx
  · exact h.elim
theorem s_appAll {X : Cx} {tg iter : Expr} {body : List Stmt} {pos : Pos} {i v : Nat} {c k : Int} {ti : TIv} {gv : TGv} {vs : List Nat} {t : TSv} (hc : X.calm = true) (hp : PassesOwn (model X.prog X.w) X.A X.env X.xe) (hi : VI X tg iter (iSeq KK.K (tOp (rIx KK.K) (tVar i) (tC (.int c)))) ti) (hg : VG X tg (gName v) gv vs)
    (hb : VSs X body (tDrop (tBM KK.K "list" rAppend (tVar v) (tCons (tC (.int k)) tNil))) t) (hs : ∀ x, foldedSetIterable iter X.env x = pure x := by intro _; rfl) :
    VS X (.For tg iter body [] pos) (tFor (iSeq KK.K (tOp (rIx KK.K) (tVar i) (tC (.int c)))) (gName v) (tDrop (tBM KK.K "list" rAppend (tVar v) (tCons (tC (.int k)) tNil)))) (vAppAll i v c k) := ⟨ps_for hp hc hi.pi hg.pg hb.ps hs, lk_appAll⟩
end VL

/-! ## VLXJ -/
/-! VL: the keys of a locked dict with tuple keys, walked. -/
namespace VL
open PySem PySem.Spec L2
open PyProof.Rows hiding St
def ktD (k : List Key) : D := .tup (k.map kD)
section
variable [KK : KLs] [XX : XW]
omit XX in
theorem kt_dens {Z B H : Hp} : ∀ k : List Key, Dens Z B H (k.map kD) (k.map kV) []
  | [] => ⟨rfl, rfl⟩
  | a :: k => ⟨_, _, [], [], rfl, den_kD a, kt_dens k, rfl⟩
omit XX in
/-- a tuple that stands is fixed -/
theorem Grow.tup {B H : Hp} {q : Addr} {xs : List V} (s : Same B H) (hq : H q = some (.tup xs)) : Grow B H (upd B q (.tup xs)) H := by
  refine ⟨fun b o e => ?_, Same.refl _, fun b o e => ?_, fun b o e nt n => ?_⟩
  · by_cases z : b = q
    · subst z
      rw [upd_same, ← hq]; exact s _ _ e
    · rw [upd_ne z]; exact e
  · by_cases z : b = q
    · subst z; rw [upd_same] at e; rw [hq]; exact e
    · rw [upd_ne z] at e; exact s _ _ e
  · have z : b ≠ q := fun z => by rw [z, hq] at e; cases e; exact nt _ rfl
    rw [upd_ne z]; exact n
omit XX in
theorem ktD_co (ks : List (List Key)) : D.alls coF (ks.map ktD) = true := by
  rw [D.alls_eq, List.all_eq_true]
  intro d hd
  obtain ⟨k, _, rfl⟩ := List.mem_map.mp hd
  show (coF .i && D.alls coF (k.map kD)) = true
  rw [kD_co]; rfl
theorem yields_keysT {Z B : Hp} {a : Addr} {ob : Obj} {ks : List (List Key)} {vs : List V} (hl : ks.length = vs.length) (hb : B a = some (.frz ob (.dT (ks.zip vs)))) : Yields Z B (Itkt a ob (ks.zip vs)) (ks.map ktD) := by
  intro B' H' sb s
  have hs : H' a = some (.frz ob (.dT (ks.zip vs))) := s _ _ (sb _ _ hb)
  have lz : (ks.zip vs).length = ks.length := by rw [List.length_zip]; omega
  refine ⟨fun i d e => ?_, ⟨hs, by rw [lz, List.length_map]; exact Nat.le_refl _⟩⟩
  have hi : i < ks.length := by have := (List.getElem?_eq_some_iff.mp e).1; rwa [List.length_map] at this
  refine ⟨⟨hs, by rw [lz]; exact hi⟩, fun x H'' y => ?_⟩
  obtain ⟨rfl, k, v, q, e2, rfl, hq⟩ := y
  rw [List.getElem?_map, List.getElem?_eq_getElem hi] at e
  have ed : ktD ks[i] = d := Option.some.inj e
  have ek : k = ks[i] := by
    have h2 : i < vs.length := by omega
    rw [List.getElem?_eq_getElem (by rw [lz]; exact hi)] at e2
    have := Option.some.inj e2
    rw [List.getElem_zip] at this
    exact (congrArg Prod.fst this).symm
  subst ed ek
  exact ⟨upd B' q (.tup (ks[i].map kV)), [], Grow.tup s hq, ⟨q, _, _, [], rfl, upd_same, rfl, kt_dens _, rfl⟩, List.nodup_nil, fun a h => nomatch h⟩
def vItT (te : TEv) : TIv := fun ρ R => te ρ fun d => match d with
  | .nd (.dtt .s ks) _ => R (ks.map ktD)
  | _ => False
theorem lk_itT {Te : TE} {te : TEv} (l : LE Te te) : LI (iKeys Te) (vItT te) := by
  intro B0 Z B H σ ρ R RR Rp h k
  refine l B0 Z B H σ ρ _ _ Rp h fun d v H1 o q => ?_
  split at q
  · rename_i ks xs
    obtain ⟨B1, F, g, x, nf, fr⟩ := o
    obtain ⟨a, o', vs, G, e, x, c, y, f⟩ := x
    obtain ⟨hl, c⟩ := c
    subst c
    rcases (show (∃ ob, B1 a = some (.frz ob (.dT (ks.zip vs)))) ∨ ∃ xs, HO.dT (ks.zip vs) = .lst xs ∧ KLst a xs from x) with ⟨ob, hb⟩ | ⟨us, e2, _⟩
    · exact ⟨a, ob, e, .inr ⟨_, g.sub _ _ hb, k _ B1 H1 _ g (yields_keysT hl hb) (ktD_co ks) q⟩⟩
    · cases e2
  · exact q.elim
theorem i_keysT {X : Cx} {tg e : Expr} {Te : TE} {te : TEv} (he : VE X e Te te) : VI X tg e (iKeys Te) (vItT te) := ⟨pi_keys he.pe, lk_itT he.lk⟩
end
end VL

/-! ## VLXK -/
/-! VL: t == x, t != x, t a tuple, x an instance of an own class with its own method. -/
namespace PySem.W
open Lean Elab Tactic Meta PySem PySem.Calls PyProof.Rows PySem.SeqAt
section
variable {prog : Program} {w : World} {A : Around} {E : Value → Shared → Prop} {s : Shared} {K : Frag} {x l C L f : Addr} {h₀ : Heap} {m : Str → Option Value} {ox ol : Obj} {od : Option Obj}
theorem vl_tupEq {its : Array Value} {n : Nat} {Q : Value → Shared → Prop} (X : K.In s.heap) (I : InstAt s.heap x ox C od) (hsub : subIn K (.ref C) (.type "tuple") = some false) (hl : s.heap.get? l = some ol) (hc : ol.cls = .type "tuple") (hd : ol.data = .seq its n)
    (h : Q .notImplemented s) : wpAny (model prog w) A (call (.builtin "tuple.__eq__") [.ref l, .ref x]) Q E s := by
  have hT : s.TypeIs (.ref l) "tuple" := ⟨ol, hl, hc⟩
  have L : Looks (model prog w) s.heap (isInstance (.ref x) (.type "tuple")) false := I.type.andThen (looks_subIn X hsub)
  refine wpAny_call_entry F.slot_tuple_eq hT F.entry_tuple_eq ?_ (F.args_tuple_eq_2 _ _)
  show wpAny _ _ (slotArgs "__eq__" 1 ⟨[.ref l, .ref x], []⟩ >>= _) _ _ _
  refine wpAny_bind (wpAny_of_eq (a := ((Value.ref l : Value), [Value.ref x])) (by first | rfl | (simp only [slotArgs]; rfl)) ?_)
  refine wpAny_bind (L.at ?_)
  simp only [Bool.not_false, if_true]
  exact wpAny_pure ⟨_, rfl, h⟩
theorem vl_tupNe {its : Array Value} {n : Nat} {Q : Value → Shared → Prop} (X : K.In s.heap) (I : InstAt s.heap x ox C od) (hsub : subIn K (.ref C) (.type "tuple") = some false) (hl : s.heap.get? l = some ol) (hc : ol.cls = .type "tuple") (hd : ol.data = .seq its n)
    (h : Q .notImplemented s) : wpAny (model prog w) A (call (.builtin "tuple.__ne__") [.ref l, .ref x]) Q E s := by
  have hT : s.TypeIs (.ref l) "tuple" := ⟨ol, hl, hc⟩
  have L : Looks (model prog w) s.heap (isInstance (.ref x) (.type "tuple")) false := I.type.andThen (looks_subIn X hsub)
  refine wpAny_call_entry F.slot_tuple_ne hT F.entry_tuple_ne ?_ (F.args_tuple_ne_2 _ _)
  show wpAny _ _ (slotArgs "__ne__" 1 ⟨[.ref l, .ref x], []⟩ >>= _) _ _ _
  refine wpAny_bind (wpAny_of_eq (a := ((Value.ref l : Value), [Value.ref x])) (by first | rfl | (simp only [slotArgs]; rfl)) ?_)
  refine wpAny_bind (L.at ?_)
  simp only [Bool.not_false, if_true]
  exact wpAny_pure ⟨_, rfl, h⟩
theorem vl_cmpR {op : CmpOp} {id : String} {its : Array Value} {n : Nat} {Q : Value → Shared → Prop} (hu : A.units < cLine) (F0 : Fr h₀ L s.heap m) (X₀ : K.In h₀) (I : InstAt s.heap x ox C od) (hsub : subIn K (.ref C) (.type "tuple") = some false)
    (hl : s.heap.get? l = some ol) (hc : ol.cls = .type "tuple") (hd : ol.data = .seq its n) (hs : findIn K (.ref C) (cmpInfo op).2.2 = some (some (.ref f))) (hf : isFn K (.ref f) = true) (sl : Slot "tuple" (cmpInfo op).2.1 id)
    (hdc : ∀ Q' : Value → Shared → Prop, Q' .notImplemented s → wpAny (model prog w) A (call (.builtin id) [.ref l, .ref x]) Q' E s)
    (h : wpAny (model prog w) A (call (.ref f) [.ref x, .ref l]) (CmpBack Q) E s) : wpAny (model prog w) A (richCompare op (.ref l) (.ref x)) Q E s := by
  have X := X₀.keeps F0.keep
  have hT : s.TypeIs (.ref l) "tuple" := ⟨ol, hl, hc⟩
  have one : wpAny (model prog w) A (tryCompare (.ref x) (cmpInfo op).2.2 (.ref l)) (fun r s' => ∃ v, r = some v ∧ Q v s') E s := by
    unfold tryCompare
    refine wpAny_bind (ifBound_K X I hs hf (wpAny_mono h (fun v s' hv => ?_) fun _ _ e => e))
    cases v <;> first | exact hv.elim | exact wpAny_pure ⟨_, rfl, hv⟩
  unfold richCompare
  simp only [oneThing_ref]
  refine wpAny_holding (wpAny_bind (wpAny_cRoomFor hu ?_))
  refine wpAny_bind (wpAny_typeOf hT (wpAny_bind (I.type.here ?_)))
  have hne : (Value.type "tuple" != Value.ref C) = true := by
    have : (Value.type "tuple" == Value.ref C) = false := Bool.eq_false_iff.mpr fun q => by cases beq_iff_eq.mp q
    show (!(Value.type "tuple" == Value.ref C)) = true
    rw [this]; rfl
  rw [if_pos hne]
  refine wpAny_bind ((looks_subIn X hsub).here ?_)
  simp only [Bool.false_eq_true, if_false, Bool.not_false, if_true]
  refine wpAny_bind (m := tryCompare (.ref l) _ (.ref x)) (wpAny_tryCompare_declines hT sl (hdc _ ⟨rfl, ?_⟩))
  refine wpAny_bind (m := tryCompare (.ref x) _ (.ref l)) (wpAny_mono one (fun r s' z => ?_) fun _ _ e => e)
  obtain ⟨v, rfl, hq⟩ := z
  exact wpAny_pure hq
end
end PySem.W
namespace VL
open PySem PySem.Spec L2
open PyProof.Rows hiding St
def rOwnR (K : PySem.W.Frag) (C : Addr) (sp : Sp) : R2 := fun x y H Q => ∃ a dx fs l xs, y = .ref a ∧ H a = some (.ins C dx fs) ∧ x = .ref l ∧ SqT K H l xs ∧ sp [y, x] H (fun v H' => ∃ b, v = .bl b ∧ Q v H') E0
section
variable {X : Cx} {C f : Addr} {k : Nat} {fd : FuncData} {ps : List Str} {sp : Sp}
theorem op_eqR (hsub : PySem.W.subIn X.K (.ref C) (.type "tuple") = some false) (F : FnOk X.prog X.w X.K X.mg X.base (L2N.CX X.prog X.w) k f fd ps sp) (hs : PySem.W.findIn X.K (.ref C) "__eq__" = some (some (.ref f))) (hf : PySem.W.isFn X.K (.ref f) = true) (hb : Binds X.K fd ps []) (hr : Room k X.A) : OpR X (compareOp .Eq) (rOwnR X.K C sp) := by
  intro pins s σ H x y v u Q I rx ry h
  obtain ⟨a, dx, fs, l, xs, rfl, ha, rfl, hl, hsp⟩ := h
  cases rx
  cases ry
  obtain ⟨mA, J, _⟩ := ins_get I.hok ha
  obtain ⟨od, J, _⟩ := J.look
  obtain ⟨m, hF⟩ := I.fr
  obtain ⟨its, rv, ⟨o, ho, hc, n, hd⟩, _⟩ := I.tuple hl
  have fin : wpAny (model X.prog X.w) X.A (call (.ref f) [Value.ref a, Value.ref l]) (PySem.W.CmpBack (EP X pins σ Q)) X.xe s := by
    refine wpAny_mono (run_fn (Q := fun v H' => ∃ b, v = .bl b ∧ Q v H') F hr hb .nil passN I (show Vals [V.ref a, V.ref l] [Value.ref a, Value.ref l] from .cons rfl (.cons rfl .nil)) (by simpa using hsp)) (fun r s' q => ?_) fun _ _ e => e
    obtain ⟨z, H', I', rz, b, ez, q⟩ := q
    subst ez
    cases rz
    exact ⟨.bl b, H', I', rfl, q⟩
  show wpAny _ _ (richCompare .Eq (.ref l) (.ref a)) _ _ _
  exact PySem.W.vl_cmpR (op := .Eq) (by have := hr.un; omega) hF I.ok.mod.kin J hsub ho hc hd hs hf PySem.F.slot_tuple_eq (fun Q' hq => PySem.W.vl_tupEq I.kIn J hsub ho hc hd hq) fin
theorem op_neR (hsub : PySem.W.subIn X.K (.ref C) (.type "tuple") = some false) (F : FnOk X.prog X.w X.K X.mg X.base (L2N.CX X.prog X.w) k f fd ps sp) (hs : PySem.W.findIn X.K (.ref C) "__ne__" = some (some (.ref f))) (hf : PySem.W.isFn X.K (.ref f) = true) (hb : Binds X.K fd ps []) (hr : Room k X.A) : OpR X (compareOp .NotEq) (rOwnR X.K C sp) := by
  intro pins s σ H x y v u Q I rx ry h
  obtain ⟨a, dx, fs, l, xs, rfl, ha, rfl, hl, hsp⟩ := h
  cases rx
  cases ry
  obtain ⟨mA, J, _⟩ := ins_get I.hok ha
  obtain ⟨od, J, _⟩ := J.look
  obtain ⟨m, hF⟩ := I.fr
  obtain ⟨its, rv, ⟨o, ho, hc, n, hd⟩, _⟩ := I.tuple hl
  have fin : wpAny (model X.prog X.w) X.A (call (.ref f) [Value.ref a, Value.ref l]) (PySem.W.CmpBack (EP X pins σ Q)) X.xe s := by
    refine wpAny_mono (run_fn (Q := fun v H' => ∃ b, v = .bl b ∧ Q v H') F hr hb .nil passN I (show Vals [V.ref a, V.ref l] [Value.ref a, Value.ref l] from .cons rfl (.cons rfl .nil)) (by simpa using hsp)) (fun r s' q => ?_) fun _ _ e => e
    obtain ⟨z, H', I', rz, b, ez, q⟩ := q
    subst ez
    cases rz
    exact ⟨.bl b, H', I', rfl, q⟩
  show wpAny _ _ (richCompare .NotEq (.ref l) (.ref a)) _ _ _
  exact PySem.W.vl_cmpR (op := .NotEq) (by have := hr.un; omega) hF I.ok.mod.kin J hsub ho hc hd hs hf PySem.F.slot_tuple_ne (fun Q' hq => PySem.W.vl_tupNe I.kIn J hsub ho hc hd hq) fin
end
section
variable [KK : KLs] [XX : XW]
/-- x == y: x or y an instance of C, the other one such an instance or a tuple -/
def vOwnB (C : Addr) (P : PV) (ta tb : TEv) : TEv := fun ρ Q => ta ρ fun x => tb ρ fun y => match x, y with
  | .nd (.obj C' _) _, y => C' = C ∧ okY C y ∧ P [x.arg, y.arg] (fun d => d.ow = true ∧ match d with | .bl b => Q (.bl b) | _ => False) (fun _ => False)
  | .nd .tup _, .nd (.obj C' _) _ => C' = C ∧ P [y.arg, x.arg] (fun d => d.ow = true ∧ match d with | .bl b => Q (.bl b) | _ => False) (fun _ => False)
  | _, _ => False
theorem lk_ownB {C : Addr} {P : PV} {Ta Tb : TE} {ta tb : TEv} (CF : ClsF KK.K C) (la : LE Ta ta) (lb : LE Tb tb) : LE (tOp (fun x y H Q => rOwn KK.K C (spV 2 P) x y H Q ∨ rOwnR KK.K C (spV 2 P) x y H Q) Ta Tb) (vOwnB C P ta tb) := by
  intro B0 Z B H σ ρ Qd Q R h k
  refine la B0 Z B H σ ρ _ _ R h fun x vx H1 ⟨B1, F, g, dx, n, f⟩ h => ?_
  refine lb B0 Z B1 H1 σ ρ _ _ (R.grow g) h fun y vy H2 ⟨B2, F2, g2, dy, n2, f2⟩ h => ?_
  have R2 := (R.grow g).grow g2
  have back : ∀ (d : D) (v : V) (H' : Hp), Out Z B H d v H' → (match d with | .bl b => Qd (.bl b) | _ => False) → ∃ b, v = .bl b ∧ Q v H' := fun d v H' o q => by
    split at q
    · rename_i b
      have ev : v = .bl b := by obtain ⟨_, _, _, x, _⟩ := o; exact x.1
      exact ⟨b, ev, k _ _ _ o q⟩
    · exact q.elim
  split at h
  · rename_i C' ns xs _ _
    obtain ⟨rfl, oy, hP⟩ := h
    have dx2 := dx.grow g2.sb g2.sh
    obtain ⟨a, o, us, G, ev, hx, ⟨l, ddx, c⟩, q', fe⟩ := id dx2
    subst ev c
    refine .inl ⟨a, ddx, _, rfl, R2.sub _ _ hx, okY_ty CF R2.sub dy oy, ?_⟩
    have := hand_call (n := 2) (P := P) (dds := []) (dvs := []) (ds := [.nd (.obj C' ns) xs, y]) (vs := [.ref a, vy]) (F := F ++ (F2 ++ [])) (Q := fun v H' => ∃ b, v = .bl b ∧ Q v H') R (g.trans g2) ⟨_, _, _, _, rfl, dx2, ⟨_, _, _, _, rfl, dy, ⟨rfl, rfl⟩, rfl⟩, rfl⟩ True.intro rfl (by simpa [D.maps] using hP) back
    simpa using this
  · rename_i zs C' ns xs _ _ _
    obtain ⟨rfl, hP⟩ := h
    have dx2 := dx.grow g2.sb g2.sh
    obtain ⟨a, o, us, G, ev, hx, ⟨l, ddx, c⟩, q', fe⟩ := id dy
    subst ev c
    obtain ⟨b, ws, eb, tb2, bb, _⟩ := den_tup R2.sub dx2
    subst eb
    refine .inr ⟨a, ddx, _, b, ws, rfl, R2.sub _ _ hx, rfl, SqT.of tb2, ?_⟩
    have := hand_call (n := 2) (P := P) (dds := []) (dvs := []) (ds := [.nd (.obj C' ns) xs, .nd .tup zs]) (vs := [.ref a, .ref b]) (F := F2 ++ (F ++ [])) (Q := fun v H' => ∃ b, v = .bl b ∧ Q v H') R (g.trans g2) ⟨_, _, _, _, rfl, dy, ⟨_, _, _, _, rfl, dx2, ⟨rfl, rfl⟩, rfl⟩, rfl⟩ True.intro rfl (by simpa [D.maps] using hP) back
    simpa using this
  · exact h.elim
variable {X : Cx} {k j : Nat} {C f g : Addr} {P : PV} {a b : Expr} {pos : Pos} {Ta Tb : TE} {ta tb : TEv} {fd : FuncData} {ps : List Str}
abbrev rOwnB (K : PySem.W.Frag) (C : Addr) (sp : Sp) : R2 := fun x y H Q => rOwn K C sp x y H Q ∨ rOwnR K C sp x y H Q
theorem e_eqB (hsub : PySem.W.subIn KK.K (.ref C) (.type "tuple") = some false) (CF : ClsF KK.K C) (F : FnOk X.prog X.w X.K X.mg X.base (L2N.CX X.prog X.w) k f fd ps (spV 2 P)) (hs : PySem.W.findIn X.K (.ref C) "__eq__" = some (some (.ref f))) (hf : PySem.W.isFn X.K (.ref f) = true) (hb : Binds X.K fd ps []) (hr : Room j X.A) (hk : k ≤ j)
    (h1 : VE X a Ta ta) (h2 : VE X b Tb tb) (hK : X.K = KK.K := by rfl) : VE X (.Compare a [.Eq] [b] pos) (tOp (rOwnB KK.K C (spV 2 P)) Ta Tb) (vOwnB C P ta tb) :=
  ⟨by rw [← hK] at hsub ⊢; exact pe_cmpR ((op_own (op := .Eq) F hs hf hb (hr.mono hk) fun _ _ => rfl).or (op_eqR hsub F hs hf hb (hr.mono hk))) h1.pe h2.pe (nomark _), lk_ownB CF h1.lk h2.lk⟩
theorem e_neB (hsub : PySem.W.subIn KK.K (.ref C) (.type "tuple") = some false) (CF : ClsF KK.K C) (F : FnOk X.prog X.w X.K X.mg X.base (L2N.CX X.prog X.w) k f fd ps (spV 2 P)) (hs : PySem.W.findIn X.K (.ref C) "__ne__" = some (some (.ref f))) (hf : PySem.W.isFn X.K (.ref f) = true) (hb : Binds X.K fd ps []) (hr : Room j X.A) (hk : k ≤ j)
    (h1 : VE X a Ta ta) (h2 : VE X b Tb tb) (hK : X.K = KK.K := by rfl) : VE X (.Compare a [.NotEq] [b] pos) (tOp (rOwnB KK.K C (spV 2 P)) Ta Tb) (vOwnB C P ta tb) :=
  ⟨by rw [← hK] at hsub ⊢; exact pe_cmpR ((op_own (op := .NotEq) F hs hf hb (hr.mono hk) fun _ _ => rfl).or (op_neR hsub F hs hf hb (hr.mono hk))) h1.pe h2.pe (nomark _), lk_ownB CF h1.lk h2.lk⟩
end
end VL

/-! ## VLXL -/
/-! VL: x[k].append(e), e a new own thing; what raising defs ask. -/
namespace VL
open PySem PySem.Spec L2
open PyProof.Rows hiding St
theorem takes0 {X : Cx} : L2N.Takes X xw0.W := fun _ _ ⟨_, _, _, _, _, _, _, _, _, _, _, _, _, _, _, _, w⟩ => False.elim w
section
variable [KK : KLs]
/-- an own exception class that may be raised -/
structure Xnc (P : Program) (w : World) (K : PySem.W.Frag) (mg : Str → Option Value) (base : Heap) (k : Nat) (C : Addr) (ok : List D → Prop) (fl : List Str) : Prop where
  ex : ∃ (f : Addr) (fd : FuncData) (ps : List Str), FnOk P w K mg base (L2N.CX P w) k f fd ps (spE ok fl) ∧ XcF K C f ∧ (∀ f ∈ fl, PySem.W.findIn K (.ref C) f = some none) ∧ Binds K fd ps []
end
section
variable [KK : KLs] [XX : XW]
omit XX in
theorem Dens.part2 {Z B H : Hp} : ∀ {xs : List D} {vs : List V} {G : List Addr} {j : Nat} {d : D}, Dens Z B H xs vs G → D.alls nbF xs = true → xs[j]? = some d →
    ∃ v GL Gj GR, vs[j]? = some v ∧ G = GL ++ (Gj ++ GR) ∧ Den Z B H d v Gj ∧ d.nb = true ∧ ∀ (B' H' : Hp) (d' : D) (Gj' : List Addr), Same B B' → (∀ b, b ∈ GL ∨ b ∈ GR → H' b = H b) → Den Z B' H' d' v Gj' → Dens Z B' H' (xs.set j d') vs (GL ++ (Gj' ++ GR))
  | [], _, _, j, _, _, _, e => by simp at e
  | d0 :: ds, _, _, 0, d, ⟨v, ws, G1, G2, ev, x, q, f⟩, nb, e => by
    subst ev f
    simp at e
    subst e
    have nb' : d0.all nbF = true ∧ D.alls nbF ds = true := by simpa [D.alls] using nb
    refine ⟨v, [], G1, G2, rfl, rfl, x, nb'.1, fun B' H' d' Gj' sb k y => ⟨v, ws, Gj', G2, rfl, y, ?_, rfl⟩⟩
    exact Dens.keep _ _ _ nb'.2 (fun b hb => k b (.inr hb)) (Dens.grow sb (Same.refl _) _ _ _ q)
  | d0 :: ds, _, _, j + 1, d, ⟨v, ws, G1, G2, ev, x, q, f⟩, nb, e => by
    subst ev f
    have nb' : d0.all nbF = true ∧ D.alls nbF ds = true := by simpa [D.alls] using nb
    obtain ⟨v', GL, Gj, GR, h1, h2, h3, h4, h5⟩ := Dens.part2 (j := j) q nb'.2 (by simpa using e)
    subst h2
    refine ⟨v', G1 ++ GL, Gj, GR, by simpa using h1, by rw [List.append_assoc], h3, h4, fun B' H' d' Gj' sb k y => ⟨v, ws, G1, GL ++ (Gj' ++ GR), rfl, ?_, h5 B' H' d' Gj' sb (fun b hb => k b (hb.imp (List.mem_append_right _) id)) y, by rw [List.append_assoc]⟩⟩
    exact Den.keep _ _ _ nb'.1 (fun b hb => k b (.inl (List.mem_append_left _ hb))) (x.grow sb (Same.refl _))
theorem Rep.poke2 {B0 Z B H : Hp} {σ : L2.St} {ρ : VL.Env} {i : Nat} {d : D} (R : Rep B0 Z B H σ ρ) (e : ρ[i]? = some (some d)) :
    ∃ v G, σ[i]? = some (some v) ∧ Den Z B H d v G ∧ G.Nodup ∧ d.nb = true ∧ ∀ (B1 H1 H' : Hp) (d' : D) (G' : List Addr), Grow B H B1 H1 → (∀ b, b ∉ G → H' b = H1 b) → d'.nb = true → Den Z B1 H' d' v G' → G'.Nodup → (∀ b ∈ G', b ∈ G ∨ (B1 b = none ∧ H b = none)) → Rep B0 Z B1 H' σ (ρ.set i (some d')) := by
  obtain ⟨F, q, n, z⟩ := R.ex
  obtain ⟨v, G, Rr, h1, h2, h3, h4, h5, h6, h7, h8⟩ := q.part n e
  refine ⟨v, G, h1, h3, h4, h2, fun B1 H1 H' d' G' g k nb y ng fr => ?_⟩
  have rest : Slots Z B1 H' (ρ.set i none) σ Rr := (h8.grow g.sb g.sh).keep fun b hb => k b fun m => h5 b m hb
  have live : ∀ b ∈ Rr, ∃ ob, H b = some ob ∧ NT ob := h8.liveN
  obtain ⟨F', w1, w2, w3⟩ := rest.fill (length_of_get e) h1 h7 nb y ng (fun b hb m => by
    rcases fr b hb with q | q
    · exact h5 b q m
    · obtain ⟨ob, eo, _⟩ := live b m
      rw [q.2] at eo; cases eo)
  have b1 : ∀ b ∈ G, B1 b = none := fun b hb => by
    obtain ⟨ob, eo, nt⟩ := h3.liveN _ _ _ b hb
    exact g.old b ob eo nt (z b (h6 b (.inl hb))).1
  have gt := R.gr.trans g
  refine ⟨R.xl, ⟨gt.sb, fun b ob eb => ?_, fun b ob eb => ?_, gt.old⟩, F', w1, w2, fun b hb => ?_⟩
  · rw [k b fun m => by have := (z b (h6 b (.inl m))).2; rw [this] at eb; cases eb]; exact gt.sh _ _ eb
  · rw [k b fun m => by rw [b1 b m] at eb; cases eb]; exact gt.sub _ _ eb
  · rcases w3 b hb with m | m
    · obtain ⟨ob, eo, nt⟩ := live b m
      exact ⟨g.old b ob eo nt (z b (h6 b (.inr m))).1, (z b (h6 b (.inr m))).2⟩
    · rcases fr b m with q | q
      · exact ⟨b1 b q, (z b (h6 b (.inl q))).2⟩
      · exact ⟨q.1, R.z b q.2⟩
def vAppIxO (i : Nat) (tk te : TEv) : TSv := fun W ρ => match ρ[i]? with
  | some (some (.nd (.lst .o) xs)) => tk ρ fun y => match y with
    | .int k => ∃ j ys, ixN xs.length k = some j ∧ xs[j]? = some (.lst .o ys) ∧ te ρ fun d => d.nb = true ∧ ys.length < 1000000 ∧ W.nx (ρ.set i (some (.lst .o (xs.set j (.lst .o (ys ++ [d]))))))
    | _ => False
  | _ => False
theorem lk_appIxO {i : Nat} {Tk Te : TE} {tk te : TEv} (lk : LE Tk tk) (l : LE Te te) : LS (tDrop (tBM KK.K "list" rAppend (tOp (rIx KK.K) (tVar i) Tk) (tCons Te tNil))) (vAppIxO i tk te) := by
  intro B0 Z B H σ ρ Dv De R h S
  unfold vAppIxO at h
  split at h
  · rename_i xs e
    obtain ⟨w, G0, p0, _⟩ := R.poke2 e
    refine ⟨_, p0, ?_⟩
    refine lk B0 Z B H σ ρ _ _ R h fun ky kv H1 ⟨B1, F1, g1, x1, _, _⟩ h => ?_
    split at h
    · rename_i k _
      obtain ⟨j, ys, hj, hxj, h⟩ := h
      have R1 := R.grow g1
      obtain ⟨v, G, p1, p3, p4, p2, up⟩ := R1.poke2 e
      rw [p0] at p1
      cases p1
      obtain ⟨a, o, vs, G', ev, xa, c, y, f⟩ := p3
      have c : o = .lst vs := c
      subst c ev
      have xa : H1 a = some (.lst vs) := xa
      have f : G = a :: G' := f
      subst f
      have ng := List.nodup_cons.mp p4
      have nb : D.alls nbF xs = true := by
        have : nbF (Hd.lst Fl.o).fl && D.alls nbF xs = true := by simpa [D.all] using p2
        simp at this; exact this.2
      obtain ⟨vj, GL, Gj, GR, k1, eG, k2, k3, k5⟩ := y.part2 nb hxj
      obtain ⟨aj, oj, us, Gy, ej, xj, cj, yj, fj⟩ := k2
      have cj : oj = .lst us := cj
      subst cj ej
      have xj : H1 aj = some (.lst us) := xj
      have fj : Gj = aj :: Gy := fj
      subst fj eG
      refine .inl ⟨a, vs, k, .ref aj, rfl, x1.1, .inl (.inl xa), ?_, .inl ⟨rfl, _, .inl (.inl xj)⟩, ?_⟩
      · unfold atI
        rw [← y.len, hj]; exact k1
      · refine l B0 Z B1 H1 σ ρ _ _ R1 h fun d dv H2 ⟨B2, F2, g2, x2, nF2, fF2⟩ ⟨nbd, hl, hq⟩ => ?_
        refine ⟨aj, us, dv, rfl, rfl, g2.sh _ _ xj, by rw [← yj.len]; exact million (Nat.le_of_lt hl), ?_⟩
        have n1 := List.nodup_append.mp ng.2
        have n2 := List.nodup_append.mp n1.2.1
        have n3 := List.nodup_cons.mp n2.1
        have mG : ∀ b, b ∈ aj :: Gy → b ∈ GL ++ (aj :: Gy ++ GR) := fun b hb => List.mem_append_right _ (List.mem_append_left _ hb)
        have lG := Dens.liveN _ _ _ y
        have aja : a ≠ aj := fun z => ng.1 (z ▸ mG aj List.mem_cons_self)
        have new : ∀ b ∈ F2, b ∉ GL ++ (aj :: Gy ++ GR) := fun b hb m => by
          obtain ⟨ob, eo, _⟩ := lG b m
          rw [(fF2 b hb).2] at eo; cases eo
        have ajF : aj ∉ F2 := fun m => new aj m (mG aj List.mem_cons_self)
        have kH : ∀ b, b ≠ aj → upd H2 aj (.lst (us ++ [dv])) b = H2 b := fun b hb => upd_ne hb
        have nby : D.alls nbF ys = true := by
          have : nbF (Hd.lst Fl.o).fl && D.alls nbF ys = true := by simpa [D.all] using k3
          simp at this; exact this.2
        have d1 : Dens Z B2 (upd H2 aj (.lst (us ++ [dv]))) ys us Gy := Dens.keep _ _ _ nby (fun b hb => kH b fun z => n3.1 (z ▸ hb)) (Dens.grow g2.sb g2.sh _ _ _ yj)
        have d2 : Den Z B2 (upd H2 aj (.lst (us ++ [dv]))) d dv F2 := Den.keep _ _ _ nbd (fun b hb => kH b fun z => ajF (z ▸ hb)) x2
        have dj : Den Z B2 (upd H2 aj (.lst (us ++ [dv]))) (.lst .o (ys ++ [d])) (.ref aj) (aj :: (Gy ++ F2)) := ⟨aj, _, us ++ [dv], Gy ++ F2, rfl, upd_same, rfl, Dens.app d1 (Dens.one d2), rfl⟩
        -- the outer list: from the heap behind e on
        have y2 := Dens.grow g2.sb g2.sh _ _ _ y
        have dl : Dens Z B2 (upd H2 aj (.lst (us ++ [dv]))) (xs.set j (.lst .o (ys ++ [d]))) vs (GL ++ (aj :: (Gy ++ F2) ++ GR)) := k5 B2 _ _ _ g2.sb (fun b hb => by
          have hb' : b ∈ GL ++ (aj :: Gy ++ GR) := by
            rcases hb with hb | hb
            · exact List.mem_append_left _ hb
            · exact List.mem_append_right _ (List.mem_append_right _ hb)
          have hne : b ≠ aj := fun z => by
            rcases hb with hb | hb
            · exact n1.2.2 b hb aj (by simp) z
            · exact n2.2.2 aj (by simp) b hb z.symm
          obtain ⟨ob, eo, _⟩ := lG b hb'
          rw [kH b hne, eo]; exact g2.sh _ _ eo) dj
        have nbl : D.alls nbF (xs.set j (.lst .o (ys ++ [d]))) = true := alls_set j nb (by show (nbF .o && D.alls nbF (ys ++ [d])) = true; rw [alls_app, nby]; simp [D.alls, nbd]; rfl)
        have pm : (a :: (GL ++ (aj :: (Gy ++ F2) ++ GR))).Perm (a :: (GL ++ (aj :: Gy ++ GR)) ++ F2) := by
          simp only [List.cons_append, List.append_assoc]
          refine List.Perm.cons _ (List.Perm.append_left _ (List.Perm.cons _ (List.Perm.append_left _ List.perm_append_comm)))
        have fr : ∀ b, b ∈ a :: (GL ++ (aj :: (Gy ++ F2) ++ GR)) → b ∈ a :: (GL ++ (aj :: Gy ++ GR)) ∨ b ∈ F2 := fun b hb => List.mem_append.mp (pm.mem_iff.mp hb)
        refine S.nx _ _ _ _ (up B2 H2 (upd H2 aj (.lst (us ++ [dv]))) (.lst .o (xs.set j (.lst .o (ys ++ [d])))) (a :: (GL ++ (aj :: (Gy ++ F2) ++ GR))) g2 (fun b hb => kH b fun z => hb (by rw [z]; exact List.mem_cons_of_mem _ (mG aj List.mem_cons_self))) (by show (nbF .o && _) = true; rw [nbl]; rfl)
          ⟨a, _, vs, _, rfl, by show upd H2 aj _ a = _; rw [kH a aja]; exact g2.sh _ _ xa, rfl, dl, rfl⟩ ?_ (fun b hb => (fr b hb).imp id fun m => ⟨(fF2 b m).1, (fF2 b m).2⟩)) hq
        -- no address twice
        have dis : ∀ b ∈ F2, b ∉ a :: (GL ++ (aj :: Gy ++ GR)) := fun b hb m => by
          rcases List.mem_cons.mp m with z | m
          · subst z; rw [(fF2 b hb).2] at xa; cases xa
          · exact new b hb m
        refine pm.nodup_iff.mpr (List.nodup_append.mpr ⟨p4, nF2, fun b hb b' hb' z => dis b' hb' (z ▸ hb)⟩)
    · exact h.elim
  · exact h.elim
section
variable {X : Cx} {e k : Expr} {pos p0 p1 p2 p3 p4 p5 : Pos} {Te Tk : TE} {te tk : TEv} {x : Str}
theorem s_appIxO (i : Nat) (hk : VE X k Tk tk) (he : VE X e Te te) (hN : X.N[i]? = some x := by rfl) (hv : Vis X.env.scope x := by first | exact Or.inl rfl | exact Or.inr (Or.inl rfl) | exact Or.inr (Or.inr rfl)) (hd : (x == ("__debug__" : Str)) = false := by decide) (hcd : (x == ("__classdict__" : Str)) = false := by decide)
    (hsub : PlainIx k := by exact fun _ _ => rfl)
    (hbase : attributeBase (.Subscript (.Name x p1) k p0) "append" X.env (eval (.Subscript (.Name x p1) k p0) X.env) = eval (.Subscript (.Name x p1) k p0) X.env := by rfl)
    (hfew : ((backTo p3 (starEach [e] X.env)).all (fun x => !x.1) && (backToKw p3 (keywordEach [] X.env)).all (fun x => x.1.isSome)
      && decide (([e] : List Expr).length + ([] : List Keyword).length + (if ([] : List Keyword).isEmpty then 0 else 1) < 30)) = true := by rfl)
    (hline : (p2.endLine == p3.line) = true := by rfl) (hs : starEach [e] X.env = (false, eval e X.env) :: starEach [] X.env := by rfl) (hplain : (backTo p3 (starEach [] X.env)).any (·.1) = false := by rfl)
    (hsw : swapsWith (.Call (.Attribute (.Subscript (.Name x p1) k p0) "append" p2) [e] [] p3) none p4.line X.env = pure false := by rfl) (hK : X.K = KK.K := by rfl) :
    VS X (.Expr (.Call (.Attribute (.Subscript (.Name x p1) k p0) "append" p2) [e] [] p3) p4) (tDrop (tBM KK.K "list" rAppend (tOp (rIx KK.K) (tVar i) Tk) (tCons Te tNil))) (vAppIxO i tk te) :=
  ⟨(s_appIx i hk he hN hv hd hcd hsub hbase hfew hline hs hplain hsw hK).ps, lk_appIxO hk.lk he.lk⟩
end
end
end VL
namespace VL
open PySem
theorem str_app (a b : Str) : (a ++ b).length = a.length + b.length := by first | exact Str.length_append .. | simp [Str.length] | rfl
end VL

/-! ## VLXM -/
/-! VL: y = x[k], y and x own, both changed through y, till y is put back; y.extend; an expression's value frozen. -/
namespace VL
open PySem PySem.Spec L2
open PyProof.Rows hiding St
/-! ### isinstance and the catch, from what is told of the classes -/
theorem kit_sub {K : PySem.W.Frag} {C Y : Addr} {b : Bool} (h1 : PySem.W.isClsIn K Y = true) (h2 : PySem.W.typeIn K (.ref Y) = some (.type "type")) (hx : PySem.W.subIn K (.ref C) (.ref C) = some true) (hs : PySem.W.subIn K (.ref C) (.ref Y) = some b) : PySem.W.kitOne K (.ref C) (.ref Y) = some b := by
  have h1' : (PySem.W.clsIn K Y).isSome = true := h1
  unfold PySem.W.kitOne
  by_cases e : C = Y
  · subst e
    rw [hx] at hs
    cases hs
    exact if_pos (by simp)
  · rw [if_neg (by simpa using e)]
    show (if ((PySem.W.clsIn K Y).isSome && PySem.W.typeIn K (.ref Y) == some (.type "type")) = true then PySem.W.subIn K (.ref C) (.ref Y) else none) = some b
    rw [if_pos (by rw [h1', h2] <;> rfl)]
    exact hs
theorem kit_subT {K : PySem.W.Frag} {C : Addr} {T : String} {b : Bool} (hm : PySem.W.kitMeta T = true) (hs : PySem.W.subIn K (.ref C) (.type T) = some b) : PySem.W.kitOne K (.ref C) (.type T) = some b := by
  unfold PySem.W.kitOne
  rw [if_neg (by simp)]
  show (if PySem.W.kitMeta T = true then PySem.W.subIn K (.ref C) (.type T) else none) = some b
  rw [if_pos hm]
  exact hs
theorem exm_sub {K : PySem.W.Frag} {C Y : Addr} {b : Bool} (he : PySem.W.subIn K (.ref Y) (.type "BaseException") = some true) (h1 : PySem.W.isClsIn K Y = true) (h2 : PySem.W.typeIn K (.ref Y) = some (.type "type")) (hs : PySem.W.subIn K (.ref C) (.ref Y) = some b) : PySem.W.exmOne K (.ref C) (.ref Y) = some b := by
  have h1' : (PySem.W.clsIn K Y).isSome = true := h1
  unfold PySem.W.exmOne
  rw [if_pos (by rw [he] <;> rfl)]
  show (if ((PySem.W.clsIn K Y).isSome && PySem.W.typeIn K (.ref Y) == some (.type "type")) = true then PySem.W.subIn K (.ref C) (.ref Y) else none) = some b
  rw [if_pos (by rw [h1', h2] <;> rfl)]
  exact hs
section
variable [KK : KLs] [XX : XW]
/-- the value becomes fixed -/
def vLocE (te : TEv) : TEv := fun ρ Q => te ρ fun d => d.nb = true ∧ Q d.loc
theorem lk_locE {Te : TE} {te : TEv} (l : LE Te te) : LE Te (vLocE te) := by
  intro B0 Z B H σ ρ Qd Q R h k
  refine l B0 Z B H σ ρ _ _ R h fun d v H1 o q => ?_
  obtain ⟨B1, g, x⟩ := o.frozen R.z q.1
  exact k d.loc v H1 ⟨B1, [], g, x, List.nodup_nil, fun a h => nomatch h⟩ q.2
theorem e_locE {X : Cx} {e : Expr} {Te : TE} {te : TEv} (h : VE X e Te te) : VE X e Te (vLocE te) := ⟨h.pe, lk_locE h.lk⟩
/-- y = x[k]: the place of the part is told, x keeps the place alone -/
def vTakeIx (i j : Nat) (tk : TEv) : TSv := fun W ρ => match ρ[j]? with
  | some (some (.nd (.lst .o) xs)) => tk ρ fun y => match y with
    | .int k => i ≠ j ∧ ∃ n ys, ixN xs.length k = some n ∧ xs[n]? = some (.lst .o ys) ∧ ∀ a : Addr, W.nx ((ρ.set j (some (.lst .o (xs.set n (.cst (.ref a)))))).set i (some (.nd (.lsk (.c a)) ys)))
    | _ => False
  | _ => False
theorem lk_takeIx {i j : Nat} {Tk : TE} {tk : TEv} (lk : LE Tk tk) : LS (tAsg (tOp (rIx KK.K) (tVar j) Tk) (gName i)) (vTakeIx i j tk) := by
  intro B0 Z B H σ ρ Dv De R h S
  unfold vTakeIx at h
  split at h
  · rename_i xs e
    obtain ⟨w, G0, p0, _⟩ := R.poke2 e
    refine ⟨_, p0, ?_⟩
    refine lk B0 Z B H σ ρ _ _ R h fun ky kv H1 ⟨B1, F1, g1, x1, _, _⟩ h => ?_
    split at h
    · rename_i k _
      obtain ⟨ne, n, ys, hj, hxj, h⟩ := h
      have R1 := R.grow g1
      obtain ⟨F, q, nF, z⟩ := R1.ex
      obtain ⟨v, G, Rr, h1, h2, h3, h4, h5, h6, h7, h8⟩ := q.part nF e
      rw [p0] at h1
      cases h1
      obtain ⟨a, o, vs, G', ev, xa, c, y, f⟩ := h3
      have c : o = .lst vs := c
      subst c ev
      have xa : H1 a = some (.lst vs) := xa
      have f : G = a :: G' := f
      subst f
      have ng := List.nodup_cons.mp h4
      have nb : D.alls nbF xs = true := by
        have : nbF (Hd.lst Fl.o).fl && D.alls nbF xs = true := by simpa [D.all] using h2
        simp at this; exact this.2
      obtain ⟨vj, GL, Gj, GR, k1, eG, k2, k3, k5⟩ := y.part2 nb hxj
      obtain ⟨L, oL, us, Gy, eL, xL, cL, yL, fL⟩ := k2
      have cL : oL = .lst us := cL
      subst cL eL
      have xL : H1 L = some (.lst us) := xL
      have fL : Gj = L :: Gy := fL
      subst fL eG
      have n1 := List.nodup_append.mp ng.2
      have n2 := List.nodup_append.mp n1.2.1
      refine .inl ⟨a, vs, k, .ref L, rfl, x1.1, .inl (.inl xa), by unfold atI; rw [← y.len, hj]; exact k1, ?_⟩
      have dl : Dens Z B1 H1 (xs.set n (.cst (.ref L))) vs (GL ++ ([] ++ GR)) := k5 B1 H1 (.cst (.ref L)) [] (Same.refl _) (fun _ _ => rfl) ⟨rfl, rfl⟩
      have nbl : D.alls nbF (xs.set n (.cst (.ref L))) = true := alls_set n nb rfl
      have nby : D.alls nbF ys = true := by
        have : nbF (Hd.lst Fl.o).fl && D.alls nbF ys = true := by simpa [D.all] using k3
        simp at this; exact this.2
      obtain ⟨F2, w1, w2, w3⟩ := h8.fill (d := .lst .o (xs.set n (.cst (.ref L)))) (v := .ref a) (G := a :: (GL ++ ([] ++ GR))) (length_of_get e) p0 h7 (by show (nbF .o && D.alls nbF (xs.set n (.cst (.ref L)))) = true; rw [nbl]; rfl)
        ⟨a, _, vs, _, rfl, xa, rfl, dl, rfl⟩
        (List.nodup_cons.mpr ⟨fun m => ng.1 (by rcases List.mem_append.mp m with m | m; exact List.mem_append_left _ m; exact List.mem_append_right _ (List.mem_append_right _ m)),
          List.nodup_append.mpr ⟨n1.1, n2.2.1, fun b hb b' hb' => n1.2.2 b hb b' (List.mem_append_right _ hb')⟩⟩)
        (fun b hb => by
          rcases List.mem_cons.mp hb with e | m
          · exact h5 b (by rw [e]; exact List.mem_cons_self)
          · rcases List.mem_append.mp m with m | m
            · exact h5 b (List.mem_cons_of_mem _ (List.mem_append_left _ m))
            · exact h5 b (List.mem_cons_of_mem _ (List.mem_append_right _ (List.mem_append_right _ m))))
      have inG : ∀ b, b ∈ L :: Gy → b ∈ a :: (GL ++ (L :: Gy ++ GR)) := fun b hb => List.mem_cons_of_mem _ (List.mem_append_right _ (List.mem_append_left _ hb))
      obtain ⟨F3, u1, u2, u3⟩ := w1.set (d := .nd (.lsk (.c L)) ys) (v := .ref L) (G := L :: Gy) i w2 (by show (nbF (.c L) && D.alls nbF ys) = true; rw [nby]; rfl) ⟨L, _, us, Gy, rfl, ⟨xL, rfl⟩, rfl, yL, rfl⟩ n2.1 (fun b hb m => by
        rcases w3 b m with m | m
        · exact h5 b (inG b hb) m
        · rcases List.mem_cons.mp m with e | m
          · exact ng.1 (by rw [← e]; exact List.mem_append_right _ (List.mem_append_left _ hb))
          · rcases List.mem_append.mp m with m | m
            · exact n1.2.2 b m b (List.mem_append_left _ hb) rfl
            · exact n2.2.2 b hb b m rfl)
      refine S.nx _ _ _ _ ⟨R1.xl, R1.gr, F3, u1, u2, fun b hb => ?_⟩ (h L)
      rcases u3 b hb with m | m
      · rcases w3 b m with m | m
        · exact z b (h6 b (.inr m))
        · refine z b (h6 b (.inl ?_))
          rcases List.mem_cons.mp m with e | m
          · rw [e]; exact List.mem_cons_self
          · rcases List.mem_append.mp m with m | m
            · exact List.mem_cons_of_mem _ (List.mem_append_left _ m)
            · exact List.mem_cons_of_mem _ (List.mem_append_right _ (List.mem_append_right _ m))
      · exact z b (h6 b (.inl (inG b m)))
    · exact h.elim
  · exact h.elim
/-- .. and put back at the end of the statements -/
def putQ (i j : Nat) (ρ : VL.Env) (k : VL.Env → Prop) : Prop := match ρ[i]?, ρ[j]? with
  | some (some (.nd (.lsk (.c y)) zs)), some (some (.nd (.lst .o) xs)) => i ≠ j ∧ ∃ n, xs[n]? = some (.cst (.ref y)) ∧ k ((ρ.set i none).set j (some (.lst .o (xs.set n (.lst .o zs)))))
  | _, _ => False
def vEndPut (i j : Nat) (t : TSv) : TSv := fun W ρ => t { nx := fun r => putQ i j r W.nx, rt := W.rt, bk := W.bk, ct := W.ct } ρ
theorem lk_endPut {i j : Nat} {T : TS} {t : TSv} (l : LS T t) : LS T (vEndPut i j t) := by
  intro B0 Z B H σ ρ Dv De R h S
  refine l B0 Z B H σ ρ _ De R h ⟨fun B H σ ρ R h => ?_, S.rt, S.bk, S.ct⟩
  have h : putQ i j ρ Dv.nx := h
  unfold putQ at h
  split at h
  · rename_i y zs xs ei ej
    obtain ⟨ne, n, hx, h⟩ := h
    obtain ⟨F, q, nF, z⟩ := R.ex
    obtain ⟨v, G, Rr, h1, h2, h3, h4, h5, h6, h7, h8⟩ := q.part nF ei
    obtain ⟨a, o, vs, G', ev, ⟨x, ea⟩, c, yd, f⟩ := h3
    subst ea
    have f : G = a :: G' := f
    subst f
    have ej2 : (ρ.set i none)[j]? = some (some (.nd (.lst .o) xs)) := by rw [List.getElem?_set_ne ne]; exact ej
    obtain ⟨v2, G2, Rr2, j1, j2, j3, j4, j5, j6, j7, j8⟩ := h8.part h7 ej2
    obtain ⟨b, o2, vs2, Gd, ev2, x2, c2, yd2, f2⟩ := j3
    have f2 : G2 = b :: Gd := f2
    subst f2
    have nb : D.alls nbF xs = true := by
      have : nbF (Hd.lst Fl.o).fl && D.alls nbF xs = true := by simpa [D.all] using j2
      simp at this; exact this.2
    have nbz : D.alls nbF zs = true := by
      have : (nbF (.c a) && D.alls nbF zs) = true := h2
      simpa [nbF] using this
    obtain ⟨vj, GL, Gj, GR, k1, eG, k2, k3, k5⟩ := yd2.part2 nb hx
    obtain ⟨ek, eGj⟩ := k2
    subst ek eGj eG
    have nj := List.nodup_cons.mp j4
    have n1 := List.nodup_append.mp nj.2
    have dj : ∀ u, u ∈ a :: G' → u ∉ b :: (GL ++ ([] ++ GR)) := fun u m m2 => h5 u m (j6 u (.inl m2))
    have dl := k5 B H (.lst .o zs) (a :: G') (Same.refl _) (fun _ _ => rfl) ⟨a, o, vs, G', rfl, x, c, yd, rfl⟩
    have nbn : D.alls nbF (xs.set n (.lst .o zs)) = true := alls_set n nb (by show (nbF .o && D.alls nbF zs) = true; rw [nbz]; rfl)
    have inR : ∀ u, u ∈ b :: (GL ++ ((a :: G') ++ GR)) → u ∈ a :: G' ∨ u ∈ b :: (GL ++ ([] ++ GR)) := fun u m => by
      rcases List.mem_cons.mp m with e | m
      · exact .inr (by rw [e]; exact List.mem_cons_self)
      · rcases List.mem_append.mp m with m | m
        · exact .inr (List.mem_cons_of_mem _ (List.mem_append_left _ m))
        · rcases List.mem_append.mp m with m | m
          · exact .inl m
          · exact .inr (List.mem_cons_of_mem _ (List.mem_append_right _ (List.mem_append_right _ m)))
    obtain ⟨F', w1, w2, w3⟩ := j8.fill (d := .lst .o (xs.set n (.lst .o zs))) (v := v2) (G := b :: (GL ++ ((a :: G') ++ GR))) (length_of_get ej2) j1 j7 (by show (nbF .o && D.alls nbF (xs.set n (.lst .o zs))) = true; rw [nbn]; rfl)
      ⟨b, o2, vs2, _, ev2, x2, c2, dl, rfl⟩
      (List.nodup_cons.mpr ⟨fun m => by
          rcases List.mem_append.mp m with m | m
          · exact nj.1 (List.mem_append_left _ m)
          · rcases List.mem_append.mp m with m | m
            · exact dj b m List.mem_cons_self
            · exact nj.1 (List.mem_append_right _ (List.mem_append_right _ m)),
        List.nodup_append.mpr ⟨n1.1, List.nodup_append.mpr ⟨h4, n1.2.1, fun u hu u' hu' e => by subst e; exact dj u hu (List.mem_cons_of_mem _ (List.mem_append_right _ (List.mem_append_right _ hu')))⟩, fun u hu u' hu' e => by
          subst e
          rcases List.mem_append.mp hu' with m | m
          · exact dj u m (List.mem_cons_of_mem _ (List.mem_append_left _ hu))
          · exact n1.2.2 u hu u (List.mem_append_right _ m) rfl⟩⟩)
      (fun u m m2 => by
        rcases inR u m with m | m
        · exact h5 u m (j6 u (.inr m2))
        · exact j5 u m m2)
    refine S.nx _ _ _ _ ⟨R.xl, R.gr, F', w1, w2, fun u hu => ?_⟩ h
    rcases w3 u hu with m | m
    · exact z u (h6 u (.inr (j6 u (.inr m))))
    · rcases inR u m with m | m
      · exact z u (h6 u (.inl m))
      · exact z u (h6 u (.inr (j6 u (.inl m))))
  · exact h.elim
def vExtK (i : Nat) (te : TEv) : TSv := fun W ρ => match ρ[i]? with
  | some (some (.nd (.lsk (.c y0)) xs)) => te ρ fun d => match d with
    | .nd (.lst f) ys => nsF f.ls = true ∧ D.alls coF ys = true ∧ D.alls nbF ys = true ∧ xs.length + ys.length < 1000000 ∧ W.nx (ρ.set i (some (.nd (.lsk (.c y0)) (xs ++ ys))))
    | _ => False
  | _ => False
theorem lk_extK {i : Nat} {Te : TE} {te : TEv} (l : LE Te te) : LS (tDrop (tBM KK.K "list" rExtend (tVar i) (tCons Te tNil))) (vExtK i te) := by
  intro B0 Z B H σ ρ Dv De R h S
  unfold vExtK at h
  split at h
  · rename_i y0 xs e
    obtain ⟨a, o0, vs, G, h1, hx, c, y, nb, ng, aG, fG, W⟩ := R.write (h := .lsk (.c y0)) e (.inr ⟨y0, rfl⟩)
    have c : o0 = .lst vs := c
    subst c
    refine ⟨_, h1, .inl ⟨rfl, _, .inl (.inl hx)⟩, ?_⟩
    refine l B0 Z B H σ ρ _ _ R h fun d v H1 ⟨B1, F, g, x, nF, fF⟩ q => ?_
    split at q
    · rename_i f ys _
      obtain ⟨nf, co, nby, hl, q⟩ := q
      obtain ⟨b, us, G2, ev, hb, y2, _, _⟩ := den_lst' g.sub nf x
      have e2 := Dens.nofp _ _ _ co y2
      subst e2
      refine ⟨a, b, vs, us, rfl, by rw [ev], g.sh _ _ hx, hb, by rw [← y.len, ← y2.len]; exact Nat.le_of_lt (million (Nat.le_of_lt hl)), ?_⟩
      refine S.nx _ _ _ _ (W (.lsk (.c y0)) (xs ++ ys) (.lst (vs ++ us)) B1 H1 (vs ++ us) (G ++ []) rfl g rfl (Dens.app (Dens.grow g.sb g.sh _ _ _ y) y2) (by rw [List.append_nil]; exact ng) (by rw [alls_app, nb, nby]; rfl) (fun b hb => ?_)) q
      rw [List.append_nil] at hb
      exact .inl hb
    · exact q.elim
  · exact h.elim
section
variable {X : Cx} {e k : Expr} {sts : List Stmt} {T : TS} {t : TSv} {Te Tk : TE} {te tk : TEv} {x y : Str} {pos pos' p1 p2 p3 p4 : Pos}
theorem s_takeIx (i j : Nat) (hk : VE X k Tk tk) (hN : X.N.Nodup) (hi : X.N[i]? = some x := by rfl) (hx : Loc X.env.scope x := by first | exact Or.inl rfl | exact Or.inr rfl) (hs : swapsWith (.Subscript (.Name y p1) k p2) (some (.Name x pos')) pos.line X.env = pure false := by rfl)
    (hf : X.fn x = true ∨ X.env.scope.names.lookup x = some .local := by first | exact .inl rfl | exact .inr rfl) (hj : X.N[j]? = some y := by rfl) (hv : Vis X.env.scope y := by first | exact Or.inl rfl | exact Or.inr (Or.inl rfl) | exact Or.inr (Or.inr rfl)) (hd : (y == ("__debug__" : Str)) = false := by decide)
    (hcd : (y == ("__classdict__" : Str)) = false := by decide) (hp : PlainIx k := by exact fun _ _ => rfl) (hK : X.K = KK.K := by rfl) :
    VS X (.Assign [.Name x pos'] (.Subscript (.Name y p1) k p2) pos) (tAsg (tOp (rIx KK.K) (tVar j) Tk) (gName i)) (vTakeIx i j tk) := by
  refine ⟨?_, lk_takeIx hk.lk⟩
  rw [← hK]
  exact ps_set hN hi hx (pe_ix ix_seq (pe_var hj hv hd hcd) hk.pe hp) hs hf
theorem ss_endPut (i j : Nat) (h : VSs X sts T t) : VSs X sts T (vEndPut i j t) := ⟨h.ps, lk_endPut h.lk⟩
theorem s_extK (i : Nat) (he : VE X e Te te) (hN : X.N[i]? = some x := by rfl) (hv : Vis X.env.scope x := by first | exact Or.inl rfl | exact Or.inr (Or.inl rfl) | exact Or.inr (Or.inr rfl)) (hd : (x == ("__debug__" : Str)) = false := by decide) (hcd : (x == ("__classdict__" : Str)) = false := by decide)
    (hbase : attributeBase (.Name x p1) "extend" X.env (eval (.Name x p1) X.env) = eval (.Name x p1) X.env := by rfl)
    (hfew : ((backTo p3 (starEach [e] X.env)).all (fun x => !x.1) && (backToKw p3 (keywordEach [] X.env)).all (fun x => x.1.isSome)
      && decide (([e] : List Expr).length + ([] : List Keyword).length + (if ([] : List Keyword).isEmpty then 0 else 1) < 30)) = true := by rfl)
    (hline : (p2.endLine == p3.line) = true := by rfl) (hs : starEach [e] X.env = (false, eval e X.env) :: starEach [] X.env := by rfl) (hplain : (backTo p3 (starEach [] X.env)).any (·.1) = false := by rfl)
    (hsw : swapsWith (.Call (.Attribute (.Name x p1) "extend" p2) [e] [] p3) none p4.line X.env = pure false := by rfl) (hK : X.K = KK.K := by rfl) :
    VS X (.Expr (.Call (.Attribute (.Name x p1) "extend" p2) [e] [] p3) p4) (tDrop (tBM KK.K "list" rExtend (tVar i) (tCons Te tNil))) (vExtK i te) :=
  ⟨(s_ext i he hN hv hd hcd hbase hfew hline hs hplain hsw hK).ps, lk_extK he.lk⟩
end
end
end VL

/-! ## VMA -/
/-! VL: texts: a global one, one sign in a text, join; range with the step -1; y = x.pop(); an own thing moved to another name. -/
namespace VL
open PySem PySem.Spec L2
open PyProof.Rows hiding St
section
variable [KK : KLs] [XX : XW]
theorem e_globS {X : Cx} {x : Str} {z : Str} {pos : Pos} (h : ∃ u, X.mg x = some u ∧ RelV (.str z) u) (hg : Gl X x := by rfl) (hd : (x == ("__debug__" : Str)) = false := by decide) : VE X (.Name x pos) (tC (.str z)) (vC (.str z)) := by
  obtain ⟨u, hm, r⟩ := h
  exact ⟨pe_glob hg hm r hd, lk_c fun _ _ _ => den_str⟩
/-! ### one sign in a text -/
def dSgn (neg : Bool) : RDv := fun x y Q => match x, y with
  | .str s, .str z => match s.cps.toList with
    | [c] => Q (.bl (if neg then !decide (c ∈ z.cps.toList) else decide (c ∈ z.cps.toList)))
    | _ => False
  | _, _ => False
theorem str_one {s : Str} {c : Nat} (h : s.cps.toList = [c]) : s = ⟨#[c]⟩ := by
  cases s with
  | mk cps =>
    have e : cps = #[c] := by rw [← Array.toArray_toList (xs := cps)]; rw [h]
    rw [e]
theorem lr_sgn : LR2 (fun x y H Q => ∃ (c : Nat) (z : Str), x = .str ⟨#[c]⟩ ∧ y = .str z ∧ Q (.bl (decide (c ∈ z.cps.toList))) H) (dSgn false) := by
  intro B0 Z B H σ ρ x y vx vy F G Qd Q R dx dy h k
  unfold dSgn at h
  split at h
  · rename_i s z
    split at h
    · rename_i c e
      have e2 := str_one e
      subst e2
      exact ⟨c, z, dx.1, dy.1, k _ _ _ (Out.of R.sub den_bl) h⟩
    · exact h.elim
  · exact h.elim
theorem lr_nsgn : LR2 (fun x y H Q => ∃ (c : Nat) (z : Str), x = .str ⟨#[c]⟩ ∧ y = .str z ∧ Q (.bl (!decide (c ∈ z.cps.toList))) H) (dSgn true) := by
  intro B0 Z B H σ ρ x y vx vy F G Qd Q R dx dy h k
  unfold dSgn at h
  split at h
  · rename_i s z
    split at h
    · rename_i c e
      have e2 := str_one e
      subst e2
      exact ⟨c, z, dx.1, dy.1, k _ _ _ (Out.of R.sub den_bl) h⟩
    · exact h.elim
  · exact h.elim
section
variable {X : Cx} {a b : Expr} {pos : Pos} {Ta Tb : TE} {ta tb : TEv}
theorem e_sgn (ha : VE X a Ta ta) (hb : VE X b Tb tb) (hm : behindInMarks .In b = false := by rfl) : VE X (.Compare a [.In] [b] pos) (tOp (fun x y H Q => ∃ (c : Nat) (z : Str), x = .str ⟨#[c]⟩ ∧ y = .str z ∧ Q (.bl (decide (c ∈ z.cps.toList))) H) Ta Tb) (vOp (dSgn false) ta tb) :=
  ⟨pe_cmpR op_in_sign ha.pe hb.pe hm, lk_op lr_sgn ha.lk hb.lk⟩
theorem e_nsgn (ha : VE X a Ta ta) (hb : VE X b Tb tb) (hm : behindInMarks .NotIn b = false := by rfl) : VE X (.Compare a [.NotIn] [b] pos) (tOp (fun x y H Q => ∃ (c : Nat) (z : Str), x = .str ⟨#[c]⟩ ∧ y = .str z ∧ Q (.bl (!decide (c ∈ z.cps.toList))) H) Ta Tb) (vOp (dSgn true) ta tb) :=
  ⟨pe_cmpR op_notIn_sign ha.pe hb.pe hm, lk_op lr_nsgn ha.lk hb.lk⟩
theorem t_sgn (ha : VE X a Ta ta) (hb : VE X b Tb tb) (hm : behindInMarks .In b = false := by rfl) : VT X (.Compare a [.In] [b] pos) (tTest (tOp (fun x y H Q => ∃ (c : Nat) (z : Str), x = .str ⟨#[c]⟩ ∧ y = .str z ∧ Q (.bl (decide (c ∈ z.cps.toList))) H) Ta Tb)) (vTest (vOp (dSgn false) ta tb)) :=
  ⟨pt_cmpR op_in_sign ha.pe hb.pe hm, lk_test (lk_op lr_sgn ha.lk hb.lk)⟩
theorem t_nsgn (ha : VE X a Ta ta) (hb : VE X b Tb tb) (hm : behindInMarks .NotIn b = false := by rfl) : VT X (.Compare a [.NotIn] [b] pos) (tTest (tOp (fun x y H Q => ∃ (c : Nat) (z : Str), x = .str ⟨#[c]⟩ ∧ y = .str z ∧ Q (.bl (!decide (c ∈ z.cps.toList))) H) Ta Tb)) (vTest (vOp (dSgn true) ta tb)) :=
  ⟨pt_cmpR op_notIn_sign ha.pe hb.pe hm, lk_test (lk_op lr_nsgn ha.lk hb.lk)⟩
end
/-! ### sep.join(x) -/
def strs? : List D → Option (List Str)
  | [] => some []
  | .str z :: ds => match strs? ds with
    | some zs => some (z :: zs)
    | none => none
  | _ :: _ => none
theorem strs_of : ∀ {ds : List D} {zs : List Str}, strs? ds = some zs → ds = zs.map D.str
  | [], zs, h => by cases h; rfl
  | .str z :: ds, zs, h => by
    unfold strs? at h
    split at h
    · rename_i zs' e
      cases h
      rw [strs_of e]; rfl
    · cases h
  | .non :: _, _, h => nomatch h
  | .bl _ :: _, _, h => nomatch h
  | .int _ :: _, _, h => nomatch h
  | .cst _ :: _, _, h => nomatch h
  | .nd _ _ :: _, _, h => nomatch h
theorem strs_map : ∀ zs : List Str, strs? (zs.map D.str) = some zs
  | [] => rfl
  | z :: zs => by rw [List.map_cons]; unfold strs?; rw [strs_map zs]
theorem dens_strs {Z B H : Hp} : ∀ {zs : List Str} {vs : List V} {F : List Addr}, Dens Z B H (zs.map D.str) vs F → vs = zs.map V.str
  | [], vs, F, q => q.1
  | z :: zs, _, F, ⟨v, ws, G1, G2, e, x, q, f⟩ => by
    subst e
    rw [dens_strs q, x.1]; rfl
def vJoin (to te : TEv) : TEv := fun ρ Q => to ρ fun x => match x with
  | .str a => te ρ fun y => match y with
    | .nd (.lst f) xs => match strs? xs with
      | some ys => (ys.map (·.length)).sum + ys.length * a.length ≤ 16777216 ∧ Q (.str (Str.join a ys))
      | none => False
    | _ => False
  | _ => False
def rJoin (K : PySem.W.Frag) : V → List V → Hp → L2.VK → Prop := fun x xs H Q => ∃ a p, ∃ ys : List Str, x = .str a ∧ xs = [.ref p] ∧ (SqL K H p (ys.map V.str) ∨ SqT K H p (ys.map V.str)) ∧
      (ys.map (·.length)).sum + ys.length * a.length ≤ 16777216 ∧ Q (.str (Txt.join a ys)) H
theorem lk_join {To Te : TE} {to te : TEv} (lo : LE To to) (le : LE Te te) : LE (tM1 (rJoin KK.K) To Te) (vJoin to te) := by
  intro B0 Z B H σ ρ Qd Q R h k
  refine lo B0 Z B H σ ρ _ _ R h fun x vx H1 ⟨B1, F, g, dx, n, fr⟩ h => ?_
  split at h
  · rename_i a _
    refine ⟨⟨a, dx.1⟩, ?_⟩
    refine le B0 Z B1 H1 σ ρ _ _ (R.grow g) h fun y vy H2 ⟨B2, F2, g2, dy, n2, fr2⟩ h => ?_
    split at h
    · rename_i f xs _
      split at h
      · rename_i ys e
        obtain ⟨p, us, G1, e1, t1, y1, _⟩ := den_lst g2.sub dy
        rw [strs_of e] at y1
        rw [dens_strs y1] at t1
        refine ⟨a, p, ys, dx.1, by rw [e1], .inl t1, h.1, ?_⟩
        rw [TL.join_eq]
        exact k _ _ _ ((Out.of g2.sub den_str).after (g.trans g2)) h.2
      · exact h.elim
    · exact h.elim
  · exact h.elim
theorem e_join {X : Cx} {o e : Expr} {apos pos : Pos} {To Te : TE} {to te : TEv} (ho : VE X o To to) (he : VE X e Te te) (hs : starEach [e] X.env = [(false, eval e X.env)] := by rfl) (hbase : attributeBase o "join" X.env (eval o X.env) = eval o X.env := by rfl) (hline : (apos.endLine == pos.line) = true := by rfl) (hK : X.K = KK.K := by rfl) :
    VE X (.Call (.Attribute o "join" apos) [e] [] pos) (tM1 (rJoin KK.K) To Te) (vJoin to te) := by
  rw [← hK]
  exact ⟨pe_join ho.pe he.pe hs hbase hline, by rw [hK]; exact lk_join ho.lk he.lk⟩
/-! ### range(i, j, -1) -/
/-- i, i - 1, .. (n of them) -/
def dnTo (i : Int) (n : Nat) : List D := (List.range n).map fun k : Nat => D.int (i - (k : Int))
def vRng3 (ta tb : TEv) : TIv := fun ρ R => ta ρ fun x => tb ρ fun y => match x, y with
  | .int i, .int j => bigI i ∧ bigI j ∧ R (dnTo i (i - j).toNat)
  | _, _ => False
theorem dnTo_co (i : Int) (n : Nat) : D.alls coF (dnTo i n) = true := by
  rw [D.alls_eq, List.all_eq_true]
  intro d hd
  obtain ⟨k, _, rfl⟩ := List.mem_map.mp hd
  rfl
theorem yields_dn {Z B : Hp} (i : Int) (n : Nat) : Yields Z B (Itc i (-1) n) (dnTo i n) := by
  intro B' H' sb s
  refine ⟨fun k d e => ?_, by show n ≤ (dnTo i n).length; unfold dnTo; rw [List.length_map, List.length_range]; exact Nat.le_refl _⟩
  unfold dnTo at e
  rw [List.getElem?_map] at e
  have hk : k < n := by
    cases q : (List.range n)[k]? with
    | none => rw [q] at e; cases e
    | some j =>
      have := (List.getElem?_eq_some_iff.mp q).1
      rwa [List.length_range] at this
  rw [List.getElem?_range hk] at e
  have e : D.int (i - (k : Int)) = d := Option.some.inj e
  refine ⟨hk, fun x H'' y => ?_⟩
  obtain ⟨rfl, rfl⟩ := y
  subst e
  have e2 : i + (k : Int) * -1 = i - (k : Int) := by omega
  rw [e2]
  exact Out.of s den_int
theorem lk_rng3 {Ta Tb : TE} {ta tb : TEv} (la : LE Ta ta) (lb : LE Tb tb) : LI (iRng3 (tCons Ta (tCons Tb (tCons (tC (.int (-1))) tNil)))) (vRng3 ta tb) := by
  intro B0 Z B H σ ρ R RR Rp h k
  refine la B0 Z B H σ ρ _ _ Rp h fun x vx H1 ⟨B1, F, g, dx, n, fr⟩ h => ?_
  refine lb B0 Z B1 H1 σ ρ _ _ (Rp.grow g) h fun y vy H2 ⟨B2, F2, g2, dy, n2, fr2⟩ h => ?_
  split at h
  · obtain ⟨h1, h2, h⟩ := h
    unfold bigI at h1 h2
    refine ⟨_, _, -1, _, by rw [dx.1, dy.1], RgC.neg (by omega) (by omega) (by omega) (by omega), ?_⟩
    exact k _ B2 H2 _ (g.trans g2) (yields_dn _ _) (dnTo_co _ _) h
  · exact h.elim
/-- -1 as it is written -/
theorem pe_m1 {X : Cx} {j : Nat} {p1 p2 : Pos} : PE X (.UnaryOp .USub (.Constant (.int 1) j p1) p2) (tC (.int (-1))) := by
  have h : PE X (.UnaryOp .USub (.Constant (.int 1) j p1) p2) (tUn (rU fun i => .int (-i)) (tC (.int 1))) := pe_un un_neg pe_int
  exact ⟨fun pins s σ H Q I q => h.run pins s σ H Q I ⟨1, rfl, q⟩⟩
theorem i_rng3 {X : Cx} {tg a b : Expr} {p pos p1 p2 : Pos} {j : Nat} {Ta Tb : TE} {ta tb : TEv} (hm : X.mg "range" = none) (ha : VE X a Ta ta) (hb : VE X b Tb tb) (hg : Gl X "range" := by rfl)
    (hs : starEach [a, b, .UnaryOp .USub (.Constant (.int 1) j p1) p2] X.env = (false, eval a X.env) :: starEach [b, .UnaryOp .USub (.Constant (.int 1) j p1) p2] X.env := by rfl)
    (hs2 : starEach [b, .UnaryOp .USub (.Constant (.int 1) j p1) p2] X.env = (false, eval b X.env) :: starEach [.UnaryOp .USub (.Constant (.int 1) j p1) p2] X.env := by rfl)
    (hs3 : starEach [.UnaryOp .USub (.Constant (.int 1) j p1) p2] X.env = (false, eval (.UnaryOp .USub (.Constant (.int 1) j p1) p2) X.env) :: starEach [] X.env := by rfl)
    (hpl : (backTo pos (starEach [b, .UnaryOp .USub (.Constant (.int 1) j p1) p2] X.env)).any (·.1) = false := by rfl) :
    VI X tg (.Call (.Name "range" p) [a, b, .UnaryOp .USub (.Constant (.int 1) j p1) p2] [] pos) (iRng3 (tCons Ta (tCons Tb (tCons (tC (.int (-1))) tNil)))) (vRng3 ta tb) :=
  ⟨pi_range3 hg hm (pa_cons ha.pe (pa_cons hb.pe (pa_cons pe_m1 pa_nil hs3) hs2) hs) hs hpl, lk_rng3 ha.lk hb.lk⟩
/-! ### y = x.pop() -/
def vPopTo (i j : Nat) : TSv := fun W ρ => match ρ[j]? with
  | some (some (.nd (.lst .o) xs)) => D.alls puF xs = true ∧ match xs.getLast? with
    | some d => W.nx ((ρ.set j (some (.lst .o (xs.take (xs.length - 1))))).set i (some d))
    | none => False
  | _ => False
theorem pu_co {xs : List D} (h : D.alls puF xs = true) : D.alls coF xs = true := D.alls_imp (p := puF) (q := coF) (fun f e => by cases f <;> first | rfl | exact nomatch e) xs h
theorem lk_popTo {i j : Nat} : LS (tAsg (tBM0 KK.K "list" rPop (tVar j)) (gName i)) (vPopTo i j) := by
  intro B0 Z B H σ ρ Dv De R h S
  unfold vPopTo at h
  split at h
  · rename_i xs e
    obtain ⟨pu, h⟩ := h
    split at h
    · rename_i d ed
      have co := pu_co pu
      obtain ⟨a, o0, vs, G, h1, hx, c, y, nb, ng, aG, fG, W⟩ := R.write (h := .lst .o) e (.inl rfl)
      have c : o0 = .lst vs := c
      subst c
      have eG := Dens.nofp xs vs G co y
      subst eG
      have el : xs.length = vs.length := y.len
      have hn : 0 < xs.length := by
        cases xs with
        | nil => cases ed
        | cons _ _ => exact Nat.succ_pos _
      have hv : vs.length - 1 < vs.length := by omega
      refine ⟨_, h1, .inl ⟨rfl, _, .inl (.inl hx)⟩, a, vs, vs[vs.length - 1], rfl, rfl, hx, List.getElem?_eq_getElem hv, ?_⟩
      rw [List.dropLast_eq_take]
      have R1 := W (.lst .o) (xs.take (xs.length - 1)) (.lst (vs.take (vs.length - 1))) B H (vs.take (vs.length - 1)) [] rfl (Grow.refl R.sub) rfl (by rw [el]; exact Dens.take _ y) List.nodup_nil (by
        rw [D.alls_eq, List.all_eq_true] at nb ⊢
        exact fun d hd => nb d (List.mem_of_mem_take hd)) (fun b hb => nomatch hb)
      rw [List.getLast?_eq_getElem?] at ed
      obtain ⟨v, G2, h3, h4, _⟩ := y.at ed
      have hd : d.all puF = true := alls_at pu ed
      have e4 := Den.nofp d v G2 (D.all_imp (p := puF) (q := coF) (fun f e => by cases f <;> first | rfl | exact nomatch e) d hd) h4
      subst e4
      have ev : vs[vs.length - 1] = v := by
        rw [el, List.getElem?_eq_getElem hv] at h3
        exact Option.some.inj h3
      have x1 : Den Z B H d v [] := h4
      have x2 := Den.fixed (Z := Z) (B := B) (B' := B) (H := H) (H' := upd H a (.lst (vs.take (vs.length - 1)))) (Same.refl _) d v [] (D.all_imp (p := puF) (q := coF) (fun f e => by cases f <;> first | rfl | exact nomatch e) d hd) x1
      obtain ⟨B2, g2, R2⟩ := R1.set (i := i) (Out.of R1.sub x2) (D.all_imp (p := puF) (q := nbF) (fun f e => by cases f <;> first | rfl | exact nomatch e) d hd)
      rw [ev]
      exact S.nx _ _ _ _ R2 h
    · exact h.elim
  · exact h.elim
theorem s_popTo {X : Cx} {p1 p2 p3 p4 py : Pos} {x y : Str} (i j : Nat) (hN : X.N.Nodup) (hi : X.N[i]? = some y := by rfl) (hly : Loc X.env.scope y := by first | exact Or.inl rfl | exact Or.inr rfl) (hx : X.N[j]? = some x := by rfl) (hv : Vis X.env.scope x := by first | exact Or.inl rfl | exact Or.inr (Or.inl rfl) | exact Or.inr (Or.inr rfl)) (hd : (x == ("__debug__" : Str)) = false := by decide) (hcd : (x == ("__classdict__" : Str)) = false := by decide)
    (hbase : attributeBase (.Name x p1) "pop" X.env (eval (.Name x p1) X.env) = eval (.Name x p1) X.env := by rfl)
    (hline : (p2.endLine == p3.line) = true := by rfl)
    (hsw : swapsWith (.Call (.Attribute (.Name x p1) "pop" p2) [] [] p3) (some (.Name y py)) p4.line X.env = pure false := by rfl) (hf : X.fn y = true ∨ X.env.scope.names.lookup y = some .local := by first | exact .inl rfl | exact .inr rfl) (hK : X.K = KK.K := by rfl) :
    VS X (.Assign [.Name y py] (.Call (.Attribute (.Name x p1) "pop" p2) [] [] p3) p4) (tAsg (tBM0 KK.K "list" rPop (tVar j)) (gName i)) (vPopTo i j) := by
  rw [← hK]
  exact ⟨ps_set hN hi hly (pe_bm0 PySem.F.plainAttrs_list PySem.F.slot_list_pop PySem.F.type_list_pop mt_pop (pe_var hx hv hd hcd) hbase hline) hsw hf, by rw [hK]; exact lk_popTo⟩
/-! ### x = y, y is not read any more -/
def vMove (i j : Nat) : TSv := fun W ρ => match ρ[j]? with
  | some (some d) => W.nx ((ρ.set j none).set i (some d))
  | _ => False
theorem lk_move {i j : Nat} : LS (tAsg (tVar j) (gName i)) (vMove i j) := by
  intro B0 Z B H σ ρ Dv De R h S
  unfold vMove at h
  split at h
  · rename_i d e
    obtain ⟨F, q, n, z⟩ := R.ex
    obtain ⟨v, G, Rr, h1, h2, h3, h4, h5, h6, h7, h8⟩ := q.part n e
    obtain ⟨F', k1, k2, k3⟩ := h8.set i h7 h2 h3 h4 (fun a m => h5 a m)
    refine ⟨v, h1, S.nx B H _ _ ⟨R.xl, R.gr, F', k1, k2, fun b m => ?_⟩ h⟩
    rcases k3 b m with m | m
    · exact z b (h6 b (.inr m))
    · exact z b (h6 b (.inl m))
  · exact h.elim
theorem s_move {X : Cx} {pos py px : Pos} {x y : Str} (i j : Nat) (hN : X.N.Nodup) (hi : X.N[i]? = some y := by rfl) (hly : Loc X.env.scope y := by first | exact Or.inl rfl | exact Or.inr rfl) (hx : X.N[j]? = some x := by rfl) (hv : Vis X.env.scope x := by first | exact Or.inl rfl | exact Or.inr (Or.inl rfl) | exact Or.inr (Or.inr rfl)) (hd : (x == ("__debug__" : Str)) = false := by decide) (hcd : (x == ("__classdict__" : Str)) = false := by decide)
    (hs : swapsWith (.Name x px) (some (.Name y py)) pos.line X.env = pure false := by rfl) (hf : X.fn y = true ∨ X.env.scope.names.lookup y = some .local := by first | exact .inl rfl | exact .inr rfl) :
    VS X (.Assign [.Name y py] (.Name x px) pos) (tAsg (tVar j) (gName i)) (vMove i j) := ⟨ps_set hN hi hly (pe_var hx hv hd hcd) hs hf, lk_move⟩
end
end VL

/-! ## VMB -/
/-! VL: dicts with tuple keys: {k: v}, d.items() walked, list(d), list(d.values()). -/
namespace VL
open PySem PySem.Spec L2
open PyProof.Rows hiding St
/-- the pairs of a locked dict with tuple keys, each a new tuple -/
def ItiT (d : Addr) (o : Obj) (kvs : List (List Key × V)) : It :=
  ⟨fun i H => H d = some (.frz o (.dT kvs)) ∧ i < kvs.length, fun i H x H' => ∃ T q k v, kvs[i]? = some (k, v) ∧ H q = some (.tup (k.map kV)) ∧ x = .ref T ∧ H T = none ∧ H' = upd H T (.tup [.ref q, v]), fun i H => H d = some (.frz o (.dT kvs)) ∧ kvs.length ≤ i⟩
section
variable {P : Program} {w : World} {K : PySem.W.Frag} {d : Addr} {o : Obj} {es : Array DictEntry} {ep : Nat}
theorem frzT_val {X : Cx} {pins : List (Addr × Obj)} {σ : L2.St} {H : Hp} {s : Shared} {kvs : List (List Key × V)} (I : Inv X pins σ H s) (h : H d = some (.frz o (.dT kvs))) :
    (d == sysModules) = false ∧ s.heap.get? d = some o ∧ o.ExactDict ∧ kvs.length ≤ sizeLine ∧ ∃ (es : Array DictEntry) (ep : Nat), o.data = .dict es ep ∧ es.size = kvs.length ∧
      ∀ (i : Nat) (k : List Key) (v : V), kvs[i]? = some (k, v) → ∃ (en : DictEntry) (q : Addr), es[i]? = some en ∧ en.key = .ref q ∧ H q = some (.tup (k.map kV)) ∧ RelV v en.val := by
  obtain ⟨hd, z, hs, xs, pr, o', es, ep, ho, hx, hdt, he, _⟩ := I.hok d _ h
  rw [hd] at ho
  cases ho
  refine ⟨hs, hd, hx, z, es, ep, hdt, ?_, fun i k v e => ?_⟩
  · have l1 : es.size = xs.length := size_of_entries he
    have l2 : kvs.length = xs.length := Paired.length pr
    omega
  · obtain ⟨b, hb, e1, e2, e3⟩ := paired_get pr e
    have q := entry_at he i
    rw [hb] at q
    exact ⟨_, b.2.1, q, rfl, e2, e3⟩
theorem turn_itemsT {kvs : List (List Key × V)} {elts : List Expr} {kk : Nat} {tpos : Pos} (it : Addr) (hod : o.data = .dict es ep) (hsz0 : es.size = kvs.length) :
    Turn P w K (.Tuple elts kk tpos) (ItiT d o kvs) [it] it (fun i h => ∃ ok ov, IsItemIter h it d i es.size ep ok ov) where
  mem := by simp
  obj := fun i h st b hb => by
    have e : b = it := by simpa using hb
    subst e
    obtain ⟨ok, ov, e⟩ := st
    exact ⟨_, e, fun v z => nomatch z⟩
  keep := fun i h h' st k => let ⟨ok, ov, e⟩ := st; ⟨ok, ov, k it (by simp) _ e⟩
  item := by
    intro X hP hw hK hc i pins s σ H E I hf st hg
    subst hP hw hK
    obtain ⟨hd, hi⟩ := hg
    obtain ⟨hs, hgd, hx, hz, es', ep', hdt, hsz, ent⟩ := frzT_val I hd
    obtain ⟨rfl, rfl⟩ := dict_ep hod hdt
    obtain ⟨⟨k, v⟩, hkv⟩ : ∃ p, kvs[i]? = some p := ⟨kvs[i], List.getElem?_eq_getElem hi⟩
    obtain ⟨en, q, hen, hkey, hq, ru⟩ := ent i k v hkv
    obtain ⟨ok, ov, he⟩ := st
    have hlt : it < s.heap.objs.size := Heap.lt_size he
    have hi' : i < es'.size := by omega
    have een : es'[i] = en := by
      rw [Array.getElem?_eq_getElem hi'] at hen
      exact Option.some.inj hen
    refine DT.nextI he ⟨o, hgd, hx, hdt⟩ hi' fun h' ho hT hz hk => ?_
    rw [een] at ho hT
    refine ⟨_, rfl, wpAny_letOwnedTupleGo_items (s := { s with heap := h' }) ho fun h'' he' sb => ?_⟩
    have hT2 : h''.get? s.heap.objs.size = some { cls := .type "tuple", data := .seq #[en.key, en.val] } := (sb.2 _ (Nat.ne_of_gt hlt)).trans hT
    have new : ObjOk X.prog X.w (upd H s.heap.objs.size (.tup [.ref q, v])) h'' s.heap.objs.size (.tup [.ref q, v]) :=
      ⟨by show 2 ≤ sizeLine; decide, [en.key, en.val], .cons (show RelV (.ref q) en.key from hkey) (.cons ru .nil), ⟨_, hT2, rfl, _, rfl⟩⟩
    have I1 : Inv X pins σ (upd H s.heap.objs.size (.tup [.ref q, v])) { s with heap := h'' } :=
      I.turnedNew (t' := s.toks) (ch := [it]) (fun b ob hb e => (sb.2 b (by simpa using hb)).trans (hk b ob (by simpa using hb) e)) hf (Nat.le_refl _) new
    refine ⟨.ref s.heap.objs.size, _, I1, rfl, ⟨_, q, k, v, hkv, hq, rfl, I.hok.fresh (Nat.le_refl _), rfl⟩, ⟨en.key, en.val, he'⟩, fun b hb => ?_⟩
    have e : b = it := by simpa using hb
    rw [e, upd_ne (Nat.ne_of_lt hlt)]
    exact (hf it (by simp)).1
  done := by
    intro X hP hw hK hc i pins s σ H E I hf st hg
    subst hP hw hK
    obtain ⟨hd, hi⟩ := hg
    obtain ⟨f0, f1, f2, f3, f4, f5⟩ := hf it (by simp)
    obtain ⟨hs, hgd, hx, hz, es', ep', hdt, hsz, ent⟩ := frzT_val I hd
    obtain ⟨rfl, rfl⟩ := dict_ep hod hdt
    obtain ⟨ok, ov, he⟩ := st
    exact DT.endI (I.ok.hd hc) he ⟨o, hgd, hx, hdt⟩ (by omega) fun h' eb => ⟨rfl, I.turned (t' := s.toks) (fun b ob hb e => eb b ob hb e) f0 f1 f3 f4 f5⟩
  self := fun A i s Q E st h => let ⟨_, _, e⟩ := st; PySem.W.kcp_self e h
end
def iItemsT (td : TE) : TI := fun σ H R => td σ H fun x H1 => ∃ d o kvs, x = .ref d ∧ H1 d = some (.frz o (.dT kvs)) ∧ R (ItiT d o kvs) H1
theorem pi_itemsT {X : Cx} {e : Expr} {td : TE} {apos cpos tpos : Pos} {elts : List Expr} {kk : Nat} (he : PE X e td) (hbase : attributeBase e "items" X.env (eval e X.env) = eval e X.env := by rfl) (hline : (apos.endLine == cpos.line) = true := by rfl) :
    PI X (.Tuple elts kk tpos) (.Call (.Attribute e "items" apos) [] [] cpos) (iItemsT td) := by
  refine ⟨fun pins s σ H R I h => ?_⟩
  refine wpAny_Call_method (T := "dict") (id := "dict.items") hbase rfl hline F.plainAttrs_dict F.slot_dict_items F.type_dict_items (thn (he.run pins s σ H _ I h) fun u s1 ⟨x, H1, I1, rx, d, o, kvs, ex, hd, q⟩ => ?_)
  subst ex
  obtain rfl : u = Value.ref d := rx
  obtain ⟨hs, hgd, hx, hz, es, ep, hdt, hsz, ent⟩ := frzT_val I1 hd
  refine ⟨⟨o, hgd, hx.1⟩, fun a e2 => ?_, ?_⟩
  · cases e2
    exact ⟨o, hgd, hx.2.1⟩
  have I2 : Inv X pins σ H1 { s1 with heap := s1.heap.push { cls := .type "dict_items", data := .fields #[.ref d] } } := I1.kept (t' := s1.toks) fun b ob q => Heap.get?_push_of_some _ q
  have fin : wpAny (model X.prog X.w) X.A (pyIter (.ref s1.heap.objs.size)) (PIE X pins σ (.Tuple elts kk tpos) R) X.xe { s1 with heap := s1.heap.push { cls := .type "dict_items", data := .fields #[.ref d] } } := by
    refine DT.iterI (d := d) ⟨_, Heap.get?_push_size _ rfl, rfl, rfl⟩ (DT.Raw.push ⟨o, hgd, hx, hdt⟩ _) (pi_one (tk := s1.toks) I2 _ (turn_itemsT _ hdt hsz) ⟨.none, .none, ?_⟩ q)
    exact Heap.get?_push_size _ rfl
  show wpAny _ _ (callWith cpos (.builtin "dict.items") [.ref d] [] []) _ X.xe s1
  exact method_meetsIn F.slot_dict_items F.entry_dict_items rfl (PySem.evalArgs_none ⟨rfl, ⟨o, hgd, hx.1⟩, F.args_dict_items_1 _, _, DT.meetsItems (es := es) (ep := ep) hs, ⟨o, hgd, hx, hdt⟩, fin⟩)
/-! ### for k, v in d.items() -/
section
variable [KK : KLs] 
def itD (ks : List (List Key)) (xs : List D) : List D := (ks.zip xs).map fun p => D.tup [ktD p.1, p.2]
theorem itD_co {ks : List (List Key)} {xs : List D} {p : Fl → Bool} (hp : p .i = true) (h : D.alls p xs = true) : D.alls p (itD ks xs) = true := by
  rw [D.alls_eq, List.all_eq_true]
  intro d hd
  obtain ⟨⟨k, x⟩, hm, rfl⟩ := List.mem_map.mp hd
  have h2 : x.all p = true := by
    rw [D.alls_eq, List.all_eq_true] at h
    exact h x (List.of_mem_zip hm).2
  have h3 : D.alls p (k.map kD) = true := by
    rw [D.alls_eq, List.all_eq_true]
    intro y hy
    obtain ⟨c, _, rfl⟩ := List.mem_map.mp hy
    cases c <;> rfl
  show (p .i && (D.alls p [ktD k, x])) = true
  show (p .i && ((p .i && D.alls p (k.map kD)) && (x.all p && true))) = true
  rw [hp, h3, h2]; rfl
omit KK in
theorem Grow.newI {B H : Hp} {p : Addr} {o : HO} (s : Same B H) (hp : H p = none) : Grow B H (upd B p o) (upd H p o) := by
  refine ⟨fun b x e => ?_, fun b x e => ?_, fun b x e => ?_, fun b x e _ n => ?_⟩
  · rw [upd_ne (ne_of_none (s _ _ e) hp)]; exact e
  · rw [upd_ne (ne_of_none e hp)]; exact e
  · by_cases z : b = p
    · subst z; rw [upd_same] at e ⊢; exact e
    · rw [upd_ne z] at e ⊢; exact s _ _ e
  · rw [upd_ne (ne_of_none e hp)]; exact n
theorem yields_itemsT {Z B : Hp} {a : Addr} {ob : Obj} {ks : List (List Key)} {xs : List D} {vs : List V} (hl : ks.length = vs.length) (hb : B a = some (.frz ob (.dT (ks.zip vs)))) (co : D.alls coF xs = true) (hy : ∀ B' H', Same B B' → Dens Z B' H' xs vs []) : Yields Z B (ItiT a ob (ks.zip vs)) (itD ks xs) := by
  intro B' H' sb s
  have hs : H' a = some (.frz ob (.dT (ks.zip vs))) := s _ _ (sb _ _ hb)
  have y0 := hy B' H' sb
  have lx : xs.length = vs.length := y0.len
  have lz : (ks.zip vs).length = ks.length := by rw [List.length_zip]; omega
  have lz2 : (itD ks xs).length = ks.length := by unfold itD; rw [List.length_map, List.length_zip]; omega
  refine ⟨fun i d e => ?_, ⟨hs, by rw [lz, lz2]; exact Nat.le_refl _⟩⟩
  have hi : i < ks.length := by have := (List.getElem?_eq_some_iff.mp e).1; rwa [lz2] at this
  refine ⟨⟨hs, by rw [lz]; exact hi⟩, fun x H'' y => ?_⟩
  obtain ⟨T, q, k, v, e2, hq, rfl, hT, rfl⟩ := y
  have h2 : i < vs.length := by omega
  have h3 : i < xs.length := by omega
  rw [List.getElem?_eq_getElem (by rw [lz]; exact hi), List.getElem_zip] at e2
  have e2 := Option.some.inj e2
  have ek : ks[i] = k := congrArg Prod.fst e2
  have ev : vs[i] = v := congrArg Prod.snd e2
  unfold itD at e
  rw [List.getElem?_map, List.getElem?_eq_getElem (by rw [List.length_zip]; omega), List.getElem_zip] at e
  have ed : D.tup [ktD ks[i], xs[i]] = d := Option.some.inj e
  subst ed ek
  have g1 := Grow.tup s hq
  have sT : Same (upd B' q (.tup (ks[i].map kV))) H' := g1.sub
  have g2 := Grow.newI (o := HO.tup [.ref q, v]) sT hT
  obtain ⟨v', G', h5, h6, _⟩ := y0.at (List.getElem?_eq_getElem h3)
  have h6' : Den Z B' H' xs[i] v [] := by
    have e6 := Den.nofp _ _ _ (alls_at co (List.getElem?_eq_getElem h3)) h6
    subst e6
    rw [List.getElem?_eq_getElem h2] at h5
    have := Option.some.inj h5
    rw [ev] at this
    rw [this]; exact h6
  have gg := g1.trans g2
  refine ⟨_, [], gg, ⟨T, _, _, [], rfl, upd_same, rfl, ⟨.ref q, [v], [], [], rfl, ⟨q, _, _, [], rfl, ?_, rfl, kt_dens _, rfl⟩, ⟨v, [], [], [], rfl, h6'.grow gg.sb gg.sh, ⟨rfl, rfl⟩, rfl⟩, rfl⟩, rfl⟩, List.nodup_nil, fun a h => nomatch h⟩
  exact g2.sb _ _ upd_same
def vForT (i : Nat) (g : TGv) (tb : TSv) : TSv := fun W ρ => match ρ[i]? with
  | some (some (.nd (.dtt .o ks) xs)) => D.alls puF xs = true ∧ ∀ a : Addr, forL g tb (itD ks xs)
      { nx := fun ρ' => ρ'[i]? = some (some (.cst (.ref a))) ∧ envUn (ρ'.set i none) = true ∧ W.nx (ρ'.set i (some (.dtt .o ks xs))), rt := fun _ => False, bk := fun _ => False, ct := fun _ => False } (ρ.set i (some (.cst (.ref a))))
  | _ => False
theorem lk_forT {i : Nat} {g : TG} {gv : TGv} {vs : List Nat} {T : TS} {t : TSv} (lg : LG g gv vs) (lt : LS T t) : LS (tLock (tFor (iItemsT (tVar i)) g T)) (vForT i gv t) := by
  intro B0 Z B H σ ρ Dv De R h S
  unfold vForT at h
  split at h
  · rename_i ks xs e
    obtain ⟨pu, h⟩ := h
    have co : D.alls coF xs = true := D.alls_imp (p := puF) (q := coF) (fun f e => by cases f <;> first | rfl | exact nomatch e) xs pu
    have un : D.alls unF xs = true := D.alls_imp (p := puF) (q := unF) (fun f e => by cases f <;> first | rfl | exact nomatch e) xs pu
    have nbx : D.alls nbF xs = true := D.alls_imp (p := puF) (q := nbF) (fun f e => by cases f <;> first | rfl | exact nomatch e) xs pu
    obtain ⟨F, q, n, z⟩ := R.ex
    obtain ⟨v, G, Rr, h1, h2, h3, h4, h5, h6, h7, h8⟩ := q.part n e
    obtain ⟨a, o, ws, G', ev, x, c, y, f⟩ := h3
    have x : H a = some o := x
    obtain ⟨lk, c⟩ := c
    subst c ev
    have eG := Dens.nofp xs ws G' co y
    subst eG
    have f : G = [a] := f
    subst f
    have za := z a (h6 a (.inl List.mem_cons_self))
    refine ⟨a, .dT (ks.zip ws), x, True.intro, fun od => ?_⟩
    have sb : Same B (upd B a (.frz od (.dT (ks.zip ws)))) := fun b o' eb => by
      have : b ≠ a := fun hb => by subst hb; rw [za.1] at eb; cases eb
      rw [upd_ne this]; exact eb
    have kH : ∀ b, b ≠ a → upd H a (.frz od (.dT (ks.zip ws))) b = H b := fun b hb => upd_ne hb
    have sub : Same (upd B a (.frz od (.dT (ks.zip ws)))) (upd H a (.frz od (.dT (ks.zip ws)))) := fun b o' eb => by
      by_cases hb : b = a
      · subst hb; rw [upd_same] at eb ⊢; exact eb
      · rw [upd_ne hb] at eb ⊢; exact R.sub _ _ eb
    have y2 : ∀ B' H', Same (upd B a (.frz od (.dT (ks.zip ws)))) B' → Dens Z B' H' xs ws [] := fun B' H' s' => Dens.fixed (sb.trans s') xs ws [] co y
    have q2 := (h8.grow sb (Same.refl _)).keep (H' := upd H a (.frz od (.dT (ks.zip ws)))) fun b hb => kH b fun e2 => h5 a List.mem_cons_self (e2 ▸ hb)
    obtain ⟨F', k1, k2, k3⟩ := q2.fill (d := .cst (.ref a)) (v := .ref a) (G := []) (length_of_get e) h1 h7 rfl ⟨rfl, rfl⟩ List.nodup_nil (fun a h => nomatch h)
    have RB : Rep (upd B a (.frz od (.dT (ks.zip ws)))) Z (upd B a (.frz od (.dT (ks.zip ws)))) (upd H a (.frz od (.dT (ks.zip ws)))) σ (ρ.set i (some (.cst (.ref a)))) := by
      refine ⟨xl0, ⟨Same.refl _, fun b o' eb => ?_, sub, fun _ _ _ _ n => n⟩, F', k1, k2, fun b hb => ?_⟩
      · have hb : b ≠ a := fun hb => by subst hb; rw [za.2] at eb; cases eb
        rw [kH b hb]; exact R.gr.sh _ _ eb
      · rcases k3 b hb with m | m
        · have hz := z b (h6 b (.inr m))
          have hba : b ≠ a := fun e2 => h5 a List.mem_cons_self (e2 ▸ m)
          exact ⟨by rw [upd_ne hba]; exact hz.1, hz.2⟩
        · cases m
    have Y : Yields Z (upd B a (.frz od (.dT (ks.zip ws)))) (ItiT a od (ks.zip ws)) (itD ks xs) := yields_itemsT lk upd_same co y2
    refine ⟨_, h1, a, od, _, rfl, upd_same, ?_⟩
    refine for_go lg lt Y (itD_co rfl co) RB (h a) ⟨fun B' H' σ' ρ' R' w => ?_, fun d v H' ou ow w => w.elim, fun _ _ _ _ _ w => w.elim, fun _ _ _ _ _ w => w.elim⟩
    have b2 : B' a = some (.frz od (.dT (ks.zip ws))) := R'.gr.sb _ _ upd_same
    have hh : H' a = some (.frz od (.dT (ks.zip ws))) := R'.sub _ _ b2
    refine ⟨hh, S.nx (cutB B' a) (upd H' a (.dT (ks.zip ws))) σ' _ ⟨R.xl, ⟨fun b o' eb => ?_, fun b o' eb => ?_, fun b o' eb => ?_, fun b o' eb nt nb => ?_⟩, ?_⟩ w.2.2⟩
    · have bb := R.gr.sb _ _ eb
      have hb : b ≠ a := fun hb => by subst hb; rw [za.1] at bb; cases bb
      rw [cutB_ne hb]
      exact R'.gr.sb _ _ (by rw [upd_ne hb]; exact bb)
    · have hb : b ≠ a := fun hb => by subst hb; rw [za.2] at eb; cases eb
      rw [upd_ne hb]; exact R'.gr.sh _ _ eb
    · have hb : b ≠ a := fun hb => by subst hb; rw [cutB_same] at eb; cases eb
      rw [cutB_ne hb] at eb
      rw [upd_ne hb]; exact R'.sub _ _ eb
    · have hb : b ≠ a := fun hb => by subst hb; rw [za.2] at eb; cases eb
      rw [cutB_ne hb]
      exact R'.gr.old _ _ eb nt (by rw [upd_ne hb]; exact R.gr.old _ _ eb nt nb)
    · obtain ⟨F2, q', n', z'⟩ := R'.ex
      obtain ⟨v', G2, Rr2, j1, j2, j3, j4, j5, j6, j7, j8⟩ := q'.part n' w.1
      have ev2 : v' = .ref a := j3.1
      have eG2 : G2 = [] := j3.2
      subst ev2 eG2
      have aR : a ∉ Rr2 := fun m => by
        have := (z' a (j6 a (.inr m))).1
        rw [b2] at this; cases this
      have u8 := Slots.unlock (o := .dT (ks.zip ws)) b2 hh w.2.1 j8
      have yy : Dens Z (cutB B' a) (upd H' a (.dT (ks.zip ws))) xs ws [] := Dens.unlock b2 hh xs ws [] un (Dens.fixed (sb.trans R'.gr.sb) xs ws [] co y)
      obtain ⟨F3, l1, l2, l3⟩ := u8.fill (d := .dtt .o ks xs) (v := .ref a) (G := [a]) (length_of_get w.1) j1 j7 (by show (nbF .o && D.alls nbF xs) = true; rw [nbx]; rfl) ⟨a, _, ws, [], rfl, upd_same, ⟨lk, rfl⟩, yy, rfl⟩ (by simp) (fun b m => by rw [List.mem_singleton.mp m]; exact aR)
      refine ⟨F3, l1, l2, fun b m => ?_⟩
      rcases l3 b m with m | m
      · have hz := z' b (j6 b (.inr m))
        have hb : b ≠ a := fun e2 => aR (e2 ▸ m)
        exact ⟨by rw [cutB_ne hb]; exact hz.1, hz.2⟩
      · rw [List.mem_singleton.mp m]
        exact ⟨cutB_same, za.2⟩
  · exact h.elim
theorem s_forT {X : Cx} {x : Str} {elts : List Expr} {kk : Nat} {tpos px apos cpos pos : Pos} {body : List Stmt} {g : TG} {gv : TGv} {vs : List Nat} {T : TS} {t : TSv} (i : Nat) (hc : X.calm = true) (hp : PassesOwn (model X.prog X.w) X.A X.env X.xe)
    (hg : VG X (.Tuple elts kk tpos) g gv vs) (hb : VSs X body T t) (hN : X.N[i]? = some x := by rfl) (hv : Vis X.env.scope x := by first | exact Or.inl rfl | exact Or.inr (Or.inl rfl) | exact Or.inr (Or.inr rfl)) (hd : (x == ("__debug__" : Str)) = false := by decide) (hcd : (x == ("__classdict__" : Str)) = false := by decide)
    (hbase : attributeBase (.Name x px) "items" X.env (eval (.Name x px) X.env) = eval (.Name x px) X.env := by rfl) (hline : (apos.endLine == cpos.line) = true := by rfl)
    (hs : ∀ y, foldedSetIterable (.Call (.Attribute (.Name x px) "items" apos) [] [] cpos) X.env y = pure y := by intro _; rfl) :
    VS X (.For (.Tuple elts kk tpos) (.Call (.Attribute (.Name x px) "items" apos) [] [] cpos) body [] pos) (tLock (tFor (iItemsT (tVar i)) g T)) (vForT i gv t) :=
  ⟨ps_lock (ps_for hp hc (pi_itemsT (pe_var hN hv hd hcd) hbase hline) hg.pg hb.ps hs), lk_forT hg.lk hb.lk⟩
end
/-! ### list(d), list(d.values()) -/
section
variable [KK : KLs] [XX : XW]
def dListT : RNv := fun ds Q => match ds with
  | [.nd (.dtt f ks) _] => rdF f = true ∧ Q (.lst .o (ks.map ktD))
  | _ => False
omit XX in
theorem keys_dens {Z B H : Hp} (s : Same B H) : ∀ {ks : List (List Key)} {vs : List V} {bs : List Addr}, ks.length = vs.length → IsKeys H (ks.zip vs) bs → ∃ B', Grow B H B' H ∧ Dens Z B' H (ks.map ktD) (bs.map V.ref) []
  | [], vs, bs, hl, h => by
    have h : Paired _ [] bs := h
    cases h
    exact ⟨B, Grow.refl s, rfl, rfl⟩
  | k :: ks, [], bs, hl, h => nomatch hl
  | k :: ks, v :: vs, bs, hl, h => by
    have h : Paired (fun p b => H b = some (.tup (p.1.map kV))) ((k, v) :: ks.zip vs) bs := h
    cases h with
    | @cons a b as bs2 h1 t =>
      obtain ⟨B1, g, q⟩ := keys_dens (Z := Z) s (by simpa using hl) t
      have g2 := Grow.tup g.sub h1
      refine ⟨_, g.trans g2, .ref b, bs2.map V.ref, [], [], rfl, ⟨b, _, _, [], rfl, upd_same, rfl, kt_dens _, rfl⟩, Dens.grow g2.sb g2.sh _ _ _ q, rfl⟩
theorem lr_listT : LRn (fun xs H Q => ∃ d kvs, xs = [V.ref d] ∧ Rd H d (.dT kvs) ∧ ∀ p bs, H p = none → IsKeys H kvs bs → Q (.ref p) (upd H p (.lst (bs.map V.ref)))) dListT := by
  intro B0 Z B H σ ρ ds vs F Qd Q R q h k
  unfold dListT at h
  split at h
  · rename_i f ks xs
    obtain ⟨v, e1, x⟩ := dens_one q
    obtain ⟨a, ws, G, e2, rd, l, y⟩ := den_dtt R.sub (rdF_ok h.1) x
    subst e2
    refine ⟨a, _, e1, rd, fun p bs hp hk => k _ _ _ ?_ h.2⟩
    obtain ⟨B', g, dd⟩ := keys_dens (Z := Z) R.sub l hk
    exact out_lst ⟨B', [], g, dd, List.nodup_nil, fun a h => nomatch h⟩ hp
  · exact h.elim
theorem e_listT {X : Cx} {p pos : Pos} {e : Expr} {es : List Expr} {T : TA} {t : TAv} (hc : X.calm = true) (hm : X.mg "list" = none) (ha : VA X (e :: es) T t) (hg : Gl X "list" := by rfl) (hs : St1 X e es pos := by exact ⟨rfl, rfl⟩) :
    VE X (.Call (.Name "list" p) (e :: es) [] pos) (tCB (fun xs H Q => ∃ d kvs, xs = [V.ref d] ∧ Rd H d (.dT kvs) ∧ ∀ p bs, H p = none → IsKeys H kvs bs → Q (.ref p) (upd H p (.lst (bs.map V.ref)))) T) (vB dListT t) :=
  e_callTy (call_list_dT hc) lr_listT hg hm (by decide +kernel) ha (by decide) (by decide) hs.1 hs.2
omit KK XX in
theorem vals_at : ∀ {xs : List V} {us : List Value}, xs.length = us.length → (∀ (j : Nat) x u, xs[j]? = some x → us[j]? = some u → RelV x u) → Vals xs us
  | [], [], _, _ => .nil
  | x :: xs, u :: us, hl, h => .cons (h 0 x u rfl rfl) (vals_at (by simpa using hl) fun j y w e1 e2 => h (j + 1) y w (by simpa using e1) (by simpa using e2))
  | [], _ :: _, hl, _ => nomatch hl
  | _ :: _, [], hl, _ => nomatch hl
/-- list(d.values()) -/
def tListV (td : TE) : TE := fun σ H Q => td σ H fun x H1 => ∃ d kvs, x = V.ref d ∧ Rd H1 d (.dT kvs) ∧ ∀ p, H1 p = none → Q (.ref p) (upd H1 p (.lst (kvs.map (·.2))))
omit KK XX in
theorem pe_listV {X : Cx} {e : Expr} {td : TE} {p apos cpos pos : Pos} (hc : X.calm = true) (hg : Gl X "list") (hm : X.mg "list" = none) (he : PE X e td) (hbase : attributeBase e "values" X.env (eval e X.env) = eval e X.env := by rfl) (hline : (apos.endLine == cpos.line) = true := by rfl)
    (na : starEach [.Call (.Attribute e "values" apos) [] [] cpos] X.env = (false, eval (.Call (.Attribute e "values" apos) [] [] cpos) X.env) :: starEach [] X.env := by rfl) :
    PE X (.Call (.Name "list" p) [.Call (.Attribute e "values" apos) [] [] cpos] [] pos) (tListV td) := by
  refine ⟨fun pins s σ H Q I h => ?_⟩
  refine Call_ (ld_blt I hg hm (show bootBuiltins "list" = some (.type "list") by decide +kernel) ?_)
  refine PyProof.Rows.callWith_type1 (PyProof.Rows.args_cons ?_ na) na rfl
  refine wpAny_Call_method (T := "dict") (id := "dict.values") hbase rfl hline F.plainAttrs_dict F.slot_dict_values F.type_dict_values (thn (he.run pins s σ H _ I h) fun u s1 ⟨x, H1, I1, rx, d, kvs, ex, hd, q⟩ => ?_)
  subst ex
  obtain rfl : u = Value.ref d := rx
  obtain ⟨z, hs, ks, pr, o, es, ep, ho, hx, hdt, hes, hn⟩ := (show ObjOk X.prog X.w H1 s1.heap d (.dT kvs) from hd.ok I1.hok)
  have l1 : es.size = ks.length := size_of_entries hes
  have l2 : kvs.length = ks.length := Paired.length pr
  refine ⟨⟨o, ho, hx.1⟩, fun a e2 => ?_, ?_⟩
  · cases e2
    exact ⟨o, ho, hx.2.1⟩
  show wpAny _ _ (callWith cpos (.builtin "dict.values") [.ref d] [] []) _ X.xe s1
  have I2 : Inv X pins σ H1 { s1 with heap := s1.heap.push { cls := .type "dict_values", data := .fields #[.ref d] } } := I1.kept (t' := s1.toks) fun b ob q => Heap.get?_push_of_some _ q
  refine method_meetsIn F.slot_dict_values F.entry_dict_values rfl (PySem.evalArgs_none ⟨rfl, ⟨o, ho, hx.1⟩, F.args_dict_values_1 _, _, PySem.meets_dict_values_raw d hs, ⟨es, ep, o, ho, hx, hdt⟩, PyProof.Rows.args_nil ?_⟩)
  have ho2 := Heap.get?_push_of_some { cls := .type "dict_values", data := .fields #[.ref d] } ho
  refine PySem.W.kdl_call (PySem.KdlSrc.rawValues (d := d) (es := es) (ep := ep)) (I2.ok.hd hc) ⟨⟨_, Heap.get?_push_size _ rfl, rfl, rfl⟩, ⟨o, ho2, hx, hdt⟩⟩ (by omega) fun h' tk acc' c' kp e2 it => ?_
  have rv : Vals (kvs.map (·.2)) acc'.toList := by
    have hl : acc'.toList.length = kvs.length := by rw [Array.length_toList, it.1]; omega
    refine vals_at (by rw [List.length_map]; exact hl.symm) fun j x v ex ev => ?_
    obtain ⟨hj, hv⟩ := it.2 j v (by rw [← Array.getElem?_toList]; exact ev)
    rw [List.getElem?_map] at ex
    cases hk : kvs[j]? with
    | none => rw [hk] at ex; cases ex
    | some p =>
      rw [hk] at ex
      have ex : p.2 = x := Option.some.inj ex
      subst ex
      obtain ⟨b, hb, _, _, e3⟩ := paired_get pr hk
      have qe := entry_at hes j
      rw [hb, Array.getElem?_eq_getElem hj] at qe
      have qe := Option.some.inj qe
      rw [hv, qe]
      exact e3
  have kp2 : ∀ b ob, s1.heap.get? b = some ob → h'.get? b = some ob := fun b ob q => kp b ob (Heap.get?_push_of_some _ q)
  have hz : (kvs.map (·.2)).length ≤ sizeLine := by rw [List.length_map]; omega
  have hge : s1.heap.objs.size ≤ (s1.heap.push { cls := .type "dict_values", data := .fields #[.ref d] }).objs.size := by rw [Heap.size_push]; exact Nat.le_succ _
  refine ⟨.ref _, _, I1.laid (t' := tk) (o := .lst (kvs.map (·.2))) kp2 hge ⟨hz, acc'.toList, c', rv, by rw [Array.toArray_toList]; exact e2⟩, rfl, q _ (I1.hok.fresh hge)⟩
def vListV (td : TEv) : TEv := fun ρ Q => td ρ fun d => match d with
  | .nd (.dtt f _) xs => rdF f = true ∧ D.alls puF xs = true ∧ Q (.lst .o xs)
  | _ => False
theorem lk_listV {Td : TE} {td : TEv} (ld : LE Td td) : LE (tListV Td) (vListV td) := by
  intro B0 Z B H σ ρ Qd Q R h k
  refine ld B0 Z B H σ ρ _ _ R h fun x vx H1 ⟨B1, F, g, dx, n, fr⟩ h => ?_
  split at h
  · rename_i f ks xs _
    obtain ⟨hf, hp, h⟩ := h
    obtain ⟨a, vs, G, ev, rd, l, q⟩ := den_dtt g.sub (rdF_ok hf) dx
    have eG := Dens.nofp xs vs G (pu_co hp) q
    subst eG
    refine ⟨a, _, ev, rd, fun p hp => k _ _ _ ?_ h⟩
    have em : (ks.zip vs).map (·.2) = vs := by
      rw [List.map_snd_zip]
      omega
    rw [em]
    exact Out.after g (out_lst ⟨B1, [], Grow.refl g.sub, q, List.nodup_nil, fun a h => nomatch h⟩ hp)
  · exact h.elim
theorem e_listV {X : Cx} {e : Expr} {td : TE} {tv : TEv} {p apos cpos pos : Pos} (hc : X.calm = true) (hm : X.mg "list" = none) (he : VE X e td tv) (hg : Gl X "list" := by rfl) (hbase : attributeBase e "values" X.env (eval e X.env) = eval e X.env := by rfl) (hline : (apos.endLine == cpos.line) = true := by rfl)
    (na : starEach [.Call (.Attribute e "values" apos) [] [] cpos] X.env = (false, eval (.Call (.Attribute e "values" apos) [] [] cpos) X.env) :: starEach [] X.env := by rfl) :
    VE X (.Call (.Name "list" p) [.Call (.Attribute e "values" apos) [] [] cpos] [] pos) (tListV td) (vListV tv) := ⟨pe_listV hc hg hm he.pe hbase hline na, lk_listV he.lk⟩
end
end VL

/-! ## VMC -/
/-! VL: sorted(x) of tuples of ints whose first one is (); {k: v} with a tuple key. -/
namespace VMC
open PySem PySem.W PySem.Calls PyProof.Rows Builtin
def IsTI (h : Heap) (v : Value) (ns : List Int) : Prop := ∃ (a : Addr) (o : Obj) (its : Array Value) (n : Nat), v = .ref a ∧ h.get? a = some o ∧ o.cls = .type "tuple" ∧ o.data = .seq its n ∧ IntsAre its.toList ns
theorem IsTI.keeps {h h' : Heap} {v : Value} {ns : List Int} (x : IsTI h v ns) (k : ∀ b o, v = .ref b → h.get? b = some o → h'.get? b = some o) : IsTI h' v ns := by
  obtain ⟨a, o, its, n, e, g, c, d, i⟩ := x
  exact ⟨a, o, its, n, e, k _ _ e g, c, d, i⟩
theorem IsTI.type {M : Model} {h : Heap} {v : Value} {ns : List Int} (x : IsTI h v ns) : Looks M h (typeOf v) (.type "tuple") := by
  obtain ⟨a, o, its, n, rfl, g, c, _⟩ := x
  rw [← c]
  exact (Looks.ld g).andThen .now
section
variable {prog : Program} {w : World} {A : Around} {E : Value → Shared → Prop} {s : Shared}
theorem lt_ti {v u : Value} {ns ms : List Int} {Q : Bool → Shared → Prop} (hu : A.units < cLine) (hv : IsTI s.heap v ns) (hw : IsTI s.heap u ms) (h : Q (HT.lexLt ns ms) s) : wpAny (model prog w) A (keyLt' oneType' v u) Q E s := by
  obtain ⟨a, o, its, n, rfl, ga, ca, da, ia⟩ := hv
  obtain ⟨b, o2, its2, n2, rfl, gb, cb, db, ib⟩ := hw
  obtain ⟨oc, od, oda, os⟩ := o
  obtain ⟨oc2, od2, oda2, os2⟩ := o2
  simp only at ca da cb db
  subst ca da cb db
  have ta : s.TypeIs (.ref a) "tuple" := ⟨_, ga, rfl⟩
  rw [keyLt'_oneType, oneLt'_eq]
  simp only [if_true]
  refine wpAny_bind (wpAny_cRoomFor hu ?_)
  refine wpAny_bind (wpAny_callSpecialIfBound?_slot ta PySem.F.slot_tuple_lt (call_meets PySem.F.slot_tuple_lt ta PySem.F.entry_tuple_lt (PySem.F.args_tuple_lt_2 _ _) (HT.tuple_lt_ints a b its its2 n n2 od od2 os os2 ns ms ia ib) ⟨ga, gb, ?_⟩))
  exact wpAny_truthy_bool h
theorem ti_cmp {vs : List Value} {k : Value → List Int} (hu : A.units < cLine) (hv : ∀ v ∈ vs, IsTI s.heap v (k v)) : SrtO.Cmp prog w A s oneType' (fun p => p.1 ∈ vs) (SrtO.lt2 fun v u => HT.lexLt (k v) (k u)) := by
  intro p q hp hq
  exact lt_ti (Q := fun r s' => s' = s ∧ r = HT.lexLt (k p.1) (k q.1)) (E := fun _ _ => False) hu (hv p.1 hp) (hv q.1 hq) ⟨rfl, rfl⟩
/-- the first item of each -/
theorem firstOf {v : Value} {ns : List Int} {Q : Option Value → Shared → Prop} (hv : IsTI s.heap v ns) (h : ∀ r, (ns = [] → r = none) → Q r s) : wpAny (model prog w) A (firstOfTuple' v) Q E s := by
  have tv : Looks (model prog w) s.heap (typeOf v) (.type "tuple") := hv.type
  obtain ⟨a, o, its, n, rfl, ga, ca, da, ia⟩ := hv
  rw [kas_first_eq]
  refine wpAny_bind (tv.here ?_)
  have e : (Value.type "tuple" != Value.type "tuple") = false := by first | rfl | decide
  rw [if_neg (by rw [e]; exact Bool.false_ne_true)]
  refine wpAny_bind (listItems_at ga da (wpAny_pure (h _ fun en => ?_)))
  subst en
  cases hl : its.toList with
  | nil =>
    rw [Array.getElem?_eq_none]
    rw [← Array.length_toList, hl]
    exact Nat.zero_le _
  | cons y ys => rw [hl] at ia; cases ia
inductive All2 {α β : Type} (P : α → β → Prop) : List α → List β → Prop
  | nil : All2 P [] []
  | cons {a b as bs} : P a b → All2 P as bs → All2 P (a :: as) (b :: bs)
theorem mapM_any {α : Type} (f : Value → Sem α) (P : Value → α → Prop) : ∀ (vs : List Value) {Q : List α → Shared → Prop}, (∀ v ∈ vs, ∀ (Q' : α → Shared → Prop), (∀ r, P v r → Q' r s) → wpAny (model prog w) A (f v) Q' E s) → (∀ rs, All2 P vs rs → Q rs s) → wpAny (model prog w) A (vs.mapM f) Q E s
  | [], Q, _, h => by rw [List.mapM_nil]; exact wpAny_pure (h [] .nil)
  | v :: vs, Q, hf, h => by
    rw [List.mapM_cons]
    refine wpAny_bind (hf v List.mem_cons_self _ fun r hr => ?_)
    refine wpAny_bind (mapM_any f P vs (fun v' m => hf v' (List.mem_cons_of_mem _ m)) fun rs hrs => ?_)
    exact wpAny_pure (h _ (.cons hr hrs))
theorem ti_kind {vs : List Value} {k : Value → List Int} {Q : SortKind → Shared → Prop} (h2 : 2 ≤ vs.length) (hv : ∀ v ∈ vs, IsTI s.heap v (k v)) (h0 : ∀ v, vs[0]? = some v → k v = []) (h : Q oneType' s) : wpAny (model prog w) A (keyKind' vs.toArray) Q E s := by
  obtain ⟨v₁, v₂, rest, rfl⟩ : ∃ v₁ v₂ rest, vs = v₁ :: v₂ :: rest := by
    match vs, h2 with
    | [], h2 => simp at h2
    | [_], h2 => simp at h2
    | v₁ :: v₂ :: rest, _ => exact ⟨v₁, v₂, rest, rfl⟩
  have hk := h0 v₁ rfl
  rw [keyKind'_eq, List.mapM_toArray, map_eq_pure_bind]
  refine wpAny_bind (wpAny_bind (mapM_any _ (fun v r => k v = [] → r = none) _ (fun v m Q' hq => firstOf (hv v m) hq) fun rs hrs => wpAny_pure ?_))
  cases hrs with
  | @cons _ r _ rs' h1 _ =>
    have e1 : r = none := h1 hk
    subst e1
    rw [if_neg (by simp), if_neg (by simp)]
    rw [oneTypeOnly'_eq, List.mapM_toArray, map_eq_pure_bind]
    refine wpAny_bind (wpAny_bind (wpAny_bind (kas_mapM (r := Value.type "tuple") _ (fun v m Q' hq => (hv v m).type.here hq) (wpAny_pure ?_))))
    have hall : ((List.map (fun _ => Value.type "tuple") (v₁ :: v₂ :: rest)).toArray.all fun x => x == Value.type "tuple") = true := by
      simp only [List.all_toArray, List.all_map, List.all_eq_true]
      intro _ _
      rfl
    have h0 : (List.map (fun _ => Value.type "tuple") (v₁ :: v₂ :: rest)).toArray[0]? = some (Value.type "tuple") := by simp
    rw [h0]
    simp only [hall, if_true]
    exact wpAny_pure (wpAny_pure h)
theorem ti_sortable {a : Addr} {vs : List Value} {k : Value → List Int} (h2 : 2 ≤ vs.length) (hu : A.units < cLine) (hv : ∀ v ∈ vs, IsTI s.heap v (k v)) (h0 : ∀ v, vs[0]? = some v → k v = []) (ha : ∀ v ∈ vs, v ≠ .ref a) :
    SrtO.SortableO prog w A s a vs fun v u => HT.lexLt (k v) (k u) := by
  intro h' keep
  have hv' : ∀ v ∈ vs, IsTI h' v (k v) := fun v hm => (hv v hm).keeps fun b o e g => keep b o (fun z => ha v hm (by rw [e, z])) g
  exact ⟨oneType', fun Q E hq => ti_kind (s := { s with heap := h' }) h2 hv' h0 hq, ti_cmp (s := { s with heap := h' }) hu hv'⟩
end
end VMC
namespace VL
open PySem PySem.Spec L2
open PyProof.Rows hiding St
/-- sorted(xs), xs a list of tuples of ints, the first one () -/
def rSortTI (K : PySem.W.Frag) : List V → Hp → L2.VK → Prop := fun vs H Q => ∃ (a : Addr) (ts : List Addr) (k : Addr → List Int), vs = [V.ref a] ∧ SqL K H a (ts.map V.ref) ∧ (∀ t ∈ ts, SqT K H t ((k t).map V.int)) ∧ (∀ t, ts[0]? = some t → k t = []) ∧
  ∀ (ts' : List Addr) (p : Addr), ts'.Perm ts → ts'.Pairwise (fun x y => HT.lexLt (k y) (k x) = false) → H p = none → Q (.ref p) (upd H p (.lst (ts'.map V.ref)))
theorem cr_sortTI {X : Cx} (hu : X.A.units + 64 < cLine) : CallR X (.builtin "sorted") (rSortTI X.K) := by
  intro pins s σ H vs us Q I r h
  obtain ⟨a, ts, k, rfl, hs, hk, h0, q⟩ := h
  obtain ⟨its, rv, hl, hz⟩ := I.list hs
  rw [Vals.ref1 r]
  have ei := nts_of rv
  have hv : ∀ u ∈ its, VMC.IsTI s.heap u (k (adO u)) := fun u hm => by
    rw [ei] at hm
    obtain ⟨t, ht, rfl⟩ := List.mem_map.mp hm
    obtain ⟨us, ru, ⟨o, ho, hc, n, hd⟩, _⟩ := I.tuple (hk t ht)
    exact ⟨t, o, us.toArray, n, rfl, ho, hc, hd, by show IntsAre us.toArray.toList (k t); simpa using ru.ints⟩
  have hz' : its.length ≤ sizeLine := by rw [← rv.length]; exact hz
  refine SrtO.sorted_ord (NtL.swo_lexL fun u => k (adO u)) hl.isList hz' (fun h2 h₁ a' ha' kk => ?_) fun out h1 h2 => ?_
  · refine VMC.ti_sortable (s := { s with heap := h₁ }) h2 (by show X.A.units + 1 + 1 < cLine; omega) (fun v hm => (hv v hm).keeps fun b o e g => (kk b o g).2) (fun v e => ?_) (fun v hm z => ?_)
    · rw [ei, List.getElem?_map] at e
      cases ht : ts[0]? with
      | none => rw [ht] at e; cases e
      | some t =>
        rw [ht] at e
        have e := Option.some.inj e
        subst e
        exact h0 t ht
    · obtain ⟨b, o, _, _, e, g, _⟩ := hv v hm
      rw [z] at e
      have e := Value.ref.inj e
      exact (kk b o g).1 e.symm
  · obtain ⟨ep, he'⟩ := PyProof.Rows.sortedAll_at s.heap its out.toArray
    have eo : out = (out.map adO).map Value.ref := ref_map fun u hm => by
      have hm' : u ∈ its := h2.perm.mem_iff.mp hm
      rw [ei] at hm'
      obtain ⟨t, _, e⟩ := List.mem_map.mp hm'
      exact ⟨t, e.symm⟩
    have hp : (out.map adO).Perm ts := by
      have p1 := h2.perm.map adO
      rw [ei, ad_map] at p1
      exact p1
    have hs : (out.map adO).Pairwise (fun p q => HT.lexLt (k q) (k p) = false) := List.pairwise_map.mpr (h1.imp fun {x y} z => z)
    have hlen : ((out.map adO).map V.ref).length ≤ sizeLine := by
      rw [List.length_map, hp.length_eq]
      rw [List.length_map] at hz
      exact hz
    have rvo : Vals ((out.map adO).map V.ref) out := by
      have z := of_nts (out.map adO)
      rw [← eo] at z
      exact z
    exact ⟨.ref _, upd H (s.heap.objs.size + 1) (.lst ((out.map adO).map V.ref)), I.laid (t' := s.toks) (fun _ _ => PyProof.Rows.sortedAll_old) (Nat.le_succ _) ⟨hlen, out, ep, rvo, he'⟩, rfl, q _ _ hp hs (I.hok.fresh (Nat.le_succ _))⟩
section
variable [KK : KLs] [XX : XW]
/-- a list of tuples of ints -/
def tups? : List D → Option (List (List Int))
  | [] => some []
  | .nd .tup xs :: ds => match ints? xs, tups? ds with
    | some ns, some r => some (ns :: r)
    | _, _ => none
  | _ :: _ => none
def tiD (ns : List Int) : D := .tup (ns.map .int)
def dSortedT : RNv := fun ds Q => match ds with
  | [.nd (.lst _) xs] => match tups? xs with
    | some r => r.head? = some [] ∧ ∀ ms : List (List Int), ms.Perm r → ms.Pairwise (fun x y => HT.lexLt y x = false) → Q (.lst .o (ms.map tiD))
    | none => False
  | _ => False
theorem tups_of : ∀ {ds : List D} {r : List (List Int)}, tups? ds = some r → ds = r.map tiD
  | [], r, h => by cases h; rfl
  | .nd .tup xs :: ds, r, h => by
    unfold tups? at h
    split at h
    · rename_i ns r' e1 e2
      cases h
      rw [tups_of e2, ints_of e1]; rfl
    · cases h
  | .nd (.lst _) _ :: _, _, h => nomatch h
  | .nd (.dct _ _) _ :: _, _, h => nomatch h
  | .nd (.dtt _ _) _ :: _, _, h => nomatch h
  | .nd (.obj _ _) _ :: _, _, h => nomatch h
  | .nd (.slf _ _ _) _ :: _, _, h => nomatch h
  | .nd (.lsk _) _ :: _, _, h => nomatch h
  | .non :: _, _, h => nomatch h
  | .bl _ :: _, _, h => nomatch h
  | .int _ :: _, _, h => nomatch h
  | .str _ :: _, _, h => nomatch h
  | .cst _ :: _, _, h => nomatch h
theorem tups_map : ∀ r : List (List Int), tups? (r.map tiD) = some r
  | [] => rfl
  | ns :: r => by
    rw [List.map_cons]
    show (match ints? (ns.map .int), tups? (r.map tiD) with | some ns, some r => some (ns :: r) | _, _ => none) = _
    rw [tups_map r, ints_map]
theorem dens_tups {Z B H : Hp} (s : Same B H) : ∀ {r : List (List Int)} {vs : List V} {F : List Addr}, Dens Z B H (r.map tiD) vs F → ∃ ts : List Addr, vs = ts.map V.ref ∧ ts.length = r.length ∧ ∀ (i : Nat) t ns, ts[i]? = some t → r[i]? = some ns → B t = some (.tup (ns.map V.int))
  | [], vs, F, q => ⟨[], q.1, rfl, fun i t ns e _ => by simp at e⟩
  | ns :: r, _, F, ⟨v, ws, G1, G2, e, x, q, f⟩ => by
    obtain ⟨ts, e1, e2, e3⟩ := dens_tups s q
    obtain ⟨a, us, e4, t4, b4, y4⟩ := den_tup s x
    rw [dens_ints y4] at b4
    refine ⟨a :: ts, by rw [e, e4, e1]; rfl, by rw [List.length_cons, List.length_cons, e2], fun i t ms h1 h2 => ?_⟩
    cases i with
    | zero => cases h1; cases h2; exact b4
    | succ i => exact e3 i t ms h1 h2
def vInt : V → Int
  | .int i => i
  | _ => 0
def kAt (B : Hp) (t : Addr) : List Int := match B t with
  | some (.tup us) => us.map vInt
  | _ => []
theorem kAt_eq {B : Hp} {t : Addr} {ns : List Int} (h : B t = some (.tup (ns.map V.int))) : kAt B t = ns := by
  unfold kAt
  rw [h]
  show (ns.map V.int).map vInt = ns
  rw [List.map_map]
  exact (List.map_congr_left fun _ _ => rfl).trans (List.map_id ns)
theorem tups_dens {Z B H : Hp} : ∀ {ts : List Addr}, (∀ t ∈ ts, B t = some (.tup ((kAt B t).map V.int))) → Dens Z B H ((ts.map (kAt B)).map tiD) (ts.map V.ref) []
  | [], _ => ⟨rfl, rfl⟩
  | t :: ts, h => ⟨.ref t, ts.map V.ref, [], [], rfl, ⟨t, _, _, [], rfl, h t List.mem_cons_self, rfl, int_dens _, rfl⟩, tups_dens fun t' m => h t' (List.mem_cons_of_mem _ m), rfl⟩
theorem lr_sortedT : LRn (fun vs H Q => rSortTI KK.K vs H Q) dSortedT := by
  intro B0 Z B H σ ρ ds vs F Qd Q R q h k
  unfold dSortedT at h
  split at h
  · split at h
    · rename_i f xs r e
      obtain ⟨h0, h⟩ := h
      obtain ⟨v, e1, x⟩ := dens_one q
      obtain ⟨a, ws, G, e2, t, y, _⟩ := den_lst R.sub x
      subst e2
      rw [tups_of e] at y
      obtain ⟨ts, ew, el, et⟩ := dens_tups R.sub y
      subst ew
      have hk : ts.map (kAt B) = r := by
        apply List.ext_getElem?
        intro i
        rw [List.getElem?_map]
        cases ht : ts[i]? with
        | none =>
          have := List.getElem?_eq_none_iff.mp ht
          rw [List.getElem?_eq_none (by omega)]; rfl
        | some a =>
          have hi := (List.getElem?_eq_some_iff.mp ht).1
          have hr : r[i]? = some r[i] := List.getElem?_eq_getElem (by omega)
          rw [hr]
          exact congrArg some (kAt_eq (et i a _ ht hr))
      have hb : ∀ t ∈ ts, B t = some (.tup ((kAt B t).map V.int)) := fun t m => by
        obtain ⟨i, hi⟩ := List.mem_iff_getElem?.mp m
        have hi' := (List.getElem?_eq_some_iff.mp hi).1
        have hr : r[i]? = some r[i] := List.getElem?_eq_getElem (by omega)
        have z := et i t _ hi hr
        rw [kAt_eq z]; exact z
      refine ⟨a, ts, kAt B, e1, t, fun t m => SqT.of (R.sub _ _ (hb t m)), fun t ht => ?_, fun ts' p pm pw hp => k _ _ _ (out_lst ?_ hp) (h (ts'.map (kAt B)) ?_ ?_)⟩
      · have hi' := (List.getElem?_eq_some_iff.mp ht).1
        have hr : r[0]? = some r[0] := List.getElem?_eq_getElem (by omega)
        rw [kAt_eq (et 0 t _ ht hr)]
        rw [List.head?_eq_getElem?, hr] at h0
        exact Option.some.inj h0
      · exact ⟨B, [], Grow.refl R.sub, tups_dens fun t m => hb t (pm.mem_iff.mp m), List.nodup_nil, fun a h => nomatch h⟩
      · rw [← hk]; exact pm.map _
      · exact List.pairwise_map.mpr pw
    · exact h.elim
  · exact h.elim
theorem e_sortedT {X : Cx} {p pos : Pos} {e : Expr} {es : List Expr} {T : TA} {t : TAv} {n : Nat} (hr : Room n X.A) (hm : X.mg "sorted" = none) (ha : VA X (e :: es) T t) (hg : Gl X "sorted" := by rfl) (hs : St1 X e es pos := by exact ⟨rfl, rfl⟩) (hK : X.K = KK.K := by rfl) : VE X (.Call (.Name "sorted" p) (e :: es) [] pos) (tCB (rSortTI KK.K) T) (vB dSortedT t) := by
  rw [← hK]
  exact e_callB (cr_sortTI (by have := hr.un; omega)) (by rw [hK]; exact lr_sortedT) hg hm (by decide +kernel) ha (by decide) (by decide) hs.1 hs.2
/-! ### {k: v}, k a tuple -/
def tDisp1 (tk tv : TE) : TE := fun σ H Q => ∀ p, H p = none → tPairs [(tk, tv)] σ (upd H p (.dT [])) fun ps H2 => H2 p = some (.dT []) ∧ ∃ b k y, ps = [(.ref b, y)] ∧ H2 b = some (.tup (k.map kV)) ∧ Q (.ref p) (upd H2 p (.dT [(k, y)]))
omit KK XX in
theorem pe_disp1 {X : Cx} {pos : Pos} {ek ev : Expr} {tk tv : TE} (hu : X.A.units < cLine) (hk : PE X ek tk) (hv : PE X ev tv) : PE X (.Dict [some ek] [ev] pos) (tDisp1 tk tv) := by
  refine ⟨fun pins s σ H Q I q => ?_⟩
  have hn := I.hok.fresh (Nat.le_refl s.heap.objs.size)
  have I1 := I.laid (a := s.heap.objs.size) (o := .dT []) (h' := s.heap.push { cls := .type "dict", data := .dict #[] }) (t' := s.toks) (fun _ _ q => Heap.get?_push_of_some _ q) (Nat.le_refl _) (dt_empty s.heap I.big)
  have hp := pairTrees_length [some ek] [ev] X.env pos rfl rfl
  have hne : pairTrees [some ek] [ev] X.env pos ≠ [] := fun he => by rw [he] at hp; cases hp
  rw [arm_eval_Dict, zip_pairTrees [some ek] [ev] X.env pos rfl rfl, dictDisplay_pairs (pairTrees [some ek] [ev] X.env pos) hne (by rw [hp]; show 1 < 17; decide)]
  refine wpAny_bind (wpAny_standAt (wpAny_bind (wpAny_subDictH (knd := tupleKind (mixKind X.prog X.w)) (Q := fun d s' => wpAny (model X.prog X.w) X.A (pure (Value.ref d)) (EP X pins σ Q) X.xe s') hu (by rw [hp]; show 1 ≤ 15; decide) ?_)))
  refine thn ((pps_cons hk hv pps_nil).run pins _ σ _ _ I1 (q _ hn)) fun ws s2 ⟨ps, H2, I2, rel, e, b, k, y, ep, eb, q2⟩ => ?_
  subst ep
  obtain ⟨z, hd, xs, r0, dd⟩ := dt_rd I2.hok (.inl e)
  cases r0
  cases rel with
  | @cons a c as bs h t =>
    cases t
    obtain ⟨h1, h2⟩ := h
    obtain ⟨kv, vv⟩ := c
    have h1 : kv = Value.ref b := h1
    have h2 : RelV y vv := h2
    subst h1
    refine ⟨[(k, b, vv)], ⟨rfl, rfl, key_of I2.hok eb, True.intro⟩, dd, fun h' tk' dd' hs => wpAny_pure ⟨.ref s.heap.objs.size, _, ?_, rfl, q2⟩⟩
    obtain ⟨qo, es, ep, hq, g2, g3, g4, _, g5⟩ := dd'
    refine d_write I2 (by rw [e]; exact True.intro) hs ⟨qo, hq⟩ ⟨?_, hd, _, .cons ⟨rfl, ?_, h2⟩ .nil, qo, es, ep, hq, g2, g3, g4, g5⟩
    · show 1 ≤ sizeLine
      rw [sizeLine_eq]; omega
    · show upd H2 s.heap.objs.size (.dT [(k, y)]) b = some (.tup (k.map kV))
      rw [upd_ne (ne_of eb e (fun z => nomatch z))]
      exact eb
def vDisp1 (tk tv : TEv) : TEv := fun ρ Q => tk ρ fun x => tv ρ fun y => match x.tkey with
  | some k => y.all puF = true ∧ Q (.dtt .o [k] [y])
  | none => False
theorem lk_disp1 {Tk Tv : TE} {tk tv : TEv} (lk : LE Tk tk) (lv : LE Tv tv) : LE (tDisp1 Tk Tv) (vDisp1 tk tv) := by
  intro B0 Z B H σ ρ Qd Q R h k p hp
  have g0 := Grow.new (o := HO.dT []) R.sub hp
  have R0 := R.grow g0
  refine lk B0 Z B _ σ ρ _ _ R0 h fun x vx H1 ⟨B1, F, g, dx, n, fr⟩ h => ?_
  refine lv B0 Z B1 H1 σ ρ _ _ (R0.grow g) h fun y vy H2 ⟨B2, F2, g2, dy, n2, fr2⟩ h => ?_
  split at h
  · rename_i k' e1
    obtain ⟨hp2, h⟩ := h
    have e2 : F2 = [] := Den.nofp y vy F2 (D.all_imp (p := puF) (q := coF) (fun f e => by cases f <;> first | rfl | exact nomatch e) y hp2) dy
    subst e2
    have hx := dx.grow g2.sb g2.sh
    obtain ⟨b, eb, hb⟩ := D.tkey_den g2.sub hx e1
    have gg := g.trans g2
    have h2 : H2 p = some (.dT []) := gg.sh _ _ upd_same
    have bp : B p = none := R.sub.free hp
    have bp2 : B2 p = none := gg.old p _ upd_same (fun _ z => nomatch z) bp
    refine ⟨h2, b, k', vy, by rw [eb], hb, k _ _ _ ?_ h⟩
    have kH : ∀ c, c ≠ p → upd H2 p (.dT [(k', vy)]) c = H2 c := fun c hc => upd_ne hc
    have g3 : Grow B H B2 (upd H2 p (.dT [(k', vy)])) := by
      refine ⟨gg.sb, fun c o e => ?_, fun c o e => ?_, fun c o e nt nb => ?_⟩
      · have hc : c ≠ p := fun z => by subst z; rw [hp] at e; cases e
        rw [kH c hc]; exact gg.sh _ _ (by rw [upd_ne hc]; exact e)
      · have hc : c ≠ p := fun z => by subst z; rw [bp2] at e; cases e
        rw [kH c hc]; exact gg.sub _ _ e
      · have hc : c ≠ p := fun z => by subst z; rw [hp] at e; cases e
        exact gg.old c o (by rw [upd_ne hc]; exact e) nt nb
    have y2 : Den Z B2 (upd H2 p (.dT [(k', vy)])) y vy [] := Den.fixed (Same.refl _) y vy [] (D.all_imp (p := puF) (q := coF) (fun f e => by cases f <;> first | rfl | exact nomatch e) y hp2) dy
    refine ⟨B2, [p], g3, ⟨p, _, [vy], [], rfl, upd_same, ⟨rfl, rfl⟩, ⟨vy, [], [], [], rfl, y2, ⟨rfl, rfl⟩, rfl⟩, rfl⟩, by simp, fun c hc => ?_⟩
    have ec : c = p := by simpa using hc
    subst ec
    exact ⟨bp2, hp⟩
  · exact h.elim
theorem e_disp1 {X : Cx} {pos : Pos} {ek ev : Expr} {Tk Tv : TE} {tk tv : TEv} {n : Nat} (hr : Room n X.A) (hk : VE X ek Tk tk) (hv : VE X ev Tv tv) : VE X (.Dict [some ek] [ev] pos) (tDisp1 Tk Tv) (vDisp1 tk tv) := ⟨pe_disp1 (by have := hr.un; omega) hk.pe hv.pe, lk_disp1 hk.lk hv.lk⟩
end
end VL

/-! ## VMD -/
/-! VL: sum of a tuple of ints. -/
namespace VL
open PySem PySem.Spec L2
open PyProof.Rows hiding St
section
variable {prog : Program} {w : World} {A : Around} {E : Value → Shared → Prop} {s : Shared} {l : Addr} {its : List Value} {ns : List Int} {Q : Value → Shared → Prop}
theorem sum_rawT (hh : A.handled = none) (hl : IsTup s.heap l its.toArray) (hi : IntsAre its ns)
    (h : ∀ h' tk t', (∀ b o, s.heap.get? b = some o → h'.get? b = some o) → Q (.int ns.sum t') { s with heap := h', toks := tk }) : wpAny (model prog w) A (call (.builtin "sum") [.ref l]) Q E s := by
  obtain ⟨xs, e⟩ := hi.allInts.items
  have hn : numsOf (intItems xs).toList = ns := by rw [← e]; exact hi.numsOf
  rw [nums_intItems] at hn
  subst hn
  rw [e] at hl
  have hlt : l < s.heap.objs.size := by obtain ⟨_, e, _⟩ := hl; exact Heap.lt_size e
  refine call_sum_walkG (iter_tuple hl ?_)
  refine ⟨_, _, _, _, _, _, numAt xs, rfl, Walks.tuple (A := A.in1) hh _ l (Nat.ne_of_lt hlt) (intItems xs), ⟨⟨_, Heap.get?_push_size _ rfl, rfl, rfl⟩, hl.push _⟩, ?_, (fun _ _ => intItems_at), fun h' tk t' hk => ?_⟩
  · intro b hb
    show b < (s.heap.push _).objs.size
    rw [Heap.size_push]
    rcases List.mem_cons.mp hb with rfl | hb
    · exact Nat.lt_succ_self _
    · rw [List.mem_singleton.mp hb]; exact Nat.lt_succ_of_lt hlt
  · have := h h' tk t' (fun b o e => hk b o (fun hm => by
      rw [List.mem_singleton.mp hm] at e
      exact absurd (Heap.lt_size e) (Nat.lt_irrefl _)) (Heap.get?_push_of_some _ e))
    rw [preSum_eq, List.take_of_length_le (by simp [intItems])]
    simpa [intItems] using this
end
variable [KK : KLs] [XX : XW]
def rSumT (K : PySem.W.Frag) : List V → Hp → L2.VK → Prop := fun vs H Q => ∃ (a : Addr) (ns : List Int), vs = [V.ref a] ∧ SqT K H a (ns.map V.int) ∧ Q (.int ns.sum) H
theorem cr_sumT {X : Cx} (hc : X.calm = true) : CallR X (.builtin "sum") (rSumT X.K) := by
  intro pins s σ H vs us Q I r h
  obtain ⟨a, ns, rfl, hs, q⟩ := h
  obtain ⟨its, rv, hl, _⟩ := I.tuple hs
  rw [Vals.ref1 r]
  exact sum_rawT (I.ok.hd hc) hl rv.ints fun h' tk t' hk => ⟨.int _, H, I.kept hk, ⟨_, rfl⟩, q⟩
def dSumT : RNv := fun ds Q => match ds with
  | [.nd .tup xs] => match ints? xs with
    | some ns => Q (.int ns.sum)
    | none => False
  | _ => False
theorem lr_sumT : LRn (rSumT KK.K) dSumT := by
  intro B0 Z B H σ ρ ds vs F Qd Q R q h k
  unfold dSumT at h
  split at h
  · split at h
    · rename_i xs ns e
      obtain ⟨v, e1, x⟩ := dens_one q
      obtain ⟨a, ws, e2, t, b, y⟩ := den_tup R.sub x
      subst e2
      rw [ints_of e] at y
      rw [dens_ints y] at t
      exact ⟨a, ns, e1, SqT.of t, k _ _ _ (Out.of R.sub den_int) h⟩
    · exact h.elim
  · exact h.elim
theorem e_sumT {X : Cx} {e : Expr} {es : List Expr} {p pos : Pos} {T : TA} {t : TAv} (hc : X.calm = true) (hm : X.mg "sum" = none) (ha : VA X (e :: es) T t) (hg : Gl X "sum" := by rfl) (hs : St1 X e es pos := by exact ⟨rfl, rfl⟩) (hK : X.K = KK.K := by rfl) : VE X (.Call (.Name "sum" p) (e :: es) [] pos) (tCB (rSumT KK.K) T) (vB dSumT t) := by
  rw [← hK]
  exact e_callB (cr_sumT hc) (by rw [hK]; exact lr_sumT) hg hm (by decide +kernel) ha (by decide) (by decide) hs.1 hs.2
end VL

/-! ## K27_t -/
namespace K27
open PySem PySem.Spec L2 VL
open PyProof.Rows hiding St
variable [KK : KLs]
def t_law_draw  : TSv :=
  (vSeq (vAsgL 3 (vB dMax2 (vCons (vC (.int 1)) (vCons (vB dMin2 (vCons (vB dLen (vCons (vVar 0) vNil)) (vCons (vC (.int 63)) vNil))) vNil))))
    (vSeq (vAsgL 4 (vC (.int 0)))
    (vSeq (vIf (vTest (vOp dGt (vB dLen (vCons (vVar 0) vNil)) (vC (.int 0)))) (vAsgL 4 (vOp dIx (vVar 0) (vOp dMod (vB dInt1 (vCons (vVar 1) vNil)) (vVar 3)))) vNext)
    (vSeq (vIf (vTest (vOp dGe (vVar 4) (vOp dPow (vC (.int 10)) (vC (.int 18))))) (vSeq (vAsgL 5 (vVar 4))
    (vSeq (vFor (vRng1 (vB dMin2 (vCons (vOp dDiv (vVar 1) (vVar 3)) (vCons (vC (.int 60)) vNil)))) (vgName 6)
    (vAsgL 5 (vOp dDiv (vVar 5) (vC (.int 1000)))))
    (vIf (vTest (vOp dGt (vVar 5) (vC (.int 0)))) (vRet (vOp dMod (vB dInt1 (vCons (vOp dMod (vB dInt1 (vCons (vVar 5) vNil)) (vC (.int 1000))) vNil)) (vVar 2))) vNext))) vNext)
    (vSeq (vAsgL 7 (vOp dMod (vB dInt1 (vCons (vOp dAdd (vOp dAdd (vVar 4) (vOp dMul (vC (.int 7919)) (vVar 1))) (vC (.int 13))) vNil)) (vC (.int 2147483647))))
    (vSeq (vAsgL 7 (vOp dMod (vB dInt1 (vCons (vOp dMul (vVar 7) (vOp dAdd (vVar 7) (vC (.int 48271)))) vNil)) (vC (.int 2147483629))))
    (vSeq (vAsgL 7 (vOp dMod (vB dInt1 (vCons (vOp dAdd (vOp dMul (vVar 7) (vOp dAdd (vVar 7) (vC (.int 69621)))) (vOp dMul (vC (.int 31)) (vVar 1))) vNil)) (vC (.int 2147483647))))
    (vRet (vOp dMod (vB dInt1 (vCons (vOp dDiv (vVar 7) (vC (.int 9))) vNil)) (vVar 2))))))))))
abbrev N_law_draw : List Str := ["script", "k", "size", "cells", "cell", "rest", "turn", "mixed"]
def t_law_flow (P_law_draw : PV) : TSv :=
  (vSeq (vAsg 2 (vLst vNil))
    (vSeq (vFor (vRng1 (vCall 3 P_law_draw [] (vCons (vVar 0) (vCons (vVar 1) (vCons (vC (.int 3)) vNil))))) (vgName 3)
    (vSeq (vAsgL 4 (vOp dAdd (vC (.int 1)) (vCall 3 P_law_draw [] (vCons (vVar 0) (vCons (vOp dAdd (vOp dAdd (vVar 1) (vC (.int 1))) (vOp dMul (vC (.int 4)) (vVar 3))) (vCons (vC (.int 6)) vNil))))))
    (vSeq (vAsgL 5 (vOp dAdd (vVar 4) (vCall 3 P_law_draw [] (vCons (vVar 0) (vCons (vOp dAdd (vOp dAdd (vVar 1) (vC (.int 2))) (vOp dMul (vC (.int 4)) (vVar 3))) (vCons (vOp dSub (vC (.int 7)) (vVar 4)) vNil))))))
    (vApp 2 (vTup (vCons (vCall 3 P_law_draw [] (vCons (vVar 0) (vCons (vOp dAdd (vOp dAdd (vVar 1) (vC (.int 3))) (vOp dMul (vC (.int 4)) (vVar 3))) (vCons (vC (.int 3)) vNil)))) (vCons (vVar 4) (vCons (vVar 5) (vCons (vCall 3 P_law_draw [] (vCons (vVar 0) (vCons (vOp dAdd (vOp dAdd (vVar 1) (vC (.int 4))) (vOp dMul (vC (.int 4)) (vVar 3))) (vCons (vC (.int 3)) vNil)))) vNil)))))))))
    (vSeq (vAsgL 6 (vOp dAdd (vC (.int 1)) (vCall 3 P_law_draw [] (vCons (vVar 0) (vCons (vOp dAdd (vVar 1) (vC (.int 9))) (vCons (vC (.int 8)) vNil))))))
    (vSeq (vFrz 2 (vAsgL 7 (vTup (vCons (vVar 2) (vCons (vVar 6) (vCons (vOp dAdd (vVar 6) (vCall 3 P_law_draw [] (vCons (vVar 0) (vCons (vOp dAdd (vVar 1) (vC (.int 10))) (vCons (vOp dSub (vC (.int 9)) (vVar 6)) vNil))))) vNil))))))
    (vSeq (vAsgL 8 (vC (.str "abcdefghijklmnopqrstuvwxyz0123456789")))
    (vSeq (vAsgL 9 (vJoin (vC (.str "")) (vLc (vRng1 (vOp dAdd (vC (.int 1)) (vCall 3 P_law_draw [] (vCons (vVar 0) (vCons (vOp dAdd (vVar 1) (vC (.int 11))) (vCons (vC (.int 12)) vNil)))))) (vgName 3) vYes (vOp dIx (vVar 8) (vCall 3 P_law_draw [] (vCons (vVar 0) (vCons (vOp dAdd (vOp dAdd (vVar 1) (vC (.int 14))) (vVar 3)) (vCons (vC (.int 36)) vNil))))) [3])))
    (vRet (vTup (vCons (vVar 9) (vCons (vVar 7) (vCons (vCall 3 P_law_draw [] (vCons (vVar 0) (vCons (vOp dAdd (vVar 1) (vC (.int 12))) (vCons (vC (.int 7)) vNil)))) (vCons (vOp dAdd (vC (.int 1)) (vCall 3 P_law_draw [] (vCons (vVar 0) (vCons (vOp dAdd (vVar 1) (vC (.int 30))) (vCons (vC (.int 3)) vNil))))) (vCons (vOp dAdd (vC (.int 1)) (vCall 3 P_law_draw [] (vCons (vVar 0) (vCons (vOp dAdd (vVar 1) (vC (.int 31))) (vCons (vC (.int 8)) vNil))))) vNil)))))))))))))
abbrev N_law_flow : List Str := ["script", "at", "dishes", "k", "least", "most", "eaten", "course", "signs", "text"]
def t_between  : TSv :=
  (vRet (vAnd (vOp dLe (vVar 1) (vVar 0)) (vOp dLe (vVar 0) (vVar 2))))
abbrev N_between : List Str := ["value", "least", "most"]
def t_is_name (P_between : PV) : TSv :=
  (vSeq (vIf (vNotT (vTest (vCall 3 P_between [] (vCons (vB dLen (vCons (vVar 0) vNil)) (vCons (vC (.int 1)) (vCons (vC (.int 12)) vNil)))))) (vRet (vC (.bl false))) vNext)
    (vSeq (vFor (vIt (vVar 0)) (vgName 1)
    (vIf (vTest (vOp (dSgn true) (vVar 1) (vC (.str "abcdefghijklmnopqrstuvwxyz0123456789")))) (vRet (vC (.bl false))) vNext))
    (vRet (vC (.bl true)))))
abbrev N_is_name : List Str := ["text", "sign"]
def t_Stream_init (P_between : PV) (P_is_name : PV) (C_Stream : Addr) : TSv :=
  (vSeq (vIf (vNotT (vTest (vCall 1 P_is_name [] (vCons (vVar 1) vNil)))) vNever vNext)
    (vSeq (vIf (vNotT (vTest (vCall 3 P_between [] (vCons (vVar 3) (vCons (vC (.int 0)) (vCons (vC (.int 6)) vNil)))))) vNever vNext)
    (vSeq (vIf (vNotT (vTest (vCall 3 P_between [] (vCons (vVar 4) (vCons (vC (.int 1)) (vCons (vC (.int 3)) vNil)))))) vNever vNext)
    (vSeq (vIf (vNotT (vTest (vCall 3 P_between [] (vCons (vVar 5) (vCons (vC (.int 1)) (vCons (vC (.int 8)) vNil)))))) vNever vNext)
    (vSeq (vSetF 0 (fun C => C = C_Stream) "name" (vVar 1))
    (vSeq (vSetF 0 (fun C => C = C_Stream) "course" (vVar 2))
    (vSeq (vSetF 0 (fun C => C = C_Stream) "due" (vVar 3))
    (vSeq (vSetF 0 (fun C => C = C_Stream) "many" (vVar 4))
    (vSetF 0 (fun C => C = C_Stream) "window" (vVar 5))))))))))
abbrev N_Stream_init : List Str := ["self", "name", "course", "due", "many", "window"]
def t_Dish_init (P_between : PV) (C_Dish : Addr) : TSv :=
  (vSeq (vIf (vNotT (vTest (vCall 3 P_between [] (vCons (vVar 1) (vCons (vC (.int 0)) (vCons (vC (.int 2)) vNil)))))) vNever vNext)
    (vSeq (vIf (vNotT (vTest (vCall 3 P_between [] (vCons (vVar 2) (vCons (vC (.int 1)) (vCons (vC (.int 6)) vNil)))))) vNever vNext)
    (vSeq (vIf (vNotT (vTest (vCall 3 P_between [] (vCons (vVar 3) (vCons (vVar 2) (vCons (vC (.int 6)) vNil)))))) vNever vNext)
    (vSeq (vIf (vNotT (vTest (vCall 3 P_between [] (vCons (vVar 4) (vCons (vC (.int 0)) (vCons (vC (.int 2)) vNil)))))) vNever vNext)
    (vSeq (vSetF 0 (fun C => C = C_Dish) "station" (vVar 1))
    (vSeq (vSetF 0 (fun C => C = C_Dish) "least" (vVar 2))
    (vSeq (vSetF 0 (fun C => C = C_Dish) "most" (vVar 3))
    (vSetF 0 (fun C => C = C_Dish) "keep" (vVar 4)))))))))
abbrev N_Dish_init : List Str := ["self", "station", "least", "most", "keep"]
def t_Course_init (P_between : PV) (C_Course : Addr) : TSv :=
  (vSeq (vIf (vTest (vOp dGt (vB dLen (vCons (vVar 1) vNil)) (vC (.int 2)))) vNever vNext)
    (vSeq (vIf (vNotT (vTest (vCall 3 P_between [] (vCons (vVar 2) (vCons (vC (.int 1)) (vCons (vC (.int 8)) vNil)))))) vNever vNext)
    (vSeq (vIf (vNotT (vTest (vCall 3 P_between [] (vCons (vVar 3) (vCons (vVar 2) (vCons (vC (.int 8)) vNil)))))) vNever vNext)
    (vSeq (vSetF 0 (fun C => C = C_Course) "dishes" (vB dTuple (vCons (vVar 1) vNil)))
    (vSeq (vSetF 0 (fun C => C = C_Course) "eat_least" (vVar 2))
    (vSetF 0 (fun C => C = C_Course) "eat_most" (vVar 3)))))))
abbrev N_Course_init : List Str := ["self", "dishes", "eat_least", "eat_most"]
def kc0_gv : List D → List D → List D := fun ds es => match ds, es with
  | [a0, a1, a2], [k0] => [a0, a1, a2, k0]
  | _, _ => []
def kc1_gv : List D → List D → List D := fun ds es => match ds, es with
  | [a0, a1], [k0, k1, k2] => [a0, a1, k0, k1, k2]
  | _, _ => []
def t_law_stream (P_Course_init : PI') (P_Dish_init : PI') (P_Stream_init : PI') (C_Course : Addr) (C_Dish : Addr) (C_Stream : Addr) : TSv :=
  (vSeq (vAsgL 1 (vLc (vIt (vOp dIx (vOp dIx (vVar 0) (vC (.int 1))) (vC (.int 0)))) (vgName 2) vYes (vMake 4 3 1 P_Dish_init C_Dish kc0_gv (vCons (vOp dIx (vVar 2) (vC (.int 0))) (vCons (vOp dIx (vVar 2) (vC (.int 1))) (vCons (vOp dIx (vVar 2) (vC (.int 2))) vNil))) (vCons (vOp dIx (vVar 2) (vC (.int 3))) vNil)) [2]))
    (vRet (vMake 5 2 3 P_Stream_init C_Stream kc1_gv (vCons (vOp dIx (vVar 0) (vC (.int 0))) (vCons (vMake0 3 P_Course_init C_Course [] (vCons (vVar 1) (vCons (vOp dIx (vOp dIx (vVar 0) (vC (.int 1))) (vC (.int 1))) (vCons (vOp dIx (vOp dIx (vVar 0) (vC (.int 1))) (vC (.int 2))) vNil)))) vNil)) (vCons (vOp dIx (vVar 0) (vC (.int 2))) (vCons (vOp dIx (vVar 0) (vC (.int 3))) (vCons (vOp dIx (vVar 0) (vC (.int 4))) vNil))))))
abbrev N_law_stream : List Str := ["told", "dishes", "dish"]
def t_law_numbers  : TSv :=
  (vSeq (vAsg 1 (vDisp1 (vB dTuple (vCons (vLc (vRng1 (vOp dSub (vOp dIx (vVar 0) (vC (.int 4))) (vC (.int 1)))) (vgName 8) vYes (vC (.int 0)) [8]) vNil)) (vC (.int 1))))
    (vSeq (vAsg 2 (vLst (vCons (vC (.int 1)) vNil)))
    (vSeq (vFor (vRng1 (vC (.int 40))) (vgName 3)
    (vSeq (vAsg 4 (vTct0))
    (vSeq (vFor (vIt (vB dListT (vCons (vVar 1) vNil))) (vgName 5)
    (vFor (vIt (vLst (vCons (vC (.int 0)) (vCons (vC (.int 1)) vNil)))) (vgName 6)
    (vIf (vTest (vOp dLe (vOp dAdd (vB dSumT (vCons (vVar 5) vNil)) (vVar 6)) (vOp dIx (vVar 0) (vC (.int 3))))) (vSeq (vAsgL 7 (vSl (vOp dAdd (vVar 5) (vTup (vCons (vVar 6) vNil))) (vPt (vC (.int 1))) vNo))
    (vTPut 4 (vVar 7) (vOp dAdd (vTGet2 (vVar 4) (vVar 7) (vC (.int 0))) (vTGet (vVar 1) (vVar 5))))) vNext)))
    (vSeq (vMove 1 4)
    (vApp 2 (vB dSum (vCons (vLockT 1 (vLc (vItT (vVar 1)) (vgName 5) vYes (vTGet (vVar 1) (vVar 5)) [5])) vNil)))))))
    (vRetV 2))))
abbrev N_law_numbers : List Str := ["told", "counts", "numbers", "tick", "later", "bits", "bit", "then", "k"]
def t_law_stands (C_Course : Addr) (C_Dish : Addr) (C_Stream : Addr) : TSv :=
  (vSeq (vAsgL 2 (vLc (vIt (vFld (fun C => C = C_Course) (vFld (fun C => C = C_Stream) (vVar 0) "course") "dishes")) (vgName 4) vYes (vTup (vCons (vFld (fun C => C = C_Dish) (vVar 4) "station") (vCons (vFld (fun C => C = C_Dish) (vVar 4) "least") (vCons (vFld (fun C => C = C_Dish) (vVar 4) "most") (vCons (vFld (fun C => C = C_Dish) (vVar 4) "keep") vNil))))) [4]))
    (vSeq (vAsgL 3 (vTup (vCons (vVar 2) (vCons (vFld (fun C => C = C_Course) (vFld (fun C => C = C_Stream) (vVar 0) "course") "eat_least") (vCons (vFld (fun C => C = C_Course) (vFld (fun C => C = C_Stream) (vVar 0) "course") "eat_most") vNil)))))
    (vRet (vOp dEq (vTup (vCons (vFld (fun C => C = C_Stream) (vVar 0) "name") (vCons (vVar 3) (vCons (vFld (fun C => C = C_Stream) (vVar 0) "due") (vCons (vFld (fun C => C = C_Stream) (vVar 0) "many") (vCons (vFld (fun C => C = C_Stream) (vVar 0) "window") vNil)))))) (vVar 1)))))
abbrev N_law_stands : List Str := ["made", "told", "dishes", "course", "dish"]
def t_law_row_keeps  : TSv :=
  (vSeq (vFor (vIt (vVar 1)) (vgName 2)
    (vIf (vTest (vOp dGt (vB dLen (vCons (vLc (vIt (vVar 1)) (vgName 3) (vAndT (vTest (vOp dLe (vVar 2) (vVar 3))) (vTest (vOp dLt (vVar 3) (vOp dAdd (vVar 2) (vOp dIx (vVar 0) (vC (.int 4))))))) (vVar 3) [3]) vNil)) (vOp dIx (vVar 0) (vC (.int 3))))) (vRet (vC (.bl false))) vNext))
    (vRet (vC (.bl true))))
abbrev N_law_row_keeps : List Str := ["told", "row", "tick", "one"]
def t_law_rows (P_law_row_keeps : PV) : TSv :=
  (vSeq (vAsgL 2 (vLst (vCons (vTup vNil) vNil)))
    (vSeq (vFor (vRng1 (vVar 1)) (vgName 3)
    (vAsgL 2 (vOp dAdd (vVar 2) (vLc (vIt (vVar 2)) (vgName 4) vYes (vOp dAdd (vVar 4) (vTup (vCons (vVar 3) vNil))) [4]))))
    (vRet (vB dSortedT (vCons (vLc (vIt (vVar 2)) (vgName 4) (vTest (vCall 2 P_law_row_keeps [] (vCons (vVar 0) (vCons (vVar 4) vNil)))) (vVar 4) [4]) vNil)))))
abbrev N_law_rows : List Str := ["told", "length", "rows", "tick", "row"]
def t_lets_come (C_Stream : Addr) : TSv :=
  (vSeq (vIf (vTest (vOp dLt (vB dLen (vCons (vVar 1) vNil)) (vFld (fun C => C = C_Stream) (vVar 0) "many"))) (vRet (vC (.bl true))) vNext)
    (vRet (vOp dGe (vOp dSub (vVar 2) (vOp dIx (vVar 1) (vOp dSub (vB dLen (vCons (vVar 1) vNil)) (vFld (fun C => C = C_Stream) (vVar 0) "many")))) (vFld (fun C => C = C_Stream) (vVar 0) "window"))))
abbrev N_lets_come : List Str := ["stream", "ticks", "tick"]
def t_order_rows (P_lets_come : PV) : TSv :=
  (vSeq (vAsg 2 (vLst vNil))
    (vSeq (vAsg 3 (vLst (vCons (vTup vNil) vNil)))
    (vSeq (vWhile (vTest (vOp dGt (vB dLen (vCons (vVar 3) vNil)) (vC (.int 0))))
    (vSeq (vPopTo 4 3)
    (vSeq (vApp 2 (vVar 4))
    (vSeq (vAsgL 5 (vC (.int 0)))
    (vSeq (vIf (vTest (vOp dGt (vB dLen (vCons (vVar 4) vNil)) (vC (.int 0)))) (vAsgL 5 (vOp dAdd (vOp dIx (vVar 4) (vUn dNeg (vC (.int 1)))) (vC (.int 1)))) vNext)
    (vFor (vRng3 (vOp dSub (vVar 1) (vC (.int 1))) (vOp dSub (vVar 5) (vC (.int 1)))) (vgName 6)
    (vIf (vTest (vCall 3 P_lets_come [] (vCons (vVar 0) (vCons (vVar 4) (vCons (vVar 6) vNil))))) (vApp 3 (vOp dAdd (vVar 4) (vTup (vCons (vVar 6) vNil)))) vNext)))))))
    (vRetV 2))))
abbrev N_order_rows : List Str := ["stream", "length", "rows", "waiting", "row", "first", "tick"]
def t_law_is_int  : TSv :=
  (vRet (vAnd (vB (dIsi "int") (vCons (vVar 0) (vCons (vC (.cst (.ty "int"))) vNil))) (vNot (vB (dIsi "bool") (vCons (vVar 0) (vCons (vC (.cst (.ty "bool"))) vNil))))))
abbrev N_law_is_int : List Str := ["value"]
def t_law_are_rows (P_law_is_int : PV) : TSv :=
  (vSeq (vIf (vOrT (vNotT (vTest (vB (dIsi "list") (vCons (vVar 0) (vCons (vC (.cst (.ty "list"))) vNil))))) (vTest (vOp dNe (vB dLen (vCons (vVar 0) vNil)) (vB dLen (vCons (vVar 1) vNil))))) (vRet (vC (.bl false))) vNext)
    (vSeq (vFor (vRng1 (vB dLen (vCons (vVar 1) vNil))) (vgName 2)
    (vSeq (vIf (vOrT (vNotT (vTest (vB (dIsi "tuple") (vCons (vOp dIx (vVar 0) (vVar 2)) (vCons (vC (.cst (.ty "tuple"))) vNil))))) (vTest (vOp dGt (vB dLen (vCons (vLc (vIt (vOp dIx (vVar 0) (vVar 2))) (vgName 3) (vNotT (vTest (vCall 1 P_law_is_int [] (vCons (vVar 3) vNil)))) (vVar 3) [3]) vNil)) (vC (.int 0))))) (vRet (vC (.bl false))) vNext)
    (vIf (vTest (vOp dNe (vOp dIx (vVar 0) (vVar 2)) (vOp dIx (vVar 1) (vVar 2)))) (vRet (vC (.bl false))) vNext)))
    (vRet (vC (.bl true)))))
abbrev N_law_are_rows : List Str := ["told", "rows", "k", "tick"]
def t_law_listed (P_law_are_rows : PV) (P_order_rows : PV) : TSv :=
  (vSeq (vAsg 3 (vCall 2 P_order_rows [] (vCons (vVar 0) (vCons (vVar 2) vNil))))
    (vSeq (vIf (vNotT (vTest (vCall 2 P_law_are_rows [] (vCons (vVar 3) (vCons (vVar 1) vNil))))) (vRet (vC (.bl false))) vNext)
    (vSeq (vClear 3)
    (vRet (vC (.bl true))))))
abbrev N_law_listed : List Str := ["made", "rows", "length", "told"]
def t_count_order_rows (C_Stream : Addr) : TSv :=
  (vSeq (vAsg 2 (vDisp1 (vTup vNil) (vC (.int 1))))
    (vSeq (vFor (vRng1 (vVar 1)) (vgName 3)
    (vSeq (vAsg 4 (vTct0))
    (vSeq (vForT 2 (vgTup 2 (vgCons (vgName 5) (vgCons (vgName 6) vgNil)))
    (vSeq (vAsgL 7 (vB dTuple (vCons (vLc (vIt (vVar 5)) (vgName 9) (vTest (vOp dGt (vVar 9) (vC (.int 1)))) (vOp dSub (vVar 9) (vC (.int 1))) [9]) vNil)))
    (vSeq (vTPut 4 (vVar 7) (vOp dAdd (vTGet2 (vVar 4) (vVar 7) (vC (.int 0))) (vVar 6)))
    (vIf (vTest (vOp dLt (vB dLen (vCons (vVar 5) vNil)) (vFld (fun C => C = C_Stream) (vVar 0) "many"))) (vSeq (vAsgL 8 (vB dTuple (vCons (vLc (vIt (vOp dAdd (vTup (vCons (vFld (fun C => C = C_Stream) (vVar 0) "window") vNil)) (vVar 5))) (vgName 9) (vTest (vOp dGt (vVar 9) (vC (.int 1)))) (vOp dSub (vVar 9) (vC (.int 1))) [9]) vNil)))
    (vTPut 4 (vVar 8) (vOp dAdd (vTGet2 (vVar 4) (vVar 8) (vC (.int 0))) (vVar 6)))) vNext))))
    (vMove 2 4))))
    (vRet (vB dSum (vCons (vListV (vVar 2)) vNil)))))
abbrev N_count_order_rows : List Str := ["stream", "length", "counts", "tick", "later", "rests", "number", "quiet", "busy", "rest"]
def t_law_counted (P_count_order_rows : PV) (P_law_is_int : PV) : TSv :=
  (vSeq (vAsgL 3 (vCall 2 P_count_order_rows [] (vCons (vVar 0) (vCons (vVar 2) vNil))))
    (vRet (vAnd (vCall 1 P_law_is_int [] (vCons (vVar 3) vNil)) (vOp dEq (vVar 3) (vOp dIx (vVar 1) (vVar 2))))))
abbrev N_law_counted : List Str := ["made", "numbers", "length", "told"]
def t_law (P_law_counted : PV) (P_law_draw : PV) (P_law_flow : PV) (P_law_listed : PV) (P_law_numbers : PV) (P_law_rows : PV) (P_law_stands : PV) (P_law_stream : PV) : TSv :=
  (vSeq (vAsgL 1 (vLst (vCons (vCall 2 P_law_flow [] (vCons (vVar 0) (vCons (vC (.int 0)) vNil))) (vCons (vCall 2 P_law_flow [] (vCons (vVar 0) (vCons (vC (.int 40)) vNil))) vNil))))
    (vSeq (vAsgL 2 (vLc (vIt (vVar 1)) (vgName 10) vYes (vCall 1 P_law_stream [] (vCons (vVar 10) vNil)) [10]))
    (vSeq (vAsg 3 (vLst (vCons (vCall 3 P_law_draw [] (vCons (vVar 0) (vCons (vC (.int 80)) (vCons (vC (.int 8)) vNil)))) (vCons (vCall 3 P_law_draw [] (vCons (vVar 0) (vCons (vC (.int 81)) (vCons (vC (.int 6)) vNil)))) vNil))))
    (vSeq (vIf (vTest (vOp dEq (vCall 3 P_law_draw [] (vCons (vVar 0) (vCons (vC (.int 82)) (vCons (vC (.int 8)) vNil)))) (vC (.int 0)))) (vSetIx 3 (vC (.int 0)) (vOp dAdd (vC (.int 8)) (vCall 3 P_law_draw [] (vCons (vVar 0) (vCons (vC (.int 83)) (vCons (vC (.int 3)) vNil)))))) vNext)
    (vSeq (vAsgL 4 (vLc (vIt (vVar 1)) (vgName 10) vYes (vCall 1 P_law_numbers [] (vCons (vVar 10) vNil)) [10]))
    (vSeq (vFor (vRng1 (vC (.int 3))) (vgName 5)
    (vFor (vRng1 (vC (.int 2))) (vgName 6)
    (vSeq (vAsgL 7 (vOp dIx (vVar 3) (vOp dMod (vB dInt1 (vCons (vOp dAdd (vVar 5) (vVar 6)) vNil)) (vC (.int 2)))))
    (vSeq (vAsgL 8 (vCall 2 P_law_rows [] (vCons (vOp dIx (vVar 1) (vVar 6)) (vCons (vVar 7) vNil))))
    (vSeq (vIf (vOrT (vNotT (vTest (vCall 3 P_law_listed [] (vCons (vOp dIx (vVar 2) (vVar 6)) (vCons (vVar 8) (vCons (vVar 7) vNil)))))) (vTest (vOp dNe (vOp dIx (vOp dIx (vVar 4) (vVar 6)) (vVar 7)) (vB dLen (vCons (vVar 8) vNil))))) (vRet (vC (.bl false))) vNext)
    (vFor (vIt (vOp dIx (vLocE (vLst (vCons (vLst (vCons (vC (.int 0)) (vCons (vVar 7) vNil))) (vCons (vLst (vCons (vC (.int 40)) (vCons (vVar 7) vNil))) (vCons (vLst (vCons (vCall 3 P_law_draw [] (vCons (vVar 0) (vCons (vOp dAdd (vC (.int 84)) (vVar 6)) (vCons (vC (.int 41)) vNil)))) (vCons (vC (.int 0)) vNil))) vNil))))) (vVar 5))) (vgName 9)
    (vIf (vNotT (vTest (vCall 3 P_law_counted [] (vCons (vOp dIx (vVar 2) (vVar 6)) (vCons (vOp dIx (vVar 4) (vVar 6)) (vCons (vVar 9) vNil)))))) (vRet (vC (.bl false))) vNext)))))))
    (vRet (vAnd (vCall 2 P_law_stands [] (vCons (vOp dIx (vVar 2) (vC (.int 0))) (vCons (vOp dIx (vVar 1) (vC (.int 0))) vNil))) (vCall 2 P_law_stands [] (vCons (vOp dIx (vVar 2) (vC (.int 1))) (vCons (vOp dIx (vVar 1) (vC (.int 1))) vNil)))))))))))
abbrev N_law : List Str := ["script", "flows", "made", "lengths", "numbers", "turn", "k", "length", "rows", "other", "flow"]
end K27

/-! ## K27_m -/
namespace K27
open PySem PySem.Spec L2 VL
open PyProof.Rows hiding St
/-! ### rows of orders -/
def okT (m w : Int) (r : List Int) (t : Int) : Bool := decide ((r.length : Int) < m) || decide (w ≤ t - r.getD ((r.length : Int) - m).toNat 0)
def vl (m w : Int) : Nat → List (List Int)
  | 0 => [[]]
  | n + 1 => vl m w n ++ ((vl m w n).filter fun r => okT m w r (n : Int)).map fun r => r ++ [(n : Int)]
def sub : Nat → List (List Int)
  | 0 => [[]]
  | n + 1 => sub n ++ (sub n).map fun r => r ++ [(n : Int)]
def inW (w t o : Int) : Bool := decide (t ≤ o) && decide (o < t + w)
def keepsB (m w : Int) (r : List Int) : Bool := r.all fun t => decide (((r.filter (inW w t)).length : Int) ≤ m)
structure Asc (n : Int) (r : List Int) : Prop where
  pw : r.Pairwise (· < ·)
  lo : ∀ x, x ∈ r → 0 ≤ x
  hi : ∀ x, x ∈ r → x < n
theorem Asc.nil (n : Int) : Asc n [] := ⟨.nil, fun _ h => (nomatch h), fun _ h => (nomatch h)⟩
theorem Asc.up {n n' : Int} {r : List Int} (a : Asc n r) (h : n ≤ n') : Asc n' r := ⟨a.pw, a.lo, fun x hx => by have := a.hi x hx; omega⟩
theorem Asc.snoc {n : Int} {r : List Int} (a : Asc n r) (h : 0 ≤ n) : Asc (n + 1) (r ++ [n]) := by
  refine ⟨List.pairwise_append.mpr ⟨a.pw, List.pairwise_singleton _ _, fun x hx y hy => ?_⟩, fun x hx => ?_, fun x hx => ?_⟩
  · rw [List.mem_singleton.mp hy]; exact a.hi x hx
  · rcases List.mem_append.mp hx with h' | h'
    · exact a.lo x h'
    · rw [List.mem_singleton.mp h']; exact h
  · rcases List.mem_append.mp hx with h' | h'
    · have := a.hi x h'; omega
    · rw [List.mem_singleton.mp h']; omega
theorem sub_asc : ∀ (n : Nat) (r : List Int), r ∈ sub n → Asc n r
  | 0, r, h => by rw [List.mem_singleton.mp h]; exact Asc.nil _
  | n + 1, r, h => by
    rcases List.mem_append.mp h with h' | h'
    · exact (sub_asc n r h').up (by omega)
    · obtain ⟨q, hq, rfl⟩ := List.mem_map.mp h'
      exact (sub_asc n q hq).snoc (by omega)
theorem sub_len : ∀ n : Nat, (sub n).length = 2 ^ n
  | 0 => rfl
  | n + 1 => by
    show (sub n ++ (sub n).map _).length = _
    rw [List.length_append, List.length_map, sub_len n, Nat.pow_succ]; omega
/-- what is below the i-th item, and what is not -/
theorem asc_take {r : List Int} (p : r.Pairwise (· < ·)) {i : Nat} (hi : i < r.length) : (∀ x, x ∈ r.take i → x < r[i]) ∧ ∀ x, x ∈ r.drop i → r[i] ≤ x := by
  refine ⟨fun x hx => ?_, fun x hx => ?_⟩
  · obtain ⟨j, hj, rfl⟩ := List.getElem_of_mem hx
    rw [List.length_take] at hj
    rw [List.getElem_take]
    exact List.pairwise_iff_getElem.mp p j i (by omega) hi (by omega)
  · obtain ⟨j, hj, rfl⟩ := List.getElem_of_mem hx
    rw [List.length_drop] at hj
    rw [List.getElem_drop]
    by_cases z : j = 0
    · subst z; exact Int.le_refl _
    · exact Int.le_of_lt (List.pairwise_iff_getElem.mp p i (i + j) hi (by omega) (by omega))
theorem filter_split {α : Type} (p : α → Bool) (r : List α) (i : Nat) : (r.filter p).length = ((r.take i).filter p).length + ((r.drop i).filter p).length := by
  rw [← List.length_append, ← List.filter_append, List.take_append_drop]
theorem filter_no {α : Type} {p : α → Bool} {r : List α} (h : ∀ x, x ∈ r → p x = false) : r.filter p = [] := List.filter_eq_nil_iff.mpr fun x hx => by rw [h x hx]; decide
theorem filter_yes {α : Type} {p : α → Bool} {r : List α} (h : ∀ x, x ∈ r → p x = true) : r.filter p = r := List.filter_eq_self.mpr h
theorem getD_at {r : List Int} {i : Nat} (h : i < r.length) : r.getD i 0 = r[i] := by rw [List.getD_eq_getElem?_getD, List.getElem?_eq_getElem h]; rfl
/-- how many of the last orders still count -/
theorem near_iff {m w n : Int} {r : List Int} (hm : 1 ≤ m) (a : Asc n r) : okT m w r n = true ↔ ((r.filter fun u => decide (n - u < w)).length : Int) < m := by
  unfold okT
  rw [Bool.or_eq_true, decide_eq_true_eq, decide_eq_true_eq]
  by_cases hl : (r.length : Int) < m
  · have := List.length_filter_le (fun u => decide (n - u < w)) r
    exact ⟨fun _ => by omega, fun _ => .inl hl⟩
  · have hi : ((r.length : Int) - m).toNat < r.length := by omega
    rw [getD_at hi]
    obtain ⟨h1, h2⟩ := asc_take a.pw hi
    rw [filter_split _ r ((r.length : Int) - m).toNat]
    constructor
    · intro h
      rcases h with h | h
      · exact absurd h hl
      · rw [filter_no fun x hx => ?_]
        · rw [List.drop_eq_getElem_cons hi, List.filter_cons_of_neg (by rw [decide_eq_true_eq]; omega)]
          have := List.length_filter_le (fun u => decide (n - u < w)) (r.drop (((r.length : Int) - m).toNat + 1))
          rw [List.length_drop] at this
          rw [List.length_nil]; omega
        · have := h1 x hx
          exact decide_eq_false (by omega)
    · intro h
      refine .inr ?_
      apply Classical.byContradiction
      intro c
      rw [filter_yes (r := r.drop _) fun x hx => ?_] at h
      · rw [List.length_drop] at h
        omega
      · have := h2 x hx
        exact decide_eq_true (by omega)
theorem keeps_iff {m w : Int} {r : List Int} : keepsB m w r = true ↔ ∀ t, t ∈ r → ((r.filter (inW w t)).length : Int) ≤ m := by
  unfold keepsB
  rw [List.all_eq_true]
  exact ⟨fun h t ht => of_decide_eq_true (h t ht), fun h t ht => decide_eq_true (h t ht)⟩
theorem cnt_snoc (w t n : Int) (r : List Int) : ((r ++ [n]).filter (inW w t)).length = (r.filter (inW w t)).length + (if inW w t n = true then 1 else 0) := by
  rw [List.filter_append, List.length_append]
  by_cases h : inW w t n = true
  · rw [if_pos h, List.filter_cons_of_pos h]; rfl
  · rw [if_neg h, List.filter_cons_of_neg h]; rfl
theorem keeps_snoc {m w n : Int} {r : List Int} (hm : 1 ≤ m) (hw : 1 ≤ w) (a : Asc n r) : keepsB m w (r ++ [n]) = (keepsB m w r && okT m w r n) := by
  rw [Bool.eq_iff_iff, Bool.and_eq_true, keeps_iff, keeps_iff, near_iff hm a]
  -- of an item at i: what counts are the items from i on
  have from_ : ∀ (i : Nat) (hi : i < r.length), n < r[i] + w → (r.filter (inW w r[i])).length = r.length - i := fun i hi h => by
    obtain ⟨h1, h2⟩ := asc_take a.pw hi
    rw [filter_split _ r i, filter_no fun x hx => ?_, filter_yes (r := r.drop i) fun x hx => ?_, List.length_drop, List.length_nil, Nat.zero_add]
    · have := h2 x hx
      have := a.hi x (List.mem_of_mem_drop hx)
      unfold inW
      rw [decide_eq_true (by omega), decide_eq_true (by omega)]; rfl
    · have := h1 x hx
      unfold inW
      rw [decide_eq_false (by omega)]; rfl
  constructor
  · intro h
    refine ⟨fun t ht => ?_, ?_⟩
    · have := h t (List.mem_append_left _ ht)
      rw [cnt_snoc] at this
      omega
    · -- the first one that still counts
      cases hf : r.filter fun u => decide (n - u < w) with
      | nil => rw [List.length_nil]; omega
      | cons u us =>
        have hu : u ∈ r.filter fun u => decide (n - u < w) := by rw [hf]; exact List.mem_cons_self
        obtain ⟨hu1, hu2⟩ := List.mem_filter.mp hu
        have hu2 := of_decide_eq_true hu2
        have := h u (List.mem_append_left _ hu1)
        rw [cnt_snoc, if_pos (by unfold inW; have := a.hi u hu1; rw [decide_eq_true (by omega), decide_eq_true (by omega)]; rfl)] at this
        have e : r.filter (inW w u) = r.filter fun u => decide (n - u < w) := by
          refine List.filter_congr fun x hx => ?_
          have hx2 := a.hi x hx
          unfold inW
          rw [Bool.eq_iff_iff, Bool.and_eq_true, decide_eq_true_eq, decide_eq_true_eq, decide_eq_true_eq]
          constructor
          · intro ⟨q1, q2⟩
            omega
          · intro q
            have hxm : x ∈ u :: us := by rw [← hf]; exact List.mem_filter.mpr ⟨hx, decide_eq_true q⟩
            have pp : (u :: us).Pairwise (· < ·) := by rw [← hf]; exact a.pw.sublist List.filter_sublist
            rcases List.mem_cons.mp hxm with z | z
            · subst z; omega
            · have := (List.pairwise_cons.mp pp).1 x z
              omega
        rw [e, hf] at this
        omega
  · rintro ⟨h1, h2⟩ t ht
    rw [cnt_snoc]
    rcases List.mem_append.mp ht with ht | ht
    · by_cases z : inW w t n = true
      · rw [if_pos z]
        have z2 : n < t + w := by
          unfold inW at z
          rw [Bool.and_eq_true, decide_eq_true_eq, decide_eq_true_eq] at z
          exact z.2
        have sb : (r.filter (inW w t)).length ≤ (r.filter fun u => decide (n - u < w)).length := by
          have e : r.filter (inW w t) = (r.filter fun u => decide (n - u < w)).filter (inW w t) := by
            rw [List.filter_filter]
            refine List.filter_congr fun x hx => ?_
            unfold inW
            rw [Bool.eq_iff_iff]
            simp only [Bool.and_eq_true, decide_eq_true_eq]
            constructor
            · intro q; exact ⟨q, by omega⟩
            · intro q; exact q.1
          rw [e]
          exact List.length_filter_le _ _
        omega
      · rw [if_neg z]
        have := h1 t ht
        omega
    · rw [List.mem_singleton.mp ht, filter_no fun x hx => ?_]
      · rw [List.length_nil]
        split <;> omega
      · have := a.hi x hx
        unfold inW
        rw [decide_eq_false (by omega)]; rfl
theorem vl_sub {m w : Int} (hm : 1 ≤ m) (hw : 1 ≤ w) : ∀ n : Nat, (sub n).filter (keepsB m w) = vl m w n
  | 0 => rfl
  | n + 1 => by
    show (sub n ++ (sub n).map _).filter _ = vl m w n ++ _
    rw [List.filter_append, vl_sub hm hw n, List.filter_map]
    congr 1
    congr 1
    rw [← vl_sub hm hw n, List.filter_filter]
    refine List.filter_congr fun r hr => ?_
    show keepsB m w (r ++ [(n : Int)]) = _
    rw [keeps_snoc hm hw (sub_asc n r hr), Bool.and_comm]
theorem vl_asc {m w : Int} : ∀ (n : Nat) (r : List Int), r ∈ vl m w n → Asc n r
  | 0, r, h => by rw [List.mem_singleton.mp h]; exact Asc.nil _
  | n + 1, r, h => by
    rcases List.mem_append.mp h with h' | h'
    · exact (vl_asc n r h').up (by omega)
    · obtain ⟨q, hq, rfl⟩ := List.mem_map.mp h'
      exact (vl_asc n q (List.mem_filter.mp hq).1).snoc (by omega)
theorem vl_len {m w : Int} : ∀ n : Nat, (vl m w n).length ≤ 2 ^ n
  | 0 => Nat.le_refl _
  | n + 1 => by
    show (vl m w n ++ _).length ≤ _
    rw [List.length_append, List.length_map, Nat.pow_succ]
    have h1 := vl_len (m := m) (w := w) n
    have h2 := List.length_filter_le (fun r => okT m w r (n : Int)) (vl m w n)
    omega
theorem vl_head {m w : Int} : ∀ n : Nat, (vl m w n).head? = some []
  | 0 => rfl
  | n + 1 => by
    show (vl m w n ++ _).head? = _
    have := vl_head (m := m) (w := w) n
    cases h : vl m w n with
    | nil => rw [h] at this; cases this
    | cons x xs => rw [h] at this; exact this
theorem vl_nodup {m w : Int} : ∀ n : Nat, (vl m w n).Nodup
  | 0 => List.nodup_cons.mpr ⟨fun h => (nomatch h), List.nodup_nil⟩
  | n + 1 => by
    have h := vl_nodup (m := m) (w := w) n
    refine List.nodup_append.mpr ⟨h, ?_, fun x hx y hy e => ?_⟩
    · rw [List.nodup_iff_pairwise_ne, List.pairwise_map]
      exact (List.nodup_iff_pairwise_ne.mp (h.sublist List.filter_sublist)).imp fun {a b} ne e => ne (List.append_cancel_right e)
    · subst e
      obtain ⟨q, hq, e⟩ := List.mem_map.mp hy
      have := (vl_asc n x hx).hi n (by rw [← e]; exact List.mem_append_right _ List.mem_cons_self)
      omega
/-! ### the walk in depth -/
theorem rngI_cons (lo : Int) (n : Nat) : rngI lo (n + 1) = lo :: rngI (lo + 1) n := by
  unfold rngI
  rw [List.range_succ_eq_map, List.map_cons, List.map_map]
  congr 1
  · simp
  · exact List.map_congr_left fun k _ => by show lo + ((k + 1 : Nat) : Int) = lo + 1 + (k : Int); omega
theorem rngI_snoc (lo : Int) (n : Nat) : rngI lo (n + 1) = rngI lo n ++ [lo + n] := by
  unfold rngI
  rw [List.range_succ, List.map_append]; rfl
def ext (m w : Int) : Nat → List Int → Int → List (List Int)
  | 0, _, _ => []
  | k + 1, r, t => (if okT m w r t = true then (r ++ [t]) :: ext m w k (r ++ [t]) (t + 1) else []) ++ ext m w k r (t + 1)
def fst (r : List Int) : Int := match r.getLast? with
  | some x => x + 1
  | none => 0
theorem fst_snoc (r : List Int) (t : Int) : fst (r ++ [t]) = t + 1 := by unfold fst; rw [List.getLast?_concat]
def pre (m w : Int) (n : Nat) (r : List Int) : List (List Int) := r :: ext m w ((n : Int) - fst r).toNat r (fst r)
theorem ext_kids {m w : Int} {n : Nat} {r : List Int} : ∀ (k : Nat) (t : Int), t + k = n → ext m w k r t = ((rngI t k).filter fun x => okT m w r x).flatMap fun x => pre m w n (r ++ [x])
  | 0, t, _ => rfl
  | k + 1, t, h => by
    have ih := ext_kids (m := m) (w := w) (n := n) (r := r) k (t + 1) (by omega)
    rw [rngI_cons]
    show (if okT m w r t = true then (r ++ [t]) :: ext m w k (r ++ [t]) (t + 1) else []) ++ ext m w k r (t + 1) = _
    rw [ih]
    by_cases c : okT m w r t = true
    · rw [if_pos c, List.filter_cons_of_pos c, List.flatMap_cons]
      have e : pre m w n (r ++ [t]) = (r ++ [t]) :: ext m w k (r ++ [t]) (t + 1) := by
        unfold pre
        rw [fst_snoc, show ((n : Int) - (t + 1)).toNat = k by omega]
      rw [e]
    · rw [if_neg c, List.filter_cons_of_neg c]; rfl
def okS (m w : Int) : List Int → List Int → Bool
  | _, [] => true
  | r, t :: s => okT m w r t && okS m w (r ++ [t]) s
theorem okS_snoc {m w : Int} (t : Int) : ∀ (r s : List Int), okS m w r (s ++ [t]) = (okS m w r s && okT m w (r ++ s) t)
  | r, [] => by
    show (okT m w r t && true) = (true && _)
    rw [List.append_nil]; simp
  | r, x :: s => by
    show (okT m w r x && okS m w (r ++ [x]) (s ++ [t])) = ((okT m w r x && okS m w (r ++ [x]) s) && _)
    rw [okS_snoc t (r ++ [x]) s, Bool.and_assoc, List.append_assoc]; rfl
theorem mem_ext {m w : Int} {x : List Int} : ∀ (k : Nat) (r : List Int) (t : Int), x ∈ ext m w k r t ↔ ∃ s : List Int, s ≠ [] ∧ x = r ++ s ∧ s.Pairwise (· < ·) ∧ (∀ y, y ∈ s → t ≤ y ∧ y < t + k) ∧ okS m w r s = true
  | 0, r, t => by
    constructor
    · intro h; cases h
    · rintro ⟨s, h1, _, _, h4, _⟩
      cases s with
      | nil => exact absurd rfl h1
      | cons y s => have := h4 y List.mem_cons_self; omega
  | k + 1, r, t => by
    show x ∈ (if okT m w r t = true then _ else _) ++ _ ↔ _
    rw [List.mem_append, mem_ext k r (t + 1)]
    constructor
    · rintro (h | ⟨s, h1, h2, h3, h4, h5⟩)
      · by_cases c : okT m w r t = true
        · rw [if_pos c] at h
          rcases List.mem_cons.mp h with h | h
          · exact ⟨[t], by simp, h, List.pairwise_singleton _ _, fun y hy => by rw [List.mem_singleton.mp hy]; omega, by show (okT m w r t && true) = true; rw [c]; rfl⟩
          · obtain ⟨s, h1, h2, h3, h4, h5⟩ := (mem_ext k (r ++ [t]) (t + 1)).mp h
            refine ⟨t :: s, by simp, by rw [h2, List.append_assoc]; rfl, List.pairwise_cons.mpr ⟨fun y hy => by have := h4 y hy; omega, h3⟩, fun y hy => ?_, by show (okT m w r t && _) = true; rw [c, h5]; rfl⟩
            rcases List.mem_cons.mp hy with z | z
            · omega
            · have := h4 y z; omega
        · rw [if_neg c] at h; cases h
      · exact ⟨s, h1, h2, h3, fun y hy => by have := h4 y hy; omega, h5⟩
    · rintro ⟨s, h1, h2, h3, h4, h5⟩
      cases s with
      | nil => exact absurd rfl h1
      | cons y s =>
        have h5 : (okT m w r y && okS m w (r ++ [y]) s) = true := h5
        rw [Bool.and_eq_true] at h5
        obtain ⟨p1, p2⟩ := List.pairwise_cons.mp h3
        by_cases z : y = t
        · subst z
          refine .inl ?_
          rw [if_pos h5.1]
          cases s with
          | nil => rw [h2]; exact List.mem_cons_self
          | cons a s =>
            refine List.mem_cons_of_mem _ ((mem_ext k (r ++ [y]) (y + 1)).mpr ⟨a :: s, by simp, by rw [h2, List.append_assoc]; rfl, p2, fun b hb => ?_, h5.2⟩)
            have := p1 b hb
            have := h4 b (List.mem_cons_of_mem _ hb)
            omega
        · refine .inr ⟨y :: s, h1, h2, h3, fun b hb => ?_, by show (okT m w r y && _) = true; rw [h5.1, h5.2]; rfl⟩
          have hy := h4 y List.mem_cons_self
          have := h4 b hb
          rcases List.mem_cons.mp hb with e | e
          · omega
          · have := p1 b e; omega
theorem mem_vl {m w : Int} {x : List Int} : ∀ n : Nat, x ∈ vl m w n ↔ Asc n x ∧ okS m w [] x = true
  | 0 => by
    constructor
    · intro h; rw [List.mem_singleton.mp h]; exact ⟨Asc.nil _, rfl⟩
    · rintro ⟨a, _⟩
      cases x with
      | nil => exact List.mem_cons_self
      | cons y x =>
        have h1 := a.lo y List.mem_cons_self
        have h2 := a.hi y List.mem_cons_self
        omega
  | n + 1 => by
    show x ∈ vl m w n ++ _ ↔ _
    rw [List.mem_append, mem_vl n]
    constructor
    · rintro (⟨a, h⟩ | h)
      · exact ⟨a.up (by omega), h⟩
      · obtain ⟨q, hq, rfl⟩ := List.mem_map.mp h
        obtain ⟨h1, h2⟩ := List.mem_filter.mp hq
        obtain ⟨a, h3⟩ := (mem_vl n).mp h1
        refine ⟨a.snoc (by omega), ?_⟩
        rw [okS_snoc, h3, List.nil_append, h2]; rfl
    · rintro ⟨a, h⟩
      rcases List.eq_nil_or_concat x with e | ⟨q, y, e⟩
      · subst e; exact .inl ⟨Asc.nil _, rfl⟩
      · rw [List.concat_eq_append] at e
        subst e
        rw [okS_snoc, List.nil_append, Bool.and_eq_true] at h
        obtain ⟨p1, _, p3⟩ := List.pairwise_append.mp a.pw
        have hy := a.hi y (List.mem_append_right _ List.mem_cons_self)
        have lt : ∀ z, z ∈ q → z < y := fun z hz => p3 z hz y List.mem_cons_self
        have lo : ∀ z, z ∈ q → 0 ≤ z := fun z hz => a.lo z (List.mem_append_left _ hz)
        by_cases z : y = n
        · subst z
          exact .inr (List.mem_map.mpr ⟨q, List.mem_filter.mpr ⟨(mem_vl n).mpr ⟨⟨p1, lo, lt⟩, h.1⟩, h.2⟩, rfl⟩)
        · refine .inl ⟨⟨a.pw, a.lo, fun b hb => ?_⟩, by rw [okS_snoc, List.nil_append, h.1, h.2]; rfl⟩
          rcases List.mem_append.mp hb with hb | hb
          · have := lt b hb; omega
          · rw [List.mem_singleton.mp hb]; omega
theorem lex_app : ∀ (r a b : List Int), HT.lexLt (r ++ a) (r ++ b) = HT.lexLt a b
  | [], _, _ => rfl
  | x :: r, a, b => by
    show HT.lexLt (x :: (r ++ a)) (x :: (r ++ b)) = _
    rw [HT.lexLt_cons, if_pos rfl, lex_app r]
theorem lex_irr : ∀ a : List Int, HT.lexLt a a = false
  | [] => rfl
  | x :: a => by rw [HT.lexLt_cons, if_pos rfl, lex_irr a]
theorem lex_anti : ∀ a b : List Int, HT.lexLt a b = false → HT.lexLt b a = false → a = b
  | [], [], _, _ => rfl
  | [], y :: b, h, _ => by rw [HT.lexLt_nil_cons] at h; cases h
  | x :: a, [], _, h => by rw [HT.lexLt_nil_cons] at h; cases h
  | x :: a, y :: b, h1, h2 => by
    rw [HT.lexLt_cons] at h1 h2
    by_cases e : x = y
    · subst e
      rw [if_pos rfl] at h1 h2
      rw [lex_anti a b h1 h2]
    · rw [if_neg e] at h1
      rw [if_neg (Ne.symm e)] at h2
      have := of_decide_eq_false h1
      have := of_decide_eq_false h2
      omega
theorem ext_pw {m w : Int} : ∀ (k : Nat) (r : List Int) (t : Int), (ext m w k r t).Pairwise fun x y => HT.lexLt x y = true
  | 0, _, _ => .nil
  | k + 1, r, t => by
    show ((if okT m w r t = true then _ else _) ++ _ : List (List Int)).Pairwise _
    refine List.pairwise_append.mpr ⟨?_, ext_pw k r (t + 1), fun x hx y hy => ?_⟩
    · by_cases c : okT m w r t = true
      · rw [if_pos c]
        refine List.pairwise_cons.mpr ⟨fun y hy => ?_, ext_pw k (r ++ [t]) (t + 1)⟩
        obtain ⟨s, h1, h2, _⟩ := (mem_ext k (r ++ [t]) (t + 1)).mp hy
        have := lex_app (r ++ [t]) [] s
        rw [List.append_nil] at this
        rw [h2, this]
        cases s with
        | nil => exact absurd rfl h1
        | cons a s => rfl
      · rw [if_neg c]; exact .nil
    · obtain ⟨s', g1, g2, _, g4, _⟩ := (mem_ext k r (t + 1)).mp hy
      cases s' with
      | nil => exact absurd rfl g1
      | cons b s' =>
        have hb := (g4 b List.mem_cons_self).1
        by_cases c : okT m w r t = true
        · rw [if_pos c] at hx
          obtain ⟨s, h2⟩ : ∃ s, x = r ++ t :: s := by
            rcases List.mem_cons.mp hx with h | h
            · exact ⟨[], h⟩
            · obtain ⟨s, _, h2, _⟩ := (mem_ext k (r ++ [t]) (t + 1)).mp h
              exact ⟨s, by rw [h2, List.append_assoc]; rfl⟩
          rw [h2, g2, lex_app, HT.lexLt_cons, if_neg (by omega)]
          exact decide_eq_true (by omega)
        · rw [if_neg c] at hx; cases hx
theorem pre_pw {m w : Int} (n : Nat) : (pre m w n []).Pairwise fun x y => HT.lexLt x y = true := by
  refine List.pairwise_cons.mpr ⟨fun y hy => ?_, ext_pw _ _ _⟩
  obtain ⟨s, h1, h2, _⟩ := (mem_ext _ _ _).mp hy
  rw [h2]
  cases s with
  | nil => exact absurd rfl h1
  | cons a s => rfl
theorem pre_perm {m w : Int} (n : Nat) : (pre m w n []).Perm (vl m w n) := by
  have nd : (pre m w n []).Nodup := List.nodup_iff_pairwise_ne.mpr ((pre_pw n).imp fun {a b} h e => by rw [e, lex_irr] at h; cases h)
  refine (List.perm_ext_iff_of_nodup nd (vl_nodup n)).mpr fun x => ?_
  rw [mem_vl]
  show x ∈ [] :: ext m w ((n : Int) - 0).toNat [] 0 ↔ _
  rw [List.mem_cons, mem_ext, show ((n : Int) - 0).toNat = n by omega]
  constructor
  · rintro (h | ⟨s, _, h2, h3, h4, h5⟩)
    · subst h; exact ⟨Asc.nil _, rfl⟩
    · rw [List.nil_append] at h2
      subst h2
      exact ⟨⟨h3, fun y hy => (h4 y hy).1, fun y hy => by have := (h4 y hy).2; omega⟩, h5⟩
  · rintro ⟨a, h⟩
    by_cases e : x = []
    · exact .inl e
    · exact .inr ⟨x, e, rfl, a.pw, fun y hy => ⟨a.lo y hy, by have := a.hi y hy; omega⟩, h⟩
/-- the law's list is the one of the walk -/
theorem sorted_pre {m w : Int} {n : Nat} {ms : List (List Int)} (p : ms.Perm (vl m w n)) (s : ms.Pairwise fun x y => HT.lexLt y x = false) : ms = pre m w n [] :=
  List.Perm.eq_of_pairwise (le := fun x y => HT.lexLt y x = false) (fun a b _ _ h1 h2 => lex_anti a b h2 h1) s ((pre_pw n).imp fun {a b} h => NtL.lex_asym _ _ h) (p.trans (pre_perm n).symm)
theorem pre_len {m w : Int} (n : Nat) : (pre m w n []).length = (vl m w n).length := (pre_perm n).length_eq
/-! ### what is still to come: rests and bits -/
def rest1 (l : List Int) : List Int := (l.filter fun x => decide (1 < x)).map fun x => x - 1
def rs (w t : Int) (r : List Int) : List Int := (r.reverse.filter fun u => decide (t - u < w)).map fun u => w - (t - u)
theorem mem_rest1 {l : List Int} {v : Int} : v ∈ rest1 l ↔ 1 ≤ v ∧ v + 1 ∈ l := by
  unfold rest1
  rw [List.mem_map]
  constructor
  · rintro ⟨x, hx, rfl⟩
    obtain ⟨h1, h2⟩ := List.mem_filter.mp hx
    have := of_decide_eq_true h2
    exact ⟨by omega, by rw [show x - 1 + 1 = x by omega]; exact h1⟩
  · rintro ⟨h1, h2⟩
    exact ⟨v + 1, List.mem_filter.mpr ⟨h2, decide_eq_true (by omega)⟩, by omega⟩
theorem rest1_len (l : List Int) : (rest1 l).length ≤ l.length := by
  unfold rest1
  rw [List.length_map]
  exact List.length_filter_le _ _
theorem rs_quiet (w t : Int) (r : List Int) : rest1 (rs w t r) = rs w (t + 1) r := by
  unfold rest1 rs
  rw [List.filter_map, List.map_map, List.filter_filter]
  have e : (r.reverse.filter fun a => ((fun x : Int => decide (1 < x)) ∘ fun u => w - (t - u)) a && decide (t - a < w)) = r.reverse.filter fun u => decide (t + 1 - u < w) := by
    refine List.filter_congr fun x _ => ?_
    show (decide (1 < w - (t - x)) && decide (t - x < w)) = decide (t + 1 - x < w)
    rw [Bool.eq_iff_iff, Bool.and_eq_true, decide_eq_true_eq, decide_eq_true_eq, decide_eq_true_eq]
    omega
  rw [e]
  exact List.map_congr_left fun x _ => by show w - (t - x) - 1 = w - (t + 1 - x); omega
theorem rest1_cons (w : Int) (l : List Int) : rest1 (w :: l) = (if 1 < w then [w - 1] else []) ++ rest1 l := by
  unfold rest1
  by_cases c : 1 < w
  · rw [if_pos c, List.filter_cons_of_pos (by exact decide_eq_true c)]; rfl
  · rw [if_neg c, List.filter_cons_of_neg (by rw [decide_eq_true_eq]; exact c)]; rfl
theorem rs_busy (w t : Int) (r : List Int) : rest1 (w :: rs w t r) = rs w (t + 1) (r ++ [t]) := by
  rw [rest1_cons, rs_quiet]
  unfold rs
  rw [List.reverse_append]
  show _ = ((t :: r.reverse).filter _).map _
  by_cases c : 1 < w
  · rw [if_pos c, List.filter_cons_of_pos (by exact decide_eq_true (by omega)), List.map_cons, show w - (t + 1 - t) = w - 1 by omega]; rfl
  · rw [if_neg c, List.filter_cons_of_neg (by rw [decide_eq_true_eq]; omega)]; rfl
theorem rs_len (w t : Int) (r : List Int) : (rs w t r).length = (r.filter fun u => decide (t - u < w)).length := by
  unfold rs
  rw [List.length_map, List.filter_reverse, List.length_reverse]
theorem okT_rs {m w n : Int} {r : List Int} (hm : 1 ≤ m) (a : Asc n r) : okT m w r n = true ↔ ((rs w n r).length : Int) < m := by rw [near_iff hm a, rs_len]
theorem vl_near {m w : Int} (hm : 1 ≤ m) : ∀ (n : Nat) (r : List Int), r ∈ vl m w n → ((rs w n r).length : Int) ≤ m
  | 0, r, h => by rw [List.mem_singleton.mp h]; show (0 : Int) ≤ m; omega
  | n + 1, r, h => by
    rcases List.mem_append.mp h with h' | h'
    · have h1 := vl_near hm n r h'
      have h2 := rest1_len (rs w n r)
      rw [rs_quiet] at h2
      show ((rs w ((n : Int) + 1) r).length : Int) ≤ m
      omega
    · obtain ⟨q, hq, rfl⟩ := List.mem_map.mp h'
      obtain ⟨h1, h2⟩ := List.mem_filter.mp hq
      have h3 := (okT_rs hm (vl_asc n q h1)).mp h2
      have h4 := rest1_len (w :: rs w n q)
      rw [rs_busy, List.length_cons] at h4
      show ((rs w ((n : Int) + 1) (q ++ [(n : Int)])).length : Int) ≤ m
      omega
theorem rs_lo {w t : Int} {r : List Int} : ∀ x, x ∈ rs w t r → 1 ≤ x := fun x hx => by
  obtain ⟨u, hu, rfl⟩ := List.mem_map.mp hx
  have := of_decide_eq_true (List.mem_filter.mp hu).2
  omega
theorem rs_hi {w t : Int} {r : List Int} (a : Asc t r) : ∀ x, x ∈ rs w t r → x ≤ w - 1 := fun x hx => by
  obtain ⟨u, hu, rfl⟩ := List.mem_map.mp hx
  have := a.hi u (List.mem_reverse.mp (List.mem_filter.mp hu).1)
  omega
theorem rs_pw {w t : Int} {r : List Int} (a : Asc t r) : (rs w t r).Pairwise (· > ·) := by
  unfold rs
  rw [List.pairwise_map]
  refine List.Pairwise.imp (fun {x y} h => ?_) ((List.pairwise_reverse.mpr a.pw).sublist (List.filter_sublist (l := r.reverse)))
  have h : y < x := h
  show w - (t - y) < w - (t - x)
  omega
def tot (m w : Int) (f : List Int → Int) (n : Nat) : Int := ((vl m w n).map fun r => f (rs w n r)).sum
theorem sum_filter {α : Type} (p : α → Bool) (g : α → Int) : ∀ l : List α, ((l.filter p).map g).sum = (l.map fun x => if p x = true then g x else 0).sum
  | [] => rfl
  | x :: l => by
    rw [List.map_cons, List.sum_cons]
    by_cases c : p x = true
    · rw [List.filter_cons_of_pos c, List.map_cons, List.sum_cons, if_pos c, sum_filter p g l]
    · rw [List.filter_cons_of_neg c, if_neg c, sum_filter p g l, Int.zero_add]
theorem sum_add {α : Type} (f g : α → Int) : ∀ l : List α, (l.map f).sum + (l.map g).sum = (l.map fun x => f x + g x).sum
  | [] => rfl
  | x :: l => by
    rw [List.map_cons, List.sum_cons, List.map_cons, List.sum_cons, List.map_cons, List.sum_cons, ← sum_add f g l]; omega
theorem tot_congr {m w : Int} {f g : List Int → Int} {n : Nat} (h : ∀ r, r ∈ vl m w n → f (rs w n r) = g (rs w n r)) : tot m w f n = tot m w g n := by
  unfold tot
  rw [List.map_congr_left h]
theorem tot_succ {m w : Int} (hm : 1 ≤ m) (f : List Int → Int) (n : Nat) : tot m w f (n + 1) = tot m w (fun s => f (rest1 s) + if (s.length : Int) < m then f (rest1 (w :: s)) else 0) n := by
  unfold tot
  show ((vl m w n ++ ((vl m w n).filter fun r => okT m w r (n : Int)).map fun r => r ++ [(n : Int)]).map _).sum = _
  rw [List.map_append, List.sum_append, List.map_map, sum_filter, sum_add]
  congr 1
  refine List.map_congr_left fun r hr => ?_
  show f (rs w ((n : Int) + 1) r) + (if okT m w r n = true then f (rs w ((n : Int) + 1) (r ++ [(n : Int)])) else 0) = f (rest1 (rs w n r)) + (if ((rs w n r).length : Int) < m then f (rest1 (w :: rs w n r)) else 0)
  rw [rs_quiet, rs_busy]
  have h := okT_rs (w := w) hm (vl_asc n r hr)
  by_cases c : okT m w r n = true
  · rw [if_pos c, if_pos (h.mp c)]
  · rw [if_neg c, if_neg (fun z => c (h.mpr z))]
theorem tot_zero {m w : Int} (f : List Int → Int) : tot m w f 0 = f [] := by
  show f [] + 0 = f []
  omega
theorem tot_one {m w : Int} (n : Nat) : tot m w (fun _ => 1) n = (vl m w n).length := by
  unfold tot
  generalize vl m w n = l
  induction l with
  | nil => rfl
  | cons x l ih =>
    rw [List.map_cons, List.sum_cons, ih, List.length_cons]
    show (1 : Int) + _ = _
    omega
def bsOf (k : Nat) (s : List Int) : List Int := (rngI 1 k).map fun v => if v ∈ s then 1 else 0
theorem rng_sh (lo : Int) (k : Nat) : rngI (lo + 1) k = (rngI lo k).map fun v => v + 1 := by
  unfold rngI
  rw [List.map_map]
  exact List.map_congr_left fun i _ => by show lo + 1 + (i : Int) = lo + (i : Int) + 1; omega
theorem bs_step {k : Nat} {s s' : List Int} {b : Int} (h1 : ∀ v : Int, 1 ≤ v → v < k → (v ∈ s' ↔ v + 1 ∈ s)) (h2 : 1 ≤ k → (if (k : Int) ∈ s' then (1 : Int) else 0) = b) : (bsOf k s ++ [b]).tail = bsOf k s' := by
  cases k with
  | zero => rfl
  | succ k =>
    unfold bsOf
    conv => lhs; rw [rngI_cons, List.map_cons, List.cons_append, List.tail_cons]
    conv => rhs; rw [rngI_snoc, List.map_append]
    congr 1
    · rw [show (1 : Int) + 1 = 1 + 1 from rfl, rng_sh 1 k, List.map_map]
      refine List.map_congr_left fun v hv => ?_
      have hv := mem_rngI.mp hv
      show (if v + 1 ∈ s then (1 : Int) else 0) = _
      have := h1 v (by omega) (by omega)
      by_cases c : v + 1 ∈ s
      · rw [if_pos c, if_pos (this.mpr c)]
      · rw [if_neg c, if_neg (fun z => c (this.mp z))]
    · have := h2 (by omega)
      rw [← this]
      show _ = [_]
      rw [show (1 : Int) + (k : Int) = ((k + 1 : Nat) : Int) by omega]
theorem bs_quiet {k : Nat} {s : List Int} (hi : ∀ x, x ∈ s → x ≤ (k : Int)) : (bsOf k s ++ [0]).tail = bsOf k (rest1 s) :=
  bs_step (fun v h _ => by rw [mem_rest1]; exact ⟨fun z => z.2, fun z => ⟨h, z⟩⟩) fun _ => if_neg fun z => by have := hi _ (mem_rest1.mp z).2; omega
theorem bs_busy {k : Nat} {s : List Int} : (bsOf k s ++ [1]).tail = bsOf k (rest1 (((k : Int) + 1) :: s)) :=
  bs_step (fun v h h2 => by
    rw [mem_rest1]
    constructor
    · rintro ⟨_, z⟩
      rcases List.mem_cons.mp z with z | z
      · omega
      · exact z
    · exact fun z => ⟨h, List.mem_cons_of_mem _ z⟩) fun h => if_pos (mem_rest1.mpr ⟨by omega, List.mem_cons_self⟩)
theorem sum_ind {R : List Int} {x : Int} (nd : R.Nodup) (hx : x ∈ R) : (R.map fun v => if v = x then (1 : Int) else 0).sum = 1 := by
  induction R with
  | nil => cases hx
  | cons y R ih =>
    obtain ⟨n1, n2⟩ := List.nodup_cons.mp nd
    rw [List.map_cons, List.sum_cons]
    by_cases c : y = x
    · subst c
      have : (R.map fun v => if v = y then (1 : Int) else 0).sum = 0 := by
        clear ih n2 nd hx
        induction R with
        | nil => rfl
        | cons z R ih2 =>
          rw [List.map_cons, List.sum_cons, if_neg (fun e => n1 (by rw [e]; exact List.mem_cons_self)), ih2 (fun h => n1 (List.mem_cons_of_mem _ h))]; rfl
      rw [if_pos rfl, this]; rfl
    · rcases List.mem_cons.mp hx with h | h
      · exact absurd h.symm c
      · rw [if_neg c, ih n2 h]; rfl
theorem rngI_nd (lo : Int) (k : Nat) : (rngI lo k).Nodup := by
  unfold rngI
  rw [List.nodup_iff_pairwise_ne, List.pairwise_map]
  exact (List.nodup_iff_pairwise_ne.mp List.nodup_range).imp fun {a b} h e => h (by omega)
theorem bs_sum {k : Nat} : ∀ s : List Int, s.Pairwise (· > ·) → (∀ x, x ∈ s → 1 ≤ x ∧ x ≤ (k : Int)) → (bsOf k s).sum = s.length
  | [], _, _ => by
    unfold bsOf
    generalize rngI 1 k = R
    induction R with
    | nil => rfl
    | cons y R ih => rw [List.map_cons, List.sum_cons, ih]; simp
  | x :: s, p, h => by
    obtain ⟨p1, p2⟩ := List.pairwise_cons.mp p
    have ih := bs_sum s p2 fun y hy => h y (List.mem_cons_of_mem _ hy)
    have hx := h x List.mem_cons_self
    have e1 := sum_ind (rngI_nd 1 k) (x := x) (mem_rngI.mpr ⟨by omega, by omega⟩)
    have e2 : bsOf k (x :: s) = (rngI 1 k).map fun v => (if v = x then (1 : Int) else 0) + (if v ∈ s then (1 : Int) else 0) := by
      refine List.map_congr_left fun v _ => ?_
      by_cases c : v = x
      · subst c
        rw [if_pos List.mem_cons_self, if_pos rfl, if_neg (fun z => by have := p1 v z; omega)]; rfl
      · by_cases d : v ∈ s
        · rw [if_pos (List.mem_cons_of_mem _ d), if_neg c, if_pos d]; rfl
        · rw [if_neg (fun z => by rcases List.mem_cons.mp z with z | z; exact c z; exact d z), if_neg c, if_neg d]; rfl
    rw [e2, ← sum_add, e1]
    unfold bsOf at ih
    rw [ih, List.length_cons]; omega
def hatB (m : Int) (f : List Int → Int) (b : List Int) : Int := (if b.sum + 0 ≤ m then f ((b ++ [0]).tail) else 0) + (if b.sum + 1 ≤ m then f ((b ++ [1]).tail) else 0)
theorem tot_bits {m : Int} {k : Nat} (hm : 1 ≤ m) (f : List Int → Int) (n : Nat) : tot m ((k : Int) + 1) (fun s => f (bsOf k s)) (n + 1) = tot m ((k : Int) + 1) (fun s => hatB m f (bsOf k s)) n := by
  rw [tot_succ hm]
  refine tot_congr fun r hr => ?_
  have a := vl_asc n r hr
  have hi := rs_hi (w := (k : Int) + 1) a
  have hs := bs_sum (k := k) _ (rs_pw (w := (k : Int) + 1) a) fun x hx => ⟨rs_lo x hx, by have := hi x hx; omega⟩
  have hn := vl_near (w := (k : Int) + 1) hm n r hr
  show f (bsOf k (rest1 _)) + _ = hatB m f (bsOf k _)
  unfold hatB
  rw [hs, bs_quiet (fun x hx => by have := hi x hx; omega), bs_busy]
  have c0 : ((rs ((k : Int) + 1) n r).length : Int) + 0 ≤ m := by omega
  by_cases c : ((rs ((k : Int) + 1) n r).length : Int) < m
  · have c1 : ((rs ((k : Int) + 1) n r).length : Int) + 1 ≤ m := by omega
    rw [if_pos c, if_pos c0, if_pos c1]
  · have c1 : ¬ ((rs ((k : Int) + 1) n r).length : Int) + 1 ≤ m := by omega
    rw [if_neg c, if_pos c0, if_neg c1]
/-! ### tables -/
abbrev MM := List (List Int × Int)
def mget : MM → List Int → Int
  | [], _ => 0
  | e :: M, s => if e.1 = s then e.2 else mget M s
def mput : MM → List Int → Int → MM
  | [], s, v => [(s, v)]
  | e :: M, s, v => if e.1 = s then (s, v) :: M else e :: mput M s v
def wS (f : List Int → Int) (M : MM) : Int := (M.map fun e => e.2 * f e.1).sum
theorem wS_put (f : List Int → Int) (s : List Int) (c : Int) : ∀ M : MM, wS f (mput M s (mget M s + c)) = wS f M + c * f s
  | [] => by
    show (0 + c) * f s + 0 = 0 + c * f s
    rw [Int.zero_add]; omega
  | e :: M => by
    unfold mput mget
    by_cases h : e.1 = s
    · rw [if_pos h, if_pos h]
      show (e.2 + c) * f s + wS f M = (e.2 * f e.1 + wS f M) + c * f s
      rw [h, Int.add_mul]; omega
    · rw [if_neg h, if_neg h]
      show e.2 * f e.1 + wS f (mput M s (mget M s + c)) = (e.2 * f e.1 + wS f M) + c * f s
      rw [wS_put f s c M]; omega
theorem mput_keys {s x : List Int} {v : Int} : ∀ M : MM, x ∈ (mput M s v).map (·.1) → x = s ∨ x ∈ M.map (·.1)
  | [], h => .inl (List.mem_singleton.mp h)
  | e :: M, h => by
    unfold mput at h
    by_cases c : e.1 = s
    · rw [if_pos c] at h
      rcases List.mem_cons.mp h with h | h
      · exact .inl h
      · exact .inr (List.mem_cons_of_mem _ h)
    · rw [if_neg c] at h
      rcases List.mem_cons.mp h with h | h
      · exact .inr (by rw [h]; exact List.mem_cons_self)
      · exact (mput_keys M h).imp id (List.mem_cons_of_mem _)
theorem mput_nd {s : List Int} {v : Int} : ∀ M : MM, (M.map (·.1)).Nodup → ((mput M s v).map (·.1)).Nodup
  | [], _ => List.nodup_cons.mpr ⟨fun h => (nomatch h), List.nodup_nil⟩
  | e :: M, h => by
    obtain ⟨h1, h2⟩ := List.nodup_cons.mp h
    unfold mput
    by_cases c : e.1 = s
    · rw [if_pos c]
      exact List.nodup_cons.mpr ⟨by rw [← c]; exact h1, h2⟩
    · rw [if_neg c]
      refine List.nodup_cons.mpr ⟨fun z => ?_, mput_nd M h2⟩
      rcases mput_keys M z with z | z
      · exact c z
      · exact h1 z
theorem nodup_le {α : Type} [DecidableEq α] : ∀ (l K : List α), l.Nodup → (∀ x, x ∈ l → x ∈ K) → l.length ≤ K.length
  | [], _, _, _ => Nat.zero_le _
  | x :: l, K, hn, hs => by
    obtain ⟨h1, h2⟩ := List.nodup_cons.mp hn
    have hx : x ∈ K := hs x List.mem_cons_self
    have ih := nodup_le l (K.erase x) h2 fun y hy => by
      have hne : y ≠ x := fun e => h1 (e ▸ hy)
      exact (List.mem_erase_of_ne hne).2 (hs y (List.mem_cons_of_mem _ hy))
    have e := List.length_erase_of_mem hx
    have hp : 0 < K.length := List.length_pos_of_mem hx
    rw [List.length_cons]
    omega
/-- a table whose keys are in K -/
structure Tb (K : List (List Int)) (M : MM) : Prop where
  nd : (M.map (·.1)).Nodup
  k : ∀ x, x ∈ M.map (·.1) → x ∈ K
theorem Tb.len {K : List (List Int)} {M : MM} (h : Tb K M) : M.length ≤ K.length := by
  have := nodup_le _ K h.nd h.k
  rwa [List.length_map] at this
theorem Tb.put {K : List (List Int)} {M : MM} (h : Tb K M) {s : List Int} (v : Int) (hs : s ∈ K) : Tb K (mput M s v) := ⟨mput_nd M h.nd, fun x hx => by
  rcases mput_keys M hx with z | z
  · rw [z]; exact hs
  · exact h.k x z⟩
theorem Tb.nil (K : List (List Int)) : Tb K [] := ⟨List.nodup_nil, fun _ h => (nomatch h)⟩
theorem Tb.one {K : List (List Int)} {s : List Int} (v : Int) (hs : s ∈ K) : Tb K [(s, v)] := (Tb.nil K).put v hs
/-- the rows of 0 and 1 -/
def bl : Nat → List (List Int)
  | 0 => [[]]
  | k + 1 => (bl k).map (fun b => 0 :: b) ++ (bl k).map fun b => 1 :: b
theorem bl_len : ∀ k : Nat, (bl k).length = 2 ^ k
  | 0 => rfl
  | k + 1 => by
    show ((bl k).map _ ++ (bl k).map _).length = _
    rw [List.length_append, List.length_map, List.length_map, bl_len k, Nat.pow_succ]; omega
theorem mem_bl : ∀ (k : Nat) (b : List Int), b ∈ bl k ↔ b.length = k ∧ ∀ x, x ∈ b → x = 0 ∨ x = 1
  | 0, b => by
    constructor
    · intro h; rw [List.mem_singleton.mp h]; exact ⟨rfl, fun _ h => (nomatch h)⟩
    · rintro ⟨h, _⟩
      rw [List.length_eq_zero_iff.mp h]; exact List.mem_cons_self
  | k + 1, b => by
    show b ∈ (bl k).map _ ++ (bl k).map _ ↔ _
    rw [List.mem_append, List.mem_map, List.mem_map]
    constructor
    · rintro (⟨c, hc, rfl⟩ | ⟨c, hc, rfl⟩)
      · obtain ⟨h1, h2⟩ := (mem_bl k c).mp hc
        exact ⟨by rw [List.length_cons, h1], fun x hx => by rcases List.mem_cons.mp hx with z | z; exact .inl z; exact h2 x z⟩
      · obtain ⟨h1, h2⟩ := (mem_bl k c).mp hc
        exact ⟨by rw [List.length_cons, h1], fun x hx => by rcases List.mem_cons.mp hx with z | z; exact .inr z; exact h2 x z⟩
    · rintro ⟨h1, h2⟩
      cases b with
      | nil => cases h1
      | cons y b =>
        have hb : b ∈ bl k := (mem_bl k b).mpr ⟨by simpa using h1, fun x hx => h2 x (List.mem_cons_of_mem _ hx)⟩
        rcases h2 y List.mem_cons_self with z | z
        · exact .inl ⟨b, hb, by rw [z]⟩
        · exact .inr ⟨b, hb, by rw [z]⟩
theorem bl_next {k : Nat} {b : List Int} {i : Int} (h : b ∈ bl k) (hi : i = 0 ∨ i = 1) : (b ++ [i]).tail ∈ bl k := by
  obtain ⟨h1, h2⟩ := (mem_bl k b).mp h
  refine (mem_bl k _).mpr ⟨by rw [List.length_tail, List.length_append, h1]; rfl, fun x hx => ?_⟩
  rcases List.mem_append.mp (List.mem_of_mem_tail hx) with z | z
  · exact h2 x z
  · rw [List.mem_singleton.mp z]; exact hi
theorem bl_zero (k : Nat) : bsOf k [] ∈ bl k := (mem_bl k _).mpr ⟨by unfold bsOf; rw [List.length_map, rngI_len], fun x hx => by
  obtain ⟨v, _, rfl⟩ := List.mem_map.mp hx
  exact .inl (if_neg fun h => (nomatch h))⟩
/-- the descending rows below k -/
def dl : Nat → List (List Int)
  | 0 => [[]]
  | k + 1 => dl k ++ (dl k).map fun s => ((k : Int) + 1) :: s
theorem dl_len : ∀ k : Nat, (dl k).length = 2 ^ k
  | 0 => rfl
  | k + 1 => by
    show (dl k ++ (dl k).map _).length = _
    rw [List.length_append, List.length_map, dl_len k, Nat.pow_succ]; omega
theorem mem_dl : ∀ (k : Nat) (s : List Int), s ∈ dl k ↔ s.Pairwise (· > ·) ∧ ∀ x, x ∈ s → 1 ≤ x ∧ x ≤ (k : Int)
  | 0, s => by
    constructor
    · intro h; rw [List.mem_singleton.mp h]; exact ⟨.nil, fun _ h => (nomatch h)⟩
    · rintro ⟨_, h⟩
      cases s with
      | nil => exact List.mem_cons_self
      | cons y s => have := h y List.mem_cons_self; omega
  | k + 1, s => by
    show s ∈ dl k ++ (dl k).map _ ↔ _
    rw [List.mem_append, List.mem_map, mem_dl k]
    constructor
    · rintro (⟨h1, h2⟩ | ⟨c, hc, rfl⟩)
      · exact ⟨h1, fun x hx => by have := h2 x hx; omega⟩
      · obtain ⟨h1, h2⟩ := (mem_dl k c).mp hc
        refine ⟨List.pairwise_cons.mpr ⟨fun y hy => by have := h2 y hy; omega, h1⟩, fun x hx => ?_⟩
        rcases List.mem_cons.mp hx with z | z
        · omega
        · have := h2 x z; omega
    · rintro ⟨h1, h2⟩
      cases s with
      | nil => exact .inl ⟨.nil, fun _ h => (nomatch h)⟩
      | cons y s =>
        obtain ⟨p1, p2⟩ := List.pairwise_cons.mp h1
        have hy := h2 y List.mem_cons_self
        by_cases c : y = (k : Int) + 1
        · exact .inr ⟨s, (mem_dl k s).mpr ⟨p2, fun x hx => by have := p1 x hx; have := h2 x (List.mem_cons_of_mem _ hx); omega⟩, by rw [c]⟩
        · refine .inl ⟨h1, fun x hx => ?_⟩
          have := h2 x hx
          rcases List.mem_cons.mp hx with z | z
          · omega
          · have := p1 x z; omega
theorem rest1_pw {l : List Int} (h : l.Pairwise (· > ·)) : (rest1 l).Pairwise (· > ·) := by
  unfold rest1
  rw [List.pairwise_map]
  exact (h.sublist List.filter_sublist).imp fun {x y} z => by have z : y < x := z; show y - 1 < x - 1; omega
theorem dl_quiet {k : Nat} {s : List Int} (h : s ∈ dl k) : rest1 s ∈ dl k := by
  obtain ⟨h1, h2⟩ := (mem_dl k s).mp h
  refine (mem_dl k _).mpr ⟨rest1_pw h1, fun x hx => ?_⟩
  obtain ⟨h3, h4⟩ := mem_rest1.mp hx
  have := h2 _ h4
  omega
theorem dl_busy {k : Nat} {s : List Int} (h : s ∈ dl k) : rest1 (((k : Int) + 1) :: s) ∈ dl k := by
  obtain ⟨h1, h2⟩ := (mem_dl k s).mp h
  refine (mem_dl k _).mpr ⟨rest1_pw (List.pairwise_cons.mpr ⟨fun y hy => by have := h2 y hy; omega, h1⟩), fun x hx => ?_⟩
  obtain ⟨h3, h4⟩ := mem_rest1.mp hx
  rcases List.mem_cons.mp h4 with z | z
  · omega
  · have := h2 _ z; omega
structure Di where
  st : Int
  le : Int
  mo : Int
  ke : Int
structure DiOk (d : Di) : Prop where
  s0 : 0 ≤ d.st
  s1 : d.st ≤ 2
  l1 : 1 ≤ d.le
  lm : d.le ≤ d.mo
  m6 : d.mo ≤ 6
  k0 : 0 ≤ d.ke
  k2 : d.ke ≤ 2
/-- what is told of a stream -/
structure Fw where
  tx : Str
  ds : List Di
  a : Int
  b : Int
  du : Int
  m : Int
  w : Int
abbrev ALPH : Str := "abcdefghijklmnopqrstuvwxyz0123456789"
structure TxOk (z : Str) : Prop where
  l1 : 1 ≤ z.length
  l12 : z.length ≤ 12
  s : ∀ c, c ∈ z.cps.toList → c ∈ ALPH.cps.toList
structure FwOk (f : Fw) : Prop where
  tx : TxOk f.tx
  d2 : f.ds.length ≤ 2
  ds : ∀ d, d ∈ f.ds → DiOk d
  a1 : 1 ≤ f.a
  ab : f.a ≤ f.b
  b8 : f.b ≤ 8
  du0 : 0 ≤ f.du
  du6 : f.du ≤ 6
  m1 : 1 ≤ f.m
  m3 : f.m ≤ 3
  w1 : 1 ≤ f.w
  w8 : f.w ≤ 8
section
variable [KK : KLs]
/-! ### how things stand -/
abbrev sc (ns : List Int) : D := .lst .s (ns.map .int)
def diD (d : Di) : D := .tup [.int d.st, .int d.le, .int d.mo, .int d.ke]
def rI (r : List Int) : D := .tup (r.map .int)
def flD (q : Fl) (f : Fw) : D := .tup [.str f.tx, .tup [.lst q (f.ds.map diD), .int f.a, .int f.b], .int f.du, .int f.m, .int f.w]
def dO (C : Addr) (d : Di) : D := .obj C ["station", "least", "most", "keep"] [.int d.st, .int d.le, .int d.mo, .int d.ke]
def cO (CC CD : Addr) (f : Fw) : D := .obj CC ["dishes", "eat_least", "eat_most"] [.tup (f.ds.map (dO CD)), .int f.a, .int f.b]
def stO (CC CD CS : Addr) (f : Fw) : D := .obj CS ["name", "course", "due", "many", "window"] [.str f.tx, cO CC CD f, .int f.du, .int f.m, .int f.w]
theorem fix_diD : Fix diD := fun _ => rfl
theorem fix_rI : Fix rI := fix_int.tup
theorem fix_dO (C : Addr) : Fix (dO C) := fun _ => rfl
theorem fix_cO (CC CD : Addr) : Fix (cO CC CD) := fun c => by
  show (true && D.alls puF [.tup (c.ds.map (dO CD)), .int c.a, .int c.b]) = true
  have := (fix_dO CD).tup c.ds
  have : D.all puF (.tup (c.ds.map (dO CD))) = true := this
  rw [D.alls, this]; rfl
theorem fix_stO (CC CD CS : Addr) : Fix (stO CC CD CS) := fun c => by
  show (true && D.alls puF [.str c.tx, cO CC CD c, .int c.du, .int c.m, .int c.w]) = true
  have : D.all puF (cO CC CD c) = true := fix_cO CC CD c
  rw [D.alls, D.alls, this]; rfl
theorem ms_diD (q : Fl → Fl) (xs : List (Di)) : D.maps q (xs.map diD) = xs.map diD := fix_diD.maps q xs
theorem as_diD_coF (xs : List (Di)) : D.alls coF (xs.map diD) = true := fix_diD.alls rfl xs
theorem as_diD_nbF (xs : List (Di)) : D.alls nbF (xs.map diD) = true := fix_diD.alls rfl xs
theorem as_diD_owF (xs : List (Di)) : D.alls owF (xs.map diD) = true := fix_diD.alls rfl xs
theorem as_diD_ow2F (xs : List (Di)) : D.alls ow2F (xs.map diD) = true := fix_diD.alls rfl xs
theorem as_diD_unF (xs : List (Di)) : D.alls unF (xs.map diD) = true := fix_diD.alls rfl xs
theorem as_diD_fxF (xs : List (Di)) : D.alls fxF (xs.map diD) = true := fix_diD.alls rfl xs
theorem as_diD_puF (xs : List (Di)) : D.alls puF (xs.map diD) = true := fix_diD.alls rfl xs
theorem ms_rI (q : Fl → Fl) (xs : List (List Int)) : D.maps q (xs.map rI) = xs.map rI := fix_rI.maps q xs
theorem as_rI_coF (xs : List (List Int)) : D.alls coF (xs.map rI) = true := fix_rI.alls rfl xs
theorem as_rI_nbF (xs : List (List Int)) : D.alls nbF (xs.map rI) = true := fix_rI.alls rfl xs
theorem as_rI_owF (xs : List (List Int)) : D.alls owF (xs.map rI) = true := fix_rI.alls rfl xs
theorem as_rI_ow2F (xs : List (List Int)) : D.alls ow2F (xs.map rI) = true := fix_rI.alls rfl xs
theorem as_rI_unF (xs : List (List Int)) : D.alls unF (xs.map rI) = true := fix_rI.alls rfl xs
theorem as_rI_fxF (xs : List (List Int)) : D.alls fxF (xs.map rI) = true := fix_rI.alls rfl xs
theorem as_rI_puF (xs : List (List Int)) : D.alls puF (xs.map rI) = true := fix_rI.alls rfl xs
theorem ms_dO (C : Addr) (q : Fl → Fl) (xs : List (Di)) : D.maps q (xs.map (dO C)) = xs.map (dO C) := (fix_dO C).maps q xs
theorem as_dO_coF (C : Addr) (xs : List (Di)) : D.alls coF (xs.map (dO C)) = true := (fix_dO C).alls rfl xs
theorem as_dO_nbF (C : Addr) (xs : List (Di)) : D.alls nbF (xs.map (dO C)) = true := (fix_dO C).alls rfl xs
theorem as_dO_owF (C : Addr) (xs : List (Di)) : D.alls owF (xs.map (dO C)) = true := (fix_dO C).alls rfl xs
theorem as_dO_ow2F (C : Addr) (xs : List (Di)) : D.alls ow2F (xs.map (dO C)) = true := (fix_dO C).alls rfl xs
theorem as_dO_unF (C : Addr) (xs : List (Di)) : D.alls unF (xs.map (dO C)) = true := (fix_dO C).alls rfl xs
theorem as_dO_fxF (C : Addr) (xs : List (Di)) : D.alls fxF (xs.map (dO C)) = true := (fix_dO C).alls rfl xs
theorem as_dO_puF (C : Addr) (xs : List (Di)) : D.alls puF (xs.map (dO C)) = true := (fix_dO C).alls rfl xs
theorem m_dO (C : Addr) (q : Fl → Fl) (x : Di) : D.map q ((dO C) x) = (dO C) x := (fix_dO C).map q x
theorem a_dO_coF (C : Addr) (x : Di) : D.all coF ((dO C) x) = true := (fix_dO C).all rfl x
theorem a_dO_nbF (C : Addr) (x : Di) : D.all nbF ((dO C) x) = true := (fix_dO C).all rfl x
theorem a_dO_owF (C : Addr) (x : Di) : D.all owF ((dO C) x) = true := (fix_dO C).all rfl x
theorem a_dO_ow2F (C : Addr) (x : Di) : D.all ow2F ((dO C) x) = true := (fix_dO C).all rfl x
theorem a_dO_unF (C : Addr) (x : Di) : D.all unF ((dO C) x) = true := (fix_dO C).all rfl x
theorem a_dO_fxF (C : Addr) (x : Di) : D.all fxF ((dO C) x) = true := (fix_dO C).all rfl x
theorem a_dO_puF (C : Addr) (x : Di) : D.all puF ((dO C) x) = true := (fix_dO C).all rfl x
theorem ms_cO (CC : Addr) (CD : Addr) (q : Fl → Fl) (xs : List (Fw)) : D.maps q (xs.map (cO CC CD)) = xs.map (cO CC CD) := (fix_cO CC CD).maps q xs
theorem as_cO_coF (CC : Addr) (CD : Addr) (xs : List (Fw)) : D.alls coF (xs.map (cO CC CD)) = true := (fix_cO CC CD).alls rfl xs
theorem as_cO_nbF (CC : Addr) (CD : Addr) (xs : List (Fw)) : D.alls nbF (xs.map (cO CC CD)) = true := (fix_cO CC CD).alls rfl xs
theorem as_cO_owF (CC : Addr) (CD : Addr) (xs : List (Fw)) : D.alls owF (xs.map (cO CC CD)) = true := (fix_cO CC CD).alls rfl xs
theorem as_cO_ow2F (CC : Addr) (CD : Addr) (xs : List (Fw)) : D.alls ow2F (xs.map (cO CC CD)) = true := (fix_cO CC CD).alls rfl xs
theorem as_cO_unF (CC : Addr) (CD : Addr) (xs : List (Fw)) : D.alls unF (xs.map (cO CC CD)) = true := (fix_cO CC CD).alls rfl xs
theorem as_cO_fxF (CC : Addr) (CD : Addr) (xs : List (Fw)) : D.alls fxF (xs.map (cO CC CD)) = true := (fix_cO CC CD).alls rfl xs
theorem as_cO_puF (CC : Addr) (CD : Addr) (xs : List (Fw)) : D.alls puF (xs.map (cO CC CD)) = true := (fix_cO CC CD).alls rfl xs
theorem m_cO (CC : Addr) (CD : Addr) (q : Fl → Fl) (x : Fw) : D.map q ((cO CC CD) x) = (cO CC CD) x := (fix_cO CC CD).map q x
theorem a_cO_coF (CC : Addr) (CD : Addr) (x : Fw) : D.all coF ((cO CC CD) x) = true := (fix_cO CC CD).all rfl x
theorem a_cO_nbF (CC : Addr) (CD : Addr) (x : Fw) : D.all nbF ((cO CC CD) x) = true := (fix_cO CC CD).all rfl x
theorem a_cO_owF (CC : Addr) (CD : Addr) (x : Fw) : D.all owF ((cO CC CD) x) = true := (fix_cO CC CD).all rfl x
theorem a_cO_ow2F (CC : Addr) (CD : Addr) (x : Fw) : D.all ow2F ((cO CC CD) x) = true := (fix_cO CC CD).all rfl x
theorem a_cO_unF (CC : Addr) (CD : Addr) (x : Fw) : D.all unF ((cO CC CD) x) = true := (fix_cO CC CD).all rfl x
theorem a_cO_fxF (CC : Addr) (CD : Addr) (x : Fw) : D.all fxF ((cO CC CD) x) = true := (fix_cO CC CD).all rfl x
theorem a_cO_puF (CC : Addr) (CD : Addr) (x : Fw) : D.all puF ((cO CC CD) x) = true := (fix_cO CC CD).all rfl x
theorem ms_stO (CC : Addr) (CD : Addr) (CS : Addr) (q : Fl → Fl) (xs : List (Fw)) : D.maps q (xs.map (stO CC CD CS)) = xs.map (stO CC CD CS) := (fix_stO CC CD CS).maps q xs
theorem as_stO_coF (CC : Addr) (CD : Addr) (CS : Addr) (xs : List (Fw)) : D.alls coF (xs.map (stO CC CD CS)) = true := (fix_stO CC CD CS).alls rfl xs
theorem as_stO_nbF (CC : Addr) (CD : Addr) (CS : Addr) (xs : List (Fw)) : D.alls nbF (xs.map (stO CC CD CS)) = true := (fix_stO CC CD CS).alls rfl xs
theorem as_stO_owF (CC : Addr) (CD : Addr) (CS : Addr) (xs : List (Fw)) : D.alls owF (xs.map (stO CC CD CS)) = true := (fix_stO CC CD CS).alls rfl xs
theorem as_stO_ow2F (CC : Addr) (CD : Addr) (CS : Addr) (xs : List (Fw)) : D.alls ow2F (xs.map (stO CC CD CS)) = true := (fix_stO CC CD CS).alls rfl xs
theorem as_stO_unF (CC : Addr) (CD : Addr) (CS : Addr) (xs : List (Fw)) : D.alls unF (xs.map (stO CC CD CS)) = true := (fix_stO CC CD CS).alls rfl xs
theorem as_stO_fxF (CC : Addr) (CD : Addr) (CS : Addr) (xs : List (Fw)) : D.alls fxF (xs.map (stO CC CD CS)) = true := (fix_stO CC CD CS).alls rfl xs
theorem as_stO_puF (CC : Addr) (CD : Addr) (CS : Addr) (xs : List (Fw)) : D.alls puF (xs.map (stO CC CD CS)) = true := (fix_stO CC CD CS).alls rfl xs
theorem m_stO (CC : Addr) (CD : Addr) (CS : Addr) (q : Fl → Fl) (x : Fw) : D.map q ((stO CC CD CS) x) = (stO CC CD CS) x := (fix_stO CC CD CS).map q x
theorem a_stO_coF (CC : Addr) (CD : Addr) (CS : Addr) (x : Fw) : D.all coF ((stO CC CD CS) x) = true := (fix_stO CC CD CS).all rfl x
theorem a_stO_nbF (CC : Addr) (CD : Addr) (CS : Addr) (x : Fw) : D.all nbF ((stO CC CD CS) x) = true := (fix_stO CC CD CS).all rfl x
theorem a_stO_owF (CC : Addr) (CD : Addr) (CS : Addr) (x : Fw) : D.all owF ((stO CC CD CS) x) = true := (fix_stO CC CD CS).all rfl x
theorem a_stO_ow2F (CC : Addr) (CD : Addr) (CS : Addr) (x : Fw) : D.all ow2F ((stO CC CD CS) x) = true := (fix_stO CC CD CS).all rfl x
theorem a_stO_unF (CC : Addr) (CD : Addr) (CS : Addr) (x : Fw) : D.all unF ((stO CC CD CS) x) = true := (fix_stO CC CD CS).all rfl x
theorem a_stO_fxF (CC : Addr) (CD : Addr) (CS : Addr) (x : Fw) : D.all fxF ((stO CC CD CS) x) = true := (fix_stO CC CD CS).all rfl x
theorem a_stO_puF (CC : Addr) (CD : Addr) (CS : Addr) (x : Fw) : D.all puF ((stO CC CD CS) x) = true := (fix_stO CC CD CS).all rfl x
theorem m_flD (q : Fl → Fl) (f : Fl) (c : Fw) : D.map q (flD f c) = flD (q f) c := by
  show D.nd .tup [.str c.tx, D.nd .tup [D.nd (.lst (q f)) (D.maps q (c.ds.map diD)), .int c.a, .int c.b], .int c.du, .int c.m, .int c.w] = _
  rw [ms_diD]; rfl
theorem a_flD {q : Fl → Bool} {f : Fl} (hi : q .i = true) (hf : q f.ls = true) (c : Fw) : D.all q (flD f c) = true := by
  show (q .i && (true && ((q .i && ((q f.ls && D.alls q (c.ds.map diD)) && (true && (true && true)))) && (true && (true && (true && true)))))) = true
  rw [hi, hf, fix_diD.alls hi]; rfl
theorem ms_flD (q : Fl → Fl) (f : Fl) (xs : List Fw) : D.maps q (xs.map (flD f)) = xs.map (flD (q f)) := by
  rw [D.maps_eq, List.map_map]
  exact List.map_congr_left fun c _ => m_flD q f c
theorem as_flD {q : Fl → Bool} {f : Fl} (hi : q .i = true) (hf : q f.ls = true) (xs : List Fw) : D.alls q (xs.map (flD f)) = true := alls_emb (a_flD hi hf) xs
theorem as_flD_a_coF (xs : List Fw) : D.alls coF (xs.map (flD .a)) = true := as_flD rfl rfl xs
theorem a_flD_a_coF (x : Fw) : D.all coF (flD .a x) = true := a_flD rfl rfl x
theorem as_flD_a_nbF (xs : List Fw) : D.alls nbF (xs.map (flD .a)) = true := as_flD rfl rfl xs
theorem a_flD_a_nbF (x : Fw) : D.all nbF (flD .a x) = true := a_flD rfl rfl x
theorem as_flD_a_ow2F (xs : List Fw) : D.alls ow2F (xs.map (flD .a)) = true := as_flD rfl rfl xs
theorem a_flD_a_ow2F (x : Fw) : D.all ow2F (flD .a x) = true := a_flD rfl rfl x
theorem as_flD_a_unF (xs : List Fw) : D.alls unF (xs.map (flD .a)) = true := as_flD rfl rfl xs
theorem a_flD_a_unF (x : Fw) : D.all unF (flD .a x) = true := a_flD rfl rfl x
theorem as_flD_a_fxF (xs : List Fw) : D.alls fxF (xs.map (flD .a)) = true := as_flD rfl rfl xs
theorem a_flD_a_fxF (x : Fw) : D.all fxF (flD .a x) = true := a_flD rfl rfl x
theorem as_flD_l_coF (xs : List Fw) : D.alls coF (xs.map (flD .l)) = true := as_flD rfl rfl xs
theorem a_flD_l_coF (x : Fw) : D.all coF (flD .l x) = true := a_flD rfl rfl x
theorem as_flD_l_nbF (xs : List Fw) : D.alls nbF (xs.map (flD .l)) = true := as_flD rfl rfl xs
theorem a_flD_l_nbF (x : Fw) : D.all nbF (flD .l x) = true := a_flD rfl rfl x
theorem as_flD_l_ow2F (xs : List Fw) : D.alls ow2F (xs.map (flD .l)) = true := as_flD rfl rfl xs
theorem a_flD_l_ow2F (x : Fw) : D.all ow2F (flD .l x) = true := a_flD rfl rfl x
theorem as_flD_l_unF (xs : List Fw) : D.alls unF (xs.map (flD .l)) = true := as_flD rfl rfl xs
theorem a_flD_l_unF (x : Fw) : D.all unF (flD .l x) = true := a_flD rfl rfl x
theorem as_flD_l_fxF (xs : List Fw) : D.alls fxF (xs.map (flD .l)) = true := as_flD rfl rfl xs
theorem a_flD_l_fxF (x : Fw) : D.all fxF (flD .l x) = true := a_flD rfl rfl x
theorem as_flD_l_owF (xs : List Fw) : D.alls owF (xs.map (flD .l)) = true := as_flD rfl rfl xs
theorem a_flD_l_owF (x : Fw) : D.all owF (flD .l x) = true := a_flD rfl rfl x
theorem ty_list_int : tySub "list" "int" = false := by decide
theorem ty_tuple_int : tySub "tuple" "int" = false := by decide
theorem ty_tuple_list : tySub "tuple" "list" = false := by decide
theorem ty_list_tuple : tySub "list" "tuple" = false := by decide
theorem kD_inl (s : List Int) : (s.map Sum.inl : List Key).map kD = s.map .int := by
  rw [List.map_map]; rfl
/-! ### tables, as they stand -/
def kkE (e : List Int × Int) : List Key := e.1.map Sum.inl
def vvE (e : List Int × Int) : D := .int e.2
def mD (f : Fl) (M : MM) : D := .dtt f (M.map kkE) (M.map vvE)
theorem fix_vvE : Fix vvE := fun _ => rfl
theorem ms_vvE (q : Fl → Fl) (xs : List (List Int × Int)) : D.maps q (xs.map vvE) = xs.map vvE := fix_vvE.maps q xs
theorem as_vvE_coF (xs : List (List Int × Int)) : D.alls coF (xs.map vvE) = true := fix_vvE.alls rfl xs
theorem as_vvE_nbF (xs : List (List Int × Int)) : D.alls nbF (xs.map vvE) = true := fix_vvE.alls rfl xs
theorem as_vvE_owF (xs : List (List Int × Int)) : D.alls owF (xs.map vvE) = true := fix_vvE.alls rfl xs
theorem as_vvE_ow2F (xs : List (List Int × Int)) : D.alls ow2F (xs.map vvE) = true := fix_vvE.alls rfl xs
theorem as_vvE_unF (xs : List (List Int × Int)) : D.alls unF (xs.map vvE) = true := fix_vvE.alls rfl xs
theorem as_vvE_fxF (xs : List (List Int × Int)) : D.alls fxF (xs.map vvE) = true := fix_vvE.alls rfl xs
theorem as_vvE_puF (xs : List (List Int × Int)) : D.alls puF (xs.map vvE) = true := fix_vvE.alls rfl xs
theorem inl_inj : ∀ {a b : List Int}, (a.map Sum.inl : List Key) = b.map Sum.inl → a = b
  | [], [], _ => rfl
  | [], _ :: _, h => nomatch h
  | _ :: _, [], h => nomatch h
  | x :: a, y :: b, h => by
    rw [List.map_cons, List.map_cons] at h
    injection h with h1 h2
    rw [Sum.inl.inj h1, inl_inj h2]
theorem kk_eq {e : List Int × Int} {s : List Int} : kkE e = s.map Sum.inl ↔ e.1 = s := ⟨fun h => inl_inj h, fun h => by unfold kkE; rw [h]⟩
theorem keys_ints : ∀ s : List Int, keys? (s.map .int) = some (s.map Sum.inl)
  | [] => rfl
  | x :: s => by
    rw [List.map_cons, keys?, keys_ints s]; rfl
theorem tkey_rI (s : List Int) : (D.nd .tup (s.map .int)).tkey = some (s.map Sum.inl) := keys_ints s
theorem tkey_nil : (D.nd .tup []).tkey = some [] := rfl
theorem kfind_m {s : List Int} : ∀ M : MM, (kfind (M.map kkE) (M.map vvE) (s.map Sum.inl)).getD (.int 0) = .int (mget M s)
  | [] => rfl
  | e :: M => by
    rw [List.map_cons, List.map_cons, kfind, mget]
    by_cases c : e.1 = s
    · rw [if_pos (kk_eq.mpr c), if_pos c]; rfl
    · rw [if_neg (fun z => c (kk_eq.mp z)), if_neg c, kfind_m M]
theorem kfind_in {s : List Int} : ∀ M : MM, s ∈ M.map (·.1) → kfind (M.map kkE) (M.map vvE) (s.map Sum.inl) = some (.int (mget M s))
  | [], h => nomatch h
  | e :: M, h => by
    rw [List.map_cons, List.map_cons, kfind, mget]
    by_cases c : e.1 = s
    · rw [if_pos (kk_eq.mpr c), if_pos c]; rfl
    · rw [if_neg (fun z => c (kk_eq.mp z)), if_neg c]
      rcases List.mem_cons.mp h with z | z
      · exact absurd z.symm c
      · exact kfind_in M z
theorem kadd_m {s : List Int} (v : Int) : ∀ M : MM, kadd (M.map kkE) (s.map Sum.inl) = (mput M s v).map kkE
  | [] => rfl
  | e :: M => by
    rw [List.map_cons, kadd, mput]
    by_cases c : e.1 = s
    · rw [if_pos (kk_eq.mpr c), if_pos c, List.map_cons]
      have : kkE e = kkE (s, v) := by unfold kkE; rw [c]
      rw [this]
    · rw [if_neg (fun z => c (kk_eq.mp z)), if_neg c, List.map_cons, kadd_m v M]
theorem kput_m {s : List Int} (v : Int) : ∀ M : MM, kput (M.map kkE) (M.map vvE) (s.map Sum.inl) (.int v) = (mput M s v).map vvE
  | [] => rfl
  | e :: M => by
    rw [List.map_cons, List.map_cons, kput, mput]
    by_cases c : e.1 = s
    · rw [if_pos (kk_eq.mpr c), if_pos c]; rfl
    · rw [if_neg (fun z => c (kk_eq.mp z)), if_neg c, List.map_cons, kput_m v M]
theorem n_tput {f : Fl} {s : List Int} {v : Int} {M : MM} : D.nd (.dtt f (kadd (M.map kkE) (s.map Sum.inl))) (kput (M.map kkE) (M.map vvE) (s.map Sum.inl) (.int v)) = mD f (mput M s v) := by
  rw [kput_m, kadd_m v]; rfl
theorem kk_nd {M : MM} (h : (M.map (·.1)).Nodup) : (M.map kkE).Nodup := by
  rw [List.nodup_iff_pairwise_ne, List.pairwise_map] at h ⊢
  exact h.imp fun {a b} h1 h2 => h1 (kk_eq.mp (show kkE a = b.1.map Sum.inl from h2))
theorem keys_ktD (M : MM) : (M.map kkE).map ktD = (M.map (·.1)).map rI := by
  rw [List.map_map, List.map_map]
  refine List.map_congr_left fun e _ => ?_
  show D.tup ((e.1.map Sum.inl : List Key).map kD) = _
  rw [kD_inl]; rfl
def prE (e : List Int × Int) : D := .tup [rI e.1, .int e.2]
theorem fix_prE : Fix prE := fun e => by
  show (true && ((D.all puF (rI e.1)) && (true && true))) = true
  rw [show D.all puF (rI e.1) = true from fix_rI e.1]; rfl
theorem ms_prE (q : Fl → Fl) (xs : List (List Int × Int)) : D.maps q (xs.map prE) = xs.map prE := fix_prE.maps q xs
theorem as_prE_coF (xs : List (List Int × Int)) : D.alls coF (xs.map prE) = true := fix_prE.alls rfl xs
theorem as_prE_nbF (xs : List (List Int × Int)) : D.alls nbF (xs.map prE) = true := fix_prE.alls rfl xs
theorem as_prE_owF (xs : List (List Int × Int)) : D.alls owF (xs.map prE) = true := fix_prE.alls rfl xs
theorem as_prE_ow2F (xs : List (List Int × Int)) : D.alls ow2F (xs.map prE) = true := fix_prE.alls rfl xs
theorem as_prE_unF (xs : List (List Int × Int)) : D.alls unF (xs.map prE) = true := fix_prE.alls rfl xs
theorem as_prE_fxF (xs : List (List Int × Int)) : D.alls fxF (xs.map prE) = true := fix_prE.alls rfl xs
theorem as_prE_puF (xs : List (List Int × Int)) : D.alls puF (xs.map prE) = true := fix_prE.alls rfl xs
theorem itD_m : ∀ M : MM, itD (M.map kkE) (M.map vvE) = M.map prE
  | [] => rfl
  | e :: M => by
    have ih := itD_m M
    unfold itD at ih ⊢
    rw [List.map_cons, List.map_cons, List.zip_cons_cons, List.map_cons, ih, List.map_cons]
    congr 1
    show D.tup [D.tup ((e.1.map Sum.inl : List Key).map kD), _] = _
    rw [kD_inl]; rfl
theorem forT_ok {i : Nat} {g : TGv} {tb : TSv} {W : Ev} {ρ : VL.Env} {M : MM} (h : ρ[i]? = some (some (mD .o M))) (hs : ∀ a : Addr, forL g tb (M.map prE)
      { nx := fun ρ' => ρ'[i]? = some (some (.cst (.ref a))) ∧ envUn (ρ'.set i none) = true ∧ W.nx (ρ'.set i (some (mD .o M))), rt := fun _ => False, bk := fun _ => False, ct := fun _ => False } (ρ.set i (some (.cst (.ref a))))) : vForT i g tb W ρ := by
  unfold vForT
  rw [h]
  refine ⟨fix_vvE.alls rfl _, fun a => ?_⟩
  rw [itD_m]
  exact hs a
theorem tups_rI (R : List (List Int)) : tups? (R.map rI) = some R := tups_map R
theorem vv_ints (M : MM) : M.map vvE = (M.map (·.2)).map .int := by rw [List.map_map]; rfl
theorem sum_one : ∀ M : MM, (M.map (·.2)).sum = wS (fun _ => 1) M
  | [] => rfl
  | e :: M => by
    have := sum_one M
    unfold wS at this ⊢
    rw [List.map_cons, List.map_cons, List.sum_cons, List.sum_cons, this]
    show e.2 + _ = e.2 * 1 + _
    omega
theorem dSgn_c {neg : Bool} {c : Nat} {z : Str} {Q : D → Prop} : dSgn neg (.str ⟨#[c]⟩) (.str z) Q = Q (.bl (if neg then !decide (c ∈ z.cps.toList) else decide (c ∈ z.cps.toList))) := rfl
theorem alph_len : ALPH.cps.toList.length = 36 := by decide +kernel
theorem alph_l : ALPH.length ≤ 1000000 := by decide +kernel
theorem join_sgn : ∀ cs : List Nat, (Str.join ("" : Str) (cs.map fun c => (⟨#[c]⟩ : Str))).cps.toList = cs
  | [] => rfl
  | [x] => rfl
  | x :: y :: r => by
    have ih := join_sgn (y :: r)
    show ((⟨#[x]⟩ : Str) ++ ("" : Str) ++ Str.join ("" : Str) ((y :: r).map fun c => (⟨#[c]⟩ : Str))).cps.toList = _
    show ((#[x] ++ ("" : Str).cps) ++ (Str.join ("" : Str) ((y :: r).map fun c => (⟨#[c]⟩ : Str))).cps).toList = _
    rw [Array.toList_append, ih, Array.toList_append]
    rfl
theorem join_ok {cs : List Nat} (h1 : 1 ≤ cs.length) (h2 : cs.length ≤ 12) (h : ∀ c, c ∈ cs → c ∈ ALPH.cps.toList) : TxOk (Str.join ("" : Str) (cs.map fun c => (⟨#[c]⟩ : Str))) := by
  have e := join_sgn cs
  have el : (Str.join ("" : Str) (cs.map fun c => (⟨#[c]⟩ : Str))).length = cs.length := by
    show (Str.join ("" : Str) (cs.map fun c => (⟨#[c]⟩ : Str))).cps.size = _
    rw [← Array.length_toList, e]
  exact ⟨by omega, by omega, fun c hc => h c (by rw [e] at hc; exact hc)⟩
def sgD (c : Nat) : D := .str ⟨#[c]⟩
theorem strs_sg (cs : List Nat) : VL.strs? (cs.map sgD) = some (cs.map fun c => (⟨#[c]⟩ : Str)) := by
  have := VL.strs_map (cs.map fun c => (⟨#[c]⟩ : Str))
  rw [List.map_map] at this
  exact this
theorem sum_ones : ∀ cs : List Nat, ((cs.map fun c => (⟨#[c]⟩ : Str)).map (·.length)).sum = cs.length
  | [] => rfl
  | c :: cs => by
    rw [List.map_cons, List.map_cons, List.sum_cons, sum_ones cs, List.length_cons]
    show 1 + _ = _
    omega
/-! ### promises -/
abbrev fw0 : Fw := ⟨"", [], 0, 0, 0, 0, 0⟩
abbrev nums (f : Fw) : List Int := (List.range 41).map fun n : Nat => ((vl f.m f.w n).length : Int)
def numD (q : Fl) (f : Fw) : D := .lst q ((nums f).map .int)
theorem ms_numD (q : Fl → Fl) (f : Fl) (xs : List Fw) : D.maps q (xs.map (numD f)) = xs.map (numD (q f)) := by
  rw [D.maps_eq, List.map_map]
  refine List.map_congr_left fun c _ => ?_
  show D.nd (.lst (q f)) (D.maps q ((nums c).map .int)) = _
  rw [maps_ints]; rfl
theorem as_numD {q : Fl → Bool} {f : Fl} (hf : q f.ls = true) (xs : List Fw) : D.alls q (xs.map (numD f)) = true := alls_emb (fun c => by
  show (q f.ls && D.alls q ((nums c).map .int)) = true
  rw [hf, alls_ints]; rfl) xs
theorem as_numD_l_nbF (xs : List Fw) : D.alls nbF (xs.map (numD .l)) = true := as_numD rfl xs
theorem as_numD_o_nbF (xs : List Fw) : D.alls nbF (xs.map (numD .o)) = true := as_numD rfl xs
theorem as_numD_l_coF (xs : List Fw) : D.alls coF (xs.map (numD .l)) = true := as_numD rfl xs
abbrev P_law_draw : PV := DrawP
def P_law_flow : PV := fun ds Q _ => ∃ (ns : List Int) (a : Int), ds = [sc ns, .int a] ∧ ns.length ≤ 63 ∧ 0 ≤ a ∧ a ≤ 100 ∧ ∀ f, FwOk f → Q (flD .l f)
def P_between : PV := fun ds Q _ => ∃ (v a b : Int), ds = [.int v, .int a, .int b] ∧ a ≤ v ∧ v ≤ b ∧ Q (.bl true)
def P_is_name : PV := fun ds Q _ => ∃ z, ds = [.str z] ∧ TxOk z ∧ Q (.bl true)
def P_Dish_init (CD : Addr) : PI' := fun C ds Q _ => ∃ d, ds = [.int d.st, .int d.le, .int d.mo, .int d.ke] ∧ C = CD ∧ DiOk d ∧ Q ["station", "least", "most", "keep"] [.int d.st, .int d.le, .int d.mo, .int d.ke]
def P_Course_init (CC CD : Addr) : PI' := fun C ds Q _ => ∃ c : Fw, ds = [.lst .a (c.ds.map (dO CD)), .int c.a, .int c.b] ∧ C = CC ∧ FwOk c ∧ Q ["dishes", "eat_least", "eat_most"] [.tup (c.ds.map (dO CD)), .int c.a, .int c.b]
def P_Stream_init (CC CD CS : Addr) : PI' := fun C ds Q _ => ∃ f : Fw, ds = [.str f.tx, cO CC CD f, .int f.du, .int f.m, .int f.w] ∧ C = CS ∧ FwOk f ∧ Q ["name", "course", "due", "many", "window"] [.str f.tx, cO CC CD f, .int f.du, .int f.m, .int f.w]
def P_law_stream (CC CD CS : Addr) : PV := fun ds Q _ => ∃ f, ds = [flD .a f] ∧ FwOk f ∧ Q (stO CC CD CS f)
def P_law_numbers : PV := fun ds Q _ => ∃ f, ds = [flD .a f] ∧ FwOk f ∧ Q (.lst .o ((nums f).map .int))
def P_law_stands (CC CD CS : Addr) : PV := fun ds Q _ => ∃ f, ds = [stO CC CD CS f, flD .a f] ∧ FwOk f ∧ Q (.bl true)
def P_law_row_keeps : PV := fun ds Q _ => ∃ f r, ds = [flD .a f, rI r] ∧ FwOk f ∧ r.length ≤ 1000 ∧ Q (.bl (keepsB f.m f.w r))
def P_law_rows : PV := fun ds Q _ => ∃ (f : Fw) (n : Nat), ds = [flD .a f, .int n] ∧ FwOk f ∧ n ≤ 10 ∧ Q (.lst .o ((pre f.m f.w n []).map rI))
def P_lets_come (CC CD CS : Addr) : PV := fun ds Q _ => ∃ (f : Fw) (r : List Int) (t : Int), ds = [stO CC CD CS f, rI r, .int t] ∧ FwOk f ∧ Q (.bl (okT f.m f.w r t))
def P_order_rows (CC CD CS : Addr) : PV := fun ds Q _ => ∃ (f : Fw) (n : Nat), ds = [stO CC CD CS f, .int n] ∧ FwOk f ∧ n ≤ 10 ∧ Q (.lst .o ((pre f.m f.w n []).map rI))
def P_law_is_int : PV := fun ds Q _ => ∃ i, ds = [.int i] ∧ Q (.bl true)
def P_law_are_rows : PV := fun ds Q _ => ∃ R : List (List Int), ds = [.lst .a (R.map rI), .lst .a (R.map rI)] ∧ R.length ≤ 100000 ∧ (∀ r, r ∈ R → r.length ≤ 1000) ∧ Q (.bl true)
def P_law_listed (CC CD CS : Addr) : PV := fun ds Q _ => ∃ (f : Fw) (n : Nat), ds = [stO CC CD CS f, .lst .a ((pre f.m f.w n []).map rI), .int n] ∧ FwOk f ∧ n ≤ 10 ∧ Q (.bl true)
def P_count_order_rows (CC CD CS : Addr) : PV := fun ds Q _ => ∃ (f : Fw) (n : Nat), ds = [stO CC CD CS f, .int n] ∧ FwOk f ∧ n ≤ 40 ∧ Q (.int (vl f.m f.w n).length)
def P_law_counted (CC CD CS : Addr) : PV := fun ds Q _ => ∃ (f : Fw) (n : Nat), ds = [stO CC CD CS f, .lst .a ((nums f).map .int), .int n] ∧ FwOk f ∧ n ≤ 40 ∧ Q (.bl true)
local macro_rules | `(tactic| walk_at "w1") => `(tactic| first | simp (config := { dsimp := false, implicitDefEqProofs := false }) only [↓n_seq, ↓n_if, ↓n_ifE, ↓n_call, ↓n_callW, ↓n_make, ↓n_make0, ↓n_andT, ↓n_orT, ↓n_and, ↓n_or, ↓n_lc, ↓n_maxL, ↓n_ixT, ↓n_ixL, sel_t, sel_f, ixQ_s, ↓n_dget, ↓n_dgetK, ↓n_dgetO, ↓n_dput, ↓n_dputS, ↓n_dputK, kput_str, kadd_str, kfind_str, key_str, key_int, rdF_o, rdF_l, rdF_a, rdF_b, vDisp, Fl.ls, D.alls, dInN, dTuple, dSum, vSl, vPt, vNo, vApp, vSetIx, vRetN, VL.ints_map, cut_ints, vAsgL, vAsg, vB, vCons, vNil, vC, vVar, vOp, vUn, vTest, vRet, vRetV, vNext, vNever, vTup, vLst, vNot, vNotT, vFld, dFld, vIt, vRng1, vRng2, vFor, vLstRg2, vSetF, vgName, vgTup, vgCons, vgNil, wipeD, dMax2, dMin2, dLen, dI, dI0, dInt1, dAdd, dNeg, dEq, dEqN, dList, dIsi, startD, vAsgG, initEnd, List.map_cons, List.map_nil, List.cons_append, List.nil_append, List.append_nil, List.length_cons, List.length_nil, List.replicate, List.getElem?_cons_zero, List.getElem?_cons_succ, List.set_cons_zero, List.set_cons_succ, List.zip_cons_cons, List.zip_nil_right, List.lookup_cons, List.lookup_nil, D.map, D.maps, D.all, D.ty, Hd.map, Hd.fl, Fl.sl, fBor, fLoc, fArg, nbF, owF, puF, coF, riF, nsF, D.bor, D.loc, D.arg, D.nb, D.ow, maps_ints, alls_ints, at0, at1, at2, at3, at4, at5, beq_self_eq_true, str_beq, str_eqv, String.reduceEq, Nat.reduceAdd, Nat.reduceLeDiff, Int.cast_ofNat_Int, eq_self, List.all_cons, List.all_nil, ty_int_int, ty_int_bool, ty_list_list, ty_tuple_tuple, ty_non_tuple, decide_true, decide_false, true_and, and_true, Bool.true_and, Bool.and_true, if_true, if_false, Bool.not_true, Bool.not_false, Bool.false_eq_true, Option.some.injEq, reduceCtorEq, alls_app, maps_app, List.length_map, List.length_append, List.length_set, upTo_len, rngI_len, ty_bool_bool, ty_bool_int, Option.isSome_some, Option.isSome_none, ↓n_isN, isNQ_non, isNQ_int, isNQ_bl, isNQ_str, isNQ_nd, ow2F, fxF, D.ow2, vClear, vAppIx, ms_diD, as_diD_coF, as_diD_nbF, as_diD_owF, as_diD_ow2F, as_diD_unF, as_diD_fxF, as_diD_puF, ms_rI, as_rI_coF, as_rI_nbF, as_rI_owF, as_rI_ow2F, as_rI_unF, as_rI_fxF, as_rI_puF, ms_dO, as_dO_coF, as_dO_nbF, as_dO_owF, as_dO_ow2F, as_dO_unF, as_dO_fxF, as_dO_puF, m_dO, a_dO_coF, a_dO_nbF, a_dO_owF, a_dO_ow2F, a_dO_unF, a_dO_fxF, a_dO_puF, ms_cO, as_cO_coF, as_cO_nbF, as_cO_owF, as_cO_ow2F, as_cO_unF, as_cO_fxF, as_cO_puF, m_cO, a_cO_coF, a_cO_nbF, a_cO_owF, a_cO_ow2F, a_cO_unF, a_cO_fxF, a_cO_puF, ms_stO, as_stO_coF, as_stO_nbF, as_stO_owF, as_stO_ow2F, as_stO_unF, as_stO_fxF, as_stO_puF, m_stO, a_stO_coF, a_stO_nbF, a_stO_owF, a_stO_ow2F, a_stO_unF, a_stO_fxF, a_stO_puF, ms_vvE, as_vvE_coF, as_vvE_nbF, as_vvE_owF, as_vvE_ow2F, as_vvE_unF, as_vvE_fxF, as_vvE_puF, ms_prE, as_prE_coF, as_prE_nbF, as_prE_owF, as_prE_ow2F, as_prE_unF, as_prE_fxF, as_prE_puF, ms_flD, as_flD_a_coF, as_flD_a_nbF, as_flD_a_ow2F, as_flD_a_unF, as_flD_a_fxF, as_flD_l_coF, as_flD_l_nbF, as_flD_l_ow2F, as_flD_l_unF, as_flD_l_fxF, as_flD_l_owF, m_flD, a_flD_a_coF, a_flD_a_nbF, a_flD_a_ow2F, a_flD_a_unF, a_flD_a_fxF, a_flD_l_coF, a_flD_l_nbF, a_flD_l_ow2F, a_flD_l_unF, a_flD_l_fxF, a_flD_l_owF, diD, rI, flD, dO, cO, stO, ty_list_int, ty_tuple_int, ty_tuple_list, ty_list_tuple, tkey_rI, n_tput, vTGet, vTGet2, vTPut, vTct0, vDisp1, vLockT, mD, prE, tkey_nil, kfind_m, envUn, keys_ktD, ms_numD, as_numD_l_nbF, as_numD_o_nbF, as_numD_l_coF, vItT, dSumT, vMove, vRng3, vJoin, vListV, dListT, dSortedT, dSgn_c, vLocE, vFrz, ↓n_isN, cut_emb, unF, okEq_lst_ints] | with_reducible refine hold_i ?_ | with_reducible refine stp_i ?_)
local macro_rules | `(tactic| walk_at "vl") => `(tactic| repeat walk_at "w1")
local macro_rules | `(tactic| walk_at "st") => `(tactic| repeat (first | simp (config := { dsimp := false, implicitDefEqProofs := false }) only [↓n_seq, ↓n_if, ↓n_ifE, ↓n_call, ↓n_callW, ↓n_make, ↓n_make0, ↓n_andT, ↓n_orT, ↓n_and, ↓n_or, ↓n_lc, ↓n_maxL, ↓n_ixT, ↓n_ixL, sel_t, sel_f, ixQ_s, ↓n_dget, ↓n_dgetK, ↓n_dgetO, ↓n_dput, ↓n_dputS, ↓n_dputK, kput_str, kadd_str, kfind_str, key_str, key_int, rdF_o, rdF_l, rdF_a, rdF_b, vDisp, Fl.ls, D.alls, dInN, dTuple, dSum, vSl, vPt, vNo, vApp, vSetIx, vRetN, VL.ints_map, cut_ints, vAsgL, vAsg, vB, vCons, vNil, vC, vVar, vOp, vUn, vTest, vRet, vRetV, vNext, vNever, vTup, vLst, vNot, vNotT, vFld, dFld, vIt, vRng1, vRng2, vFor, vLstRg2, vSetF, vgName, vgTup, vgCons, vgNil, wipeD, dMax2, dMin2, dLen, dI, dI0, dInt1, dAdd, dNeg, dEq, dEqN, dList, dIsi, startD, vAsgG, initEnd, List.map_cons, List.map_nil, List.cons_append, List.nil_append, List.append_nil, List.length_cons, List.length_nil, List.replicate, List.getElem?_cons_zero, List.getElem?_cons_succ, List.set_cons_zero, List.set_cons_succ, List.zip_cons_cons, List.zip_nil_right, List.lookup_cons, List.lookup_nil, D.map, D.maps, D.all, D.ty, Hd.map, Hd.fl, Fl.sl, fBor, fLoc, fArg, nbF, owF, puF, coF, riF, nsF, D.bor, D.loc, D.arg, D.nb, D.ow, maps_ints, alls_ints, at0, at1, at2, at3, at4, at5, beq_self_eq_true, str_beq, str_eqv, String.reduceEq, Nat.reduceAdd, Nat.reduceLeDiff, Int.cast_ofNat_Int, eq_self, List.all_cons, List.all_nil, ty_int_int, ty_int_bool, ty_list_list, ty_tuple_tuple, ty_non_tuple, decide_true, decide_false, true_and, and_true, Bool.true_and, Bool.and_true, if_true, if_false, Bool.not_true, Bool.not_false, Bool.false_eq_true, Option.some.injEq, reduceCtorEq, alls_app, maps_app, List.length_map, List.length_append, List.length_set, upTo_len, rngI_len, ty_bool_bool, ty_bool_int, Option.isSome_some, Option.isSome_none, ↓n_isN, isNQ_non, isNQ_int, isNQ_bl, isNQ_str, isNQ_nd, ow2F, fxF, D.ow2, vClear, vAppIx, ms_diD, as_diD_coF, as_diD_nbF, as_diD_owF, as_diD_ow2F, as_diD_unF, as_diD_fxF, as_diD_puF, ms_rI, as_rI_coF, as_rI_nbF, as_rI_owF, as_rI_ow2F, as_rI_unF, as_rI_fxF, as_rI_puF, ms_dO, as_dO_coF, as_dO_nbF, as_dO_owF, as_dO_ow2F, as_dO_unF, as_dO_fxF, as_dO_puF, m_dO, a_dO_coF, a_dO_nbF, a_dO_owF, a_dO_ow2F, a_dO_unF, a_dO_fxF, a_dO_puF, ms_cO, as_cO_coF, as_cO_nbF, as_cO_owF, as_cO_ow2F, as_cO_unF, as_cO_fxF, as_cO_puF, m_cO, a_cO_coF, a_cO_nbF, a_cO_owF, a_cO_ow2F, a_cO_unF, a_cO_fxF, a_cO_puF, ms_stO, as_stO_coF, as_stO_nbF, as_stO_owF, as_stO_ow2F, as_stO_unF, as_stO_fxF, as_stO_puF, m_stO, a_stO_coF, a_stO_nbF, a_stO_owF, a_stO_ow2F, a_stO_unF, a_stO_fxF, a_stO_puF, ms_vvE, as_vvE_coF, as_vvE_nbF, as_vvE_owF, as_vvE_ow2F, as_vvE_unF, as_vvE_fxF, as_vvE_puF, ms_prE, as_prE_coF, as_prE_nbF, as_prE_owF, as_prE_ow2F, as_prE_unF, as_prE_fxF, as_prE_puF, ms_flD, as_flD_a_coF, as_flD_a_nbF, as_flD_a_ow2F, as_flD_a_unF, as_flD_a_fxF, as_flD_l_coF, as_flD_l_nbF, as_flD_l_ow2F, as_flD_l_unF, as_flD_l_fxF, as_flD_l_owF, m_flD, a_flD_a_coF, a_flD_a_nbF, a_flD_a_ow2F, a_flD_a_unF, a_flD_a_fxF, a_flD_l_coF, a_flD_l_nbF, a_flD_l_ow2F, a_flD_l_unF, a_flD_l_fxF, a_flD_l_owF, diD, rI, flD, dO, cO, stO, ty_list_int, ty_tuple_int, ty_tuple_list, ty_list_tuple, tkey_rI, n_tput, vTGet, vTGet2, vTPut, vTct0, vDisp1, vLockT, mD, prE, tkey_nil, kfind_m, envUn, keys_ktD, ms_numD, as_numD_l_nbF, as_numD_o_nbF, as_numD_l_coF, vItT, dSumT, vMove, vRng3, vJoin, vListV, dListT, dSortedT, dSgn_c, vLocE, vFrz, ↓n_isN, cut_emb, unF, okEq_lst_ints] | with_reducible refine hold_i ?_))
local macro_rules | `(tactic| walk_at "om") => `(tactic| (first | omega | exact ⟨by omega, by omega⟩ | exact Or.inl ⟨by omega, by omega⟩ | exact Or.inr ⟨by omega, by omega⟩ | (simp only [List.length_map, List.length_append, List.length_cons, List.length_nil, upTo_len, rngI_len, List.length_set]; omega)))
local macro_rules | `(tactic| walk_at "g1") => `(tactic| first | walk_at "w1" | rw [at_embD (0 : Int) (by omega) (by omega)] | rw [at_embD ([] : List Int) (by omega) (by omega)] | rw [at_embD ((⟨0, 0, 0, 0⟩ : Di)) (by omega) (by omega)] | with_reducible refine sel_d (fun _ => ?_) (fun _ => ?_) | with_reducible refine sel_b (fun _ => ?_) (fun _ => ?_) | with_reducible refine draw_ok (by assumption) (by walk_at "om") (by walk_at "om") (by walk_at "om") fun _ _ _ => ?_ | ((with_reducible refine And.intro ?_ ?_); focus walk_at "om") | fail)
local macro_rules | `(tactic| walk_at "go") => `(tactic| repeat' walk_at "g1")
variable (C_Course C_Dish C_Stream : Addr)
include C_Course C_Dish C_Stream
theorem m_law_draw : ∀ ds Q Ed, ds.length = 3 → P_law_draw ds Q Ed → t_law_draw { nx := fun _ => Q .non, rt := Q } (startD 8 ds) := m_draw
theorem m_between : ∀ ds Q Ed, ds.length = 3 → P_between ds Q Ed → t_between { nx := fun _ => Q .non, rt := Q } (startD 3 ds) := by
  rintro ds Q Ed - ⟨v, a, b, rfl, h1, h2, hq⟩
  unfold t_between
  walk_at "vl"
  rw [decide_eq_true h1]
  walk_at "vl"
  rw [decide_eq_true h2]; exact hq
theorem m_is_name : ∀ ds Q Ed, ds.length = 1 → P_is_name ds Q Ed → t_is_name P_between { nx := fun _ => Q .non, rt := Q } (startD 2 ds) := by
  rintro ds Q Ed - ⟨z, rfl, ok, hq⟩
  have := ok.l1
  have := ok.l12
  unfold t_is_name
  walk_at "vl"
  refine ⟨by omega, _, _, _, rfl, by omega, by omega, ?_⟩
  walk_at "vl"
  refine forL_keep (fun ρ => ∃ y, ρ = [some (.str z), y]) ⟨_, rfl⟩ ?_ ?_
  · rintro x hx ρ ⟨y, rfl⟩ N hN
    obtain ⟨c, hc, rfl⟩ := List.mem_map.mp hx
    walk_at "vl"
    rw [decide_eq_true (ok.s c hc)]
    walk_at "vl"
    exact hN _ ⟨_, rfl⟩
  · rintro ρ ⟨y, rfl⟩
    walk_at "vl"
    exact hq
theorem m_Dish_init : ∀ y C ds Qd Ed, ds.length = 4 → P_Dish_init C_Dish C ds Qd Ed → t_Dish_init P_between C_Dish { nx := initEnd C Qd y, rt := fun _ => False } (startD 5 (.slf (.c y) C [] [] :: ds)) := by
  rintro y C ds Q Ed - ⟨d, rfl, rfl, ok, hq⟩
  have := ok.s1
  have := ok.lm
  have := ok.m6
  unfold t_Dish_init
  walk_at "vl"
  refine ⟨_, _, _, rfl, ok.s0, by omega, ?_⟩
  walk_at "vl"
  refine ⟨_, _, _, rfl, ok.l1, by omega, ?_⟩
  walk_at "vl"
  refine ⟨_, _, _, rfl, ok.lm, ok.m6, ?_⟩
  walk_at "vl"
  refine ⟨_, _, _, rfl, ok.k0, ok.k2, ?_⟩
  walk_at "vl"
  exact hq
theorem m_Course_init : ∀ y C ds Qd Ed, ds.length = 3 → P_Course_init C_Course C_Dish C ds Qd Ed → t_Course_init P_between C_Course { nx := initEnd C Qd y, rt := fun _ => False } (startD 4 (.slf (.c y) C [] [] :: ds)) := by
  rintro y C ds Q Ed - ⟨c, rfl, rfl, ok, hq⟩
  have := ok.d2
  have := ok.ab
  have := ok.b8
  unfold t_Course_init
  walk_at "vl"
  refine sel_d (fun h => by omega) fun _ => ?_
  walk_at "vl"
  refine ⟨_, _, _, rfl, ok.a1, by omega, ?_⟩
  walk_at "vl"
  refine ⟨_, _, _, rfl, ok.ab, ok.b8, ?_⟩
  walk_at "vl"
  exact hq
theorem m_Stream_init : ∀ y C ds Qd Ed, ds.length = 5 → P_Stream_init C_Course C_Dish C_Stream C ds Qd Ed → t_Stream_init P_between P_is_name C_Stream { nx := initEnd C Qd y, rt := fun _ => False } (startD 6 (.slf (.c y) C [] [] :: ds)) := by
  rintro y C ds Q Ed - ⟨f, rfl, rfl, ok, hq⟩
  unfold t_Stream_init
  walk_at "vl"
  refine ⟨_, rfl, ok.tx, ?_⟩
  walk_at "vl"
  refine ⟨_, _, _, rfl, ok.du0, ok.du6, ?_⟩
  walk_at "vl"
  refine ⟨_, _, _, rfl, ok.m1, ok.m3, ?_⟩
  walk_at "vl"
  refine ⟨_, _, _, rfl, ok.w1, ok.w8, ?_⟩
  walk_at "vl"
  exact hq
theorem m_law_stream : ∀ ds Q Ed, ds.length = 1 → P_law_stream C_Course C_Dish C_Stream ds Q Ed → t_law_stream (P_Course_init C_Course C_Dish) (P_Dish_init C_Dish) (P_Stream_init C_Course C_Dish C_Stream) C_Course C_Dish C_Stream { nx := fun _ => Q .non, rt := Q } (startD 3 ds) := by
  rintro ds Q Ed - ⟨f, rfl, ok, hq⟩
  have := ok.d2
  unfold t_law_stream
  walk_at "vl"
  refine ⟨by walk_at "om", ?_⟩
  refine lc_emb1 diD (dO C_Dish) (fun d hd N hN => ?_) ?_
  · walk_at "vl"
    simp only [kc0_gv]
    walk_at "vl"
    refine ⟨d, rfl, rfl, ok.ds d hd, ?_⟩
    walk_at "vl"
    exact hN
  walk_at "vl"
  refine ⟨f, rfl, rfl, ok, ?_⟩
  walk_at "vl"
  simp only [kc1_gv]
  walk_at "vl"
  refine ⟨f, rfl, rfl, ok, ?_⟩
  walk_at "vl"
  exact hq
theorem m_law_is_int : ∀ ds Q Ed, ds.length = 1 → P_law_is_int ds Q Ed → t_law_is_int { nx := fun _ => Q .non, rt := Q } (startD 1 ds) := by
  rintro ds Q Ed - ⟨i, rfl, hq⟩
  unfold t_law_is_int
  walk_at "vl"
  exact hq
omit C_Course C_Dish C_Stream in
theorem draw_at {ρ : VL.Env} {Q : D → Prop} {te : TEv} {k s : Int} {ns : List Int} (h0 : ρ[0]? = some (some (sc ns))) (hl : ns.length ≤ 63) (hte : ∀ R : D → Prop, R (.int k) → te ρ R) (k0 : 0 ≤ k) (k1 : k ≤ 1000000) (hs : 0 < s) (hq : ∀ r, 0 ≤ r → r < s → Q (.int r)) :
    vCall 3 P_law_draw [] (vCons (vVar 0) (vCons te (vCons (vC (.int s)) vNil))) ρ Q := by
  unfold vCall vCons vVar
  rw [h0]
  refine hte _ ⟨rfl, ?_⟩
  show DrawP ([D.lst .s (D.maps fArg (D.maps fBor (ns.map .int))), .int k, .int s] ++ []) _ _
  rw [maps_ints, maps_ints]
  exact draw_ok hl k0 k1 hs fun r r0 r1 => ⟨rfl, hq r r0 r1⟩
omit C_Course C_Dish C_Stream in
theorem ret5 {ta tb tc td te : TEv} {W : Ev} {ρ : VL.Env} (h : ta ρ fun a => tb ρ fun b => tc ρ fun c => td ρ fun d => te ρ fun e => D.alls nbF [a, b, c, d, e] = true ∧ D.ow2 (.tup [a, b, c, d, e]) = true ∧ W.rt (.tup [a, b, c, d, e])) : vRet (vTup (vCons ta (vCons tb (vCons tc (vCons td (vCons te vNil)))))) W ρ := by
  have e : (fun a => tb ρ fun b => tc ρ fun c => td ρ fun d => te ρ fun e => D.alls nbF [a, b, c, d, e] = true ∧ D.ow2 (.tup [a, b, c, d, e]) = true ∧ W.rt (.tup [a, b, c, d, e])) = (fun a => tb ρ fun b => tc ρ fun c => td ρ fun d => te ρ fun e => [a, b, c, d, e].length ≤ 1000000 ∧ D.alls nbF [a, b, c, d, e] = true ∧ D.ow2 (.tup [a, b, c, d, e]) = true ∧ W.rt (.tup [a, b, c, d, e])) := by
    funext a
    congr 1
    funext b
    congr 1
    funext c
    congr 1
    funext d
    congr 1
    funext e
    simp
  rw [e] at h
  exact h
omit C_Course C_Dish C_Stream in
theorem var_at {ρ : VL.Env} {i : Nat} {d : D} {Q : D → Prop} (h : ρ[i]? = some (some d)) (hq : Q d.bor) : vVar i ρ Q := by
  unfold vVar
  rw [h]; exact hq
omit C_Course C_Dish C_Stream in
theorem add_at {ta tb : TEv} {ρ : VL.Env} {Q : D → Prop} {i : Int} (ha : ∀ R : D → Prop, R (.int i) → ta ρ R) (hb : tb ρ fun d => dAdd (.int i) d Q) : vOp dAdd ta tb ρ Q := ha _ hb
omit C_Course C_Dish C_Stream in
theorem dAdd_ii {i j : Int} {Q : D → Prop} (h : Q (.int (i + j))) : dAdd (.int i) (.int j) Q := h
omit C_Course C_Dish C_Stream in
theorem flow_ret {ns : List Int} {a x y : Int} {L : List Di} {z A : Str} {y1 y2 y3 : Option D} {W : Ev} (hl : ns.length ≤ 63) (h0 : 0 ≤ a) (h1 : a ≤ 100) (hq : ∀ d m w : Int, 0 ≤ d → d < 7 → 0 ≤ m → m < 3 → 0 ≤ w → w < 8 → W.rt (flD .l ⟨z, L, 1 + x, 1 + x + y, d, 1 + m, 1 + w⟩)) :
    vRet (vTup (vCons (vVar 9) (vCons (vVar 7) (vCons (vCall 3 P_law_draw [] (vCons (vVar 0) (vCons (vOp dAdd (vVar 1) (vC (.int 12))) (vCons (vC (.int 7)) vNil)))) (vCons (vOp dAdd (vC (.int 1)) (vCall 3 P_law_draw [] (vCons (vVar 0) (vCons (vOp dAdd (vVar 1) (vC (.int 30))) (vCons (vC (.int 3)) vNil))))) (vCons (vOp dAdd (vC (.int 1)) (vCall 3 P_law_draw [] (vCons (vVar 0) (vCons (vOp dAdd (vVar 1) (vC (.int 31))) (vCons (vC (.int 8)) vNil))))) vNil)))))) W
    [some (sc ns), some (.int a), some (.lst .l (L.map diD)), y1, y2, y3, some (.int (1 + x)), some (.tup [.lst .l (L.map diD), .int (1 + x), .int (1 + x + y)]), some (.str A), some (.str z)] := by
  refine ret5 (var_at rfl (var_at rfl ?_))
  refine draw_at rfl hl (k := a + 12) (fun R h => h) (by omega) (by omega) (by decide) fun d d0 d1 => ?_
  refine add_at (i := 1) (fun R h => h) (draw_at rfl hl (k := a + 30) (fun R h => h) (by omega) (by omega) (by decide) fun m m0 m1 => dAdd_ii ?_)
  refine add_at (i := 1) (fun R h => h) (draw_at rfl hl (k := a + 31) (fun R h => h) (by omega) (by omega) (by decide) fun w w0 w1 => dAdd_ii ?_)
  have e : (D.tup [.lst .l (L.map diD), .int (1 + x), .int (1 + x + y)]).bor = .tup [.lst .l (L.map diD), .int (1 + x), .int (1 + x + y)] := by
    show D.tup [.lst .l (D.maps fBor (L.map diD)), .int (1 + x), .int (1 + x + y)] = _
    rw [ms_diD]
  rw [e]
  have := hq d m w d0 d1 m0 m1 w0 w1
  exact ⟨a_flD (q := nbF) (f := .l) rfl rfl ⟨z, L, 1 + x, 1 + x + y, d, 1 + m, 1 + w⟩, a_flD (q := ow2F) (f := .l) rfl rfl ⟨z, L, 1 + x, 1 + x + y, d, 1 + m, 1 + w⟩, this⟩
theorem m_law_flow : ∀ ds Q Ed, ds.length = 2 → P_law_flow ds Q Ed → t_law_flow P_law_draw { nx := fun _ => Q .non, rt := Q } (startD 10 ds) := by
  rintro ds Q Ed - ⟨ns, a, rfl, hl, h0, h1, hq⟩
  obtain ⟨A, eA, hA, hA2, hA3⟩ : ∃ A : Str, A = ALPH ∧ A.cps.toList.length = 36 ∧ A.length ≤ 1000000 ∧ ∀ cs : List Nat, 1 ≤ cs.length → cs.length ≤ 12 → (∀ c, c ∈ cs → c ∈ A.cps.toList) → TxOk (Str.join ("" : Str) (cs.map fun c => (⟨#[c]⟩ : Str))) :=
    ⟨_, rfl, alph_len, alph_l, fun cs h1 h2 h3 => join_ok h1 h2 h3⟩
  unfold t_law_flow
  rw [show ("abcdefghijklmnopqrstuvwxyz0123456789" : Str) = A from eA.symm]
  clear eA
  walk_at "st"
  refine stp_cut (fun ρ => ∃ (L : List Di) (y1 y2 y3 : Option D), L.length ≤ 2 ∧ (∀ d, d ∈ L → DiOk d) ∧ ρ = [some (sc ns), some (.int a), some (.lst .o (L.map diD)), y1, y2, y3, none, none, none, none]) (fun N hN => ?_) ?_
  · walk_at "vl"
    refine draw_ok hl (by omega) (by omega) (by decide) fun c c0 c1 => ?_
    walk_at "go"
    refine forL_range (fun i ρ => ∃ (L : List Di) (y1 y2 y3 : Option D), L.length = i ∧ (∀ d, d ∈ L → DiOk d) ∧ ρ = [some (sc ns), some (.int a), some (.lst .o (L.map diD)), y1, y2, y3, none, none, none, none]) ⟨[], _, _, _, rfl, fun _ h => (nomatch h), rfl⟩ ?_ ?_
    · rintro i hi ρ ⟨L, y1, y2, y3, hL, hd, rfl⟩ N2 hN2
      walk_at "vl"
      refine ⟨.inl (by decide), draw_ok hl (by omega) (by omega) (by decide) fun l l0 l1 => ?_⟩
      walk_at "vl"
      refine ⟨.inl (by decide), draw_ok hl (by omega) (by omega) (by omega) fun q q0 q1 => ?_⟩
      walk_at "vl"
      refine ⟨.inl (by decide), draw_ok hl (by omega) (by omega) (by decide) fun s s0 s1 => ?_⟩
      walk_at "vl"
      refine ⟨.inl (by decide), draw_ok hl (by omega) (by omega) (by decide) fun k k0 k1 => ?_⟩
      walk_at "vl"
      refine ⟨by omega, ?_⟩
      have e : L.map diD ++ [D.tup [.int s, .int (1 + l), .int (1 + l + q), .int k]] = (L ++ [(⟨s, 1 + l, 1 + l + q, k⟩ : Di)]).map diD := by simp [diD]
      rw [e]
      refine hN2 _ ⟨_, _, _, _, by simp [hL], fun d h => ?_, rfl⟩
      rcases List.mem_append.mp h with z | z
      · exact hd d z
      · rw [List.mem_singleton.mp z]
        exact ⟨s0, by show s ≤ 2; omega, by show 1 ≤ 1 + l; omega, by show 1 + l ≤ 1 + l + q; omega, by show 1 + l + q ≤ 6; omega, k0, by show k ≤ 2; omega⟩
    · rintro ρ ⟨L, y1, y2, y3, hL, hd, rfl⟩
      exact hN _ ⟨L, _, _, _, by omega, hd, rfl⟩
  rintro ρ ⟨L, y1, y2, y3, hL, hd, rfl⟩
  refine seq_cut (fun ρ => ∃ x : Int, 0 ≤ x ∧ x < 8 ∧ ρ = [some (sc ns), some (.int a), some (.lst .o (L.map diD)), y1, y2, y3, some (.int (1 + x)), none, none, none]) (fun N hN => ?_) ?_
  · walk_at "vl"
    refine draw_ok hl (by omega) (by omega) (by decide) fun x x0 x1 => ?_
    walk_at "vl"
    exact hN _ ⟨x, x0, x1, rfl⟩
  rintro ρ ⟨x, x0, x1, rfl⟩
  refine seq_cut (fun ρ => ∃ y : Int, 0 ≤ y ∧ y < 8 - x ∧ ρ = [some (sc ns), some (.int a), some (.lst .l (L.map diD)), y1, y2, y3, some (.int (1 + x)), some (.tup [.lst .l (L.map diD), .int (1 + x), .int (1 + x + y)]), none, none]) (fun N hN => ?_) ?_
  · walk_at "vl"
    refine draw_ok hl (by omega) (by omega) (by omega) fun y y0 y1' => ?_
    walk_at "vl"
    exact hN _ ⟨y, y0, by omega, rfl⟩
  rintro ρ ⟨y, y0, y8, rfl⟩
  walk_at "st"
  refine stp_cut (fun ρ => ∃ z : Str, TxOk z ∧ ρ = [some (sc ns), some (.int a), some (.lst .l (L.map diD)), y1, y2, y3, some (.int (1 + x)), some (.tup [.lst .l (L.map diD), .int (1 + x), .int (1 + x + y)]), some (.str A), some (.str z)]) (fun N hN => ?_) ?_
  · walk_at "vl"
    refine draw_ok hl (by omega) (by omega) (by decide) fun n n0 n1 => ?_
    walk_at "vl"
    rw [upTo_ints]
    refine ⟨by walk_at "om", by walk_at "om", ?_⟩
    refine lc_some (fun d => ∃ c, c ∈ A.cps.toList ∧ d = sgD c) (fun x hx N2 hN2 => ?_) fun ys hy hys => ?_
    · obtain ⟨k, hk, rfl⟩ := List.mem_map.mp hx
      have := mem_rngI.mp hk
      walk_at "vl"
      refine draw_ok hl (by omega) (by omega) (by decide) fun r r0 r1 => ?_
      obtain ⟨j, hj, ej⟩ := atI_ok (xs := A.cps.toList) r0 (by rw [hA]; omega)
      have hj2 : j < A.cps.toList.length := by rw [hA]; omega
      rw [List.getElem?_eq_getElem hj2] at ej
      walk_at "vl"
      unfold dIx
      refine ⟨hA2, ?_⟩
      show match atI A.cps.toList r with | some c => _ | none => False
      rw [ej]
      walk_at "vl"
      exact hN2 _ ⟨_, List.getElem_mem hj2, rfl⟩ rfl
    · obtain ⟨es, rfl, he⟩ := emb_ex sgD (fun c => c ∈ A.cps.toList) (fun y h => by obtain ⟨x, h1, h2⟩ := hys y h; exact ⟨x, h1, h2⟩)
      rw [List.length_map, List.length_map, rngI_len] at hy
      rw [List.nil_append]
      walk_at "vl"
      rw [strs_sg]
      have tx := hA3 es (by omega) (by omega) he
      refine ⟨by rw [sum_ones, List.length_map]; show es.length + es.length * 0 ≤ _; omega, ?_⟩
      walk_at "vl"
      exact hN _ ⟨_, tx, rfl⟩
  rintro ρ ⟨z, tx, rfl⟩
  exact flow_ret hl h0 h1 fun d m w d0 d1 m0 m1 w0 w1 => hq ⟨z, L, 1 + x, 1 + x + y, d, 1 + m, 1 + w⟩ ⟨tx, hL, hd, by show 1 ≤ 1 + x; omega, by show 1 + x ≤ 1 + x + y; omega, by show 1 + x + y ≤ 8; omega, d0, by show d ≤ 6; omega, by show 1 ≤ 1 + m; omega, by show 1 + m ≤ 3; omega, by show 1 ≤ 1 + w; omega, by show 1 + w ≤ 8; omega⟩
def pyDi (d : Di) : PyData := .tuple [.int d.st, .int d.le, .int d.mo, .int d.ke]
omit C_Course C_Dish C_Stream in
theorem pys_diD : ∀ is : List Di, D.pys (is.map diD) = is.map pyDi
  | [] => rfl
  | i :: is => by rw [List.map_cons, D.pys, pys_diD is]; rfl
omit C_Course C_Dish C_Stream in
theorem plains_diD : ∀ is : List Di, D.plains (is.map diD) = true
  | [] => rfl
  | i :: is => by rw [List.map_cons, D.plains, plains_diD is]; rfl
omit C_Course C_Dish C_Stream KK in
theorem lay_diD : ∀ is : List Di, PyData.canLayAll0 (is.map pyDi) = true
  | [] => rfl
  | i :: is => by rw [List.map_cons, PyData.canLayAll0, lay_diD is]; rfl
omit C_Course C_Dish C_Stream KK in
theorem deep_diD : ∀ is : List Di, PyData.depthAll (is.map pyDi) ≤ 5
  | [] => by rw [List.map_nil, PyData.depthAll]; omega
  | i :: is => by
    have := deep_diD is
    have h : PyData.depth (pyDi i) ≤ 2 := by simp [pyDi, PyData.depth, PyData.depthAll]
    rw [List.map_cons, PyData.depthAll]; omega
omit C_Course C_Dish C_Stream KK in
theorem eqvAll_diD : ∀ is : List Di, PyData.eqvAll (is.map pyDi) (is.map pyDi) = true
  | [] => rfl
  | i :: is => by
    have h : PyData.eqv (pyDi i) (pyDi i) = true := by simp [pyDi, PyData.eqv, PyData.eqvAll]
    rw [List.map_cons, PyData.eqvAll, eqvAll_diD is, h]; rfl
def pyFl (f : Fw) : PyData := .tuple [.str f.tx, .tuple [.list (f.ds.map pyDi), .int f.a, .int f.b], .int f.du, .int f.m, .int f.w]
omit C_Course C_Dish C_Stream in
theorem py_flD (q : Fl) (f : Fw) : (flD q f).py = pyFl f := by
  show PyData.tuple [.str f.tx, .tuple [.list (D.pys (f.ds.map diD)), .int f.a, .int f.b], .int f.du, .int f.m, .int f.w] = _
  rw [pys_diD]; rfl
omit C_Course C_Dish C_Stream KK in
theorem alph_ok : (ALPH.cps.toList.all fun c => decide (c < 0x110000)) = true := by decide +kernel
omit C_Course C_Dish C_Stream KK in
theorem tx_ok {z : Str} (h : TxOk z) : PyData.strOk z = true := by
  unfold PyData.strOk
  rw [← Array.all_toList, List.all_eq_true]
  intro c hc
  exact List.all_eq_true.mp alph_ok c (h.s c hc)
omit C_Course C_Dish C_Stream in
theorem ok_flD (q : Fl) (f : Fw) (hx : TxOk f.tx) : D.okEq (flD q f) := by
  refine ⟨?_, ?_⟩
  · show (true && ((D.plains (f.ds.map diD) && (true && (true && true))) && (true && (true && (true && true))))) = true
    rw [plains_diD]; rfl
  · rw [py_flD]
    unfold SeqAt.shaped pyFl
    have h1 := lay_diD f.ds
    have h2 := deep_diD f.ds
    rw [Bool.and_eq_true, decide_eq_true_eq]
    refine ⟨?_, ?_⟩
    · simp only [PyData.canLay0, PyData.canLayAll0, h1, tx_ok hx]; rfl
    · simp only [PyData.depth, PyData.depthAll]; omega
omit C_Course C_Dish C_Stream in
theorem eqv_flD (q q' : Fl) (f : Fw) : D.eqv (flD q f) (flD q' f) = true := by
  unfold D.eqv
  rw [py_flD, py_flD]
  unfold pyFl
  simp only [PyData.eqv, PyData.eqvAll, eqvAll_diD]
  simp
theorem m_law_stands : ∀ ds Q Ed, ds.length = 2 → P_law_stands C_Course C_Dish C_Stream ds Q Ed → t_law_stands C_Course C_Dish C_Stream { nx := fun _ => Q .non, rt := Q } (startD 5 ds) := by
  rintro ds Q Ed - ⟨f, rfl, ok, hq⟩
  have := ok.d2
  unfold t_law_stands
  walk_at "vl"
  refine ⟨by walk_at "om", ?_⟩
  refine lc_emb1 (dO C_Dish) diD (fun d hd N hN => ?_) ?_
  · walk_at "vl"
    exact hN
  walk_at "vl"
  have e1 := ok_flD .l f ok.tx
  have e2 := ok_flD .a f ok.tx
  have e3 := eqv_flD .l .a f
  simp only [flD] at e1 e2 e3
  refine ⟨e1, e2, ?_⟩
  rw [e3]
  exact hq
theorem m_law_row_keeps : ∀ ds Q Ed, ds.length = 2 → P_law_row_keeps ds Q Ed → t_law_row_keeps { nx := fun _ => Q .non, rt := Q } (startD 4 ds) := by
  rintro ds Q Ed - ⟨f, r, rfl, ok, hr, hq⟩
  unfold t_law_row_keeps
  walk_at "vl"
  refine forL_stop D.int (fun t => !decide (((r.filter (inW f.w t)).length : Int) ≤ f.m)) (fun ρ => ∃ y, ρ = [some (.tup [.str f.tx, .tup [.lst .a (f.ds.map diD), .int f.a, .int f.b], .int f.du, .int f.m, .int f.w]), some (.tup (r.map .int)), y, none]) r ⟨_, rfl⟩ ?_ ?_
  · rintro t ht ρ ⟨y, rfl⟩ N hN
    walk_at "vl"
    refine ⟨by omega, ?_⟩
    refine lc_emb D.int (inW f.w t) D.int (fun i hi N2 M h1 h2 => ?_) ?_
    · walk_at "vl"
      refine sel_d (fun c => ?_) (fun c => ?_)
      · walk_at "vl"
        by_cases c2 : i < t + f.w
        · rw [decide_eq_true c2]
          walk_at "vl"
          exact h1 (by unfold inW; rw [decide_eq_true c, decide_eq_true c2]; rfl)
        · rw [decide_eq_false c2]
          walk_at "vl"
          exact h2 (by unfold inW; rw [decide_eq_false c2, Bool.and_false])
      · walk_at "vl"
        exact h2 (by unfold inW; rw [decide_eq_false c]; rfl)
    rw [List.nil_append]
    walk_at "vl"
    refine sel_d (fun c => ?_) (fun c => ?_)
    · walk_at "vl"
      have e : keepsB f.m f.w r = false := by
        unfold keepsB
        rw [List.all_eq_false]
        exact ⟨t, ht, by rw [decide_eq_true_eq]; omega⟩
      rw [← e]; exact hq
    · walk_at "vl"
      exact hN (by rw [decide_eq_true (by omega)]; rfl) _ ⟨_, rfl⟩
  · rintro ρ ⟨y, rfl⟩ h
    walk_at "vl"
    have e : keepsB f.m f.w r = true := by
      rw [keeps_iff]
      intro t ht
      have := h t ht
      rw [Bool.not_eq_false'] at this
      exact of_decide_eq_true this
    rw [← e]; exact hq
theorem m_lets_come : ∀ ds Q Ed, ds.length = 3 → P_lets_come C_Course C_Dish C_Stream ds Q Ed → t_lets_come C_Stream { nx := fun _ => Q .non, rt := Q } (startD 3 ds) := by
  rintro ds Q Ed - ⟨f, r, t, rfl, ok, hq⟩
  have := ok.m1
  unfold t_lets_come
  walk_at "vl"
  refine sel_d (fun c => ?_) (fun c => ?_)
  · walk_at "vl"
    have e : okT f.m f.w r t = true := by unfold okT; rw [decide_eq_true c]; rfl
    rw [← e]; exact hq
  · walk_at "vl"
    rw [at_embD (0 : Int) (by omega) (by omega)]
    walk_at "vl"
    have e : okT f.m f.w r t = decide (f.w ≤ t - r.getD ((r.length : Int) - f.m).toNat 0) := by unfold okT; rw [decide_eq_false c]; rfl
    rw [← e]; exact hq
omit KK C_Course C_Dish C_Stream in
theorem sub_rlen : ∀ (n : Nat) (r : List Int), r ∈ sub n → r.length ≤ n
  | 0, r, h => by rw [List.mem_singleton.mp h]; exact Nat.le_refl _
  | n + 1, r, h => by
    rcases List.mem_append.mp h with h' | h'
    · have := sub_rlen n r h'; omega
    · obtain ⟨q, hq, rfl⟩ := List.mem_map.mp h'
      have := sub_rlen n q hq
      rw [List.length_append, List.length_singleton]; omega
theorem m_law_rows : ∀ ds Q Ed, ds.length = 2 → P_law_rows ds Q Ed → t_law_rows P_law_row_keeps { nx := fun _ => Q .non, rt := Q } (startD 5 ds) := by
  rintro ds Q Ed - ⟨f, n, rfl, ok, hn, hq⟩
  have big : ∀ i : Nat, i ≤ 10 → (sub i).length ≤ 1024 := fun i hi => by
    rw [sub_len]
    exact Nat.le_trans (Nat.pow_le_pow_right (by decide) hi) (by decide)
  unfold t_law_rows
  walk_at "go"
  refine forL_range (fun i ρ => ∃ y, ρ = [some (.tup [.str f.tx, .tup [.lst .a (f.ds.map diD), .int f.a, .int f.b], .int f.du, .int f.m, .int f.w]), some (.int n), some (.lst .l ((sub i).map rI)), y, none]) ⟨_, rfl⟩ ?_ ?_
  · rintro i hi ρ ⟨y, rfl⟩ N hN
    have hb := big i (by omega)
    walk_at "vl"
    refine ⟨by omega, ?_⟩
    refine lc_emb1 rI (fun r => rI (r ++ [(i : Int)])) (fun r hr N2 hN2 => ?_) ?_
    · walk_at "vl"
      have e : (.tup (r.map D.int ++ [D.int (0 + (i : Int))]) : D) = rI (r ++ [(i : Int)]) := by
        unfold rI
        rw [List.map_append, Int.zero_add]; rfl
      refine ⟨by have := sub_rlen i r hr; omega, ?_⟩
      rw [e]; exact hN2
    have e3 : (sub i).map (fun r => rI (r ++ [(i : Int)])) = ((sub i).map fun r => r ++ [(i : Int)]).map rI := by rw [List.map_map]; rfl
    rw [e3]
    have e2 : (sub i).map rI ++ ((sub i).map fun r => r ++ [(i : Int)]).map rI = (sub (i + 1)).map rI := by
      show _ = (sub i ++ (sub i).map fun r => r ++ [(i : Int)]).map rI
      rw [List.map_append]
    walk_at "vl"
    refine ⟨by omega, ?_⟩
    walk_at "vl"
    rw [e2]
    walk_at "vl"
    exact hN _ ⟨_, rfl⟩
  · rintro ρ ⟨y, rfl⟩
    have hb := big n hn
    rw [show ((n : Int)).toNat = n from Int.toNat_natCast n]
    walk_at "vl"
    refine ⟨by omega, ?_⟩
    refine lc_emb rI (keepsB f.m f.w) rI (fun r hr N2 M h1 h2 => ?_) ?_
    · walk_at "vl"
      refine ⟨f, r, rfl, ok, by have := sub_rlen n r hr; omega, ?_⟩
      walk_at "vl"
      cases hk : keepsB f.m f.w r with
      | true =>
        walk_at "vl"
        exact h1 hk
      | false =>
        walk_at "vl"
        exact h2 hk
    rw [List.nil_append, vl_sub ok.m1 ok.w1]
    walk_at "vl"
    rw [tups_rI]
    refine ⟨vl_head n, fun ms p s => ?_⟩
    have e := sorted_pre p s
    subst e
    show D.alls ow2F (List.map rI _) = true ∧ Q (D.lst Fl.o (List.map rI _))
    exact ⟨as_rI_ow2F _, hq⟩
theorem m_law_are_rows : ∀ ds Q Ed, ds.length = 2 → P_law_are_rows ds Q Ed → t_law_are_rows P_law_is_int { nx := fun _ => Q .non, rt := Q } (startD 4 ds) := by
  rintro ds Q Ed - ⟨R, rfl, hl, hr, hq⟩
  unfold t_law_are_rows
  walk_at "vl"
  refine ⟨by walk_at "om", ?_⟩
  refine forL_range (fun i ρ => ∃ y, ρ = [some (.lst .a (R.map rI)), some (.lst .a (R.map rI)), y, none]) ⟨_, rfl⟩ ?_ ?_
  · rintro i hi ρ ⟨y, rfl⟩ N hN
    have hi2 : i < R.length := by omega
    walk_at "vl"
    have hrow := hr (R.getD (0 + (i : Int)).toNat []) (getD_mem (by omega))
    rw [at_embD ([] : List Int) (by omega) (by omega)]
    walk_at "vl"
    rw [at_embD ([] : List Int) (by omega) (by omega)]
    generalize R.getD (0 + (i : Int)).toNat [] = r at hrow ⊢
    walk_at "vl"
    refine ⟨by omega, ?_⟩
    refine lc_emb D.int (fun _ => false) D.int (fun j hj N2 M h1 h2 => ?_) ?_
    · walk_at "vl"
      refine ⟨j, rfl, ?_⟩
      walk_at "vl"
      exact h2 rfl
    rw [filter_no fun x _ => rfl]
    walk_at "vl"
    refine sel_d (fun c => by omega) fun _ => ?_
    walk_at "vl"
    rw [at_embD ([] : List Int) (by omega) (by omega)]
    walk_at "vl"
    generalize R.getD (0 + (i : Int)).toNat [] = r'
    refine ⟨okEq_tup_ints r', okEq_tup_ints r', ?_⟩
    rw [eqv_tup_ints, decide_eq_true rfl]
    walk_at "vl"
    exact hN _ ⟨_, rfl⟩
  · rintro ρ ⟨y, rfl⟩
    walk_at "vl"
    exact hq
theorem m_law_listed : ∀ ds Q Ed, ds.length = 3 → P_law_listed C_Course C_Dish C_Stream ds Q Ed → t_law_listed P_law_are_rows (P_order_rows C_Course C_Dish C_Stream) { nx := fun _ => Q .non, rt := Q } (startD 4 ds) := by
  rintro ds Q Ed - ⟨f, n, rfl, ok, hn, hq⟩
  have h1 : (pre f.m f.w n []).length ≤ 1024 := by
    rw [pre_len]
    exact Nat.le_trans (vl_len n) (Nat.le_trans (Nat.pow_le_pow_right (by decide) hn) (by decide))
  have h2 : ∀ r, r ∈ pre f.m f.w n [] → r.length ≤ 1000 := fun r hr => by
    have hv := (pre_perm n).mem_iff.mp hr
    rw [← vl_sub ok.m1 ok.w1] at hv
    have := sub_rlen n r (List.mem_filter.mp hv).1
    omega
  unfold t_law_listed
  walk_at "vl"
  refine ⟨f, n, rfl, ok, hn, ?_⟩
  generalize pre f.m f.w n [] = R at h1 h2 ⊢
  walk_at "vl"
  refine ⟨R, rfl, by omega, h2, ?_⟩
  walk_at "vl"
  exact hq
omit KK C_Course C_Dish C_Stream in
theorem nums_at (f : Fw) {n : Nat} (hn : n ≤ 40) : (nums f).getD n 0 = (vl f.m f.w n).length := by
  rw [List.getD_eq_getElem?_getD, List.getElem?_map, List.getElem?_range (by omega)]; rfl
omit KK C_Course C_Dish C_Stream in
theorem nums_len (f : Fw) : (nums f).length = 41 := by rw [List.length_map, List.length_range]
theorem m_law_counted : ∀ ds Q Ed, ds.length = 3 → P_law_counted C_Course C_Dish C_Stream ds Q Ed → t_law_counted (P_count_order_rows C_Course C_Dish C_Stream) P_law_is_int { nx := fun _ => Q .non, rt := Q } (startD 4 ds) := by
  rintro ds Q Ed - ⟨f, n, rfl, ok, hn, hq⟩
  have e1 := nums_at f hn
  have e2 := nums_len f
  unfold t_law_counted
  walk_at "vl"
  refine ⟨f, n, rfl, ok, hn, ?_⟩
  generalize nums f = NS at e1 e2 ⊢
  walk_at "vl"
  refine ⟨_, rfl, ?_⟩
  walk_at "vl"
  rw [at_embD (0 : Int) (by omega) (by omega)]
  rw [show ((n : Int)).toNat = n from Int.toNat_natCast n, e1]
  walk_at "vl"
  exact hq
section
omit C_Course C_Dish C_Stream
theorem popTo_ok {α : Type} {emb : α → D} (hf : Fix emb) {i j : Nat} {W : Ev} {ρ : VL.Env} {us : List α} {r : α} (h : ρ[j]? = some (some (.nd (.lst .o) ((us ++ [r]).map emb)))) (hn : W.nx ((ρ.set j (some (.lst .o (us.map emb)))).set i (some (emb r)))) : vPopTo i j W ρ := by
  unfold vPopTo
  rw [h]
  refine ⟨hf.alls rfl _, ?_⟩
  rw [List.map_append, List.map_singleton, List.getLast?_concat]
  show W.nx _
  rw [List.length_append, List.length_singleton, Nat.add_sub_cancel, List.take_left]
  exact hn
theorem dnTo_rev (i : Int) : ∀ k : Nat, dnTo i k = ((rngI (i - k + 1) k).reverse).map .int
  | 0 => rfl
  | k + 1 => by
    have ih := dnTo_rev i k
    rw [rngI_cons, List.reverse_cons, List.map_append, show i - ((k + 1 : Nat) : Int) + 1 + 1 = i - k + 1 by omega, ← ih]
    unfold dnTo
    rw [List.range_succ, List.map_append]
    show _ ++ [D.int (i - (k : Int))] = _ ++ [D.int _]
    rw [show i - ((k + 1 : Nat) : Int) + 1 = i - k by omega]
theorem fst_at {r : List Int} (h : r ≠ []) : fst r = r.getD (r.length - 1) 0 + 1 := by
  unfold fst
  rw [List.getLast?_eq_getElem?, List.getD_eq_getElem?_getD]
  have : 0 < r.length := List.length_pos_iff.mpr h
  rw [List.getElem?_eq_getElem (by omega)]; rfl
theorem at_last {α : Type} {emb : α → D} {xs : List α} (d : α) (h : 1 ≤ xs.length) : atI (xs.map emb) (-1) = some (emb (xs.getD (xs.length - 1) d)) := by
  have e : ixN (xs.map emb).length (-1) = some (xs.length - 1) := by
    unfold ixN
    rw [List.length_map, if_neg (by omega), if_pos (by omega)]
    exact congrArg some (by omega)
  unfold atI
  rw [e, Option.bind_some, List.getElem?_map, List.getElem?_eq_getElem (by omega), List.getD_eq_getElem?_getD, List.getElem?_eq_getElem (by omega)]
  rfl
theorem fst_ok {n : Int} {r : List Int} (a : Asc n r) (h0 : 0 ≤ n) : (∀ x, x ∈ r → x < fst r) ∧ 0 ≤ fst r ∧ fst r ≤ n := by
  rcases List.eq_nil_or_concat r with e | ⟨q, y, e⟩
  · subst e; exact ⟨fun _ h => (nomatch h), Int.le_refl _, h0⟩
  · rw [List.concat_eq_append] at e
    subst e
    rw [fst_snoc]
    obtain ⟨_, _, p3⟩ := List.pairwise_append.mp a.pw
    have h1 := a.lo y (List.mem_append_right _ List.mem_cons_self)
    have h2 := a.hi y (List.mem_append_right _ List.mem_cons_self)
    refine ⟨fun x hx => ?_, by omega, by omega⟩
    rcases List.mem_append.mp hx with z | z
    · have := p3 x z y List.mem_cons_self; omega
    · rw [List.mem_singleton.mp z]; omega
theorem asc_len {n : Nat} {r : List Int} (a : Asc n r) : r.length ≤ n := by
  have := nodup_le r (rngI 0 n) (List.nodup_iff_pairwise_ne.mpr (a.pw.imp fun {x y} h e => by omega)) fun x hx => mem_rngI.mpr ⟨a.lo x hx, by have := a.hi x hx; omega⟩
  rwa [rngI_len] at this
theorem fm_ge {m w : Int} {n : Nat} : ∀ ws : List (List Int), ws.length ≤ (ws.flatMap (pre m w n)).length
  | [] => Nat.le_refl _
  | r :: ws => by
    have := fm_ge (m := m) (w := w) (n := n) ws
    rw [List.flatMap_cons, List.length_append, List.length_cons]
    unfold pre
    rw [List.length_cons]
    unfold pre at this
    omega
theorem fm2 {α β : Type} (p : α → Bool) (f : α → β) : ∀ xs : List α, (xs.flatMap fun x => if p x = true then [f x] else []) = (xs.filter p).map f
  | [] => rfl
  | x :: xs => by
    rw [List.flatMap_cons, fm2 p f xs]
    by_cases c : p x = true
    · rw [if_pos c, List.filter_cons_of_pos c]; rfl
    · rw [if_neg c, List.filter_cons_of_neg c]; rfl
/-- one turn of the walk in depth -/
theorem turn_ok {m w : Int} {n : Nat} {acc us : List (List Int)} {r : List Int} (a : Asc n r) (h : acc ++ (us ++ [r]).reverse.flatMap (pre m w n) = pre m w n []) :
    (acc ++ [r]) ++ (us ++ ((rngI (fst r) ((n : Int) - fst r).toNat).reverse.flatMap fun t => if okT m w r t = true then [r ++ [t]] else [])).reverse.flatMap (pre m w n) = pre m w n [] := by
  have ok := fst_ok a (by omega)
  rw [List.reverse_append, List.reverse_singleton, List.singleton_append, List.flatMap_cons] at h
  rw [fm2, List.reverse_append, ← List.map_reverse, List.filter_reverse, List.reverse_reverse, List.flatMap_append, List.flatMap_map]
  have e := ext_kids (m := m) (w := w) (n := n) (r := r) ((n : Int) - fst r).toNat (fst r) (by omega)
  rw [← h]
  show (acc ++ [r]) ++ (_ ++ _) = acc ++ ((r :: ext m w ((n : Int) - fst r).toNat r (fst r)) ++ _)
  rw [e, List.append_assoc]; rfl
/-- a for whose turn adds g x to what was told -/
theorem forL_app {g : TGv} {tb : TSv} {W : Ev} {α β : Type} (emb : α → D) (f : α → List β) (I : List β → VL.Env → Prop) (total : List β) : ∀ (xs : List α) (acc : List β) {ρ : VL.Env}, I acc ρ → acc ++ xs.flatMap f = total →
    (∀ x acc, x ∈ xs → acc.length + (f x).length ≤ total.length → ∀ ρ, I acc ρ → ∀ N : VL.Env → Prop, (∀ ρ', I (acc ++ f x) ρ' → N ρ') → g (emb x) ρ fun ρ' => tb { nx := N, rt := W.rt, bk := W.nx, ct := N } ρ') →
    (∀ ρ, I total ρ → W.nx ρ) → forL g tb (xs.map emb) W ρ
  | [], acc, ρ, h0, he, _, hd => hd ρ (by rw [List.flatMap_nil, List.append_nil] at he; rw [← he]; exact h0)
  | x :: xs, acc, ρ, h0, he, hs, hd => by
    rw [List.flatMap_cons, ← List.append_assoc] at he
    refine hs x acc List.mem_cons_self (by rw [← he]; simp) ρ h0 (forL g tb (xs.map emb) W) fun ρ' h' => forL_app emb f I total xs (acc ++ f x) h' he (fun y a hy => hs y a (List.mem_cons_of_mem _ hy)) hd
end
theorem m_order_rows : ∀ ds Q Ed, ds.length = 2 → P_order_rows C_Course C_Dish C_Stream ds Q Ed → t_order_rows (P_lets_come C_Course C_Dish C_Stream) { nx := fun _ => Q .non, rt := Q } (startD 7 ds) := by
  rintro ds Q Ed - ⟨f, n, rfl, ok, hn, hq⟩
  have hT : (pre f.m f.w n []).length ≤ 1024 := by
    rw [pre_len]
    exact Nat.le_trans (vl_len n) (Nat.le_trans (Nat.pow_le_pow_right (by decide) hn) (by decide))
  unfold t_order_rows
  walk_at "vl"
  refine while_d (fun k ρ => ∃ (acc ws : List (List Int)) (y4 y5 y6 : Option D), k = (pre f.m f.w n []).length - acc.length ∧ acc ++ ws.reverse.flatMap (pre f.m f.w n) = pre f.m f.w n [] ∧ (∀ r, r ∈ ws → Asc n r) ∧ ρ = [some (.obj C_Stream ["name", "course", "due", "many", "window"] [.str f.tx, .obj C_Course ["dishes", "eat_least", "eat_most"] [.tup (f.ds.map (dO C_Dish)), .int f.a, .int f.b], .int f.du, .int f.m, .int f.w]), some (.int n), some (.lst .o (acc.map rI)), some (.lst .o (ws.map rI)), y4, y5, y6]) ⟨_, [], [[]], _, _, _, rfl, by simp, fun r hr => by rw [List.mem_singleton.mp hr]; exact Asc.nil _, rfl⟩ ?_
  rintro k ρ ⟨acc, ws, y4, y5, y6, rfl, hw, ha, rfl⟩ N hN
  have lw : acc.length + ws.length ≤ (pre f.m f.w n []).length := by
    have h1 := fm_ge (m := f.m) (w := f.w) (n := n) ws.reverse
    rw [List.length_reverse] at h1
    rw [← hw, List.length_append]; omega
  walk_at "vl"
  refine sel_d (fun c => ?_) (fun c => ?_)
  · rcases List.eq_nil_or_concat ws with e | ⟨us, r, e⟩
    · subst e; rw [List.length_nil] at c; omega
    rw [List.concat_eq_append] at e
    subst e
    have ar := ha r (List.mem_append_right _ List.mem_cons_self)
    have fo := fst_ok ar (by omega)
    rw [List.length_append, List.length_singleton] at lw
    walk_at "st"
    refine popTo_ok fix_rI rfl ?_
    walk_at "st"
    refine stp_cut (fun ρ => ρ = [some (.obj C_Stream ["name", "course", "due", "many", "window"] [.str f.tx, .obj C_Course ["dishes", "eat_least", "eat_most"] [.tup (f.ds.map (dO C_Dish)), .int f.a, .int f.b], .int f.du, .int f.m, .int f.w]), some (.int n), some (.lst .o ((acc ++ [r]).map rI)), some (.lst .o (us.map rI)), some (rI r), y5, y6]) (fun N2 hN2 => ?_) ?_
    · walk_at "vl"
      refine ⟨by omega, ?_⟩
      have e1 : acc.map rI ++ [D.tup (r.map .int)] = (acc ++ [r]).map rI := by rw [List.map_append]; rfl
      rw [e1]
      exact hN2 _ rfl
    rintro ρ rfl
    walk_at "st"
    refine stp_cut (fun ρ => ρ = [some (.obj C_Stream ["name", "course", "due", "many", "window"] [.str f.tx, .obj C_Course ["dishes", "eat_least", "eat_most"] [.tup (f.ds.map (dO C_Dish)), .int f.a, .int f.b], .int f.du, .int f.m, .int f.w]), some (.int n), some (.lst .o ((acc ++ [r]).map rI)), some (.lst .o (us.map rI)), some (rI r), some (.int (fst r)), y6]) (fun N2 hN2 => ?_) ?_
    · walk_at "vl"
      refine sel_d (fun c2 => ?_) (fun c2 => ?_)
      · have hr : r ≠ [] := fun e => by subst e; rw [List.length_nil] at c2; omega
        walk_at "vl"
        rw [at_last (0 : Int) (by omega)]
        walk_at "vl"
        rw [← fst_at hr]
        exact hN2 _ rfl
      · have hr : r = [] := List.length_eq_zero_iff.mp (by omega)
        subst hr
        walk_at "vl"
        exact hN2 _ rfl
    rintro ρ rfl
    walk_at "vl"
    have h1 : 0 ≤ fst r := fo.2.1
    have h2 : fst r ≤ n := fo.2.2
    refine ⟨⟨by omega, by omega⟩, ⟨by omega, by omega⟩, ?_⟩
    rw [dnTo_rev, show ((n : Int) - 1 - (fst r - 1)).toNat = ((n : Int) - fst r).toNat by omega, show (n : Int) - 1 - (((n : Int) - fst r).toNat : Int) + 1 = fst r by omega]
    have tk := turn_ok ar hw
    have lt2 := fm_ge (m := f.m) (w := f.w) (n := n) (us ++ ((rngI (fst r) ((n : Int) - fst r).toNat).reverse.flatMap fun t => if okT f.m f.w r t = true then [r ++ [t]] else [])).reverse
    rw [List.length_reverse] at lt2
    have lt3 : (acc ++ [r]).length + ((us ++ ((rngI (fst r) ((n : Int) - fst r).toNat).reverse.flatMap fun t => if okT f.m f.w r t = true then [r ++ [t]] else [])).reverse.flatMap (pre f.m f.w n)).length = (pre f.m f.w n []).length := by rw [← List.length_append, tk]
    rw [List.length_append, List.length_singleton] at lt3
    refine forL_app D.int (fun t => if okT f.m f.w r t = true then [r ++ [t]] else []) (fun ws ρ => (∀ q, q ∈ ws → Asc n q) ∧ ∃ y, ρ = [some (.obj C_Stream ["name", "course", "due", "many", "window"] [.str f.tx, .obj C_Course ["dishes", "eat_least", "eat_most"] [.tup (f.ds.map (dO C_Dish)), .int f.a, .int f.b], .int f.du, .int f.m, .int f.w]), some (.int n), some (.lst .o ((acc ++ [r]).map rI)), some (.lst .o (ws.map rI)), some (rI r), some (.int (fst r)), y]) _ _ us ⟨fun q hq => ha q (List.mem_append_left _ hq), _, rfl⟩ rfl ?_ ?_
    · rintro t ws2 ht hl ρ ⟨hq2, y, rfl⟩ N2 hN2
      have ht := mem_rngI.mp (List.mem_reverse.mp ht)
      walk_at "vl"
      refine ⟨f, r, t, rfl, ok, ?_⟩
      walk_at "vl"
      cases hk : okT f.m f.w r t with
      | true =>
        rw [hk, if_pos rfl] at hl hN2
        rw [List.length_singleton] at hl
        have lr := asc_len ar
        have e1 : ws2.map rI ++ [D.tup (r.map D.int ++ [D.int t])] = (ws2 ++ [r ++ [t]]).map rI := by
          rw [List.map_append]
          show _ = _ ++ [D.tup ((r ++ [t]).map D.int)]
          rw [List.map_append]; rfl
        walk_at "vl"
        refine ⟨by omega, by omega, ?_⟩
        rw [e1]
        refine hN2 _ ⟨fun q hq => ?_, _, rfl⟩
        rcases List.mem_append.mp hq with z | z
        · exact hq2 q z
        · rw [List.mem_singleton.mp z]
          have a2 : Asc t r := ⟨ar.pw, ar.lo, fun x hx => by have := fo.1 x hx; omega⟩
          exact (a2.snoc (by omega)).up (by omega)
      | false =>
        rw [hk, if_neg (by decide), List.append_nil] at hN2
        walk_at "vl"
        exact hN2 _ ⟨hq2, _, rfl⟩
    · rintro ρ ⟨hq2, y, rfl⟩
      exact hN _ _ (by rw [List.length_append, List.length_singleton]; omega) ⟨_, _, _, _, _, rfl, tk, hq2, rfl⟩
  · have e : ws = [] := List.length_eq_zero_iff.mp (by omega)
    subst e
    rw [List.reverse_nil, List.flatMap_nil, List.append_nil] at hw
    subst hw
    walk_at "vl"
    exact hq
def hatR (m w : Int) (g : List Int → Int) (s : List Int) : Int := g (rest1 s) + if (s.length : Int) < m then g (rest1 (w :: s)) else 0
omit C_Course C_Dish C_Stream in
theorem rest_map (s : List Int) : ((s.filter fun x => decide (1 < x)).map fun x => D.int (x - 1)) = (rest1 s).map .int := by
  unfold rest1
  rw [List.map_map]; rfl
omit KK C_Course C_Dish C_Stream in
theorem wS_cons (g : List Int → Int) (e : List Int × Int) (M : MM) : wS g (e :: M) = e.2 * g e.1 + wS g M := rfl
omit KK C_Course C_Dish C_Stream in
theorem wS_nil (g : List Int → Int) : wS g [] = 0 := rfl
omit KK C_Course C_Dish C_Stream in
theorem wS_hat {m w : Int} {n : Nat} (hm : 1 ≤ m) {M L : MM} (hs : ∀ g, wS g M = tot m w g n) (hl : ∀ g, wS g L = wS (hatR m w g) M) (g : List Int → Int) : wS g L = tot m w g (n + 1) := by
  rw [hl, hs, tot_succ hm]; rfl
def un1 : Option D → Bool
  | none => true
  | some d => d.all unF
omit C_Course C_Dish C_Stream in
theorem un_rI (s : List Int) : un1 (some (rI s)) = true := (fix_rI.all (q := unF) rfl s : D.all unF (rI s) = true)
def U4 (a b c d : Option D) : Prop := un1 a = true ∧ un1 b = true ∧ un1 c = true ∧ un1 d = true
theorem m_count_order_rows : ∀ ds Q Ed, ds.length = 2 → P_count_order_rows C_Course C_Dish C_Stream ds Q Ed → t_count_order_rows C_Stream { nx := fun _ => Q .non, rt := Q } (startD 10 ds) := by
  rintro ds Q Ed - ⟨f, n, rfl, ok, hn, hq⟩
  obtain ⟨k, hk, hw⟩ : ∃ k : Nat, k ≤ 7 ∧ f.w = (k : Int) + 1 := ⟨(f.w - 1).toNat, by have := ok.w8; omega, by have := ok.w1; omega⟩
  have hK : (dl k).length ≤ 128 := by
    rw [dl_len]
    exact Nat.le_trans (Nat.pow_le_pow_right (by decide) hk) (by decide)
  have hm := ok.m1
  unfold t_count_order_rows
  walk_at "go"
  refine forL_range (fun i ρ => ∃ (M : MM) (y3 y5 y6 y7 y8 : Option D), Tb (dl k) M ∧ U4 y5 y6 y7 y8 ∧ (∀ g, wS g M = tot f.m f.w g i) ∧ ρ = [some (.obj C_Stream ["name", "course", "due", "many", "window"] [.str f.tx, .obj C_Course ["dishes", "eat_least", "eat_most"] [.tup (f.ds.map (dO C_Dish)), .int f.a, .int f.b], .int f.du, .int f.m, .int f.w]), some (.int n), some (mD .o M), y3, none, y5, y6, y7, y8, none]) ⟨[([], 1)], none, none, none, none, none, Tb.one _ ((mem_dl k _).mpr ⟨.nil, fun _ h => (nomatch h)⟩), ⟨rfl, rfl, rfl, rfl⟩, fun g => by rw [tot_zero]; show 1 * g [] + 0 = g []; omega, rfl⟩ ?_ ?_
  · rintro i hi ρ ⟨M, y3, y5, y6, y7, y8, tb, u4, hs, rfl⟩ N hN
    walk_at "st"
    refine stp_cut (fun ρ => ∃ (L : MM) (y5 y6 y7 y8 : Option D), Tb (dl k) L ∧ U4 y5 y6 y7 y8 ∧ (∀ g, wS g L = wS (hatR f.m f.w g) M) ∧ ρ = [some (.obj C_Stream ["name", "course", "due", "many", "window"] [.str f.tx, .obj C_Course ["dishes", "eat_least", "eat_most"] [.tup (f.ds.map (dO C_Dish)), .int f.a, .int f.b], .int f.du, .int f.m, .int f.w]), some (.int n), some (mD .o M), some (.int (0 + (i : Int))), some (mD .o L), y5, y6, y7, y8, none]) (fun N2 hN2 => ?_) ?_
    · refine forT_ok rfl fun a => ?_
      refine forL_rest prE (fun rest ρ => ∃ (L : MM) (y5 y6 y7 y8 : Option D), Tb (dl k) L ∧ U4 y5 y6 y7 y8 ∧ (∀ g, wS g L + wS (hatR f.m f.w g) rest = wS (hatR f.m f.w g) M) ∧ (∀ e, e ∈ rest → e.1 ∈ dl k) ∧ ρ = [some (.obj C_Stream ["name", "course", "due", "many", "window"] [.str f.tx, .obj C_Course ["dishes", "eat_least", "eat_most"] [.tup (f.ds.map (dO C_Dish)), .int f.a, .int f.b], .int f.du, .int f.m, .int f.w]), some (.int n), some (.cst (.ref a)), some (.int (0 + (i : Int))), some (mD .o L), y5, y6, y7, y8, none]) M ⟨[], _, _, _, _, Tb.nil _, u4, fun g => by rw [wS_nil]; omega, fun e he => tb.k _ (List.mem_map.mpr ⟨e, he, rfl⟩), rfl⟩ ?_ ?_
      · rintro ⟨s, c⟩ rest ρ ⟨L, y5, y6, y7, y8, tl, v4, hl, hr, rfl⟩ N3 hN3
        have sk : s ∈ dl k := hr _ List.mem_cons_self
        have sl := tl.len
        have slen : s.length ≤ 7 := by
          have := (mem_dl k s).mp sk
          have := nodup_le s (rngI 1 k) (List.nodup_iff_pairwise_ne.mpr (this.1.imp fun {x y} h e => by omega)) fun x hx => mem_rngI.mpr (by have := this.2 x hx; omega)
          rw [rngI_len] at this
          omega
        walk_at "st"
        refine ⟨by omega, ?_⟩
        refine lc_emb D.int (fun x => decide (1 < x)) (fun x => D.int (x - 1)) (fun x hx N5 M5 h1 h2 => ?_) ?_
        · walk_at "vl"
          by_cases cx : 1 < x
          · rw [decide_eq_true cx] at h1 ⊢
            walk_at "vl"
            exact h1 rfl
          · rw [decide_eq_false cx] at h2 ⊢
            walk_at "vl"
            exact h2 rfl
        rw [List.nil_append, rest_map]
        walk_at "st"
        refine stp_cut (fun ρ => ρ = [some (.obj C_Stream ["name", "course", "due", "many", "window"] [.str f.tx, .obj C_Course ["dishes", "eat_least", "eat_most"] [.tup (f.ds.map (dO C_Dish)), .int f.a, .int f.b], .int f.du, .int f.m, .int f.w]), some (.int n), some (.cst (.ref a)), some (.int (0 + (i : Int))), some (mD .o (mput L (rest1 s) (mget L (rest1 s) + c))), some (rI s), some (.int c), some (rI (rest1 s)), y8, none]) (fun N4 hN4 => ?_) ?_
        · walk_at "vl"
          exact ⟨kk_nd tl.nd, by omega, hN4 _ rfl⟩
        rintro ρ rfl
        have tl1 := tl.put (s := rest1 s) (mget L (rest1 s) + c) (dl_quiet sk)
        have hl1 : ∀ g, wS g (mput L (rest1 s) (mget L (rest1 s) + c)) = wS g L + c * g (rest1 s) := fun g => wS_put g _ c L
        generalize mput L (rest1 s) (mget L (rest1 s) + c) = L1 at tl1 hl1 ⊢
        have sl1 := tl1.len
        walk_at "vl"
        refine sel_d (fun cm => ?_) (fun cm => ?_)
        · walk_at "vl"
          refine ⟨by omega, by omega, ?_⟩
          rw [show D.int f.w :: s.map .int = (f.w :: s).map .int from rfl]
          refine lc_emb D.int (fun x => decide (1 < x)) (fun x => D.int (x - 1)) (fun x hx N5 M5 h1 h2 => ?_) ?_
          · walk_at "vl"
            by_cases cx : 1 < x
            · rw [decide_eq_true cx] at h1 ⊢
              walk_at "vl"
              exact h1 rfl
            · rw [decide_eq_false cx] at h2 ⊢
              walk_at "vl"
              exact h2 rfl
          rw [List.nil_append, rest_map]
          walk_at "vl"
          refine ⟨kk_nd tl1.nd, by omega, hN3 _ ⟨mput L1 (rest1 (f.w :: s)) (mget L1 (rest1 (f.w :: s)) + c), some (rI s), some (.int c), some (rI (rest1 s)), some (rI (rest1 (f.w :: s))), tl1.put _ (by rw [hw]; exact dl_busy sk), ⟨un_rI _, rfl, un_rI _, un_rI _⟩, fun g => ?_, fun e he => hr e (List.mem_cons_of_mem _ he), rfl⟩⟩
          have := hl g
          rw [wS_cons] at this
          rw [wS_put, hl1]
          have e2 : hatR f.m f.w g s = g (rest1 s) + g (rest1 (f.w :: s)) := by unfold hatR; rw [if_pos cm]
          have this : wS g L + (c * hatR f.m f.w g s + wS (hatR f.m f.w g) rest) = _ := this
          rw [e2, Int.mul_add] at this
          omega
        · walk_at "vl"
          refine hN3 _ ⟨L1, some (rI s), some (.int c), some (rI (rest1 s)), y8, tl1, ⟨un_rI _, rfl, un_rI _, v4.2.2.2⟩, fun g => ?_, fun e he => hr e (List.mem_cons_of_mem _ he), rfl⟩
          have := hl g
          rw [wS_cons] at this
          rw [hl1]
          have e2 : hatR f.m f.w g s = g (rest1 s) := by unfold hatR; rw [if_neg cm]; omega
          have this : wS g L + (c * hatR f.m f.w g s + wS (hatR f.m f.w g) rest) = _ := this
          rw [e2] at this
          omega
      · rintro ρ ⟨L, y5, y6, y7, y8, tl, v4, hl, hr, rfl⟩
        refine ⟨rfl, ?_, hN2 _ ⟨L, _, _, _, _, tl, v4, fun g => by have := hl g; rw [wS_nil] at this; omega, rfl⟩⟩
        walk_at "vl"
        show (un1 y5 && (un1 y6 && (un1 y7 && un1 y8))) = true
        rw [v4.1, v4.2.1, v4.2.2.1, v4.2.2.2]; rfl
    rintro ρ ⟨L, y5, y6, y7, y8, tl, v4, hl, rfl⟩
    walk_at "vl"
    exact hN _ ⟨L, _, _, _, _, _, tl, v4, fun g => wS_hat hm hs hl g, rfl⟩
  · rintro ρ ⟨M, y3, y5, y6, y7, y8, tb, u4, hs, rfl⟩
    rw [show ((n : Int)).toNat = n from Int.toNat_natCast n] at hs
    walk_at "vl"
    rw [vv_ints, VL.ints_map]
    show Q (.int (M.map (·.2)).sum)
    rw [sum_one, hs, tot_one]
    exact hq
section
omit KK C_Course C_Dish C_Stream
theorem mget_mem : ∀ {M : MM}, (M.map (·.1)).Nodup → ∀ e, e ∈ M → mget M e.1 = e.2
  | [], _, e, h => nomatch h
  | x :: M, nd, e, h => by
    obtain ⟨n1, n2⟩ := List.nodup_cons.mp nd
    unfold mget
    rcases List.mem_cons.mp h with z | z
    · rw [z, if_pos rfl]
    · rw [if_neg (fun c => n1 (by show x.1 ∈ _; rw [c]; exact List.mem_map.mpr ⟨e, z, rfl⟩)), mget_mem n2 e z]
def wK (g : List Int → Int) (M : MM) (rest : List (List Int)) : Int := (rest.map fun s => mget M s * g s).sum
theorem wK_all {M : MM} (nd : (M.map (·.1)).Nodup) (g : List Int → Int) : wK g M (M.map (·.1)) = wS g M := by
  unfold wK wS
  rw [List.map_map]
  congr 1
  exact List.map_congr_left fun e he => by show mget M e.1 * g e.1 = _; rw [mget_mem nd e he]
theorem get_all {M : MM} (nd : (M.map (·.1)).Nodup) : (M.map (·.1)).map (mget M) = M.map (·.2) := by
  rw [List.map_map]
  exact List.map_congr_left fun e he => mget_mem nd e he
def hb (m : Int) (g : List Int → Int) (b : List Int) (i : Int) : Int := if b.sum + i ≤ m then g ((b ++ [i]).tail) else 0
theorem hb_two (m : Int) (g : List Int → Int) (b : List Int) : (([0, 1] : List Int).map (hb m g b)).sum = hatB m g b := by
  show hb m g b 0 + (hb m g b 1 + 0) = hatB m g b
  unfold hb hatB
  omega
theorem zeros (k : Nat) : ((rngI 0 k).map fun _ => D.int 0) = (bsOf k []).map .int := by
  unfold bsOf
  rw [List.map_map, List.map_const']
  have : (D.int ∘ fun v : Int => if v ∈ ([] : List Int) then (1 : Int) else 0) = fun _ => D.int 0 := by
    funext v
    show D.int (if v ∈ [] then 1 else 0) = _
    rw [if_neg (fun h => nomatch h)]
  rw [this, List.map_const', rngI_len, rngI_len]
def numsTo (f : Fw) (n : Nat) : List Int := (List.range (n + 1)).map fun n : Nat => ((vl f.m f.w n).length : Int)
theorem numsTo_succ (f : Fw) (n : Nat) : numsTo f (n + 1) = numsTo f n ++ [((vl f.m f.w (n + 1)).length : Int)] := by
  unfold numsTo
  rw [List.range_succ, List.map_append]; rfl
theorem numsTo_len (f : Fw) (n : Nat) : (numsTo f n).length = n + 1 := by unfold numsTo; rw [List.length_map, List.length_range]
end
theorem m_law_numbers : ∀ ds Q Ed, ds.length = 1 → P_law_numbers ds Q Ed → t_law_numbers { nx := fun _ => Q .non, rt := Q } (startD 9 ds) := by
  rintro ds Q Ed - ⟨f, rfl, ok, hq⟩
  obtain ⟨k, hk, hw⟩ : ∃ k : Nat, k ≤ 7 ∧ f.w = (k : Int) + 1 := ⟨(f.w - 1).toNat, by have := ok.w8; omega, by have := ok.w1; omega⟩
  have hK : (bl k).length ≤ 128 := by
    rw [bl_len]
    exact Nat.le_trans (Nat.pow_le_pow_right (by decide) hk) (by decide)
  have hm := ok.m1
  unfold t_law_numbers
  walk_at "vl"
  refine ⟨⟨by omega, by omega⟩, by omega, ?_⟩
  rw [upTo_ints]
  refine lc_emb1 D.int (fun _ => D.int 0) (fun x hx N hN => ?_) ?_
  · walk_at "vl"
    exact hN
  rw [show (f.w - 1).toNat = k by omega, zeros]
  walk_at "st"
  refine stp_cut (fun ρ => ρ = [some (.tup [.str f.tx, .tup [.lst .a (f.ds.map diD), .int f.a, .int f.b], .int f.du, .int f.m, .int f.w]), some (mD .o [(bsOf k [], 1)]), some (.lst .o ((numsTo f 0).map .int)), none, none, none, none, none, none]) (fun N hN => ?_) ?_
  · walk_at "vl"
    exact hN _ rfl
  rintro ρ rfl
  walk_at "go"
  refine forL_range (fun i ρ => ∃ (M : MM) (y3 y5 y6 y7 : Option D), Tb (bl k) M ∧ (∀ g, wS g M = tot f.m f.w (fun s => g (bsOf k s)) i) ∧ ρ = [some (.tup [.str f.tx, .tup [.lst .a (f.ds.map diD), .int f.a, .int f.b], .int f.du, .int f.m, .int f.w]), some (mD .o M), some (.lst .o ((numsTo f i).map .int)), y3, none, y5, y6, y7, none]) ⟨[(bsOf k [], 1)], none, none, none, none, Tb.one _ (bl_zero k), fun g => by rw [tot_zero]; show 1 * g (bsOf k []) + 0 = g (bsOf k []); omega, rfl⟩ ?_ ?_
  · rintro i hi ρ ⟨M, y3, y5, y6, y7, tb, hs, rfl⟩ N hN
    have sm := tb.len
    have hi2 : i < 40 := hi
    walk_at "st"
    refine stp_cut (fun ρ => ∃ (L : MM) (y5 y6 y7 : Option D), Tb (bl k) L ∧ (∀ g, wS g L = wS (hatB f.m g) M) ∧ ρ = [some (.tup [.str f.tx, .tup [.lst .a (f.ds.map diD), .int f.a, .int f.b], .int f.du, .int f.m, .int f.w]), some (mD .o M), some (.lst .o ((numsTo f i).map .int)), some (.int (0 + (i : Int))), some (mD .o L), y5, y6, y7, none]) (fun N2 hN2 => ?_) ?_
    · walk_at "vl"
      refine forL_rest rI (fun rest ρ => ∃ (L : MM) (y5 y6 y7 : Option D), Tb (bl k) L ∧ (∀ g, wS g L + wK (hatB f.m g) M rest = wS (hatB f.m g) M) ∧ (∀ s, s ∈ rest → s ∈ M.map (·.1)) ∧ ρ = [some (.tup [.str f.tx, .tup [.lst .a (f.ds.map diD), .int f.a, .int f.b], .int f.du, .int f.m, .int f.w]), some (mD .o M), some (.lst .o ((numsTo f i).map .int)), some (.int (0 + (i : Int))), some (mD .o L), y5, y6, y7, none]) (M.map (·.1)) ⟨[], _, _, _, Tb.nil _, fun g => by rw [wS_nil, wK_all tb.nd]; omega, fun s hs => hs, rfl⟩ ?_ ?_
      · rintro b rest ρ ⟨L, y5, y6, y7, tl, hl, hr, rfl⟩ N3 hN3
        have hb := hr b List.mem_cons_self
        have bk := tb.k b hb
        have blen : b.length ≤ 7 := by have := ((mem_bl k b).mp bk).1; omega
        walk_at "vl"
        show forL _ _ (([0, 1] : List Int).map D.int) _ _
        refine forL_rest D.int (fun rs ρ => ∃ (L1 : MM) (y6 y7 : Option D), Tb (bl k) L1 ∧ (∀ g, wS g L1 + mget M b * (rs.map (K27.hb f.m g b)).sum = wS g L + mget M b * hatB f.m g b) ∧ (∀ x, x ∈ rs → x = 0 ∨ x = 1) ∧ ρ = [some (.tup [.str f.tx, .tup [.lst .a (f.ds.map diD), .int f.a, .int f.b], .int f.du, .int f.m, .int f.w]), some (mD .o M), some (.lst .o ((numsTo f i).map .int)), some (.int (0 + (i : Int))), some (mD .o L1), some (rI b), y6, y7, none]) [0, 1] ⟨L, _, _, tl, fun g => by rw [hb_two], fun x hx => by simpa using hx, rfl⟩ ?_ ?_
        · rintro x rs ρ ⟨L1, y6, y7, tl1, hl1, hx, rfl⟩ N4 hN4
          have sl1 := tl1.len
          have x01 := hx x List.mem_cons_self
          walk_at "vl"
          refine sel_d (fun cx => ?_) (fun cx => ?_)
          · have ec : VL.cutD (b.map D.int ++ [D.int x]) (some 1) none = ((b ++ [x]).tail).map .int := by
              rw [show b.map D.int ++ [D.int x] = (b ++ [x]).map .int from by rw [List.map_append]; rfl, cut_emb, cutL_from (by decide)]
              show (List.drop 1 _).map _ = _
              rw [List.drop_one]
            walk_at "vl"
            rw [ec]
            refine ⟨by omega, alls_ints nbF _, ?_⟩
            walk_at "vl"
            rw [kfind_in M hb]
            walk_at "vl"
            refine ⟨kk_nd tl1.nd, by omega, hN4 _ ⟨mput L1 ((b ++ [x]).tail) (mget L1 ((b ++ [x]).tail) + mget M b), _, _, tl1.put _ (bl_next bk x01), fun g => ?_, fun y hy => hx y (List.mem_cons_of_mem _ hy), rfl⟩⟩
            have := hl1 g
            rw [List.map_cons, List.sum_cons, Int.mul_add] at this
            have e : K27.hb f.m g b x = g ((b ++ [x]).tail) := by unfold K27.hb; rw [if_pos cx]
            rw [e] at this
            rw [wS_put]
            omega
          · walk_at "vl"
            refine hN4 _ ⟨L1, _, _, tl1, fun g => ?_, fun y hy => hx y (List.mem_cons_of_mem _ hy), rfl⟩
            have := hl1 g
            rw [List.map_cons, List.sum_cons] at this
            have e : K27.hb f.m g b x = 0 := by unfold K27.hb; rw [if_neg cx]
            rw [e, Int.zero_add] at this
            exact this
        · rintro ρ ⟨L1, y6, y7, tl1, hl1, hx, rfl⟩
          refine hN3 _ ⟨L1, _, _, _, tl1, fun g => ?_, fun s hs => hr s (List.mem_cons_of_mem _ hs), rfl⟩
          have h1 := hl1 g
          have h2 := hl g
          rw [List.map_nil, List.sum_nil, Int.mul_zero, Int.add_zero] at h1
          have e : wK (hatB f.m g) M (b :: rest) = mget M b * hatB f.m g b + wK (hatB f.m g) M rest := rfl
          rw [e] at h2
          omega
      · rintro ρ ⟨L, y5, y6, y7, tl, hl, hr, rfl⟩
        exact hN2 _ ⟨L, _, _, _, tl, fun g => by have := hl g; have e : wK (hatB f.m g) M [] = 0 := rfl; rw [e] at this; omega, rfl⟩
    rintro ρ ⟨L, y5, y6, y7, tl, hl, rfl⟩
    have hs' : ∀ g, wS g L = tot f.m f.w (fun s => g (bsOf k s)) (i + 1) := fun g => by
      rw [hl, hs, hw, ← tot_bits hm]
    have sl := tl.len
    have e1 : ((L.map (·.1)).map fun s => D.int (mget L s)) = (L.map (·.2)).map .int := by
      rw [← get_all tl.nd]
      simp only [List.map_map]
      rfl
    have e2 : (L.map (·.2)).sum = ((vl f.m f.w (i + 1)).length : Int) := by rw [sum_one, hs', tot_one]
    walk_at "vl"
    refine ⟨by omega, ?_⟩
    refine lc_emb1 rI (fun s => D.int (mget L s)) (fun s hs2 N2 hN2 => ?_) ?_
    · walk_at "vl"
      rw [kfind_in L hs2]
      walk_at "vl"
      exact ⟨rfl, hN2⟩
    rw [e1]
    walk_at "vl"
    rw [e2]
    refine ⟨by rw [numsTo_len]; omega, ?_⟩
    have e3 : (numsTo f i).map D.int ++ [D.int ((vl f.m f.w (i + 1)).length : Int)] = (numsTo f (i + 1)).map .int := by rw [numsTo_succ, List.map_append]; rfl
    rw [e3]
    exact hN _ ⟨L, _, _, _, _, tl, hs', rfl⟩
  · rintro ρ ⟨M, y3, y5, y6, y7, tb, hs, rfl⟩
    walk_at "vl"
    exact hq
theorem m_law : ∀ ds Q Ed, ds.length = 1 → LawP ds Q Ed → t_law (P_law_counted C_Course C_Dish C_Stream) P_law_draw P_law_flow (P_law_listed C_Course C_Dish C_Stream) P_law_numbers P_law_rows (P_law_stands C_Course C_Dish C_Stream) (P_law_stream C_Course C_Dish C_Stream) { nx := fun _ => Q .non, rt := Q } (startD 11 ds) := by
  rintro ds Q Ed - ⟨ns, rfl, hl, hq⟩
  unfold t_law
  refine seq_cut (fun ρ => ∃ FS : List Fw, FS.length = 2 ∧ (∀ f, f ∈ FS → FwOk f) ∧ ρ = [some (sc ns), some (.lst .l (FS.map (flD .l))), none, none, none, none, none, none, none, none, none]) (fun N hN => ?_) ?_
  · walk_at "vl"
    refine ⟨ns, 0, rfl, hl, by decide, by decide, fun f0 ok0 => ?_⟩
    walk_at "vl"
    refine ⟨ns, 40, rfl, hl, by decide, by decide, fun f1 ok1 => ?_⟩
    walk_at "vl"
    exact hN _ ⟨[f0, f1], rfl, fun f hf => by
      rcases List.mem_cons.mp hf with z | z
      · rw [z]; exact ok0
      · rw [List.mem_singleton.mp z]; exact ok1, rfl⟩
  rintro ρ ⟨FS, l2, oks, rfl⟩
  refine seq_cut (fun ρ => ρ = [some (sc ns), some (.lst .l (FS.map (flD .l))), some (.lst .l (FS.map (stO C_Course C_Dish C_Stream))), none, none, none, none, none, none, none, none]) (fun N hN => ?_) ?_
  · walk_at "vl"
    refine ⟨by omega, ?_⟩
    refine lc_emb1 (flD .l) (stO C_Course C_Dish C_Stream) (fun f hf N2 hN2 => ?_) ?_
    · walk_at "vl"
      refine ⟨f, rfl, oks f hf, ?_⟩
      walk_at "vl"
      exact hN2
    walk_at "vl"
    exact hN _ rfl
  rintro ρ rfl
  refine seq_cut (fun ρ => ∃ a b : Int, 0 ≤ a ∧ a < 8 ∧ 0 ≤ b ∧ b < 6 ∧ ρ = [some (sc ns), some (.lst .l (FS.map (flD .l))), some (.lst .l (FS.map (stO C_Course C_Dish C_Stream))), some (.lst .o [.int a, .int b]), none, none, none, none, none, none, none]) (fun N hN => ?_) ?_
  · walk_at "vl"
    refine draw_ok hl (by decide) (by decide) (by decide) fun a a0 a1 => ?_
    walk_at "vl"
    refine draw_ok hl (by decide) (by decide) (by decide) fun b b0 b1 => ?_
    walk_at "vl"
    exact hN _ ⟨a, b, a0, a1, b0, b1, rfl⟩
  rintro ρ ⟨a, b, a0, a1, b0, b1, rfl⟩
  refine seq_cut (fun ρ => ∃ ls : List Int, ls.length = 2 ∧ (∀ x, x ∈ ls → 0 ≤ x ∧ x ≤ 10) ∧ ρ = [some (sc ns), some (.lst .l (FS.map (flD .l))), some (.lst .l (FS.map (stO C_Course C_Dish C_Stream))), some (.lst .o (ls.map .int)), none, none, none, none, none, none, none]) (fun N hN => ?_) ?_
  · walk_at "vl"
    refine draw_ok hl (by decide) (by decide) (by decide) fun r r0 r1 => ?_
    walk_at "vl"
    refine sel_d (fun c => ?_) (fun c => ?_)
    · walk_at "vl"
      refine draw_ok hl (by decide) (by decide) (by decide) fun q q0 q1 => ?_
      walk_at "vl"
      refine ⟨0, rfl, hN _ ⟨[8 + q, b], rfl, fun x hx => ?_, rfl⟩⟩
      rcases List.mem_cons.mp hx with z | z
      · omega
      · rw [List.mem_singleton.mp z]; omega
    · walk_at "vl"
      exact hN _ ⟨[a, b], rfl, fun x hx => by
        rcases List.mem_cons.mp hx with z | z
        · omega
        · rw [List.mem_singleton.mp z]; omega, rfl⟩
  rintro ρ ⟨ls, ll, hls, rfl⟩
  refine seq_cut (fun ρ => ρ = [some (sc ns), some (.lst .l (FS.map (flD .l))), some (.lst .l (FS.map (stO C_Course C_Dish C_Stream))), some (.lst .o (ls.map .int)), some (.lst .l (FS.map (numD .l))), none, none, none, none, none, none]) (fun N hN => ?_) ?_
  · walk_at "vl"
    refine ⟨by omega, ?_⟩
    refine lc_emb1 (flD .l) (numD .o) (fun f hf N2 hN2 => ?_) ?_
    · walk_at "vl"
      refine ⟨f, rfl, oks f hf, ?_⟩
      walk_at "vl"
      exact hN2
    walk_at "vl"
    exact hN _ rfl
  rintro ρ rfl
  walk_at "go"
  refine forL_range (fun i ρ => ∃ (y5 y6 y7 y8 y9 : Option D), ρ = [some (sc ns), some (.lst .l (FS.map (flD .l))), some (.lst .l (FS.map (stO C_Course C_Dish C_Stream))), some (.lst .o (ls.map .int)), some (.lst .l (FS.map (numD .l))), y5, y6, y7, y8, y9, none]) ⟨_, _, _, _, _, rfl⟩ ?_ ?_
  · rintro i hi ρ ⟨y5, y6, y7, y8, y9, rfl⟩ N hN
    have hi3 : i < 3 := hi
    walk_at "go"
    refine forL_range (fun j ρ => ∃ (y6 y7 y8 y9 : Option D), ρ = [some (sc ns), some (.lst .l (FS.map (flD .l))), some (.lst .l (FS.map (stO C_Course C_Dish C_Stream))), some (.lst .o (ls.map .int)), some (.lst .l (FS.map (numD .l))), some (.int (0 + (i : Int))), y6, y7, y8, y9, none]) ⟨_, _, _, _, rfl⟩ ?_ ?_
    · rintro j hj ρ ⟨y6, y7, y8, y9, rfl⟩ N2 hN2
      have hj2 : j < 2 := hj
      have hm0 := Int.emod_nonneg (0 + (i : Int) + (0 + (j : Int))) (show (2 : Int) ≠ 0 by decide)
      have hm1 := Int.emod_lt_of_pos (0 + (i : Int) + (0 + (j : Int))) (show (0 : Int) < 2 by decide)
      obtain ⟨n, hn, en⟩ : ∃ n : Nat, n ≤ 10 ∧ ls.getD ((0 + (i : Int) + (0 + (j : Int))) % 2).toNat 0 = (n : Int) := by
        have := hls _ (getD_mem (xs := ls) (i := ((0 + (i : Int) + (0 + (j : Int))) % 2).toNat) (d := 0) (by omega))
        exact ⟨(ls.getD ((0 + (i : Int) + (0 + (j : Int))) % 2).toNat 0).toNat, by omega, by omega⟩
      have hf := oks _ (getD_mem (xs := FS) (i := (0 + (j : Int)).toNat) (d := fw0) (by omega))
      have atF : ∀ (emb : Fw → D), atI (FS.map emb) (0 + (j : Int)) = some (emb (FS.getD (0 + (j : Int)).toNat fw0)) := fun emb => at_embD fw0 (by omega) (by omega)
      generalize FS.getD (0 + (j : Int)).toNat fw0 = f at hf atF
      walk_at "vl"
      rw [at_embD (0 : Int) (by omega) (by omega), en]
      walk_at "st"
      refine ⟨by decide, ?_⟩
      refine stp_cut (fun ρ => ρ = [some (sc ns), some (.lst .l (FS.map (flD .l))), some (.lst .l (FS.map (stO C_Course C_Dish C_Stream))), some (.lst .o (ls.map .int)), some (.lst .l (FS.map (numD .l))), some (.int (0 + (i : Int))), some (.int (0 + (j : Int))), some (.int n), some (.lst .l ((pre f.m f.w n []).map rI)), y9, none]) (fun N3 hN3 => ?_) ?_
      · walk_at "vl"
        rw [atF]
        walk_at "vl"
        refine ⟨f, n, rfl, hf, hn, ?_⟩
        walk_at "vl"
        exact hN3 _ rfl
      rintro ρ rfl
      have lp : (pre f.m f.w n []).length = (vl f.m f.w n).length := pre_len n
      have en2 := nums_at f (n := n) (by omega)
      have nl := nums_len f
      refine seq_cut (fun ρ => ρ = [some (sc ns), some (.lst .l (FS.map (flD .l))), some (.lst .l (FS.map (stO C_Course C_Dish C_Stream))), some (.lst .o (ls.map .int)), some (.lst .l (FS.map (numD .l))), some (.int (0 + (i : Int))), some (.int (0 + (j : Int))), some (.int n), some (.lst .l ((pre f.m f.w n []).map rI)), y9, none]) (fun N3 hN3 => ?_) ?_
      · walk_at "vl"
        rw [atF]
        walk_at "vl"
        refine ⟨f, n, rfl, hf, hn, ?_⟩
        walk_at "vl"
        rw [atF]
        unfold numD
        generalize nums f = NS at en2 nl ⊢
        walk_at "vl"
        rw [at_embD (0 : Int) (by omega) (by omega)]
        rw [show ((n : Int)).toNat = n from Int.toNat_natCast n, en2]
        walk_at "vl"
        rw [lp, decide_eq_true rfl]
        walk_at "vl"
        exact hN3 _ rfl
      rintro ρ rfl
      generalize (pre f.m f.w n []).map rI = RS
      walk_at "vl"
      refine draw_ok hl (by omega) (by omega) (by decide) fun o o0 o1 => ?_
      walk_at "vl"
      obtain ⟨u, v, hu, hv, ea⟩ : ∃ u v : Nat, u ≤ 40 ∧ v ≤ 40 ∧ atI [D.nd (.lst .l) [.int 0, .int (n : Int)], D.nd (.lst .l) [.int 40, .int (n : Int)], D.nd (.lst .l) [.int o, .int 0]] (0 + (i : Int)) = some (D.nd (.lst .l) [.int (u : Int), .int (v : Int)]) := by
        have hc : i = 0 ∨ i = 1 ∨ i = 2 := by omega
        rcases hc with z | z | z
        · subst z; exact ⟨0, n, by decide, by omega, rfl⟩
        · subst z; exact ⟨40, n, by decide, by omega, rfl⟩
        · subst z
          refine ⟨o.toNat, 0, by omega, by decide, ?_⟩
          rw [Int.toNat_of_nonneg o0]; rfl
      rw [ea]
      walk_at "vl"
      refine forL_keep (fun ρ => ∃ y, ρ = [some (sc ns), some (.lst .l (FS.map (flD .l))), some (.lst .l (FS.map (stO C_Course C_Dish C_Stream))), some (.lst .o (ls.map .int)), some (.lst .l (FS.map (numD .l))), some (.int (0 + (i : Int))), some (.int (0 + (j : Int))), some (.int n), some (.lst .l RS), y, none]) ⟨_, rfl⟩ ?_ ?_
      · rintro x hx ρ ⟨y, rfl⟩ N3 hN3
        obtain ⟨q, hq40, rfl⟩ : ∃ q : Nat, q ≤ 40 ∧ x = .int (q : Int) := by
          rcases List.mem_cons.mp hx with z | z
          · exact ⟨u, hu, z⟩
          · exact ⟨v, hv, List.mem_singleton.mp z⟩
        walk_at "vl"
        rw [atF]
        walk_at "vl"
        rw [atF]
        walk_at "vl"
        refine ⟨f, q, rfl, hf, hq40, ?_⟩
        walk_at "vl"
        exact hN3 _ ⟨_, rfl⟩
      · rintro ρ ⟨y, rfl⟩
        exact hN2 _ ⟨_, _, _, _, rfl⟩
    · rintro ρ ⟨y6, y7, y8, y9, rfl⟩
      exact hN _ ⟨_, _, _, _, _, rfl⟩
  · rintro ρ ⟨y5, y6, y7, y8, y9, rfl⟩
    have g0 := oks _ (getD_mem (xs := FS) (i := 0) (d := fw0) (by omega))
    have g1 := oks _ (getD_mem (xs := FS) (i := 1) (d := fw0) (by omega))
    have at0 : ∀ emb : Fw → D, atI (FS.map emb) 0 = some (emb (FS.getD 0 fw0)) := fun emb => at_embD fw0 (by omega) (by omega)
    have at1 : ∀ emb : Fw → D, atI (FS.map emb) 1 = some (emb (FS.getD 1 fw0)) := fun emb => at_embD fw0 (by omega) (by omega)
    generalize FS.getD 0 fw0 = f0 at g0 at0
    generalize FS.getD 1 fw0 = f1 at g1 at1
    walk_at "vl"
    rw [at0]
    walk_at "vl"
    rw [at0]
    walk_at "vl"
    refine ⟨f0, rfl, g0, ?_⟩
    walk_at "vl"
    rw [at1]
    walk_at "vl"
    rw [at1]
    walk_at "vl"
    refine ⟨f1, rfl, g1, ?_⟩
    walk_at "vl"
    exact hq
end
end K27

/-! ## K27_d -/
set_option maxHeartbeats 4000000
namespace K27
open PySem PySem.Spec L2 VL
open PyProof.Rows hiding St
def top (i : Nat) : Stmt := PySem.Challenge.pw_eveningkept_k27_order_rows.main.body.getD i (.Pass ⟨0, 0, 0, 0⟩)
abbrev s_law_draw : Stmt := (top 18)
theorem sc_law_draw : FnScope N_law_draw ["script", "k", "size"] (defScope s_law_draw) := ⟨rfl, rfl, rfl, by decide +kernel, rfl, by decide +kernel, by decide +kernel⟩
abbrev s_law_flow : Stmt := (top 19)
theorem sc_law_flow : FnScope N_law_flow ["script", "at"] (defScope s_law_flow) := ⟨rfl, rfl, rfl, by decide +kernel, rfl, by decide +kernel, by decide +kernel⟩
abbrev s_between : Stmt := (top 6)
theorem sc_between : FnScope N_between ["value", "least", "most"] (defScope s_between) := ⟨rfl, rfl, rfl, by decide +kernel, rfl, by decide +kernel, by decide +kernel⟩
abbrev s_is_name : Stmt := (top 7)
theorem sc_is_name : FnScope N_is_name ["text"] (defScope s_is_name) := ⟨rfl, rfl, rfl, by decide +kernel, rfl, by decide +kernel, by decide +kernel⟩
abbrev s_Stream_init : Stmt := (inClass (top 13) 0)
theorem sc_Stream_init : FnScope N_Stream_init ["self", "name", "course", "due", "many", "window"] (defScope s_Stream_init) := ⟨rfl, rfl, rfl, by decide +kernel, rfl, by decide +kernel, by decide +kernel⟩
abbrev s_Dish_init : Stmt := (inClass (top 15) 0)
theorem sc_Dish_init : FnScope N_Dish_init ["self", "station", "least", "most", "keep"] (defScope s_Dish_init) := ⟨rfl, rfl, rfl, by decide +kernel, rfl, by decide +kernel, by decide +kernel⟩
abbrev s_Course_init : Stmt := (inClass (top 16) 0)
theorem sc_Course_init : FnScope N_Course_init ["self", "dishes", "eat_least", "eat_most"] (defScope s_Course_init) := ⟨rfl, rfl, rfl, by decide +kernel, rfl, by decide +kernel, by decide +kernel⟩
abbrev s_law_stream : Stmt := (top 20)
theorem sc_law_stream : FnScope N_law_stream ["told"] (defScope s_law_stream) := ⟨rfl, rfl, rfl, by decide +kernel, rfl, by decide +kernel, by decide +kernel⟩
abbrev s_law_numbers : Stmt := (top 25)
theorem sc_law_numbers : FnScope N_law_numbers ["told"] (defScope s_law_numbers) := ⟨rfl, rfl, rfl, by decide +kernel, rfl, by decide +kernel, by decide +kernel⟩
abbrev s_law_stands : Stmt := (top 22)
theorem sc_law_stands : FnScope N_law_stands ["made", "told"] (defScope s_law_stands) := ⟨rfl, rfl, rfl, by decide +kernel, rfl, by decide +kernel, by decide +kernel⟩
abbrev s_law_row_keeps : Stmt := (top 23)
theorem sc_law_row_keeps : FnScope N_law_row_keeps ["told", "row"] (defScope s_law_row_keeps) := ⟨rfl, rfl, rfl, by decide +kernel, rfl, by decide +kernel, by decide +kernel⟩
abbrev s_law_rows : Stmt := (top 24)
theorem sc_law_rows : FnScope N_law_rows ["told", "length"] (defScope s_law_rows) := ⟨rfl, rfl, rfl, by decide +kernel, rfl, by decide +kernel, by decide +kernel⟩
abbrev s_lets_come : Stmt := (top 9)
theorem sc_lets_come : FnScope N_lets_come ["stream", "ticks", "tick"] (defScope s_lets_come) := ⟨rfl, rfl, rfl, by decide +kernel, rfl, by decide +kernel, by decide +kernel⟩
abbrev s_order_rows : Stmt := (top 10)
theorem sc_order_rows : FnScope N_order_rows ["stream", "length"] (defScope s_order_rows) := ⟨rfl, rfl, rfl, by decide +kernel, rfl, by decide +kernel, by decide +kernel⟩
abbrev s_law_is_int : Stmt := (top 21)
theorem sc_law_is_int : FnScope N_law_is_int ["value"] (defScope s_law_is_int) := ⟨rfl, rfl, rfl, by decide +kernel, rfl, by decide +kernel, by decide +kernel⟩
abbrev s_law_are_rows : Stmt := (top 26)
theorem sc_law_are_rows : FnScope N_law_are_rows ["told", "rows"] (defScope s_law_are_rows) := ⟨rfl, rfl, rfl, by decide +kernel, rfl, by decide +kernel, by decide +kernel⟩
abbrev s_law_listed : Stmt := (top 27)
theorem sc_law_listed : FnScope N_law_listed ["made", "rows", "length"] (defScope s_law_listed) := ⟨rfl, rfl, rfl, by decide +kernel, rfl, by decide +kernel, by decide +kernel⟩
abbrev s_count_order_rows : Stmt := (top 11)
theorem sc_count_order_rows : FnScope N_count_order_rows ["stream", "length"] (defScope s_count_order_rows) := ⟨rfl, rfl, rfl, by decide +kernel, rfl, by decide +kernel, by decide +kernel⟩
abbrev s_law_counted : Stmt := (top 28)
theorem sc_law_counted : FnScope N_law_counted ["made", "numbers", "length"] (defScope s_law_counted) := ⟨rfl, rfl, rfl, by decide +kernel, rfl, by decide +kernel, by decide +kernel⟩
abbrev s_law : Stmt := (top 29)
theorem sc_law : FnScope N_law ["script"] (defScope s_law) := ⟨rfl, rfl, rfl, by decide +kernel, rfl, by decide +kernel, by decide +kernel⟩
variable [KK : KLs]
def kc0_g {α : Type} (us mv ws : List α) : List α := match us, mv, ws with
  | [u0, u1, u2, u3], [], [w0] => [u0, u1, u2, u3, w0]
  | _, _, _ => []
def kc0_gV (vs zs : List V) : List V := kc0_g vs ([] : List V) zs
theorem kb_kc0 {f : Addr} {fd : FuncData} (F : FunD KK.K "__init__" "Dish.__init__" (defArgs s_Dish_init) (defBody s_Dish_init) (defScope s_Dish_init) [] [("keep", .int 0)] f fd) : ∃ mv : List Value, KBn KK.K fd ["self", "station", "least", "most", "keep"] 4 ["keep"] (fun us ws => kc0_g us mv ws) kc0_gV := by
  refine F.kbinds0 4 ["keep"] [] (fun us mv ws => kc0_g us mv ws) (by simp) (by first | decide +kernel | (intro q hq; cases hq)) ?_ ?_
  · intro vs mz zs us mv ws r1 r2 r3
    by_cases hl : vs.length = 4 ∧ mz.length = 0 ∧ zs.length = 1
    · match vs, mz, zs, hl with
      | [v0, v1, v2, v3], [], [z0], _ =>
        match us, mv, ws, r1, r2, r3 with
        | _, _, _, (.cons ra0 (.cons ra1 (.cons ra2 (.cons ra3 .nil)))), .nil, (.cons rc0 .nil) => exact .cons ra0 (.cons ra1 (.cons ra2 (.cons ra3 (.cons rc0 (.nil)))))
    · have e1 := r1.length; have e2 := r2.length; have e3 := r3.length
      have n1 : kc0_g vs mz zs = [] := by unfold kc0_g; split <;> first | (exact absurd ⟨rfl, rfl, rfl⟩ hl) | rfl
      have n2 : kc0_g us mv ws = [] := by unfold kc0_g; split <;> first | (exact absurd ⟨by simpa using e1, by simpa using e2, by simpa using e3⟩ hl) | rfl
      rw [n1, n2]; exact .nil
  · intro Dk doc pm an cdv ct us mv ws l1 l2 l3
    match us, mv, ws, l1, l2, l3 with
    | [_, _, _, _], [], [_], _, _, _ => exact rfl
theorem puts_kc0 : Puts 3 1 kc0_gv kc0_gV := by
  intro Z B H ds vs F es us G q1 q2 h1 h2
  match ds, es, h1, h2 with
  | [a0, a1, a2], [k0], _, _ =>
    obtain ⟨v0, ws0, F0, G0, ev0, xv0, q1, fv0⟩ := q1
    obtain ⟨v1, ws1, F1, G1, ev1, xv1, q1, fv1⟩ := q1
    obtain ⟨v2, ws2, F2, G2, ev2, xv2, q1, fv2⟩ := q1
    obtain ⟨u0, us0, Fu0, Gu0, eu0, xu0, q2, fu0⟩ := q2
    obtain ⟨eva, _⟩ := q1
    obtain ⟨eua, _⟩ := q2
    subst eva ev2 ev1 ev0 eua eu0
    exact ⟨[v0, v1, v2, u0], _, ⟨_, _, _, _, rfl, xv0, ⟨_, _, _, _, rfl, xv1, ⟨_, _, _, _, rfl, xv2, ⟨_, _, _, _, rfl, xu0, ⟨rfl, rfl⟩, rfl⟩, rfl⟩, rfl⟩, rfl⟩, fun x => rfl⟩
def kc1_g {α : Type} (us mv ws : List α) : List α := match us, mv, ws with
  | [u0, u1, u2], [], [w0, w1, w2] => [u0, u1, u2, w0, w1, w2]
  | _, _, _ => []
def kc1_gV (vs zs : List V) : List V := kc1_g vs ([] : List V) zs
theorem kb_kc1 {f : Addr} {fd : FuncData} (F : FunD KK.K "__init__" "Stream.__init__" (defArgs s_Stream_init) (defBody s_Stream_init) (defScope s_Stream_init) [] [("due", .int 0), ("many", .int 1), ("window", .int 1)] f fd) : ∃ mv : List Value, KBn KK.K fd ["self", "name", "course", "due", "many", "window"] 3 ["due", "many", "window"] (fun us ws => kc1_g us mv ws) kc1_gV := by
  refine F.kbinds0 3 ["due", "many", "window"] [] (fun us mv ws => kc1_g us mv ws) (by simp) (by first | decide +kernel | (intro q hq; cases hq)) ?_ ?_
  · intro vs mz zs us mv ws r1 r2 r3
    by_cases hl : vs.length = 3 ∧ mz.length = 0 ∧ zs.length = 3
    · match vs, mz, zs, hl with
      | [v0, v1, v2], [], [z0, z1, z2], _ =>
        match us, mv, ws, r1, r2, r3 with
        | _, _, _, (.cons ra0 (.cons ra1 (.cons ra2 .nil))), .nil, (.cons rc0 (.cons rc1 (.cons rc2 .nil))) => exact .cons ra0 (.cons ra1 (.cons ra2 (.cons rc0 (.cons rc1 (.cons rc2 (.nil))))))
    · have e1 := r1.length; have e2 := r2.length; have e3 := r3.length
      have n1 : kc1_g vs mz zs = [] := by unfold kc1_g; split <;> first | (exact absurd ⟨rfl, rfl, rfl⟩ hl) | rfl
      have n2 : kc1_g us mv ws = [] := by unfold kc1_g; split <;> first | (exact absurd ⟨by simpa using e1, by simpa using e2, by simpa using e3⟩ hl) | rfl
      rw [n1, n2]; exact .nil
  · intro Dk doc pm an cdv ct us mv ws l1 l2 l3
    match us, mv, ws, l1, l2, l3 with
    | [_, _, _], [], [_, _, _], _, _, _ => exact rfl
theorem puts_kc1 : Puts 2 3 kc1_gv kc1_gV := by
  intro Z B H ds vs F es us G q1 q2 h1 h2
  match ds, es, h1, h2 with
  | [a0, a1], [k0, k1, k2], _, _ =>
    obtain ⟨v0, ws0, F0, G0, ev0, xv0, q1, fv0⟩ := q1
    obtain ⟨v1, ws1, F1, G1, ev1, xv1, q1, fv1⟩ := q1
    obtain ⟨u0, us0, Fu0, Gu0, eu0, xu0, q2, fu0⟩ := q2
    obtain ⟨u1, us1, Fu1, Gu1, eu1, xu1, q2, fu1⟩ := q2
    obtain ⟨u2, us2, Fu2, Gu2, eu2, xu2, q2, fu2⟩ := q2
    obtain ⟨eva, _⟩ := q1
    obtain ⟨eua, _⟩ := q2
    subst eva ev1 ev0 eua eu2 eu1 eu0
    exact ⟨[v0, v1, u0, u1, u2], _, ⟨_, _, _, _, rfl, xv0, ⟨_, _, _, _, rfl, xv1, ⟨_, _, _, _, rfl, xu0, ⟨_, _, _, _, rfl, xu1, ⟨_, _, _, _, rfl, xu2, ⟨rfl, rfl⟩, rfl⟩, rfl⟩, rfl⟩, rfl⟩, rfl⟩, fun x => rfl⟩
structure Txt (mg : Str → Option Value) (C_Course : Addr) (C_Dish : Addr) (C_Stream : Addr) : Prop where
  m_bool : mg "bool" = none
  m_int : mg "int" = none
  m_isinstance : mg "isinstance" = none
  m_len : mg "len" = none
  m_list : mg "list" = none
  m_max : mg "max" = none
  m_min : mg "min" = none
  m_range : mg "range" = none
  m_sorted : mg "sorted" = none
  m_sum : mg "sum" = none
  m_tuple : mg "tuple" = none
  mg_Course : mg "Course" = some (.ref C_Course)
  mg_Dish : mg "Dish" = some (.ref C_Dish)
  mg_Stream : mg "Stream" = some (.ref C_Stream)
  fl_Course_dishes : FldOk KK.K C_Course "dishes"
  fl_Course_eat_least : FldOk KK.K C_Course "eat_least"
  fl_Course_eat_most : FldOk KK.K C_Course "eat_most"
  fl_Dish_keep : FldOk KK.K C_Dish "keep"
  fl_Dish_least : FldOk KK.K C_Dish "least"
  fl_Dish_most : FldOk KK.K C_Dish "most"
  fl_Dish_station : FldOk KK.K C_Dish "station"
  fl_Stream_course : FldOk KK.K C_Stream "course"
  fl_Stream_due : FldOk KK.K C_Stream "due"
  fl_Stream_many : FldOk KK.K C_Stream "many"
  fl_Stream_name : FldOk KK.K C_Stream "name"
  fl_Stream_window : FldOk KK.K C_Stream "window"
  gl_NAME_SIGNS : ∃ u, mg "NAME_SIGNS" = some u ∧ RelV (.str "abcdefghijklmnopqrstuvwxyz0123456789") u
section
variable {P : Program} {w : World} {mg : Str → Option Value} {base : Heap}
variable {C_Course C_Dish C_Stream : Addr}
theorem ok_law_draw (X : Txt mg C_Course C_Dish C_Stream)
    {P_law_draw : PV} (hmath : ∀ ds Q Ed, ds.length = 3 → P_law_draw ds Q Ed → t_law_draw  { nx := fun _ => Q .non, rt := Q } (startD 8 ds)) {f : Addr} {fd : FuncData} (F : FunD KK.K "_law_draw" "_law_draw" (defArgs s_law_draw) (defBody s_law_draw) (defScope s_law_draw) [] [] f fd) : FnOk P w KK.K mg base (L2N.CX P w) 1 f fd ["script", "k", "size"] (spV 3 P_law_draw) := by
  exact fn_v F sc_law_draw rfl (t := t_law_draw ) (fun cdv A outer s H E hr => ⟨_, (ss_cons (s_asgL 3 (e_max2 rfl X.m_max (a_cons e_int (a_cons (e_min2 rfl X.m_min (a_cons (e_len X.m_len (a_cons (e_var 0) a_nil)) (a_cons e_int a_nil))) a_nil))) sc_law_draw.nd)
    (ss_cons (s_asgL 4 e_int sc_law_draw.nd)
    (ss_cons (s_if (t_gt (e_len X.m_len (a_cons (e_var 0) a_nil)) e_int) (ss_one (s_asgL 4 (e_ix (e_var 0) (e_mod (e_int1 X.m_int (a_cons (e_var 1) a_nil)) (e_var 3))) sc_law_draw.nd)) ss_nil)
    (ss_cons (s_if (t_ge (e_var 4) (e_pow e_int e_int)) (ss_cons (s_asgL 5 (e_var 4) sc_law_draw.nd)
    (ss_cons (s_for rfl PassesOwn.never (i_rng1 X.m_range (e_min2 rfl X.m_min (a_cons (e_div (e_var 1) (e_var 3)) (a_cons e_int a_nil)))) (g_name 6 sc_law_draw.nd) (ss_one (s_asgL 5 (e_div (e_var 5) e_int) sc_law_draw.nd)))
    (ss_one (s_if (t_gt (e_var 5) e_int) (ss_one (s_ret (e_mod (e_int1 X.m_int (a_cons (e_mod (e_int1 X.m_int (a_cons (e_var 5) a_nil)) e_int) a_nil)) (e_var 2)))) ss_nil)))) ss_nil)
    (ss_cons (s_asgL 7 (e_mod (e_int1 X.m_int (a_cons (e_add (e_add (e_var 4) (e_mul e_int (e_var 1))) e_int) a_nil)) e_int) sc_law_draw.nd)
    (ss_cons (s_asgL 7 (e_mod (e_int1 X.m_int (a_cons (e_mul (e_var 7) (e_add (e_var 7) e_int)) a_nil)) e_int) sc_law_draw.nd)
    (ss_cons (s_asgL 7 (e_mod (e_int1 X.m_int (a_cons (e_add (e_mul (e_var 7) (e_add (e_var 7) e_int)) (e_mul e_int (e_var 1))) a_nil)) e_int) sc_law_draw.nd)
    (ss_one (s_ret (e_mod (e_int1 X.m_int (a_cons (e_div (e_var 7) e_int) a_nil)) (e_var 2)))))))))))⟩) hmath
theorem ok_law_flow (X : Txt mg C_Course C_Dish C_Stream)
    {P_law_draw : PV} (H_law_draw : Fnc P w KK.K mg base 1 "_law_draw" 3 P_law_draw [])
    {P_law_flow : PV} (hmath : ∀ ds Q Ed, ds.length = 2 → P_law_flow ds Q Ed → t_law_flow P_law_draw { nx := fun _ => Q .non, rt := Q } (startD 10 ds)) {f : Addr} {fd : FuncData} (F : FunD KK.K "_law_flow" "_law_flow" (defArgs s_law_flow) (defBody s_law_flow) (defScope s_law_flow) [] [] f fd) : FnOk P w KK.K mg base (L2N.CX P w) 2 f fd ["script", "at"] (spV 2 P_law_flow) := by
  obtain ⟨f_law_draw, fd_law_draw, ps_law_draw, ds_law_draw, dvs_law_draw, F_law_draw, hm_law_draw, kp_law_draw, b_law_draw, d_law_draw, hf_law_draw⟩ := H_law_draw.ex
  exact fn_v F sc_law_flow rfl (t := t_law_flow P_law_draw) (fun cdv A outer s H E hr => ⟨_, (ss_cons (s_asg 2 (e_lst a_nil) sc_law_flow.nd)
    (ss_cons (s_for rfl PassesOwn.never (i_rng1 X.m_range (e_call F_law_draw hm_law_draw kp_law_draw b_law_draw d_law_draw hf_law_draw hr (by decide) (a_cons (e_var 0) (a_cons (e_var 1) (a_cons e_int a_nil))))) (g_name 3 sc_law_flow.nd) (ss_cons (s_asgL 4 (e_add e_int (e_call F_law_draw hm_law_draw kp_law_draw b_law_draw d_law_draw hf_law_draw hr (by decide) (a_cons (e_var 0) (a_cons (e_add (e_add (e_var 1) e_int) (e_mul e_int (e_var 3))) (a_cons e_int a_nil))))) sc_law_flow.nd)
    (ss_cons (s_asgL 5 (e_add (e_var 4) (e_call F_law_draw hm_law_draw kp_law_draw b_law_draw d_law_draw hf_law_draw hr (by decide) (a_cons (e_var 0) (a_cons (e_add (e_add (e_var 1) e_int) (e_mul e_int (e_var 3))) (a_cons (e_sub e_int (e_var 4)) a_nil))))) sc_law_flow.nd)
    (ss_one (s_app 2 (e_tup (a_cons (e_call F_law_draw hm_law_draw kp_law_draw b_law_draw d_law_draw hf_law_draw hr (by decide) (a_cons (e_var 0) (a_cons (e_add (e_add (e_var 1) e_int) (e_mul e_int (e_var 3))) (a_cons e_int a_nil)))) (a_cons (e_var 4) (a_cons (e_var 5) (a_cons (e_call F_law_draw hm_law_draw kp_law_draw b_law_draw d_law_draw hf_law_draw hr (by decide) (a_cons (e_var 0) (a_cons (e_add (e_add (e_var 1) e_int) (e_mul e_int (e_var 3))) (a_cons e_int a_nil)))) a_nil))))))))))
    (ss_cons (s_asgL 6 (e_add e_int (e_call F_law_draw hm_law_draw kp_law_draw b_law_draw d_law_draw hf_law_draw hr (by decide) (a_cons (e_var 0) (a_cons (e_add (e_var 1) e_int) (a_cons e_int a_nil))))) sc_law_flow.nd)
    (ss_cons (s_frz 2 (s_asgL 7 (e_tup (a_cons (e_var 2) (a_cons (e_var 6) (a_cons (e_add (e_var 6) (e_call F_law_draw hm_law_draw kp_law_draw b_law_draw d_law_draw hf_law_draw hr (by decide) (a_cons (e_var 0) (a_cons (e_add (e_var 1) e_int) (a_cons (e_sub e_int (e_var 6)) a_nil))))) a_nil)))) sc_law_flow.nd))
    (ss_cons (s_asgL 8 e_str sc_law_flow.nd)
    (ss_cons (s_asgL 9 (e_join e_str (e_lc (own := [("k", 3)]) rfl sc_law_flow.nd (i_rng1 X.m_range (e_add e_int (e_call F_law_draw hm_law_draw kp_law_draw b_law_draw d_law_draw hf_law_draw hr (by decide) (a_cons (e_var 0) (a_cons (e_add (e_var 1) e_int) (a_cons e_int a_nil)))))) (blkOk_by (own := [("k", 3)]) (N := N_law_flow) (sc := (defScope s_law_flow)) (by decide +kernel)) (fun _ _ _ _ _ => (g_name 3 sc_law_flow.nd)) (by decide) (fun _ _ _ _ _ => ts_nil) (fun _ _ _ _ _ => (e_ix (e_var 8) (e_call F_law_draw hm_law_draw kp_law_draw b_law_draw d_law_draw hf_law_draw hr (by decide) (a_cons (e_var 0) (a_cons (e_add (e_add (e_var 1) e_int) (e_var 3)) (a_cons e_int a_nil)))))))) sc_law_flow.nd)
    (ss_one (s_ret (e_tup (a_cons (e_var 9) (a_cons (e_var 7) (a_cons (e_call F_law_draw hm_law_draw kp_law_draw b_law_draw d_law_draw hf_law_draw hr (by decide) (a_cons (e_var 0) (a_cons (e_add (e_var 1) e_int) (a_cons e_int a_nil)))) (a_cons (e_add e_int (e_call F_law_draw hm_law_draw kp_law_draw b_law_draw d_law_draw hf_law_draw hr (by decide) (a_cons (e_var 0) (a_cons (e_add (e_var 1) e_int) (a_cons e_int a_nil))))) (a_cons (e_add e_int (e_call F_law_draw hm_law_draw kp_law_draw b_law_draw d_law_draw hf_law_draw hr (by decide) (a_cons (e_var 0) (a_cons (e_add (e_var 1) e_int) (a_cons e_int a_nil))))) a_nil))))))))))))))⟩) hmath
theorem ok_between (X : Txt mg C_Course C_Dish C_Stream)
    {P_between : PV} (hmath : ∀ ds Q Ed, ds.length = 3 → P_between ds Q Ed → t_between  { nx := fun _ => Q .non, rt := Q } (startD 3 ds)) {f : Addr} {fd : FuncData} (F : FunD KK.K "between" "between" (defArgs s_between) (defBody s_between) (defScope s_between) [] [] f fd) : FnOk P w KK.K mg base (L2N.CX P w) 1 f fd ["value", "least", "most"] (spV 3 P_between) := by
  exact fn_v F sc_between rfl (t := t_between ) (fun cdv A outer s H E hr => ⟨_, (ss_one (s_ret (e_and (e_le (e_var 1) (e_var 0)) (e_one (e_le (e_var 0) (e_var 2))))))⟩) hmath
theorem ok_is_name (X : Txt mg C_Course C_Dish C_Stream)
    {P_between : PV} (H_between : Fnc P w KK.K mg base 1 "between" 3 P_between [])
    {P_is_name : PV} (hmath : ∀ ds Q Ed, ds.length = 1 → P_is_name ds Q Ed → t_is_name P_between { nx := fun _ => Q .non, rt := Q } (startD 2 ds)) {f : Addr} {fd : FuncData} (F : FunD KK.K "is_name" "is_name" (defArgs s_is_name) (defBody s_is_name) (defScope s_is_name) [] [] f fd) : FnOk P w KK.K mg base (L2N.CX P w) 2 f fd ["text"] (spV 1 P_is_name) := by
  obtain ⟨f_between, fd_between, ps_between, ds_between, dvs_between, F_between, hm_between, kp_between, b_between, d_between, hf_between⟩ := H_between.ex
  exact fn_v F sc_is_name rfl (t := t_is_name P_between) (fun cdv A outer s H E hr => ⟨_, (ss_cons (s_if (t_not (t_val (e_call F_between hm_between kp_between b_between d_between hf_between hr (by decide) (a_cons (e_len X.m_len (a_cons (e_var 0) a_nil)) (a_cons e_int (a_cons e_int a_nil)))))) (ss_one (s_ret e_bl)) ss_nil)
    (ss_cons (s_for rfl PassesOwn.never (i_seq (e_var 0)) (g_name 1 sc_is_name.nd) (ss_one (s_if (t_nsgn (e_var 1) (e_globS X.gl_NAME_SIGNS)) (ss_one (s_ret e_bl)) ss_nil)))
    (ss_one (s_ret e_bl))))⟩) hmath
theorem ok_Stream_init (X : Txt mg C_Course C_Dish C_Stream)
    {P_is_name : PV} (H_is_name : Fnc P w KK.K mg base 2 "is_name" 1 P_is_name [])
    {P_between : PV} (H_between : Fnc P w KK.K mg base 1 "between" 3 P_between [])
    {P_Stream_init : PI'} (hmath : ∀ y C ds Qd Ed, ds.length = 5 → P_Stream_init C ds Qd Ed → t_Stream_init P_between P_is_name C_Stream { nx := initEnd C Qd y, rt := fun _ => False } (startD 6 (.slf (.c y) C [] [] :: ds))) {f : Addr} {fd : FuncData} (F : FunD KK.K "__init__" "Stream.__init__" (defArgs s_Stream_init) (defBody s_Stream_init) (defScope s_Stream_init) [] [("due", .int 0), ("many", .int 1), ("window", .int 1)] f fd) : FnOk P w KK.K mg base (L2N.CX P w) 3 f fd ["self", "name", "course", "due", "many", "window"] (spI 5 P_Stream_init) := by
  obtain ⟨f_is_name, fd_is_name, ps_is_name, ds_is_name, dvs_is_name, F_is_name, hm_is_name, kp_is_name, b_is_name, d_is_name, hf_is_name⟩ := H_is_name.ex
  obtain ⟨f_between, fd_between, ps_between, ds_between, dvs_between, F_between, hm_between, kp_between, b_between, d_between, hf_between⟩ := H_between.ex
  exact fn_i F sc_Stream_init rfl (t := t_Stream_init P_between P_is_name C_Stream) (fun cdv A outer s H E hr => ⟨_, (ss_cons (s_if (t_not (t_val (e_call F_is_name hm_is_name kp_is_name b_is_name d_is_name hf_is_name hr (by decide) (a_cons (e_var 1) a_nil)))) (ss_one s_never) ss_nil)
    (ss_cons (s_if (t_not (t_val (e_call F_between hm_between kp_between b_between d_between hf_between hr (by decide) (a_cons (e_var 3) (a_cons e_int (a_cons e_int a_nil)))))) (ss_one s_never) ss_nil)
    (ss_cons (s_if (t_not (t_val (e_call F_between hm_between kp_between b_between d_between hf_between hr (by decide) (a_cons (e_var 4) (a_cons e_int (a_cons e_int a_nil)))))) (ss_one s_never) ss_nil)
    (ss_cons (s_if (t_not (t_val (e_call F_between hm_between kp_between b_between d_between hf_between hr (by decide) (a_cons (e_var 5) (a_cons e_int (a_cons e_int a_nil)))))) (ss_one s_never) ss_nil)
    (ss_cons (s_setF 0 (ok := fun C => C = C_Stream) (fun C h => h ▸ X.fl_Stream_name) (e_var 1))
    (ss_cons (s_setF 0 (ok := fun C => C = C_Stream) (fun C h => h ▸ X.fl_Stream_course) (e_var 2))
    (ss_cons (s_setF 0 (ok := fun C => C = C_Stream) (fun C h => h ▸ X.fl_Stream_due) (e_var 3))
    (ss_cons (s_setF 0 (ok := fun C => C = C_Stream) (fun C h => h ▸ X.fl_Stream_many) (e_var 4))
    (ss_one (s_setF 0 (ok := fun C => C = C_Stream) (fun C h => h ▸ X.fl_Stream_window) (e_var 5)))))))))))⟩) hmath
theorem ok_Dish_init (X : Txt mg C_Course C_Dish C_Stream)
    {P_between : PV} (H_between : Fnc P w KK.K mg base 1 "between" 3 P_between [])
    {P_Dish_init : PI'} (hmath : ∀ y C ds Qd Ed, ds.length = 4 → P_Dish_init C ds Qd Ed → t_Dish_init P_between C_Dish { nx := initEnd C Qd y, rt := fun _ => False } (startD 5 (.slf (.c y) C [] [] :: ds))) {f : Addr} {fd : FuncData} (F : FunD KK.K "__init__" "Dish.__init__" (defArgs s_Dish_init) (defBody s_Dish_init) (defScope s_Dish_init) [] [("keep", .int 0)] f fd) : FnOk P w KK.K mg base (L2N.CX P w) 2 f fd ["self", "station", "least", "most", "keep"] (spI 4 P_Dish_init) := by
  obtain ⟨f_between, fd_between, ps_between, ds_between, dvs_between, F_between, hm_between, kp_between, b_between, d_between, hf_between⟩ := H_between.ex
  exact fn_i F sc_Dish_init rfl (t := t_Dish_init P_between C_Dish) (fun cdv A outer s H E hr => ⟨_, (ss_cons (s_if (t_not (t_val (e_call F_between hm_between kp_between b_between d_between hf_between hr (by decide) (a_cons (e_var 1) (a_cons e_int (a_cons e_int a_nil)))))) (ss_one s_never) ss_nil)
    (ss_cons (s_if (t_not (t_val (e_call F_between hm_between kp_between b_between d_between hf_between hr (by decide) (a_cons (e_var 2) (a_cons e_int (a_cons e_int a_nil)))))) (ss_one s_never) ss_nil)
    (ss_cons (s_if (t_not (t_val (e_call F_between hm_between kp_between b_between d_between hf_between hr (by decide) (a_cons (e_var 3) (a_cons (e_var 2) (a_cons e_int a_nil)))))) (ss_one s_never) ss_nil)
    (ss_cons (s_if (t_not (t_val (e_call F_between hm_between kp_between b_between d_between hf_between hr (by decide) (a_cons (e_var 4) (a_cons e_int (a_cons e_int a_nil)))))) (ss_one s_never) ss_nil)
    (ss_cons (s_setF 0 (ok := fun C => C = C_Dish) (fun C h => h ▸ X.fl_Dish_station) (e_var 1))
    (ss_cons (s_setF 0 (ok := fun C => C = C_Dish) (fun C h => h ▸ X.fl_Dish_least) (e_var 2))
    (ss_cons (s_setF 0 (ok := fun C => C = C_Dish) (fun C h => h ▸ X.fl_Dish_most) (e_var 3))
    (ss_one (s_setF 0 (ok := fun C => C = C_Dish) (fun C h => h ▸ X.fl_Dish_keep) (e_var 4))))))))))⟩) hmath
theorem ok_Course_init (X : Txt mg C_Course C_Dish C_Stream)
    {P_between : PV} (H_between : Fnc P w KK.K mg base 1 "between" 3 P_between [])
    {P_Course_init : PI'} (hmath : ∀ y C ds Qd Ed, ds.length = 3 → P_Course_init C ds Qd Ed → t_Course_init P_between C_Course { nx := initEnd C Qd y, rt := fun _ => False } (startD 4 (.slf (.c y) C [] [] :: ds))) {f : Addr} {fd : FuncData} (F : FunD KK.K "__init__" "Course.__init__" (defArgs s_Course_init) (defBody s_Course_init) (defScope s_Course_init) [] [] f fd) : FnOk P w KK.K mg base (L2N.CX P w) 2 f fd ["self", "dishes", "eat_least", "eat_most"] (spI 3 P_Course_init) := by
  obtain ⟨f_between, fd_between, ps_between, ds_between, dvs_between, F_between, hm_between, kp_between, b_between, d_between, hf_between⟩ := H_between.ex
  exact fn_i F sc_Course_init rfl (t := t_Course_init P_between C_Course) (fun cdv A outer s H E hr => ⟨_, (ss_cons (s_if (t_gt (e_len X.m_len (a_cons (e_var 1) a_nil)) e_int) (ss_one s_never) ss_nil)
    (ss_cons (s_if (t_not (t_val (e_call F_between hm_between kp_between b_between d_between hf_between hr (by decide) (a_cons (e_var 2) (a_cons e_int (a_cons e_int a_nil)))))) (ss_one s_never) ss_nil)
    (ss_cons (s_if (t_not (t_val (e_call F_between hm_between kp_between b_between d_between hf_between hr (by decide) (a_cons (e_var 3) (a_cons (e_var 2) (a_cons e_int a_nil)))))) (ss_one s_never) ss_nil)
    (ss_cons (s_setF 0 (ok := fun C => C = C_Course) (fun C h => h ▸ X.fl_Course_dishes) (e_tuple X.m_tuple (a_cons (e_var 1) a_nil)))
    (ss_cons (s_setF 0 (ok := fun C => C = C_Course) (fun C h => h ▸ X.fl_Course_eat_least) (e_var 2))
    (ss_one (s_setF 0 (ok := fun C => C = C_Course) (fun C h => h ▸ X.fl_Course_eat_most) (e_var 3))))))))⟩) hmath
theorem ok_law_stream (X : Txt mg C_Course C_Dish C_Stream)
    {P_Stream_init : PI'} {f_Stream_init : Addr} {fd_Stream_init : FuncData} (M_Stream : Mk KK.K C_Stream f_Stream_init) (F_Stream_init : FnOk P w KK.K mg base (L2N.CX P w) 3 f_Stream_init fd_Stream_init ["self", "name", "course", "due", "many", "window"] (spI 5 P_Stream_init)) (oc_Stream_init : FunD KK.K "__init__" "Stream.__init__" (defArgs s_Stream_init) (defBody s_Stream_init) (defScope s_Stream_init) [] [("due", .int 0), ("many", .int 1), ("window", .int 1)] f_Stream_init fd_Stream_init)
    {P_Dish_init : PI'} {f_Dish_init : Addr} {fd_Dish_init : FuncData} (M_Dish : Mk KK.K C_Dish f_Dish_init) (F_Dish_init : FnOk P w KK.K mg base (L2N.CX P w) 2 f_Dish_init fd_Dish_init ["self", "station", "least", "most", "keep"] (spI 4 P_Dish_init)) (oc_Dish_init : FunD KK.K "__init__" "Dish.__init__" (defArgs s_Dish_init) (defBody s_Dish_init) (defScope s_Dish_init) [] [("keep", .int 0)] f_Dish_init fd_Dish_init)
    {P_Course_init : PI'} {f_Course_init : Addr} {fd_Course_init : FuncData} (M_Course : Mk KK.K C_Course f_Course_init) (F_Course_init : FnOk P w KK.K mg base (L2N.CX P w) 2 f_Course_init fd_Course_init ["self", "dishes", "eat_least", "eat_most"] (spI 3 P_Course_init)) (oc_Course_init : FunD KK.K "__init__" "Course.__init__" (defArgs s_Course_init) (defBody s_Course_init) (defScope s_Course_init) [] [] f_Course_init fd_Course_init)
    {P_law_stream : PV} (hmath : ∀ ds Q Ed, ds.length = 1 → P_law_stream ds Q Ed → t_law_stream P_Course_init P_Dish_init P_Stream_init C_Course C_Dish C_Stream { nx := fun _ => Q .non, rt := Q } (startD 3 ds)) {f : Addr} {fd : FuncData} (F : FunD KK.K "_law_stream" "_law_stream" (defArgs s_law_stream) (defBody s_law_stream) (defScope s_law_stream) [] [] f fd) : FnOk P w KK.K mg base (L2N.CX P w) 5 f fd ["told"] (spV 1 P_law_stream) := by
  have b_Course_init := oc_Course_init.bindsN (ps := ["self", "dishes", "eat_least", "eat_most"]) (fun _ _ _ _ _ _ us hl => match us, hl with | [_, _, _, _], _ => rfl)
  have d_Course_init : Vals ([] : List V) [] := .nil
  have hf_Course_init : Flat [] [] := True.intro
  obtain ⟨kc0_mv, kc0_b⟩ := kb_kc0 oc_Dish_init
  have kc0_p := puts_kc0
  obtain ⟨kc1_mv, kc1_b⟩ := kb_kc1 oc_Stream_init
  have kc1_p := puts_kc1
  exact fn_v F sc_law_stream rfl (t := t_law_stream P_Course_init P_Dish_init P_Stream_init C_Course C_Dish C_Stream) (fun cdv A outer s H E hr => ⟨_, (ss_cons (s_lcL (own := [("dish", 2)]) 1 rfl sc_law_stream.nd (i_seq (e_ix (e_ix (e_var 0) e_int) e_int)) (blkOk_by (own := [("dish", 2)]) (N := N_law_stream) (sc := (defScope s_law_stream)) (by decide +kernel)) (fun _ _ _ _ _ => (g_name 2 sc_law_stream.nd)) (by decide) (fun _ _ _ _ _ => ts_nil) (fun _ _ _ _ _ => (e_makeK M_Dish F_Dish_init kc0_b kc0_p X.mg_Dish hr (by decide) (a_cons (e_ix (e_var 2) e_int) (a_cons (e_ix (e_var 2) e_int) (a_cons (e_ix (e_var 2) e_int) a_nil))) (k_cons (e_ix (e_var 2) e_int) k_nil))))
    (ss_one (s_ret (e_makeK M_Stream F_Stream_init kc1_b kc1_p X.mg_Stream hr (by decide) (a_cons (e_ix (e_var 0) e_int) (a_cons (e_make M_Course F_Course_init b_Course_init d_Course_init hf_Course_init X.mg_Course hr (by decide) (a_cons (e_var 1) (a_cons (e_ix (e_ix (e_var 0) e_int) e_int) (a_cons (e_ix (e_ix (e_var 0) e_int) e_int) a_nil)))) a_nil)) (k_cons (e_ix (e_var 0) e_int) (k_cons (e_ix (e_var 0) e_int) (k_cons (e_ix (e_var 0) e_int) k_nil)))))))⟩) hmath
theorem ok_law_numbers (X : Txt mg C_Course C_Dish C_Stream)
    {P_law_numbers : PV} (hmath : ∀ ds Q Ed, ds.length = 1 → P_law_numbers ds Q Ed → t_law_numbers  { nx := fun _ => Q .non, rt := Q } (startD 9 ds)) {f : Addr} {fd : FuncData} (F : FunD KK.K "_law_numbers" "_law_numbers" (defArgs s_law_numbers) (defBody s_law_numbers) (defScope s_law_numbers) [] [] f fd) : FnOk P w KK.K mg base (L2N.CX P w) 1 f fd ["told"] (spV 1 P_law_numbers) := by
  exact fn_v F sc_law_numbers rfl (t := t_law_numbers ) (fun cdv A outer s H E hr => ⟨_, (ss_cons (s_asg 1 (e_disp1 hr (e_tuple X.m_tuple (a_cons (e_lc (own := [("k", 8)]) rfl sc_law_numbers.nd (i_rng1 X.m_range (e_sub (e_ix (e_var 0) e_int) e_int)) (blkOk_by (own := [("k", 8)]) (N := N_law_numbers) (sc := (defScope s_law_numbers)) (by decide +kernel)) (fun _ _ _ _ _ => (g_name 8 sc_law_numbers.nd)) (by decide) (fun _ _ _ _ _ => ts_nil) (fun _ _ _ _ _ => e_int)) a_nil)) e_int) sc_law_numbers.nd)
    (ss_cons (s_asg 2 (e_lst (a_cons e_int a_nil)) sc_law_numbers.nd)
    (ss_cons (s_for rfl PassesOwn.never (i_rng1 X.m_range e_int) (g_name 3 sc_law_numbers.nd) (ss_cons (s_asg 4 e_tct0 sc_law_numbers.nd)
    (ss_cons (s_for rfl PassesOwn.never (i_seq (e_listT rfl X.m_list (a_cons (e_var 1) a_nil))) (g_name 5 sc_law_numbers.nd) (ss_one (s_for rfl PassesOwn.never (i_seq (e_lst (a_cons e_int (a_cons e_int a_nil)))) (g_name 6 sc_law_numbers.nd) (ss_one (s_if (t_le (e_add (e_sumT rfl X.m_sum (a_cons (e_var 5) a_nil)) (e_var 6)) (e_ix (e_var 0) e_int)) (ss_cons (s_asgL 7 (e_sl (e_add (e_var 5) (e_tup (a_cons (e_var 6) a_nil))) (o_pt e_int) o_no) sc_law_numbers.nd)
    (ss_one (s_tput hr 4 (e_add (e_tget2 hr (e_var 4) (e_var 7) e_int) (e_tget hr (e_var 1) (e_var 5))) (e_var 7)))) ss_nil)))))
    (ss_cons (s_move 1 4 sc_law_numbers.nd)
    (ss_one (s_app 2 (e_sum rfl X.m_sum (a_cons (e_lockT 1 (e_lc (own := [("bits", 5)]) rfl sc_law_numbers.nd (i_keysT (e_var 1)) (blkOk_by (own := [("bits", 5)]) (N := N_law_numbers) (sc := (defScope s_law_numbers)) (by decide +kernel)) (fun _ _ _ _ _ => (g_name 5 sc_law_numbers.nd)) (by decide) (fun _ _ _ _ _ => ts_nil) (fun _ _ _ _ _ => (e_tget hr (e_var 1) (e_var 5))))) a_nil))))))))
    (ss_one (s_retV 2)))))⟩) hmath
theorem ok_law_stands (X : Txt mg C_Course C_Dish C_Stream)
    {P_law_stands : PV} (hmath : ∀ ds Q Ed, ds.length = 2 → P_law_stands ds Q Ed → t_law_stands C_Course C_Dish C_Stream { nx := fun _ => Q .non, rt := Q } (startD 5 ds)) {f : Addr} {fd : FuncData} (F : FunD KK.K "_law_stands" "_law_stands" (defArgs s_law_stands) (defBody s_law_stands) (defScope s_law_stands) [] [] f fd) : FnOk P w KK.K mg base (L2N.CX P w) 1 f fd ["made", "told"] (spV 2 P_law_stands) := by
  exact fn_v F sc_law_stands rfl (t := t_law_stands C_Course C_Dish C_Stream) (fun cdv A outer s H E hr => ⟨_, (ss_cons (s_lcL (own := [("dish", 4)]) 2 rfl sc_law_stands.nd (i_seq (e_fld (ok := fun C => C = C_Course) (fun C h => h ▸ X.fl_Course_dishes) (e_fld (ok := fun C => C = C_Stream) (fun C h => h ▸ X.fl_Stream_course) (e_var 0)))) (blkOk_by (own := [("dish", 4)]) (N := N_law_stands) (sc := (defScope s_law_stands)) (by decide +kernel)) (fun _ _ _ _ _ => (g_name 4 sc_law_stands.nd)) (by decide) (fun _ _ _ _ _ => ts_nil) (fun _ _ _ _ _ => (e_tup (a_cons (e_fld (ok := fun C => C = C_Dish) (fun C h => h ▸ X.fl_Dish_station) (e_var 4)) (a_cons (e_fld (ok := fun C => C = C_Dish) (fun C h => h ▸ X.fl_Dish_least) (e_var 4)) (a_cons (e_fld (ok := fun C => C = C_Dish) (fun C h => h ▸ X.fl_Dish_most) (e_var 4)) (a_cons (e_fld (ok := fun C => C = C_Dish) (fun C h => h ▸ X.fl_Dish_keep) (e_var 4)) a_nil)))))))
    (ss_cons (s_asgL 3 (e_tup (a_cons (e_var 2) (a_cons (e_fld (ok := fun C => C = C_Course) (fun C h => h ▸ X.fl_Course_eat_least) (e_fld (ok := fun C => C = C_Stream) (fun C h => h ▸ X.fl_Stream_course) (e_var 0))) (a_cons (e_fld (ok := fun C => C = C_Course) (fun C h => h ▸ X.fl_Course_eat_most) (e_fld (ok := fun C => C = C_Stream) (fun C h => h ▸ X.fl_Stream_course) (e_var 0))) a_nil)))) sc_law_stands.nd)
    (ss_one (s_ret (e_eq hr (e_tup (a_cons (e_fld (ok := fun C => C = C_Stream) (fun C h => h ▸ X.fl_Stream_name) (e_var 0)) (a_cons (e_var 3) (a_cons (e_fld (ok := fun C => C = C_Stream) (fun C h => h ▸ X.fl_Stream_due) (e_var 0)) (a_cons (e_fld (ok := fun C => C = C_Stream) (fun C h => h ▸ X.fl_Stream_many) (e_var 0)) (a_cons (e_fld (ok := fun C => C = C_Stream) (fun C h => h ▸ X.fl_Stream_window) (e_var 0)) a_nil)))))) (e_var 1))))))⟩) hmath
theorem ok_law_row_keeps (X : Txt mg C_Course C_Dish C_Stream)
    {P_law_row_keeps : PV} (hmath : ∀ ds Q Ed, ds.length = 2 → P_law_row_keeps ds Q Ed → t_law_row_keeps  { nx := fun _ => Q .non, rt := Q } (startD 4 ds)) {f : Addr} {fd : FuncData} (F : FunD KK.K "_law_row_keeps" "_law_row_keeps" (defArgs s_law_row_keeps) (defBody s_law_row_keeps) (defScope s_law_row_keeps) [] [] f fd) : FnOk P w KK.K mg base (L2N.CX P w) 1 f fd ["told", "row"] (spV 2 P_law_row_keeps) := by
  exact fn_v F sc_law_row_keeps rfl (t := t_law_row_keeps ) (fun cdv A outer s H E hr => ⟨_, (ss_cons (s_for rfl PassesOwn.never (i_seq (e_var 1)) (g_name 2 sc_law_row_keeps.nd) (ss_one (s_if (t_gt (e_len X.m_len (a_cons (e_lc (own := [("one", 3)]) rfl sc_law_row_keeps.nd (i_seq (e_var 1)) (blkOk_by (own := [("one", 3)]) (N := N_law_row_keeps) (sc := (defScope s_law_row_keeps)) (by decide +kernel)) (fun _ _ _ _ _ => (g_name 3 sc_law_row_keeps.nd)) (by decide) (fun _ _ _ _ _ => (ts_one (t_w (w_and (t_le (e_var 2) (e_var 3)) (w_andL (t_lt (e_var 3) (e_add (e_var 2) (e_ix (e_var 0) e_int)))))))) (fun _ _ _ _ _ => (e_var 3))) a_nil)) (e_ix (e_var 0) e_int)) (ss_one (s_ret e_bl)) ss_nil)))
    (ss_one (s_ret e_bl)))⟩) hmath
theorem ok_law_rows (X : Txt mg C_Course C_Dish C_Stream)
    {P_law_row_keeps : PV} (H_law_row_keeps : Fnc P w KK.K mg base 1 "_law_row_keeps" 2 P_law_row_keeps [])
    {P_law_rows : PV} (hmath : ∀ ds Q Ed, ds.length = 2 → P_law_rows ds Q Ed → t_law_rows P_law_row_keeps { nx := fun _ => Q .non, rt := Q } (startD 5 ds)) {f : Addr} {fd : FuncData} (F : FunD KK.K "_law_rows" "_law_rows" (defArgs s_law_rows) (defBody s_law_rows) (defScope s_law_rows) [] [] f fd) : FnOk P w KK.K mg base (L2N.CX P w) 2 f fd ["told", "length"] (spV 2 P_law_rows) := by
  obtain ⟨f_law_row_keeps, fd_law_row_keeps, ps_law_row_keeps, ds_law_row_keeps, dvs_law_row_keeps, F_law_row_keeps, hm_law_row_keeps, kp_law_row_keeps, b_law_row_keeps, d_law_row_keeps, hf_law_row_keeps⟩ := H_law_row_keeps.ex
  exact fn_v F sc_law_rows rfl (t := t_law_rows P_law_row_keeps) (fun cdv A outer s H E hr => ⟨_, (ss_cons (s_asgL 2 (e_lst (a_cons (e_tup a_nil) a_nil)) sc_law_rows.nd)
    (ss_cons (s_for rfl PassesOwn.never (i_rng1 X.m_range (e_var 1)) (g_name 3 sc_law_rows.nd) (ss_one (s_asgL 2 (e_add (e_var 2) (e_lc (own := [("row", 4)]) rfl sc_law_rows.nd (i_seq (e_var 2)) (blkOk_by (own := [("row", 4)]) (N := N_law_rows) (sc := (defScope s_law_rows)) (by decide +kernel)) (fun _ _ _ _ _ => (g_name 4 sc_law_rows.nd)) (by decide) (fun _ _ _ _ _ => ts_nil) (fun _ _ _ _ _ => (e_add (e_var 4) (e_tup (a_cons (e_var 3) a_nil)))))) sc_law_rows.nd)))
    (ss_one (s_ret (e_sortedT hr X.m_sorted (a_cons (e_lc (own := [("row", 4)]) rfl sc_law_rows.nd (i_seq (e_var 2)) (blkOk_by (own := [("row", 4)]) (N := N_law_rows) (sc := (defScope s_law_rows)) (by decide +kernel)) (fun _ _ _ _ _ => (g_name 4 sc_law_rows.nd)) (by decide) (fun _ _ _ _ _ => (ts_one (t_val (e_call F_law_row_keeps hm_law_row_keeps kp_law_row_keeps b_law_row_keeps d_law_row_keeps hf_law_row_keeps hr (by decide) (a_cons (e_var 0) (a_cons (e_var 4) a_nil)))))) (fun _ _ _ _ _ => (e_var 4))) a_nil))))))⟩) hmath
theorem ok_lets_come (X : Txt mg C_Course C_Dish C_Stream)
    {P_lets_come : PV} (hmath : ∀ ds Q Ed, ds.length = 3 → P_lets_come ds Q Ed → t_lets_come C_Stream { nx := fun _ => Q .non, rt := Q } (startD 3 ds)) {f : Addr} {fd : FuncData} (F : FunD KK.K "lets_come" "lets_come" (defArgs s_lets_come) (defBody s_lets_come) (defScope s_lets_come) [] [] f fd) : FnOk P w KK.K mg base (L2N.CX P w) 1 f fd ["stream", "ticks", "tick"] (spV 3 P_lets_come) := by
  exact fn_v F sc_lets_come rfl (t := t_lets_come C_Stream) (fun cdv A outer s H E hr => ⟨_, (ss_cons (s_if (t_lt (e_len X.m_len (a_cons (e_var 1) a_nil)) (e_fld (ok := fun C => C = C_Stream) (fun C h => h ▸ X.fl_Stream_many) (e_var 0))) (ss_one (s_ret e_bl)) ss_nil)
    (ss_one (s_ret (e_ge (e_sub (e_var 2) (e_ix (e_var 1) (e_sub (e_len X.m_len (a_cons (e_var 1) a_nil)) (e_fld (ok := fun C => C = C_Stream) (fun C h => h ▸ X.fl_Stream_many) (e_var 0))))) (e_fld (ok := fun C => C = C_Stream) (fun C h => h ▸ X.fl_Stream_window) (e_var 0))))))⟩) hmath
theorem ok_order_rows (X : Txt mg C_Course C_Dish C_Stream)
    {P_lets_come : PV} (H_lets_come : Fnc P w KK.K mg base 1 "lets_come" 3 P_lets_come [])
    {P_order_rows : PV} (hmath : ∀ ds Q Ed, ds.length = 2 → P_order_rows ds Q Ed → t_order_rows P_lets_come { nx := fun _ => Q .non, rt := Q } (startD 7 ds)) {f : Addr} {fd : FuncData} (F : FunD KK.K "order_rows" "order_rows" (defArgs s_order_rows) (defBody s_order_rows) (defScope s_order_rows) [] [] f fd) : FnOk P w KK.K mg base (L2N.CX P w) 2 f fd ["stream", "length"] (spV 2 P_order_rows) := by
  obtain ⟨f_lets_come, fd_lets_come, ps_lets_come, ds_lets_come, dvs_lets_come, F_lets_come, hm_lets_come, kp_lets_come, b_lets_come, d_lets_come, hf_lets_come⟩ := H_lets_come.ex
  exact fn_v F sc_order_rows rfl (t := t_order_rows P_lets_come) (fun cdv A outer s H E hr => ⟨_, (ss_cons (s_asg 2 (e_lst a_nil) sc_order_rows.nd)
    (ss_cons (s_asg 3 (e_lst (a_cons (e_tup a_nil) a_nil)) sc_order_rows.nd)
    (ss_cons (s_while PassesOwn.never (t_gt (e_len X.m_len (a_cons (e_var 3) a_nil)) e_int) (ss_cons (s_popTo 4 3 sc_order_rows.nd)
    (ss_cons (s_app 2 (e_var 4))
    (ss_cons (s_asgL 5 e_int sc_order_rows.nd)
    (ss_cons (s_if (t_gt (e_len X.m_len (a_cons (e_var 4) a_nil)) e_int) (ss_one (s_asgL 5 (e_add (e_ix (e_var 4) (e_neg e_int)) e_int) sc_order_rows.nd)) ss_nil)
    (ss_one (s_for rfl PassesOwn.never (i_rng3 X.m_range (e_sub (e_var 1) e_int) (e_sub (e_var 5) e_int)) (g_name 6 sc_order_rows.nd) (ss_one (s_if (t_val (e_call F_lets_come hm_lets_come kp_lets_come b_lets_come d_lets_come hf_lets_come hr (by decide) (a_cons (e_var 0) (a_cons (e_var 4) (a_cons (e_var 6) a_nil))))) (ss_one (s_app 3 (e_add (e_var 4) (e_tup (a_cons (e_var 6) a_nil))))) ss_nil)))))))))
    (ss_one (s_retV 2)))))⟩) hmath
theorem ok_law_is_int (X : Txt mg C_Course C_Dish C_Stream)
    {P_law_is_int : PV} (hmath : ∀ ds Q Ed, ds.length = 1 → P_law_is_int ds Q Ed → t_law_is_int  { nx := fun _ => Q .non, rt := Q } (startD 1 ds)) {f : Addr} {fd : FuncData} (F : FunD KK.K "_law_is_int" "_law_is_int" (defArgs s_law_is_int) (defBody s_law_is_int) (defScope s_law_is_int) [] [] f fd) : FnOk P w KK.K mg base (L2N.CX P w) 1 f fd ["value"] (spV 1 P_law_is_int) := by
  exact fn_v F sc_law_is_int rfl (t := t_law_is_int ) (fun cdv A outer s H E hr => ⟨_, (ss_one (s_ret (e_and (e_isi kit_int X.m_isinstance (a_cons (e_var 0) (a_cons (e_bltn X.m_int (by decide +kernel)) a_nil))) (e_one (e_not (e_isi kit_bool X.m_isinstance (a_cons (e_var 0) (a_cons (e_bltn X.m_bool (by decide +kernel)) a_nil))))))))⟩) hmath
theorem ok_law_are_rows (X : Txt mg C_Course C_Dish C_Stream)
    {P_law_is_int : PV} (H_law_is_int : Fnc P w KK.K mg base 1 "_law_is_int" 1 P_law_is_int [])
    {P_law_are_rows : PV} (hmath : ∀ ds Q Ed, ds.length = 2 → P_law_are_rows ds Q Ed → t_law_are_rows P_law_is_int { nx := fun _ => Q .non, rt := Q } (startD 4 ds)) {f : Addr} {fd : FuncData} (F : FunD KK.K "_law_are_rows" "_law_are_rows" (defArgs s_law_are_rows) (defBody s_law_are_rows) (defScope s_law_are_rows) [] [] f fd) : FnOk P w KK.K mg base (L2N.CX P w) 2 f fd ["told", "rows"] (spV 2 P_law_are_rows) := by
  obtain ⟨f_law_is_int, fd_law_is_int, ps_law_is_int, ds_law_is_int, dvs_law_is_int, F_law_is_int, hm_law_is_int, kp_law_is_int, b_law_is_int, d_law_is_int, hf_law_is_int⟩ := H_law_is_int.ex
  exact fn_v F sc_law_are_rows rfl (t := t_law_are_rows P_law_is_int) (fun cdv A outer s H E hr => ⟨_, (ss_cons (s_if (t_w (w_or (t_not (t_val (e_isi kit_list X.m_isinstance (a_cons (e_var 0) (a_cons (e_bltn X.m_list (by decide +kernel)) a_nil))))) (w_orL (t_ne hr (e_len X.m_len (a_cons (e_var 0) a_nil)) (e_len X.m_len (a_cons (e_var 1) a_nil)))))) (ss_one (s_ret e_bl)) ss_nil)
    (ss_cons (s_for rfl PassesOwn.never (i_rng1 X.m_range (e_len X.m_len (a_cons (e_var 1) a_nil))) (g_name 2 sc_law_are_rows.nd) (ss_cons (s_if (t_w (w_or (t_not (t_val (e_isi kit_tuple X.m_isinstance (a_cons (e_ix (e_var 0) (e_var 2)) (a_cons (e_bltn X.m_tuple (by decide +kernel)) a_nil))))) (w_orL (t_gt (e_len X.m_len (a_cons (e_lc (own := [("tick", 3)]) rfl sc_law_are_rows.nd (i_seq (e_ix (e_var 0) (e_var 2))) (blkOk_by (own := [("tick", 3)]) (N := N_law_are_rows) (sc := (defScope s_law_are_rows)) (by decide +kernel)) (fun _ _ _ _ _ => (g_name 3 sc_law_are_rows.nd)) (by decide) (fun _ _ _ _ _ => (ts_one (t_not (t_val (e_call F_law_is_int hm_law_is_int kp_law_is_int b_law_is_int d_law_is_int hf_law_is_int hr (by decide) (a_cons (e_var 3) a_nil)))))) (fun _ _ _ _ _ => (e_var 3))) a_nil)) e_int)))) (ss_one (s_ret e_bl)) ss_nil)
    (ss_one (s_if (t_ne hr (e_ix (e_var 0) (e_var 2)) (e_ix (e_var 1) (e_var 2))) (ss_one (s_ret e_bl)) ss_nil))))
    (ss_one (s_ret e_bl))))⟩) hmath
theorem ok_law_listed (X : Txt mg C_Course C_Dish C_Stream)
    {P_order_rows : PV} (H_order_rows : Fnc P w KK.K mg base 2 "order_rows" 2 P_order_rows [])
    {P_law_are_rows : PV} (H_law_are_rows : Fnc P w KK.K mg base 2 "_law_are_rows" 2 P_law_are_rows [])
    {P_law_listed : PV} (hmath : ∀ ds Q Ed, ds.length = 3 → P_law_listed ds Q Ed → t_law_listed P_law_are_rows P_order_rows { nx := fun _ => Q .non, rt := Q } (startD 4 ds)) {f : Addr} {fd : FuncData} (F : FunD KK.K "_law_listed" "_law_listed" (defArgs s_law_listed) (defBody s_law_listed) (defScope s_law_listed) [] [] f fd) : FnOk P w KK.K mg base (L2N.CX P w) 3 f fd ["made", "rows", "length"] (spV 3 P_law_listed) := by
  obtain ⟨f_order_rows, fd_order_rows, ps_order_rows, ds_order_rows, dvs_order_rows, F_order_rows, hm_order_rows, kp_order_rows, b_order_rows, d_order_rows, hf_order_rows⟩ := H_order_rows.ex
  obtain ⟨f_law_are_rows, fd_law_are_rows, ps_law_are_rows, ds_law_are_rows, dvs_law_are_rows, F_law_are_rows, hm_law_are_rows, kp_law_are_rows, b_law_are_rows, d_law_are_rows, hf_law_are_rows⟩ := H_law_are_rows.ex
  exact fn_v F sc_law_listed rfl (t := t_law_listed P_law_are_rows P_order_rows) (fun cdv A outer s H E hr => ⟨_, (ss_cons (s_asg 3 (e_call F_order_rows hm_order_rows kp_order_rows b_order_rows d_order_rows hf_order_rows hr (by decide) (a_cons (e_var 0) (a_cons (e_var 2) a_nil))) sc_law_listed.nd)
    (ss_cons (s_if (t_not (t_val (e_call F_law_are_rows hm_law_are_rows kp_law_are_rows b_law_are_rows d_law_are_rows hf_law_are_rows hr (by decide) (a_cons (e_var 3) (a_cons (e_var 1) a_nil))))) (ss_one (s_ret e_bl)) ss_nil)
    (ss_cons (s_clear 3)
    (ss_one (s_ret e_bl)))))⟩) hmath
theorem ok_count_order_rows (X : Txt mg C_Course C_Dish C_Stream)
    {P_count_order_rows : PV} (hmath : ∀ ds Q Ed, ds.length = 2 → P_count_order_rows ds Q Ed → t_count_order_rows C_Stream { nx := fun _ => Q .non, rt := Q } (startD 10 ds)) {f : Addr} {fd : FuncData} (F : FunD KK.K "count_order_rows" "count_order_rows" (defArgs s_count_order_rows) (defBody s_count_order_rows) (defScope s_count_order_rows) [] [] f fd) : FnOk P w KK.K mg base (L2N.CX P w) 1 f fd ["stream", "length"] (spV 2 P_count_order_rows) := by
  exact fn_v F sc_count_order_rows rfl (t := t_count_order_rows C_Stream) (fun cdv A outer s H E hr => ⟨_, (ss_cons (s_asg 2 (e_disp1 hr (e_tup a_nil) e_int) sc_count_order_rows.nd)
    (ss_cons (s_for rfl PassesOwn.never (i_rng1 X.m_range (e_var 1)) (g_name 3 sc_count_order_rows.nd) (ss_cons (s_asg 4 e_tct0 sc_count_order_rows.nd)
    (ss_cons (s_forT 2 rfl PassesOwn.never (g_tup rfl (gs_cons (g_name 5 sc_count_order_rows.nd) (gs_cons (g_name 6 sc_count_order_rows.nd) gs_nil))) (ss_cons (s_asgL 7 (e_tuple X.m_tuple (a_cons (e_lc (own := [("rest", 9)]) rfl sc_count_order_rows.nd (i_seq (e_var 5)) (blkOk_by (own := [("rest", 9)]) (N := N_count_order_rows) (sc := (defScope s_count_order_rows)) (by decide +kernel)) (fun _ _ _ _ _ => (g_name 9 sc_count_order_rows.nd)) (by decide) (fun _ _ _ _ _ => (ts_one (t_gt (e_var 9) e_int))) (fun _ _ _ _ _ => (e_sub (e_var 9) e_int))) a_nil)) sc_count_order_rows.nd)
    (ss_cons (s_tput hr 4 (e_add (e_tget2 hr (e_var 4) (e_var 7) e_int) (e_var 6)) (e_var 7))
    (ss_one (s_if (t_lt (e_len X.m_len (a_cons (e_var 5) a_nil)) (e_fld (ok := fun C => C = C_Stream) (fun C h => h ▸ X.fl_Stream_many) (e_var 0))) (ss_cons (s_asgL 8 (e_tuple X.m_tuple (a_cons (e_lc (own := [("rest", 9)]) rfl sc_count_order_rows.nd (i_seq (e_add (e_tup (a_cons (e_fld (ok := fun C => C = C_Stream) (fun C h => h ▸ X.fl_Stream_window) (e_var 0)) a_nil)) (e_var 5))) (blkOk_by (own := [("rest", 9)]) (N := N_count_order_rows) (sc := (defScope s_count_order_rows)) (by decide +kernel)) (fun _ _ _ _ _ => (g_name 9 sc_count_order_rows.nd)) (by decide) (fun _ _ _ _ _ => (ts_one (t_gt (e_var 9) e_int))) (fun _ _ _ _ _ => (e_sub (e_var 9) e_int))) a_nil)) sc_count_order_rows.nd)
    (ss_one (s_tput hr 4 (e_add (e_tget2 hr (e_var 4) (e_var 8) e_int) (e_var 6)) (e_var 8)))) ss_nil)))))
    (ss_one (s_move 2 4 sc_count_order_rows.nd)))))
    (ss_one (s_ret (e_sum rfl X.m_sum (a_cons (e_listV rfl X.m_list (e_var 2)) a_nil))))))⟩) hmath
theorem ok_law_counted (X : Txt mg C_Course C_Dish C_Stream)
    {P_count_order_rows : PV} (H_count_order_rows : Fnc P w KK.K mg base 1 "count_order_rows" 2 P_count_order_rows [])
    {P_law_is_int : PV} (H_law_is_int : Fnc P w KK.K mg base 1 "_law_is_int" 1 P_law_is_int [])
    {P_law_counted : PV} (hmath : ∀ ds Q Ed, ds.length = 3 → P_law_counted ds Q Ed → t_law_counted P_count_order_rows P_law_is_int { nx := fun _ => Q .non, rt := Q } (startD 4 ds)) {f : Addr} {fd : FuncData} (F : FunD KK.K "_law_counted" "_law_counted" (defArgs s_law_counted) (defBody s_law_counted) (defScope s_law_counted) [] [] f fd) : FnOk P w KK.K mg base (L2N.CX P w) 2 f fd ["made", "numbers", "length"] (spV 3 P_law_counted) := by
  obtain ⟨f_count_order_rows, fd_count_order_rows, ps_count_order_rows, ds_count_order_rows, dvs_count_order_rows, F_count_order_rows, hm_count_order_rows, kp_count_order_rows, b_count_order_rows, d_count_order_rows, hf_count_order_rows⟩ := H_count_order_rows.ex
  obtain ⟨f_law_is_int, fd_law_is_int, ps_law_is_int, ds_law_is_int, dvs_law_is_int, F_law_is_int, hm_law_is_int, kp_law_is_int, b_law_is_int, d_law_is_int, hf_law_is_int⟩ := H_law_is_int.ex
  exact fn_v F sc_law_counted rfl (t := t_law_counted P_count_order_rows P_law_is_int) (fun cdv A outer s H E hr => ⟨_, (ss_cons (s_asgL 3 (e_call F_count_order_rows hm_count_order_rows kp_count_order_rows b_count_order_rows d_count_order_rows hf_count_order_rows hr (by decide) (a_cons (e_var 0) (a_cons (e_var 2) a_nil))) sc_law_counted.nd)
    (ss_one (s_ret (e_and (e_call F_law_is_int hm_law_is_int kp_law_is_int b_law_is_int d_law_is_int hf_law_is_int hr (by decide) (a_cons (e_var 3) a_nil)) (e_one (e_eq hr (e_var 3) (e_ix (e_var 1) (e_var 2))))))))⟩) hmath
theorem ok_law (X : Txt mg C_Course C_Dish C_Stream)
    {P_law_flow : PV} (H_law_flow : Fnc P w KK.K mg base 2 "_law_flow" 2 P_law_flow [])
    {P_law_stream : PV} (H_law_stream : Fnc P w KK.K mg base 5 "_law_stream" 1 P_law_stream [])
    {P_law_draw : PV} (H_law_draw : Fnc P w KK.K mg base 1 "_law_draw" 3 P_law_draw [])
    {P_law_numbers : PV} (H_law_numbers : Fnc P w KK.K mg base 1 "_law_numbers" 1 P_law_numbers [])
    {P_law_stands : PV} (H_law_stands : Fnc P w KK.K mg base 1 "_law_stands" 2 P_law_stands [])
    {P_law_rows : PV} (H_law_rows : Fnc P w KK.K mg base 2 "_law_rows" 2 P_law_rows [])
    {P_law_listed : PV} (H_law_listed : Fnc P w KK.K mg base 3 "_law_listed" 3 P_law_listed [])
    {P_law_counted : PV} (H_law_counted : Fnc P w KK.K mg base 2 "_law_counted" 3 P_law_counted [])
    (hmath : ∀ ds Q Ed, ds.length = 1 → LawP ds Q Ed → t_law P_law_counted P_law_draw P_law_flow P_law_listed P_law_numbers P_law_rows P_law_stands P_law_stream { nx := fun _ => Q .non, rt := Q } (startD 11 ds)) {f : Addr} {fd : FuncData} (F : FunD KK.K "law" "law" (defArgs s_law) (defBody s_law) (defScope s_law) [] [] f fd) : FnOk P w KK.K mg base (L2N.CX P w) 6 f fd ["script"] (spV 1 LawP) := by
  obtain ⟨f_law_flow, fd_law_flow, ps_law_flow, ds_law_flow, dvs_law_flow, F_law_flow, hm_law_flow, kp_law_flow, b_law_flow, d_law_flow, hf_law_flow⟩ := H_law_flow.ex
  obtain ⟨f_law_stream, fd_law_stream, ps_law_stream, ds_law_stream, dvs_law_stream, F_law_stream, hm_law_stream, kp_law_stream, b_law_stream, d_law_stream, hf_law_stream⟩ := H_law_stream.ex
  obtain ⟨f_law_draw, fd_law_draw, ps_law_draw, ds_law_draw, dvs_law_draw, F_law_draw, hm_law_draw, kp_law_draw, b_law_draw, d_law_draw, hf_law_draw⟩ := H_law_draw.ex
  obtain ⟨f_law_numbers, fd_law_numbers, ps_law_numbers, ds_law_numbers, dvs_law_numbers, F_law_numbers, hm_law_numbers, kp_law_numbers, b_law_numbers, d_law_numbers, hf_law_numbers⟩ := H_law_numbers.ex
  obtain ⟨f_law_stands, fd_law_stands, ps_law_stands, ds_law_stands, dvs_law_stands, F_law_stands, hm_law_stands, kp_law_stands, b_law_stands, d_law_stands, hf_law_stands⟩ := H_law_stands.ex
  obtain ⟨f_law_rows, fd_law_rows, ps_law_rows, ds_law_rows, dvs_law_rows, F_law_rows, hm_law_rows, kp_law_rows, b_law_rows, d_law_rows, hf_law_rows⟩ := H_law_rows.ex
  obtain ⟨f_law_listed, fd_law_listed, ps_law_listed, ds_law_listed, dvs_law_listed, F_law_listed, hm_law_listed, kp_law_listed, b_law_listed, d_law_listed, hf_law_listed⟩ := H_law_listed.ex
  obtain ⟨f_law_counted, fd_law_counted, ps_law_counted, ds_law_counted, dvs_law_counted, F_law_counted, hm_law_counted, kp_law_counted, b_law_counted, d_law_counted, hf_law_counted⟩ := H_law_counted.ex
  exact fn_v F sc_law rfl (t := t_law P_law_counted P_law_draw P_law_flow P_law_listed P_law_numbers P_law_rows P_law_stands P_law_stream) (fun cdv A outer s H E hr => ⟨_, (ss_cons (s_asgL 1 (e_lst (a_cons (e_call F_law_flow hm_law_flow kp_law_flow b_law_flow d_law_flow hf_law_flow hr (by decide) (a_cons (e_var 0) (a_cons e_int a_nil))) (a_cons (e_call F_law_flow hm_law_flow kp_law_flow b_law_flow d_law_flow hf_law_flow hr (by decide) (a_cons (e_var 0) (a_cons e_int a_nil))) a_nil))) sc_law.nd)
    (ss_cons (s_lcL (own := [("flow", 10)]) 2 rfl sc_law.nd (i_seq (e_var 1)) (blkOk_by (own := [("flow", 10)]) (N := N_law) (sc := (defScope s_law)) (by decide +kernel)) (fun _ _ _ _ _ => (g_name 10 sc_law.nd)) (by decide) (fun _ _ _ _ _ => ts_nil) (fun _ _ _ _ _ => (e_call F_law_stream hm_law_stream kp_law_stream b_law_stream d_law_stream hf_law_stream hr (by decide) (a_cons (e_var 10) a_nil))))
    (ss_cons (s_asg 3 (e_lst (a_cons (e_call F_law_draw hm_law_draw kp_law_draw b_law_draw d_law_draw hf_law_draw hr (by decide) (a_cons (e_var 0) (a_cons e_int (a_cons e_int a_nil)))) (a_cons (e_call F_law_draw hm_law_draw kp_law_draw b_law_draw d_law_draw hf_law_draw hr (by decide) (a_cons (e_var 0) (a_cons e_int (a_cons e_int a_nil)))) a_nil))) sc_law.nd)
    (ss_cons (s_if (t_eq hr (e_call F_law_draw hm_law_draw kp_law_draw b_law_draw d_law_draw hf_law_draw hr (by decide) (a_cons (e_var 0) (a_cons e_int (a_cons e_int a_nil)))) e_int) (ss_one (s_setIx 3 (e_add e_int (e_call F_law_draw hm_law_draw kp_law_draw b_law_draw d_law_draw hf_law_draw hr (by decide) (a_cons (e_var 0) (a_cons e_int (a_cons e_int a_nil))))) e_int)) ss_nil)
    (ss_cons (s_lcL (own := [("flow", 10)]) 4 rfl sc_law.nd (i_seq (e_var 1)) (blkOk_by (own := [("flow", 10)]) (N := N_law) (sc := (defScope s_law)) (by decide +kernel)) (fun _ _ _ _ _ => (g_name 10 sc_law.nd)) (by decide) (fun _ _ _ _ _ => ts_nil) (fun _ _ _ _ _ => (e_call F_law_numbers hm_law_numbers kp_law_numbers b_law_numbers d_law_numbers hf_law_numbers hr (by decide) (a_cons (e_var 10) a_nil))))
    (ss_cons (s_for rfl PassesOwn.never (i_rng1 X.m_range e_int) (g_name 5 sc_law.nd) (ss_one (s_for rfl PassesOwn.never (i_rng1 X.m_range e_int) (g_name 6 sc_law.nd) (ss_cons (s_asgL 7 (e_ix (e_var 3) (e_mod (e_int1 X.m_int (a_cons (e_add (e_var 5) (e_var 6)) a_nil)) e_int)) sc_law.nd)
    (ss_cons (s_asgL 8 (e_call F_law_rows hm_law_rows kp_law_rows b_law_rows d_law_rows hf_law_rows hr (by decide) (a_cons (e_ix (e_var 1) (e_var 6)) (a_cons (e_var 7) a_nil))) sc_law.nd)
    (ss_cons (s_if (t_w (w_or (t_not (t_val (e_call F_law_listed hm_law_listed kp_law_listed b_law_listed d_law_listed hf_law_listed hr (by decide) (a_cons (e_ix (e_var 2) (e_var 6)) (a_cons (e_var 8) (a_cons (e_var 7) a_nil)))))) (w_orL (t_ne hr (e_ix (e_ix (e_var 4) (e_var 6)) (e_var 7)) (e_len X.m_len (a_cons (e_var 8) a_nil)))))) (ss_one (s_ret e_bl)) ss_nil)
    (ss_one (s_for rfl PassesOwn.never (i_seq (e_ix (e_locE (e_lst (a_cons (e_lst (a_cons e_int (a_cons (e_var 7) a_nil))) (a_cons (e_lst (a_cons e_int (a_cons (e_var 7) a_nil))) (a_cons (e_lst (a_cons (e_call F_law_draw hm_law_draw kp_law_draw b_law_draw d_law_draw hf_law_draw hr (by decide) (a_cons (e_var 0) (a_cons (e_add e_int (e_var 6)) (a_cons e_int a_nil)))) (a_cons e_int a_nil))) a_nil))))) (e_var 5))) (g_name 9 sc_law.nd) (ss_one (s_if (t_not (t_val (e_call F_law_counted hm_law_counted kp_law_counted b_law_counted d_law_counted hf_law_counted hr (by decide) (a_cons (e_ix (e_var 2) (e_var 6)) (a_cons (e_ix (e_var 4) (e_var 6)) (a_cons (e_var 9) a_nil)))))) (ss_one (s_ret e_bl)) ss_nil))))))))))
    (ss_one (s_ret (e_and (e_call F_law_stands hm_law_stands kp_law_stands b_law_stands d_law_stands hf_law_stands hr (by decide) (a_cons (e_ix (e_var 2) e_int) (a_cons (e_ix (e_var 1) e_int) a_nil))) (e_one (e_call F_law_stands hm_law_stands kp_law_stands b_law_stands d_law_stands hf_law_stands hr (by decide) (a_cons (e_ix (e_var 2) e_int) (a_cons (e_ix (e_var 1) e_int) a_nil)))))))))))))⟩) hmath
end
end K27

/-! ## K27_e -/
namespace K27
open PySem PySem.Spec L2 VL
open PyProof.Rows hiding St
set_option maxHeartbeats 4000000 in
theorem all_mk {l : PySem.W.OpenLaw} {w : World} {K : PySem.W.Frag} {h : Heap} {mg : Str → Option Value} {fa : Addr} (X : K.In h) (G : h.Ns mainGlobals mg) (hfa : mg "law" = some (.ref fa))
    {C_Course C_Dish C_Stream f_law_draw f_law_flow f_between f_is_name f_Stream_init kd_Stream_init f_Dish_init kd_Dish_init f_Course_init f_law_stream f_law_numbers f_law_stands f_law_row_keeps f_law_rows f_lets_come f_order_rows f_law_is_int f_law_are_rows f_law_listed f_count_order_rows f_law_counted f_law : Addr} {od_law_draw an_law_draw od_law_flow an_law_flow od_between an_between od_is_name an_is_name od_Stream_init an_Stream_init od_Dish_init an_Dish_init od_Course_init an_Course_init od_law_stream an_law_stream od_law_numbers an_law_numbers od_law_stands an_law_stands od_law_row_keeps an_law_row_keeps od_law_rows an_law_rows od_lets_come an_lets_come od_order_rows an_order_rows od_law_is_int an_law_is_int od_law_are_rows an_law_are_rows od_law_listed an_law_listed od_count_order_rows an_count_order_rows od_law_counted an_law_counted od_law an_law : Option Addr} {sl_law_draw sl_law_flow sl_between sl_is_name sl_Stream_init sl_Dish_init sl_Course_init sl_law_stream sl_law_numbers sl_law_stands sl_law_row_keeps sl_law_rows sl_lets_come sl_order_rows sl_law_is_int sl_law_are_rows sl_law_listed sl_count_order_rows sl_law_counted sl_law : Array (Option Value)} {oc_law_draw dc_law_draw pm_law_draw cd_law_draw ct_law_draw kV_law_draw oc_law_flow dc_law_flow pm_law_flow cd_law_flow ct_law_flow kV_law_flow oc_between dc_between pm_between cd_between ct_between kV_between oc_is_name dc_is_name pm_is_name cd_is_name ct_is_name kV_is_name oc_Stream_init dc_Stream_init pm_Stream_init cd_Stream_init ct_Stream_init kw_Stream_init_due kw_Stream_init_many kw_Stream_init_window oc_Dish_init dc_Dish_init pm_Dish_init cd_Dish_init ct_Dish_init kw_Dish_init_keep oc_Course_init dc_Course_init pm_Course_init cd_Course_init ct_Course_init kV_Course_init oc_law_stream dc_law_stream pm_law_stream cd_law_stream ct_law_stream kV_law_stream oc_law_numbers dc_law_numbers pm_law_numbers cd_law_numbers ct_law_numbers kV_law_numbers oc_law_stands dc_law_stands pm_law_stands cd_law_stands ct_law_stands kV_law_stands oc_law_row_keeps dc_law_row_keeps pm_law_row_keeps cd_law_row_keeps ct_law_row_keeps kV_law_row_keeps oc_law_rows dc_law_rows pm_law_rows cd_law_rows ct_law_rows kV_law_rows oc_lets_come dc_lets_come pm_lets_come cd_lets_come ct_lets_come kV_lets_come oc_order_rows dc_order_rows pm_order_rows cd_order_rows ct_order_rows kV_order_rows oc_law_is_int dc_law_is_int pm_law_is_int cd_law_is_int ct_law_is_int kV_law_is_int oc_law_are_rows dc_law_are_rows pm_law_are_rows cd_law_are_rows ct_law_are_rows kV_law_are_rows oc_law_listed dc_law_listed pm_law_listed cd_law_listed ct_law_listed kV_law_listed oc_count_order_rows dc_count_order_rows pm_count_order_rows cd_count_order_rows ct_count_order_rows kV_count_order_rows oc_law_counted dc_law_counted pm_law_counted cd_law_counted ct_law_counted kV_law_counted oc_law dc_law pm_law cd_law ct_law kV_law gv_NAME_SIGNS : Value}
    (aC_Course : PySem.W.nsIn K mainGlobals "Course" = some (some (.ref C_Course)))
    (pg_Course : PySem.W.plainGet K C_Course Str.empty = true)
    (hd_Course : PySem.W.hasDictIn K C_Course = true)
    (po_Course : PySem.W.plainOver K C_Course = true)
    (sa_Course : PySem.W.findIn K (.ref C_Course) "__setattr__" = some (some (.builtin "object.__setattr__")))
    (mk_Course : PySem.W.makesIn K C_Course = true)
    (kc_Course : PySem.W.keepIn K (.ref C_Course) = true)
    (aC_Dish : PySem.W.nsIn K mainGlobals "Dish" = some (some (.ref C_Dish)))
    (pg_Dish : PySem.W.plainGet K C_Dish Str.empty = true)
    (hd_Dish : PySem.W.hasDictIn K C_Dish = true)
    (po_Dish : PySem.W.plainOver K C_Dish = true)
    (sa_Dish : PySem.W.findIn K (.ref C_Dish) "__setattr__" = some (some (.builtin "object.__setattr__")))
    (mk_Dish : PySem.W.makesIn K C_Dish = true)
    (kc_Dish : PySem.W.keepIn K (.ref C_Dish) = true)
    (aC_Stream : PySem.W.nsIn K mainGlobals "Stream" = some (some (.ref C_Stream)))
    (pg_Stream : PySem.W.plainGet K C_Stream Str.empty = true)
    (hd_Stream : PySem.W.hasDictIn K C_Stream = true)
    (po_Stream : PySem.W.plainOver K C_Stream = true)
    (sa_Stream : PySem.W.findIn K (.ref C_Stream) "__setattr__" = some (some (.builtin "object.__setattr__")))
    (mk_Stream : PySem.W.makesIn K C_Stream = true)
    (kc_Stream : PySem.W.keepIn K (.ref C_Stream) = true)
    (gn_NAME_SIGNS : PySem.W.nsIn K mainGlobals "NAME_SIGNS" = some (some gv_NAME_SIGNS))
    (r_NAME_SIGNS : RelV (.str "abcdefghijklmnopqrstuvwxyz0123456789") gv_NAME_SIGNS)
    (no_Course_dishes : PySem.W.findIn K (.ref C_Course) "dishes" = some none)
    (no_Course_eat_least : PySem.W.findIn K (.ref C_Course) "eat_least" = some none)
    (no_Course_eat_most : PySem.W.findIn K (.ref C_Course) "eat_most" = some none)
    (no_Dish_keep : PySem.W.findIn K (.ref C_Dish) "keep" = some none)
    (no_Dish_least : PySem.W.findIn K (.ref C_Dish) "least" = some none)
    (no_Dish_most : PySem.W.findIn K (.ref C_Dish) "most" = some none)
    (no_Dish_station : PySem.W.findIn K (.ref C_Dish) "station" = some none)
    (no_Stream_course : PySem.W.findIn K (.ref C_Stream) "course" = some none)
    (no_Stream_due : PySem.W.findIn K (.ref C_Stream) "due" = some none)
    (no_Stream_many : PySem.W.findIn K (.ref C_Stream) "many" = some none)
    (no_Stream_name : PySem.W.findIn K (.ref C_Stream) "name" = some none)
    (no_Stream_window : PySem.W.findIn K (.ref C_Stream) "window" = some none)
    (z_bool : PySem.W.nsIn K mainGlobals "bool" = some none)
    (z_int : PySem.W.nsIn K mainGlobals "int" = some none)
    (z_isinstance : PySem.W.nsIn K mainGlobals "isinstance" = some none)
    (z_len : PySem.W.nsIn K mainGlobals "len" = some none)
    (z_list : PySem.W.nsIn K mainGlobals "list" = some none)
    (z_max : PySem.W.nsIn K mainGlobals "max" = some none)
    (z_min : PySem.W.nsIn K mainGlobals "min" = some none)
    (z_range : PySem.W.nsIn K mainGlobals "range" = some none)
    (z_sorted : PySem.W.nsIn K mainGlobals "sorted" = some none)
    (z_sum : PySem.W.nsIn K mainGlobals "sum" = some none)
    (z_tuple : PySem.W.nsIn K mainGlobals "tuple" = some none)
    (a_law_draw : PySem.W.nsIn K mainGlobals "_law_draw" = some (some (.ref f_law_draw)))
    (l_law_draw : K.lookup f_law_draw = some ⟨oc_law_draw, od_law_draw, .func (PySem.W.fnOf "_law_draw" "_law_draw" (defArgs s_law_draw) (defBody s_law_draw) (defScope s_law_draw) .none kV_law_draw dc_law_draw pm_law_draw an_law_draw cd_law_draw ct_law_draw), sl_law_draw⟩)
    (c_law_draw : PySem.W.codeIn K cd_law_draw "_law_draw" = true)
    (k_law_draw : PySem.W.keepIn K (.ref f_law_draw) = true)
    (a_law_flow : PySem.W.nsIn K mainGlobals "_law_flow" = some (some (.ref f_law_flow)))
    (l_law_flow : K.lookup f_law_flow = some ⟨oc_law_flow, od_law_flow, .func (PySem.W.fnOf "_law_flow" "_law_flow" (defArgs s_law_flow) (defBody s_law_flow) (defScope s_law_flow) .none kV_law_flow dc_law_flow pm_law_flow an_law_flow cd_law_flow ct_law_flow), sl_law_flow⟩)
    (c_law_flow : PySem.W.codeIn K cd_law_flow "_law_flow" = true)
    (k_law_flow : PySem.W.keepIn K (.ref f_law_flow) = true)
    (a_between : PySem.W.nsIn K mainGlobals "between" = some (some (.ref f_between)))
    (l_between : K.lookup f_between = some ⟨oc_between, od_between, .func (PySem.W.fnOf "between" "between" (defArgs s_between) (defBody s_between) (defScope s_between) .none kV_between dc_between pm_between an_between cd_between ct_between), sl_between⟩)
    (c_between : PySem.W.codeIn K cd_between "between" = true)
    (k_between : PySem.W.keepIn K (.ref f_between) = true)
    (a_is_name : PySem.W.nsIn K mainGlobals "is_name" = some (some (.ref f_is_name)))
    (l_is_name : K.lookup f_is_name = some ⟨oc_is_name, od_is_name, .func (PySem.W.fnOf "is_name" "is_name" (defArgs s_is_name) (defBody s_is_name) (defScope s_is_name) .none kV_is_name dc_is_name pm_is_name an_is_name cd_is_name ct_is_name), sl_is_name⟩)
    (c_is_name : PySem.W.codeIn K cd_is_name "is_name" = true)
    (k_is_name : PySem.W.keepIn K (.ref f_is_name) = true)
    (a_Stream_init : PySem.W.findIn K (.ref C_Stream) "__init__" = some (some (.ref f_Stream_init)))
    (i_Stream_init : PySem.W.isFn K (.ref f_Stream_init) = true)
    (l_Stream_init : K.lookup f_Stream_init = some ⟨oc_Stream_init, od_Stream_init, .func (PySem.W.fnOf "__init__" "Stream.__init__" (defArgs s_Stream_init) (defBody s_Stream_init) (defScope s_Stream_init) .none (.ref kd_Stream_init) dc_Stream_init pm_Stream_init an_Stream_init cd_Stream_init ct_Stream_init), sl_Stream_init⟩)
    (c_Stream_init : PySem.W.codeIn K cd_Stream_init "Stream.__init__" = true)
    (k_Stream_init : PySem.W.keepIn K (.ref f_Stream_init) = true)
    (w_Stream_init_due : PySem.W.nsIn K kd_Stream_init "due" = some (some kw_Stream_init_due))
    (r_Stream_init_due : RelV (.int 0) kw_Stream_init_due)
    (w_Stream_init_many : PySem.W.nsIn K kd_Stream_init "many" = some (some kw_Stream_init_many))
    (r_Stream_init_many : RelV (.int 1) kw_Stream_init_many)
    (w_Stream_init_window : PySem.W.nsIn K kd_Stream_init "window" = some (some kw_Stream_init_window))
    (r_Stream_init_window : RelV (.int 1) kw_Stream_init_window)
    (a_Dish_init : PySem.W.findIn K (.ref C_Dish) "__init__" = some (some (.ref f_Dish_init)))
    (i_Dish_init : PySem.W.isFn K (.ref f_Dish_init) = true)
    (l_Dish_init : K.lookup f_Dish_init = some ⟨oc_Dish_init, od_Dish_init, .func (PySem.W.fnOf "__init__" "Dish.__init__" (defArgs s_Dish_init) (defBody s_Dish_init) (defScope s_Dish_init) .none (.ref kd_Dish_init) dc_Dish_init pm_Dish_init an_Dish_init cd_Dish_init ct_Dish_init), sl_Dish_init⟩)
    (c_Dish_init : PySem.W.codeIn K cd_Dish_init "Dish.__init__" = true)
    (k_Dish_init : PySem.W.keepIn K (.ref f_Dish_init) = true)
    (w_Dish_init_keep : PySem.W.nsIn K kd_Dish_init "keep" = some (some kw_Dish_init_keep))
    (r_Dish_init_keep : RelV (.int 0) kw_Dish_init_keep)
    (a_Course_init : PySem.W.findIn K (.ref C_Course) "__init__" = some (some (.ref f_Course_init)))
    (i_Course_init : PySem.W.isFn K (.ref f_Course_init) = true)
    (l_Course_init : K.lookup f_Course_init = some ⟨oc_Course_init, od_Course_init, .func (PySem.W.fnOf "__init__" "Course.__init__" (defArgs s_Course_init) (defBody s_Course_init) (defScope s_Course_init) .none kV_Course_init dc_Course_init pm_Course_init an_Course_init cd_Course_init ct_Course_init), sl_Course_init⟩)
    (c_Course_init : PySem.W.codeIn K cd_Course_init "Course.__init__" = true)
    (k_Course_init : PySem.W.keepIn K (.ref f_Course_init) = true)
    (a_law_stream : PySem.W.nsIn K mainGlobals "_law_stream" = some (some (.ref f_law_stream)))
    (l_law_stream : K.lookup f_law_stream = some ⟨oc_law_stream, od_law_stream, .func (PySem.W.fnOf "_law_stream" "_law_stream" (defArgs s_law_stream) (defBody s_law_stream) (defScope s_law_stream) .none kV_law_stream dc_law_stream pm_law_stream an_law_stream cd_law_stream ct_law_stream), sl_law_stream⟩)
    (c_law_stream : PySem.W.codeIn K cd_law_stream "_law_stream" = true)
    (k_law_stream : PySem.W.keepIn K (.ref f_law_stream) = true)
    (a_law_numbers : PySem.W.nsIn K mainGlobals "_law_numbers" = some (some (.ref f_law_numbers)))
    (l_law_numbers : K.lookup f_law_numbers = some ⟨oc_law_numbers, od_law_numbers, .func (PySem.W.fnOf "_law_numbers" "_law_numbers" (defArgs s_law_numbers) (defBody s_law_numbers) (defScope s_law_numbers) .none kV_law_numbers dc_law_numbers pm_law_numbers an_law_numbers cd_law_numbers ct_law_numbers), sl_law_numbers⟩)
    (c_law_numbers : PySem.W.codeIn K cd_law_numbers "_law_numbers" = true)
    (k_law_numbers : PySem.W.keepIn K (.ref f_law_numbers) = true)
    (a_law_stands : PySem.W.nsIn K mainGlobals "_law_stands" = some (some (.ref f_law_stands)))
    (l_law_stands : K.lookup f_law_stands = some ⟨oc_law_stands, od_law_stands, .func (PySem.W.fnOf "_law_stands" "_law_stands" (defArgs s_law_stands) (defBody s_law_stands) (defScope s_law_stands) .none kV_law_stands dc_law_stands pm_law_stands an_law_stands cd_law_stands ct_law_stands), sl_law_stands⟩)
    (c_law_stands : PySem.W.codeIn K cd_law_stands "_law_stands" = true)
    (k_law_stands : PySem.W.keepIn K (.ref f_law_stands) = true)
    (a_law_row_keeps : PySem.W.nsIn K mainGlobals "_law_row_keeps" = some (some (.ref f_law_row_keeps)))
    (l_law_row_keeps : K.lookup f_law_row_keeps = some ⟨oc_law_row_keeps, od_law_row_keeps, .func (PySem.W.fnOf "_law_row_keeps" "_law_row_keeps" (defArgs s_law_row_keeps) (defBody s_law_row_keeps) (defScope s_law_row_keeps) .none kV_law_row_keeps dc_law_row_keeps pm_law_row_keeps an_law_row_keeps cd_law_row_keeps ct_law_row_keeps), sl_law_row_keeps⟩)
    (c_law_row_keeps : PySem.W.codeIn K cd_law_row_keeps "_law_row_keeps" = true)
    (k_law_row_keeps : PySem.W.keepIn K (.ref f_law_row_keeps) = true)
    (a_law_rows : PySem.W.nsIn K mainGlobals "_law_rows" = some (some (.ref f_law_rows)))
    (l_law_rows : K.lookup f_law_rows = some ⟨oc_law_rows, od_law_rows, .func (PySem.W.fnOf "_law_rows" "_law_rows" (defArgs s_law_rows) (defBody s_law_rows) (defScope s_law_rows) .none kV_law_rows dc_law_rows pm_law_rows an_law_rows cd_law_rows ct_law_rows), sl_law_rows⟩)
    (c_law_rows : PySem.W.codeIn K cd_law_rows "_law_rows" = true)
    (k_law_rows : PySem.W.keepIn K (.ref f_law_rows) = true)
    (a_lets_come : PySem.W.nsIn K mainGlobals "lets_come" = some (some (.ref f_lets_come)))
    (l_lets_come : K.lookup f_lets_come = some ⟨oc_lets_come, od_lets_come, .func (PySem.W.fnOf "lets_come" "lets_come" (defArgs s_lets_come) (defBody s_lets_come) (defScope s_lets_come) .none kV_lets_come dc_lets_come pm_lets_come an_lets_come cd_lets_come ct_lets_come), sl_lets_come⟩)
    (c_lets_come : PySem.W.codeIn K cd_lets_come "lets_come" = true)
    (k_lets_come : PySem.W.keepIn K (.ref f_lets_come) = true)
    (a_order_rows : PySem.W.nsIn K mainGlobals "order_rows" = some (some (.ref f_order_rows)))
    (l_order_rows : K.lookup f_order_rows = some ⟨oc_order_rows, od_order_rows, .func (PySem.W.fnOf "order_rows" "order_rows" (defArgs s_order_rows) (defBody s_order_rows) (defScope s_order_rows) .none kV_order_rows dc_order_rows pm_order_rows an_order_rows cd_order_rows ct_order_rows), sl_order_rows⟩)
    (c_order_rows : PySem.W.codeIn K cd_order_rows "order_rows" = true)
    (k_order_rows : PySem.W.keepIn K (.ref f_order_rows) = true)
    (a_law_is_int : PySem.W.nsIn K mainGlobals "_law_is_int" = some (some (.ref f_law_is_int)))
    (l_law_is_int : K.lookup f_law_is_int = some ⟨oc_law_is_int, od_law_is_int, .func (PySem.W.fnOf "_law_is_int" "_law_is_int" (defArgs s_law_is_int) (defBody s_law_is_int) (defScope s_law_is_int) .none kV_law_is_int dc_law_is_int pm_law_is_int an_law_is_int cd_law_is_int ct_law_is_int), sl_law_is_int⟩)
    (c_law_is_int : PySem.W.codeIn K cd_law_is_int "_law_is_int" = true)
    (k_law_is_int : PySem.W.keepIn K (.ref f_law_is_int) = true)
    (a_law_are_rows : PySem.W.nsIn K mainGlobals "_law_are_rows" = some (some (.ref f_law_are_rows)))
    (l_law_are_rows : K.lookup f_law_are_rows = some ⟨oc_law_are_rows, od_law_are_rows, .func (PySem.W.fnOf "_law_are_rows" "_law_are_rows" (defArgs s_law_are_rows) (defBody s_law_are_rows) (defScope s_law_are_rows) .none kV_law_are_rows dc_law_are_rows pm_law_are_rows an_law_are_rows cd_law_are_rows ct_law_are_rows), sl_law_are_rows⟩)
    (c_law_are_rows : PySem.W.codeIn K cd_law_are_rows "_law_are_rows" = true)
    (k_law_are_rows : PySem.W.keepIn K (.ref f_law_are_rows) = true)
    (a_law_listed : PySem.W.nsIn K mainGlobals "_law_listed" = some (some (.ref f_law_listed)))
    (l_law_listed : K.lookup f_law_listed = some ⟨oc_law_listed, od_law_listed, .func (PySem.W.fnOf "_law_listed" "_law_listed" (defArgs s_law_listed) (defBody s_law_listed) (defScope s_law_listed) .none kV_law_listed dc_law_listed pm_law_listed an_law_listed cd_law_listed ct_law_listed), sl_law_listed⟩)
    (c_law_listed : PySem.W.codeIn K cd_law_listed "_law_listed" = true)
    (k_law_listed : PySem.W.keepIn K (.ref f_law_listed) = true)
    (a_count_order_rows : PySem.W.nsIn K mainGlobals "count_order_rows" = some (some (.ref f_count_order_rows)))
    (l_count_order_rows : K.lookup f_count_order_rows = some ⟨oc_count_order_rows, od_count_order_rows, .func (PySem.W.fnOf "count_order_rows" "count_order_rows" (defArgs s_count_order_rows) (defBody s_count_order_rows) (defScope s_count_order_rows) .none kV_count_order_rows dc_count_order_rows pm_count_order_rows an_count_order_rows cd_count_order_rows ct_count_order_rows), sl_count_order_rows⟩)
    (c_count_order_rows : PySem.W.codeIn K cd_count_order_rows "count_order_rows" = true)
    (k_count_order_rows : PySem.W.keepIn K (.ref f_count_order_rows) = true)
    (a_law_counted : PySem.W.nsIn K mainGlobals "_law_counted" = some (some (.ref f_law_counted)))
    (l_law_counted : K.lookup f_law_counted = some ⟨oc_law_counted, od_law_counted, .func (PySem.W.fnOf "_law_counted" "_law_counted" (defArgs s_law_counted) (defBody s_law_counted) (defScope s_law_counted) .none kV_law_counted dc_law_counted pm_law_counted an_law_counted cd_law_counted ct_law_counted), sl_law_counted⟩)
    (c_law_counted : PySem.W.codeIn K cd_law_counted "_law_counted" = true)
    (k_law_counted : PySem.W.keepIn K (.ref f_law_counted) = true)
    (a_law : PySem.W.nsIn K mainGlobals "law" = some (some (.ref f_law)))
    (l_law : K.lookup f_law = some ⟨oc_law, od_law, .func (PySem.W.fnOf "law" "law" (defArgs s_law) (defBody s_law) (defScope s_law) .none kV_law dc_law pm_law an_law cd_law ct_law), sl_law⟩)
    (c_law : PySem.W.codeIn K cd_law "law" = true)
    (k_law : PySem.W.keepIn K (.ref f_law) = true) :
    ∃ fd : FuncData, (∀ (s : Shared) (v : Value), BindsTo s fd ⟨[v], []⟩ [("script", v)]) ∧ ∀ base : Heap, K.In base → base.Ns mainGlobals mg → FnOk l.prog w K mg base (L2N.CX l.prog w) 6 fa fd ["script"] (@spV ⟨K⟩ 1 (@LawP)) := by
  have e : f_law = fa := by have e := hfa.symm.trans (PySem.W.mg_of X G a_law); cases e; rfl
  subst e
  letI : KLs := ⟨K⟩
  have T : Txt mg C_Course C_Dish C_Stream := ⟨PySem.W.mg_none_of X G z_bool, PySem.W.mg_none_of X G z_int, PySem.W.mg_none_of X G z_isinstance, PySem.W.mg_none_of X G z_len, PySem.W.mg_none_of X G z_list, PySem.W.mg_none_of X G z_max, PySem.W.mg_none_of X G z_min, PySem.W.mg_none_of X G z_range, PySem.W.mg_none_of X G z_sorted, PySem.W.mg_none_of X G z_sum, PySem.W.mg_none_of X G z_tuple, PySem.W.mg_of X G aC_Course, PySem.W.mg_of X G aC_Dish, PySem.W.mg_of X G aC_Stream, ⟨⟨pg_Course, hd_Course, po_Course, sa_Course⟩, no_Course_dishes⟩, ⟨⟨pg_Course, hd_Course, po_Course, sa_Course⟩, no_Course_eat_least⟩, ⟨⟨pg_Course, hd_Course, po_Course, sa_Course⟩, no_Course_eat_most⟩, ⟨⟨pg_Dish, hd_Dish, po_Dish, sa_Dish⟩, no_Dish_keep⟩, ⟨⟨pg_Dish, hd_Dish, po_Dish, sa_Dish⟩, no_Dish_least⟩, ⟨⟨pg_Dish, hd_Dish, po_Dish, sa_Dish⟩, no_Dish_most⟩, ⟨⟨pg_Dish, hd_Dish, po_Dish, sa_Dish⟩, no_Dish_station⟩, ⟨⟨pg_Stream, hd_Stream, po_Stream, sa_Stream⟩, no_Stream_course⟩, ⟨⟨pg_Stream, hd_Stream, po_Stream, sa_Stream⟩, no_Stream_due⟩, ⟨⟨pg_Stream, hd_Stream, po_Stream, sa_Stream⟩, no_Stream_many⟩, ⟨⟨pg_Stream, hd_Stream, po_Stream, sa_Stream⟩, no_Stream_name⟩, ⟨⟨pg_Stream, hd_Stream, po_Stream, sa_Stream⟩, no_Stream_window⟩, ⟨_, PySem.W.mg_of X G gn_NAME_SIGNS, r_NAME_SIGNS⟩⟩
  have D_law_draw : FunD K "_law_draw" "_law_draw" (defArgs s_law_draw) (defBody s_law_draw) (defScope s_law_draw) [] [] f_law_draw _ := ⟨⟨_, _, _, _, _, _, _, _, _, _, rfl, l_law_draw, c_law_draw, .inl ⟨rfl, rfl⟩, .inl rfl⟩, k_law_draw⟩
  have D_law_flow : FunD K "_law_flow" "_law_flow" (defArgs s_law_flow) (defBody s_law_flow) (defScope s_law_flow) [] [] f_law_flow _ := ⟨⟨_, _, _, _, _, _, _, _, _, _, rfl, l_law_flow, c_law_flow, .inl ⟨rfl, rfl⟩, .inl rfl⟩, k_law_flow⟩
  have D_between : FunD K "between" "between" (defArgs s_between) (defBody s_between) (defScope s_between) [] [] f_between _ := ⟨⟨_, _, _, _, _, _, _, _, _, _, rfl, l_between, c_between, .inl ⟨rfl, rfl⟩, .inl rfl⟩, k_between⟩
  have D_is_name : FunD K "is_name" "is_name" (defArgs s_is_name) (defBody s_is_name) (defScope s_is_name) [] [] f_is_name _ := ⟨⟨_, _, _, _, _, _, _, _, _, _, rfl, l_is_name, c_is_name, .inl ⟨rfl, rfl⟩, .inl rfl⟩, k_is_name⟩
  have D_Stream_init : FunD K "__init__" "Stream.__init__" (defArgs s_Stream_init) (defBody s_Stream_init) (defScope s_Stream_init) [] [("due", .int 0), ("many", .int 1), ("window", .int 1)] f_Stream_init _ := ⟨⟨_, _, _, _, _, _, _, _, _, _, rfl, l_Stream_init, c_Stream_init, .inl ⟨rfl, rfl⟩, .inr ⟨_, rfl, by intro q hq; simp only [List.mem_cons, List.not_mem_nil, or_false] at hq; rcases hq with rfl | rfl | rfl <;> first | exact ⟨_, w_Stream_init_due, r_Stream_init_due⟩ | exact ⟨_, w_Stream_init_many, r_Stream_init_many⟩ | exact ⟨_, w_Stream_init_window, r_Stream_init_window⟩⟩⟩, k_Stream_init⟩
  have D_Dish_init : FunD K "__init__" "Dish.__init__" (defArgs s_Dish_init) (defBody s_Dish_init) (defScope s_Dish_init) [] [("keep", .int 0)] f_Dish_init _ := ⟨⟨_, _, _, _, _, _, _, _, _, _, rfl, l_Dish_init, c_Dish_init, .inl ⟨rfl, rfl⟩, .inr ⟨_, rfl, by intro q hq; simp only [List.mem_cons, List.not_mem_nil, or_false] at hq; rcases hq with rfl <;> first | exact ⟨_, w_Dish_init_keep, r_Dish_init_keep⟩⟩⟩, k_Dish_init⟩
  have D_Course_init : FunD K "__init__" "Course.__init__" (defArgs s_Course_init) (defBody s_Course_init) (defScope s_Course_init) [] [] f_Course_init _ := ⟨⟨_, _, _, _, _, _, _, _, _, _, rfl, l_Course_init, c_Course_init, .inl ⟨rfl, rfl⟩, .inl rfl⟩, k_Course_init⟩
  have D_law_stream : FunD K "_law_stream" "_law_stream" (defArgs s_law_stream) (defBody s_law_stream) (defScope s_law_stream) [] [] f_law_stream _ := ⟨⟨_, _, _, _, _, _, _, _, _, _, rfl, l_law_stream, c_law_stream, .inl ⟨rfl, rfl⟩, .inl rfl⟩, k_law_stream⟩
  have D_law_numbers : FunD K "_law_numbers" "_law_numbers" (defArgs s_law_numbers) (defBody s_law_numbers) (defScope s_law_numbers) [] [] f_law_numbers _ := ⟨⟨_, _, _, _, _, _, _, _, _, _, rfl, l_law_numbers, c_law_numbers, .inl ⟨rfl, rfl⟩, .inl rfl⟩, k_law_numbers⟩
  have D_law_stands : FunD K "_law_stands" "_law_stands" (defArgs s_law_stands) (defBody s_law_stands) (defScope s_law_stands) [] [] f_law_stands _ := ⟨⟨_, _, _, _, _, _, _, _, _, _, rfl, l_law_stands, c_law_stands, .inl ⟨rfl, rfl⟩, .inl rfl⟩, k_law_stands⟩
  have D_law_row_keeps : FunD K "_law_row_keeps" "_law_row_keeps" (defArgs s_law_row_keeps) (defBody s_law_row_keeps) (defScope s_law_row_keeps) [] [] f_law_row_keeps _ := ⟨⟨_, _, _, _, _, _, _, _, _, _, rfl, l_law_row_keeps, c_law_row_keeps, .inl ⟨rfl, rfl⟩, .inl rfl⟩, k_law_row_keeps⟩
  have D_law_rows : FunD K "_law_rows" "_law_rows" (defArgs s_law_rows) (defBody s_law_rows) (defScope s_law_rows) [] [] f_law_rows _ := ⟨⟨_, _, _, _, _, _, _, _, _, _, rfl, l_law_rows, c_law_rows, .inl ⟨rfl, rfl⟩, .inl rfl⟩, k_law_rows⟩
  have D_lets_come : FunD K "lets_come" "lets_come" (defArgs s_lets_come) (defBody s_lets_come) (defScope s_lets_come) [] [] f_lets_come _ := ⟨⟨_, _, _, _, _, _, _, _, _, _, rfl, l_lets_come, c_lets_come, .inl ⟨rfl, rfl⟩, .inl rfl⟩, k_lets_come⟩
  have D_order_rows : FunD K "order_rows" "order_rows" (defArgs s_order_rows) (defBody s_order_rows) (defScope s_order_rows) [] [] f_order_rows _ := ⟨⟨_, _, _, _, _, _, _, _, _, _, rfl, l_order_rows, c_order_rows, .inl ⟨rfl, rfl⟩, .inl rfl⟩, k_order_rows⟩
  have D_law_is_int : FunD K "_law_is_int" "_law_is_int" (defArgs s_law_is_int) (defBody s_law_is_int) (defScope s_law_is_int) [] [] f_law_is_int _ := ⟨⟨_, _, _, _, _, _, _, _, _, _, rfl, l_law_is_int, c_law_is_int, .inl ⟨rfl, rfl⟩, .inl rfl⟩, k_law_is_int⟩
  have D_law_are_rows : FunD K "_law_are_rows" "_law_are_rows" (defArgs s_law_are_rows) (defBody s_law_are_rows) (defScope s_law_are_rows) [] [] f_law_are_rows _ := ⟨⟨_, _, _, _, _, _, _, _, _, _, rfl, l_law_are_rows, c_law_are_rows, .inl ⟨rfl, rfl⟩, .inl rfl⟩, k_law_are_rows⟩
  have D_law_listed : FunD K "_law_listed" "_law_listed" (defArgs s_law_listed) (defBody s_law_listed) (defScope s_law_listed) [] [] f_law_listed _ := ⟨⟨_, _, _, _, _, _, _, _, _, _, rfl, l_law_listed, c_law_listed, .inl ⟨rfl, rfl⟩, .inl rfl⟩, k_law_listed⟩
  have D_count_order_rows : FunD K "count_order_rows" "count_order_rows" (defArgs s_count_order_rows) (defBody s_count_order_rows) (defScope s_count_order_rows) [] [] f_count_order_rows _ := ⟨⟨_, _, _, _, _, _, _, _, _, _, rfl, l_count_order_rows, c_count_order_rows, .inl ⟨rfl, rfl⟩, .inl rfl⟩, k_count_order_rows⟩
  have D_law_counted : FunD K "_law_counted" "_law_counted" (defArgs s_law_counted) (defBody s_law_counted) (defScope s_law_counted) [] [] f_law_counted _ := ⟨⟨_, _, _, _, _, _, _, _, _, _, rfl, l_law_counted, c_law_counted, .inl ⟨rfl, rfl⟩, .inl rfl⟩, k_law_counted⟩
  have D_law : FunD K "law" "law" (defArgs s_law) (defBody s_law) (defScope s_law) [] [] f_law _ := ⟨⟨_, _, _, _, _, _, _, _, _, _, rfl, l_law, c_law, .inl ⟨rfl, rfl⟩, .inl rfl⟩, k_law⟩
  refine ⟨_, fun s v => D_law.bindsA (ps := ["script"]) (fun _ _ _ _ _ _ us hl => match us, hl with | [_], _ => rfl) s [v] rfl, fun base _ _ => ?_⟩
  have F_law_draw := ok_law_draw (P := l.prog) (w := w) (base := base) T (m_law_draw C_Course C_Dish C_Stream) D_law_draw
  have H_law_draw : Fnc l.prog w K mg base 1 "_law_draw" 3 _ [] := ⟨⟨_, _, _, _, [], F_law_draw, PySem.W.mg_of X G a_law_draw, k_law_draw, D_law_draw.bindsN (fun _ _ _ _ _ _ us hl => match us, hl with | [_, _, _], _ => rfl), .nil, True.intro⟩⟩
  have F_law_flow := ok_law_flow (P := l.prog) (w := w) (base := base) T H_law_draw (m_law_flow C_Course C_Dish C_Stream) D_law_flow
  have H_law_flow : Fnc l.prog w K mg base 2 "_law_flow" 2 _ [] := ⟨⟨_, _, _, _, [], F_law_flow, PySem.W.mg_of X G a_law_flow, k_law_flow, D_law_flow.bindsN (fun _ _ _ _ _ _ us hl => match us, hl with | [_, _], _ => rfl), .nil, True.intro⟩⟩
  have F_between := ok_between (P := l.prog) (w := w) (base := base) T (m_between C_Course C_Dish C_Stream) D_between
  have H_between : Fnc l.prog w K mg base 1 "between" 3 _ [] := ⟨⟨_, _, _, _, [], F_between, PySem.W.mg_of X G a_between, k_between, D_between.bindsN (fun _ _ _ _ _ _ us hl => match us, hl with | [_, _, _], _ => rfl), .nil, True.intro⟩⟩
  have F_is_name := ok_is_name (P := l.prog) (w := w) (base := base) T H_between (m_is_name C_Course C_Dish C_Stream) D_is_name
  have H_is_name : Fnc l.prog w K mg base 2 "is_name" 1 _ [] := ⟨⟨_, _, _, _, [], F_is_name, PySem.W.mg_of X G a_is_name, k_is_name, D_is_name.bindsN (fun _ _ _ _ _ _ us hl => match us, hl with | [_], _ => rfl), .nil, True.intro⟩⟩
  have F_Stream_init := ok_Stream_init (P := l.prog) (w := w) (base := base) T H_is_name H_between (m_Stream_init C_Course C_Dish C_Stream) D_Stream_init
  have F_Dish_init := ok_Dish_init (P := l.prog) (w := w) (base := base) T H_between (m_Dish_init C_Course C_Dish C_Stream) D_Dish_init
  have F_Course_init := ok_Course_init (P := l.prog) (w := w) (base := base) T H_between (m_Course_init C_Course C_Dish C_Stream) D_Course_init
  have F_law_stream := ok_law_stream (P := l.prog) (w := w) (base := base) T ⟨mk_Stream, a_Stream_init, i_Stream_init, kc_Stream⟩ F_Stream_init D_Stream_init ⟨mk_Dish, a_Dish_init, i_Dish_init, kc_Dish⟩ F_Dish_init D_Dish_init ⟨mk_Course, a_Course_init, i_Course_init, kc_Course⟩ F_Course_init D_Course_init (m_law_stream C_Course C_Dish C_Stream) D_law_stream
  have H_law_stream : Fnc l.prog w K mg base 5 "_law_stream" 1 _ [] := ⟨⟨_, _, _, _, [], F_law_stream, PySem.W.mg_of X G a_law_stream, k_law_stream, D_law_stream.bindsN (fun _ _ _ _ _ _ us hl => match us, hl with | [_], _ => rfl), .nil, True.intro⟩⟩
  have F_law_numbers := ok_law_numbers (P := l.prog) (w := w) (base := base) T (m_law_numbers C_Course C_Dish C_Stream) D_law_numbers
  have H_law_numbers : Fnc l.prog w K mg base 1 "_law_numbers" 1 _ [] := ⟨⟨_, _, _, _, [], F_law_numbers, PySem.W.mg_of X G a_law_numbers, k_law_numbers, D_law_numbers.bindsN (fun _ _ _ _ _ _ us hl => match us, hl with | [_], _ => rfl), .nil, True.intro⟩⟩
  have F_law_stands := ok_law_stands (P := l.prog) (w := w) (base := base) T (m_law_stands C_Course C_Dish C_Stream) D_law_stands
  have H_law_stands : Fnc l.prog w K mg base 1 "_law_stands" 2 _ [] := ⟨⟨_, _, _, _, [], F_law_stands, PySem.W.mg_of X G a_law_stands, k_law_stands, D_law_stands.bindsN (fun _ _ _ _ _ _ us hl => match us, hl with | [_, _], _ => rfl), .nil, True.intro⟩⟩
  have F_law_row_keeps := ok_law_row_keeps (P := l.prog) (w := w) (base := base) T (m_law_row_keeps C_Course C_Dish C_Stream) D_law_row_keeps
  have H_law_row_keeps : Fnc l.prog w K mg base 1 "_law_row_keeps" 2 _ [] := ⟨⟨_, _, _, _, [], F_law_row_keeps, PySem.W.mg_of X G a_law_row_keeps, k_law_row_keeps, D_law_row_keeps.bindsN (fun _ _ _ _ _ _ us hl => match us, hl with | [_, _], _ => rfl), .nil, True.intro⟩⟩
  have F_law_rows := ok_law_rows (P := l.prog) (w := w) (base := base) T H_law_row_keeps (m_law_rows C_Course C_Dish C_Stream) D_law_rows
  have H_law_rows : Fnc l.prog w K mg base 2 "_law_rows" 2 _ [] := ⟨⟨_, _, _, _, [], F_law_rows, PySem.W.mg_of X G a_law_rows, k_law_rows, D_law_rows.bindsN (fun _ _ _ _ _ _ us hl => match us, hl with | [_, _], _ => rfl), .nil, True.intro⟩⟩
  have F_lets_come := ok_lets_come (P := l.prog) (w := w) (base := base) T (m_lets_come C_Course C_Dish C_Stream) D_lets_come
  have H_lets_come : Fnc l.prog w K mg base 1 "lets_come" 3 _ [] := ⟨⟨_, _, _, _, [], F_lets_come, PySem.W.mg_of X G a_lets_come, k_lets_come, D_lets_come.bindsN (fun _ _ _ _ _ _ us hl => match us, hl with | [_, _, _], _ => rfl), .nil, True.intro⟩⟩
  have F_order_rows := ok_order_rows (P := l.prog) (w := w) (base := base) T H_lets_come (m_order_rows C_Course C_Dish C_Stream) D_order_rows
  have H_order_rows : Fnc l.prog w K mg base 2 "order_rows" 2 _ [] := ⟨⟨_, _, _, _, [], F_order_rows, PySem.W.mg_of X G a_order_rows, k_order_rows, D_order_rows.bindsN (fun _ _ _ _ _ _ us hl => match us, hl with | [_, _], _ => rfl), .nil, True.intro⟩⟩
  have F_law_is_int := ok_law_is_int (P := l.prog) (w := w) (base := base) T (m_law_is_int C_Course C_Dish C_Stream) D_law_is_int
  have H_law_is_int : Fnc l.prog w K mg base 1 "_law_is_int" 1 _ [] := ⟨⟨_, _, _, _, [], F_law_is_int, PySem.W.mg_of X G a_law_is_int, k_law_is_int, D_law_is_int.bindsN (fun _ _ _ _ _ _ us hl => match us, hl with | [_], _ => rfl), .nil, True.intro⟩⟩
  have F_law_are_rows := ok_law_are_rows (P := l.prog) (w := w) (base := base) T H_law_is_int (m_law_are_rows C_Course C_Dish C_Stream) D_law_are_rows
  have H_law_are_rows : Fnc l.prog w K mg base 2 "_law_are_rows" 2 _ [] := ⟨⟨_, _, _, _, [], F_law_are_rows, PySem.W.mg_of X G a_law_are_rows, k_law_are_rows, D_law_are_rows.bindsN (fun _ _ _ _ _ _ us hl => match us, hl with | [_, _], _ => rfl), .nil, True.intro⟩⟩
  have F_law_listed := ok_law_listed (P := l.prog) (w := w) (base := base) T H_order_rows H_law_are_rows (m_law_listed C_Course C_Dish C_Stream) D_law_listed
  have H_law_listed : Fnc l.prog w K mg base 3 "_law_listed" 3 _ [] := ⟨⟨_, _, _, _, [], F_law_listed, PySem.W.mg_of X G a_law_listed, k_law_listed, D_law_listed.bindsN (fun _ _ _ _ _ _ us hl => match us, hl with | [_, _, _], _ => rfl), .nil, True.intro⟩⟩
  have F_count_order_rows := ok_count_order_rows (P := l.prog) (w := w) (base := base) T (m_count_order_rows C_Course C_Dish C_Stream) D_count_order_rows
  have H_count_order_rows : Fnc l.prog w K mg base 1 "count_order_rows" 2 _ [] := ⟨⟨_, _, _, _, [], F_count_order_rows, PySem.W.mg_of X G a_count_order_rows, k_count_order_rows, D_count_order_rows.bindsN (fun _ _ _ _ _ _ us hl => match us, hl with | [_, _], _ => rfl), .nil, True.intro⟩⟩
  have F_law_counted := ok_law_counted (P := l.prog) (w := w) (base := base) T H_count_order_rows H_law_is_int (m_law_counted C_Course C_Dish C_Stream) D_law_counted
  have H_law_counted : Fnc l.prog w K mg base 2 "_law_counted" 3 _ [] := ⟨⟨_, _, _, _, [], F_law_counted, PySem.W.mg_of X G a_law_counted, k_law_counted, D_law_counted.bindsN (fun _ _ _ _ _ _ us hl => match us, hl with | [_, _, _], _ => rfl), .nil, True.intro⟩⟩
  have F_law := ok_law (P := l.prog) (w := w) (base := base) T H_law_flow H_law_stream H_law_draw H_law_numbers H_law_stands H_law_rows H_law_listed H_law_counted (m_law C_Course C_Dish C_Stream) D_law
  exact F_law
end K27
open PySem PySem.W PyProof.Rows in
set_option maxRecDepth 100000 in
set_option maxHeartbeats 0 in
theorem PySem.Challenge.cw_eveningkept_k27_order_rows_holds : PySem.Challenge.rw_eveningkept_k27_order_rows.Holds := by
  w_on; o_law; k_head; (case hw => w_witness2)
  k_fill
  refine VL.law_walk (l := PySem.Challenge.rw_eveningkept_k27_order_rows) (k := 6) rfl rfl ⟨rfl, by decide, by decide⟩ (fun w h Y => PySem.W.kIn_of Y) ?F
  case F =>
    intro w mg fa h KX G hmg
    refine' K27.all_mk KX G hmg ?aC_Course ?pg_Course ?hd_Course ?po_Course ?sa_Course ?mk_Course ?kc_Course ?aC_Dish ?pg_Dish ?hd_Dish ?po_Dish ?sa_Dish ?mk_Dish ?kc_Dish ?aC_Stream ?pg_Stream ?hd_Stream ?po_Stream ?sa_Stream ?mk_Stream ?kc_Stream ?gn_NAME_SIGNS ?r_NAME_SIGNS ?no_Course_dishes ?no_Course_eat_least ?no_Course_eat_most ?no_Dish_keep ?no_Dish_least ?no_Dish_most ?no_Dish_station ?no_Stream_course ?no_Stream_due ?no_Stream_many ?no_Stream_name ?no_Stream_window ?z_bool ?z_int ?z_isinstance ?z_len ?z_list ?z_max ?z_min ?z_range ?z_sorted ?z_sum ?z_tuple ?a_law_draw ?l_law_draw ?c_law_draw ?k_law_draw ?a_law_flow ?l_law_flow ?c_law_flow ?k_law_flow ?a_between ?l_between ?c_between ?k_between ?a_is_name ?l_is_name ?c_is_name ?k_is_name ?a_Stream_init ?i_Stream_init ?l_Stream_init ?c_Stream_init ?k_Stream_init ?w_Stream_init_due ?r_Stream_init_due ?w_Stream_init_many ?r_Stream_init_many ?w_Stream_init_window ?r_Stream_init_window ?a_Dish_init ?i_Dish_init ?l_Dish_init ?c_Dish_init ?k_Dish_init ?w_Dish_init_keep ?r_Dish_init_keep ?a_Course_init ?i_Course_init ?l_Course_init ?c_Course_init ?k_Course_init ?a_law_stream ?l_law_stream ?c_law_stream ?k_law_stream ?a_law_numbers ?l_law_numbers ?c_law_numbers ?k_law_numbers ?a_law_stands ?l_law_stands ?c_law_stands ?k_law_stands ?a_law_row_keeps ?l_law_row_keeps ?c_law_row_keeps ?k_law_row_keeps ?a_law_rows ?l_law_rows ?c_law_rows ?k_law_rows ?a_lets_come ?l_lets_come ?c_lets_come ?k_lets_come ?a_order_rows ?l_order_rows ?c_order_rows ?k_order_rows ?a_law_is_int ?l_law_is_int ?c_law_is_int ?k_law_is_int ?a_law_are_rows ?l_law_are_rows ?c_law_are_rows ?k_law_are_rows ?a_law_listed ?l_law_listed ?c_law_listed ?k_law_listed ?a_count_order_rows ?l_count_order_rows ?c_count_order_rows ?k_count_order_rows ?a_law_counted ?l_law_counted ?c_law_counted ?k_law_counted ?a_law ?l_law ?c_law ?k_law
    (case aC_Course => k_is)
    (case pg_Course => k_is)
    (case hd_Course => k_is)
    (case po_Course => k_is)
    (case sa_Course => k_is)
    (case mk_Course => k_is)
    (case kc_Course => k_is)
    (case aC_Dish => k_is)
    (case pg_Dish => k_is)
    (case hd_Dish => k_is)
    (case po_Dish => k_is)
    (case sa_Dish => k_is)
    (case mk_Dish => k_is)
    (case kc_Dish => k_is)
    (case aC_Stream => k_is)
    (case pg_Stream => k_is)
    (case hd_Stream => k_is)
    (case po_Stream => k_is)
    (case sa_Stream => k_is)
    (case mk_Stream => k_is)
    (case kc_Stream => k_is)
    (case gn_NAME_SIGNS => k_is)
    (case r_NAME_SIGNS => first | exact ⟨_, rfl⟩ | exact rfl)
    (case no_Course_dishes => k_is)
    (case no_Course_eat_least => k_is)
    (case no_Course_eat_most => k_is)
    (case no_Dish_keep => k_is)
    (case no_Dish_least => k_is)
    (case no_Dish_most => k_is)
    (case no_Dish_station => k_is)
    (case no_Stream_course => k_is)
    (case no_Stream_due => k_is)
    (case no_Stream_many => k_is)
    (case no_Stream_name => k_is)
    (case no_Stream_window => k_is)
    (case z_bool => k_is)
    (case z_int => k_is)
    (case z_isinstance => k_is)
    (case z_len => k_is)
    (case z_list => k_is)
    (case z_max => k_is)
    (case z_min => k_is)
    (case z_range => k_is)
    (case z_sorted => k_is)
    (case z_sum => k_is)
    (case z_tuple => k_is)
    (case a_law_draw => k_is)
    (case l_law_draw => k_is)
    (case c_law_draw => k_is)
    (case k_law_draw => k_is)
    (case a_law_flow => k_is)
    (case l_law_flow => k_is)
    (case c_law_flow => k_is)
    (case k_law_flow => k_is)
    (case a_between => k_is)
    (case l_between => k_is)
    (case c_between => k_is)
    (case k_between => k_is)
    (case a_is_name => k_is)
    (case l_is_name => k_is)
    (case c_is_name => k_is)
    (case k_is_name => k_is)
    (case a_Stream_init => k_is)
    (case i_Stream_init => k_is)
    (case l_Stream_init => k_is)
    (case c_Stream_init => k_is)
    (case k_Stream_init => k_is)
    (case w_Stream_init_due => k_is)
    (case r_Stream_init_due => first | exact ⟨_, rfl⟩ | exact rfl)
    (case w_Stream_init_many => k_is)
    (case r_Stream_init_many => first | exact ⟨_, rfl⟩ | exact rfl)
    (case w_Stream_init_window => k_is)
    (case r_Stream_init_window => first | exact ⟨_, rfl⟩ | exact rfl)
    (case a_Dish_init => k_is)
    (case i_Dish_init => k_is)
    (case l_Dish_init => k_is)
    (case c_Dish_init => k_is)
    (case k_Dish_init => k_is)
    (case w_Dish_init_keep => k_is)
    (case r_Dish_init_keep => first | exact ⟨_, rfl⟩ | exact rfl)
    (case a_Course_init => k_is)
    (case i_Course_init => k_is)
    (case l_Course_init => k_is)
    (case c_Course_init => k_is)
    (case k_Course_init => k_is)
    (case a_law_stream => k_is)
    (case l_law_stream => k_is)
    (case c_law_stream => k_is)
    (case k_law_stream => k_is)
    (case a_law_numbers => k_is)
    (case l_law_numbers => k_is)
    (case c_law_numbers => k_is)
    (case k_law_numbers => k_is)
    (case a_law_stands => k_is)
    (case l_law_stands => k_is)
    (case c_law_stands => k_is)
    (case k_law_stands => k_is)
    (case a_law_row_keeps => k_is)
    (case l_law_row_keeps => k_is)
    (case c_law_row_keeps => k_is)
    (case k_law_row_keeps => k_is)
    (case a_law_rows => k_is)
    (case l_law_rows => k_is)
    (case c_law_rows => k_is)
    (case k_law_rows => k_is)
    (case a_lets_come => k_is)
    (case l_lets_come => k_is)
    (case c_lets_come => k_is)
    (case k_lets_come => k_is)
    (case a_order_rows => k_is)
    (case l_order_rows => k_is)
    (case c_order_rows => k_is)
    (case k_order_rows => k_is)
    (case a_law_is_int => k_is)
    (case l_law_is_int => k_is)
    (case c_law_is_int => k_is)
    (case k_law_is_int => k_is)
    (case a_law_are_rows => k_is)
    (case l_law_are_rows => k_is)
    (case c_law_are_rows => k_is)
    (case k_law_are_rows => k_is)
    (case a_law_listed => k_is)
    (case l_law_listed => k_is)
    (case c_law_listed => k_is)
    (case k_law_listed => k_is)
    (case a_count_order_rows => k_is)
    (case l_count_order_rows => k_is)
    (case c_count_order_rows => k_is)
    (case k_count_order_rows => k_is)
    (case a_law_counted => k_is)
    (case l_law_counted => k_is)
    (case c_law_counted => k_is)
    (case k_law_counted => k_is)
    (case a_law => k_is)
    (case l_law => k_is)
    (case c_law => k_is)
    (case k_law => k_is)

